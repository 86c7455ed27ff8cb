import PyProof.Rows.All
import Wide.All
import OpenK.AllK
import Wide.FinOn
import KE.KStateDown
import KE.DataMinMax
import HandS.ForMost
import HandS.ForExc
import HandS.ExcCtx
import HandS.HotCalls
import HandS.IsInst
import HandS.Wide
import HandS.Zip
import HandS.TupMul
import HandS.TupAny
import HandS.Deep
import HandS.Flow
import HandS.Walk
import HandS.Defaults
import HandS.Head0
import HandS.Head1
import HandS.Head2
import HandS.HeadEnd
import HandS.HeadHook1
import HandS.HeadHook2
import HandS.HeadHook3
import HandS.HeadHook4
import HandS.EndTab
import HandS.HeadWalk
import HandS.ExcIs
import HandS.Lambda
import PyProof.SumWalkG
import PyProof.ZipIter
import HandS.Zip0
import PyProof.WalksMore
import HandS.Style
import HandS.More
import HandS.Strs
import HandS.SetKeys
import HandS.Sort
import HandS.Conv
import HandS.TupLe
import KE.GoesMore
import KE.GoesEnum
import HandS.SetFor
import KE.GoesComp
import KE.GoesRaise
import PySem.Challenge.RW_fractrows_k90_again_and_shared
set_option Elab.async false
set_option linter.all false
set_option maxRecDepth 100000
set_option maxHeartbeats 4000000
namespace Fr

def primes : List Nat := [2, 3, 5, 7, 11, 13, 17, 19, 23, 29, 31, 37]

def stripF (p : Nat) : Nat → Nat → Nat × Nat
  | 0, n => (0, n)
  | f + 1, n => if n % p = 0 then ((stripF p f (n / p)).1 + 1, (stripF p f (n / p)).2) else (0, n)
/-- how often p divides n, and what is left -/
def strip (p n : Nat) : Nat × Nat := stripF p n n

theorem stripF_spec {p : Nat} (hp : 2 ≤ p) : ∀ (a f m : Nat), m % p ≠ 0 → a ≤ f → stripF p f (p ^ a * m) = (a, m)
  | 0, 0, m, _, _ => by simp [stripF]
  | 0, f + 1, m, hm, _ => by simp [stripF, hm]
  | a + 1, 0, m, _, h => absurd h (by omega)
  | a + 1, f + 1, m, hm, h => by
    have e1 : (p ^ (a + 1) * m) % p = 0 := by
      rw [Nat.pow_succ, Nat.mul_comm (p ^ a) p, Nat.mul_assoc]
      exact Nat.mul_mod_right p _
    have e2 : p ^ (a + 1) * m / p = p ^ a * m := by
      rw [Nat.pow_succ, Nat.mul_comm (p ^ a) p, Nat.mul_assoc]
      exact Nat.mul_div_cancel_left _ (by omega)
    have ih := stripF_spec hp a f m hm (by omega)
    unfold stripF
    rw [if_pos e1, e2, ih]
theorem pow_gt {p : Nat} (hp : 2 ≤ p) : ∀ a : Nat, a < p ^ a
  | 0 => by simp
  | a + 1 => by
    have ih := pow_gt hp a
    rw [Nat.pow_succ]
    have : p ^ a * 2 ≤ p ^ a * p := Nat.mul_le_mul_left _ hp
    omega
theorem strip_spec {p : Nat} (hp : 2 ≤ p) {a m : Nat} (hm : m % p ≠ 0) : strip p (p ^ a * m) = (a, m) := by
  have h0 : 0 < m := by
    rcases Nat.eq_zero_or_pos m with e | e
    · rw [e] at hm; simp at hm
    · exact e
  refine stripF_spec hp a _ m hm ?_
  have h1 := pow_gt hp a
  have h2 : p ^ a * 1 ≤ p ^ a * m := Nat.mul_le_mul_left _ h0
  omega
/-- every number has its form -/
theorem strip_form {p : Nat} (hp : 2 ≤ p) : ∀ (n : Nat), 0 < n → ∃ a m, n = p ^ a * m ∧ m % p ≠ 0 := by
  intro n
  induction n using Nat.strongRecOn with
  | ind n ih =>
    intro hn
    by_cases h : n % p = 0
    · have hlt : n / p < n := Nat.div_lt_self hn hp
      have hpos : 0 < n / p := Nat.div_pos (Nat.le_of_dvd hn (Nat.dvd_of_mod_eq_zero h)) (by omega)
      obtain ⟨a, m, e, hm⟩ := ih (n / p) hlt hpos
      refine ⟨a + 1, m, ?_, hm⟩
      have e1 : p * (n / p) = n := Nat.mul_div_cancel' (Nat.dvd_of_mod_eq_zero h)
      rw [Nat.pow_succ, Nat.mul_comm (p ^ a) p, Nat.mul_assoc, ← e, e1]
    · exact ⟨0, n, by simp, h⟩
theorem strip_eq {p : Nat} (hp : 2 ≤ p) {n : Nat} (hn : 0 < n) : n = p ^ (strip p n).1 * (strip p n).2 ∧ (strip p n).2 % p ≠ 0 := by
  obtain ⟨a, m, e, hm⟩ := strip_form hp n hn
  have h := strip_spec hp (a := a) hm
  rw [← e] at h
  rw [h]
  exact ⟨e, hm⟩

def partL : List Nat → Nat → List Nat × Nat
  | [], n => ([], n)
  | p :: ps, n => ((strip p n).1 :: (partL ps (strip p n).2).1, (partL ps (strip p n).2).2)
def makeL : List Nat → List Nat → Nat
  | p :: ps, a :: as => p ^ a * makeL ps as
  | _, _ => 1

theorem partL_len : ∀ (ps : List Nat) (n : Nat), (partL ps n).1.length = ps.length
  | [], _ => rfl
  | p :: ps, n => by
    show (partL ps _).1.length + 1 = ps.length + 1
    rw [partL_len ps]

/-- pairwise coprime, each at least 2 -/
def Cop : List Nat → Prop
  | [] => True
  | p :: ps => 2 ≤ p ∧ (∀ q ∈ ps, Nat.Coprime p q) ∧ Cop ps
theorem cop_make {p : Nat} : ∀ (ps as : List Nat), (∀ q ∈ ps, Nat.Coprime p q) → Nat.Coprime p (makeL ps as)
  | [], [], _ => by simp [makeL]
  | [], _ :: _, _ => by simp [makeL]
  | _ :: _, [], _ => by simp [makeL]
  | q :: ps, a :: as, h => by
    show Nat.Coprime p (q ^ a * makeL ps as)
    have h1 : Nat.Coprime p (q ^ a) := Nat.Coprime.pow_right a (h q List.mem_cons_self)
    have h2 := cop_make ps as fun r hr => h r (List.mem_cons_of_mem _ hr)
    exact Nat.Coprime.mul_right h1 h2
theorem cop_mod {p m : Nat} (hp : 2 ≤ p) (h : Nat.Coprime p m) : m % p ≠ 0 := by
  intro e
  have d : p ∣ m := Nat.dvd_of_mod_eq_zero e
  have g : Nat.gcd p m = p := Nat.gcd_eq_left d
  rw [Nat.Coprime] at h
  omega
theorem make_pos : ∀ (ps as : List Nat), (∀ q ∈ ps, 2 ≤ q) → 0 < makeL ps as
  | [], [], _ => by simp [makeL]
  | [], _ :: _, _ => by simp [makeL]
  | _ :: _, [], _ => by simp [makeL]
  | q :: ps, a :: as, h => by
    show 0 < q ^ a * makeL ps as
    have h1 : 0 < q := by have := h q List.mem_cons_self; omega
    exact Nat.mul_pos (Nat.pow_pos h1) (make_pos ps as fun r hr => h r (List.mem_cons_of_mem _ hr))
theorem Cop.two : ∀ {ps : List Nat}, Cop ps → ∀ q ∈ ps, 2 ≤ q
  | p :: ps, ⟨h1, _, h3⟩, q, hq => by
    rcases List.mem_cons.mp hq with e | e
    · rw [e]; exact h1
    · exact Cop.two h3 q e
/-- the rooms of a made number -/
theorem part_make : ∀ (ps as : List Nat) (r : Nat), Cop ps → as.length = ps.length → (∀ q ∈ ps, Nat.Coprime q r) → partL ps (makeL ps as * r) = (as, r)
  | [], [], r, _, _, _ => by simp [partL, makeL]
  | [], _ :: _, _, _, h, _ => by simp at h
  | _ :: _, [], _, _, h, _ => by simp at h
  | p :: ps, a :: as, r, ⟨h1, h2, h3⟩, hl, hr => by
    have hm : (makeL ps as * r) % p ≠ 0 := cop_mod h1 (Nat.Coprime.mul_right (cop_make ps as h2) (hr p List.mem_cons_self))
    have e : strip p (makeL (p :: ps) (a :: as) * r) = (a, makeL ps as * r) := by
      show strip p (p ^ a * makeL ps as * r) = _
      rw [Nat.mul_assoc]
      exact strip_spec h1 hm
    have ih := part_make ps as r h3 (by simpa using hl) fun q hq => hr q (List.mem_cons_of_mem _ hq)
    unfold partL
    rw [e, ih]
/-- a number is what its rooms make, times what is left -/
theorem make_part : ∀ (ps : List Nat) (n : Nat), Cop ps → 0 < n → n = makeL ps (partL ps n).1 * (partL ps n).2 ∧ 0 < (partL ps n).2
  | [], n, _, h => by simp [partL, makeL, h]
  | p :: ps, n, ⟨h1, h2, h3⟩, h => by
    obtain ⟨e, hm⟩ := strip_eq h1 h
    have hpos : 0 < (strip p n).2 := by
      rcases Nat.eq_zero_or_pos (strip p n).2 with z | z
      · rw [z] at hm; simp at hm
      · exact z
    obtain ⟨e2, h4⟩ := make_part ps (strip p n).2 h3 hpos
    refine ⟨?_, h4⟩
    show n = p ^ (strip p n).1 * makeL ps (partL ps (strip p n).2).1 * (partL ps (strip p n).2).2
    rw [Nat.mul_assoc, ← e2]
    exact e

theorem cop_primes : Cop primes := ⟨by decide, by decide, by decide, by decide, by decide, by decide, by decide, by decide, by decide, by decide, by decide, by decide, by decide, by decide, by decide, by decide, by decide, by decide, by decide, by decide, by decide, by decide, by decide, by decide, trivial⟩
@[irreducible] def rooms (n : Nat) : List Nat := (partL primes n).1
@[irreducible] def left (n : Nat) : Nat := (partL primes n).2
@[irreducible] def make (as : List Nat) : Nat := makeL primes as
theorem rooms_def (n : Nat) : rooms n = (partL primes n).1 := by unfold rooms; rfl
theorem left_def (n : Nat) : left n = (partL primes n).2 := by unfold left; rfl
theorem make_def (as : List Nat) : make as = makeL primes as := by unfold make; rfl
theorem rooms_len (n : Nat) : (rooms n).length = 12 := by rw [rooms_def]; exact partL_len primes n
theorem make_pos' (as : List Nat) : 0 < make as := by rw [make_def]; exact make_pos primes as cop_primes.two
theorem rooms_make {as : List Nat} (h : as.length = 12) : rooms (make as) = as := by
  have e := part_make primes as 1 cop_primes h fun q _ => Nat.coprime_one_right q
  rw [Nat.mul_one] at e
  rw [rooms_def, make_def, e]
theorem left_make {as : List Nat} (h : as.length = 12) : left (make as) = 1 := by
  have e := part_make primes as 1 cop_primes h fun q _ => Nat.coprime_one_right q
  rw [Nat.mul_one] at e
  rw [left_def, make_def, e]
theorem make_rooms {n : Nat} (h : 0 < n) : n = make (rooms n) * left n ∧ 0 < left n := by rw [make_def, left_def, rooms_def]; exact make_part primes n cop_primes h
/-- a number of the twelve primes alone -/
theorem make_rooms1 {n : Nat} (h : 0 < n) (hl : left n = 1) : make (rooms n) = n := by
  have e := (make_rooms h).1
  rw [hl, Nat.mul_one] at e
  exact e.symm
theorem left_one {n : Nat} (h : 0 < n) : left n = 1 ↔ make (rooms n) = n := by
  refine ⟨make_rooms1 h, fun e => ?_⟩
  have e2 := (make_rooms h).1
  rw [e] at e2
  have : n * left n = n * 1 := by omega
  exact Nat.eq_of_mul_eq_mul_left h this
/-- whether it is a number -/
@[irreducible] def isNum (n : Nat) : Bool := decide (1 ≤ n) && (decide (left n = 1) && (rooms n).all fun a => decide (a ≤ 400))
theorem isNum_make {as : List Nat} (h : as.length = 12) (hb : ∀ a ∈ as, a ≤ 400) : isNum (make as) = true := by
  unfold isNum
  rw [left_make h, rooms_make h]
  have h1 : 1 ≤ make as := make_pos' as
  simp only [h1, decide_true, Bool.true_and, List.all_eq_true, decide_eq_true_eq]
  exact hb
theorem isNum_iff {n : Nat} : isNum n = true ↔ 0 < n ∧ left n = 1 ∧ ∀ a ∈ rooms n, a ≤ 400 := by
  unfold isNum
  simp only [Bool.and_eq_true, decide_eq_true_eq, List.all_eq_true]
  exact Iff.rfl
end Fr
namespace Fr
theorem strip_no {p x : Nat} (h : x % p ≠ 0) (hp : 2 ≤ p) : strip p x = (0, x) := by
  have e := strip_spec hp (a := 0) h
  simpa using e
theorem strip_yes {p x : Nat} (h : x % p = 0) (hp : 2 ≤ p) (hx : 0 < x) : strip p x = ((strip p (x / p)).1 + 1, (strip p (x / p)).2) ∧ 0 < x / p ∧ x / p < x := by
  have d : p ∣ x := Nat.dvd_of_mod_eq_zero h
  have hpos : 0 < x / p := Nat.div_pos (Nat.le_of_dvd hx d) (by omega)
  refine ⟨?_, hpos, Nat.div_lt_self hx hp⟩
  obtain ⟨a, m, e, hm⟩ := strip_form hp (x / p) hpos
  have e1 : x = p ^ (a + 1) * m := by
    have e2 : p * (x / p) = x := Nat.mul_div_cancel' d
    rw [Nat.pow_succ, Nat.mul_comm (p ^ a) p, Nat.mul_assoc, ← e, e2]
  have s1 := strip_spec hp (a := a + 1) hm
  have s2 := strip_spec hp (a := a) hm
  rw [← e1] at s1
  rw [← e] at s2
  rw [s1, s2]
theorem partL_snoc (p : Nat) : ∀ (ps : List Nat) (n : Nat), partL (ps ++ [p]) n = ((partL ps n).1 ++ [(strip p (partL ps n).2).1], (strip p (partL ps n).2).2)
  | [], n => rfl
  | q :: ps, n => by
    show ((strip q n).1 :: (partL (ps ++ [p]) (strip q n).2).1, (partL (ps ++ [p]) (strip q n).2).2) = _
    rw [partL_snoc p ps]
    rfl
theorem partL_pos (ps : List Nat) (h2 : ∀ p ∈ ps, 2 ≤ p) : ∀ n : Nat, 0 < n → 0 < (partL ps n).2 := by
  induction ps with
  | nil => intro n h; exact h
  | cons p ps ih =>
    intro n h
    have e := (strip_eq (h2 p List.mem_cons_self) h).2
    have : 0 < (strip p n).2 := by
      rcases Nat.eq_zero_or_pos (strip p n).2 with z | z
      · rw [z] at e; simp at e
      · exact z
    exact ih (fun q hq => h2 q (List.mem_cons_of_mem _ hq)) _ this
theorem primes_two : ∀ p ∈ primes, 2 ≤ p := cop_primes.two
theorem primes_small : ∀ p ∈ primes, p < 64 := by decide
theorem take_at {α : Type} {l : List α} {i : Nat} {x : α} (h : l[i]? = some x) : l.take (i + 1) = l.take i ++ [x] := by
  rw [List.take_add_one, h]
  rfl
end Fr
namespace Fr
/-! ### sizes -/
theorem log2_lt' {n k : Nat} (hk : 0 < k) (h : n < 2 ^ k) : n.log2 < k := by
  rcases Nat.eq_zero_or_pos n with z | z
  · rw [z]
    simpa using hk
  · exact (Nat.log2_lt (by omega)).mpr h
theorem makeL_lt : ∀ (ps as : List Nat), (∀ p ∈ ps, p < 64) → makeL ps as ≤ 2 ^ (6 * as.sum)
  | [], [], _ => by simp [makeL]
  | [], a :: as, _ => by
    simp only [makeL]
    exact Nat.one_le_two_pow
  | _ :: _, [], _ => by simp [makeL]
  | p :: ps, a :: as, h => by
    have ih := makeL_lt ps as fun q hq => h q (List.mem_cons_of_mem _ hq)
    have hp : p ≤ 2 ^ 6 := by have := h p List.mem_cons_self; omega
    have h1 : p ^ a ≤ 2 ^ (6 * a) := by
      rw [Nat.pow_mul]
      exact Nat.pow_le_pow_left hp a
    show p ^ a * makeL ps as ≤ 2 ^ (6 * (a :: as).sum)
    rw [List.sum_cons, Nat.mul_add, Nat.pow_add]
    exact Nat.mul_le_mul h1 ih
theorem make_le (as : List Nat) : make as ≤ 2 ^ (6 * as.sum) := by
  rw [make_def]
  exact makeL_lt primes as primes_small
theorem sum_le {b : Nat} : ∀ {as : List Nat}, (∀ a ∈ as, a ≤ b) → as.sum ≤ b * as.length
  | [], _ => by simp
  | a :: as, h => by
    have ih := sum_le (as := as) fun x hx => h x (List.mem_cons_of_mem _ hx)
    have := h a List.mem_cons_self
    rw [List.sum_cons, List.length_cons, Nat.mul_add]
    omega
theorem isNum_lt {n : Nat} (h : isNum n = true) : n < 2 ^ 28801 := by
  obtain ⟨h0, h1, h2⟩ := isNum_iff.mp h
  have e := make_rooms1 h0 h1
  have h3 := sum_le h2
  rw [rooms_len] at h3
  have h4 := make_le (rooms n)
  rw [e] at h4
  have h5 : 2 ^ (6 * (rooms n).sum) ≤ 2 ^ 28800 := Nat.pow_le_pow_right (by decide) (by omega)
  have h6 : 2 ^ 28800 < 2 ^ 28801 := Nat.pow_lt_pow_right (by decide) (by decide)
  omega
/-! ### one more in a room -/
/-- makeL by places -/
theorem makeL_set : ∀ (ps as : List Nat) (i p a : Nat), ps[i]? = some p → as[i]? = some a → makeL ps (as.set i (a + 1)) = makeL ps as * p
  | [], _, i, _, _, h, _ => by simp at h
  | _ :: _, [], i, _, _, _, h => by simp at h
  | q :: ps, b :: as, 0, p, a, h, h' => by
    have e1 : q = p := Option.some.inj h
    have e2 : b = a := Option.some.inj h'
    subst e1 e2
    show q ^ (b + 1) * makeL ps as = q ^ b * makeL ps as * q
    rw [Nat.pow_succ, Nat.mul_assoc, Nat.mul_comm q, ← Nat.mul_assoc]
  | q :: ps, b :: as, i + 1, p, a, h, h' => by
    show q ^ b * makeL ps (as.set i (a + 1)) = q ^ b * makeL ps as * p
    rw [makeL_set ps as i p a h h', Nat.mul_assoc]
theorem make_set {as : List Nat} {i p a : Nat} (hp : primes[i]? = some p) (ha : as[i]? = some a) : make (as.set i (a + 1)) = make as * p := by
  rw [make_def, make_def]
  exact makeL_set primes as i p a hp ha
theorem makeL_zero : ∀ (ps : List Nat) (n : Nat), makeL ps (List.replicate n 0) = 1
  | [], 0 => rfl
  | [], n + 1 => rfl
  | _ :: _, 0 => rfl
  | p :: ps, n + 1 => by
    show p ^ 0 * makeL ps (List.replicate n 0) = 1
    rw [makeL_zero ps n]
    simp
theorem make_zero : make (List.replicate 12 0) = 1 := by
  rw [make_def]
  exact makeL_zero primes 12
theorem sum_set1 : ∀ {as : List Nat} {i a : Nat}, as[i]? = some a → (as.set i (a + 1)).sum = as.sum + 1
  | [], i, a, h => by simp at h
  | b :: as, 0, a, h => by
    have e : b = a := Option.some.inj h
    subst e
    show (b + 1) + as.sum = b + as.sum + 1
    omega
  | b :: as, i + 1, a, h => by
    have ih := sum_set1 (as := as) (i := i) (a := a) h
    show b + (as.set i (a + 1)).sum = b + as.sum + 1
    omega
/-- the prime at i divides what is made just if it has something in room i -/
theorem make_mod {as : List Nat} {i p a : Nat} (hl : as.length = 12) (hp : primes[i]? = some p) (ha : as[i]? = some a) : make as % p = 0 ↔ 0 < a := by
  have hi : i < as.length := (List.getElem?_eq_some_iff.mp ha).1
  constructor
  · intro h
    rcases Nat.eq_zero_or_pos a with z | z
    · exfalso
      have hp2 : 2 ≤ p := primes_two p (List.mem_of_getElem? hp)
      have hc : Nat.Coprime p (make as) := by
        rw [make_def]
        have key : ∀ (ps bs : List Nat) (j q : Nat), Cop ps → ps[j]? = some q → bs[j]? = some 0 → Nat.Coprime q (makeL ps bs) := by
          intro ps
          induction ps with
          | nil => intro bs j q _ h; simp at h
          | cons r ps ih =>
            intro bs j q hc h h'
            cases bs with
            | nil => simp at h'
            | cons b bs =>
              obtain ⟨c1, c2, c3⟩ := hc
              cases j with
              | zero =>
                have e1 : r = q := Option.some.inj h
                have e2 : b = 0 := Option.some.inj h'
                subst e1 e2
                show Nat.Coprime r (r ^ 0 * makeL ps bs)
                rw [Nat.pow_zero, Nat.one_mul]
                exact cop_make ps bs c2
              | succ j =>
                have hq : q ∈ ps := List.mem_of_getElem? (i := j) h
                show Nat.Coprime q (r ^ b * makeL ps bs)
                exact Nat.Coprime.mul_right (Nat.Coprime.pow_right b (Nat.Coprime.symm (c2 q hq))) (ih bs j q c3 h h')
        exact key primes as i p cop_primes hp (by rw [ha, z])
      exact cop_mod hp2 hc h
    · exact z
  · intro h
    obtain ⟨b, rfl⟩ : ∃ b, a = b + 1 := ⟨a - 1, by omega⟩
    have e : make as = make (as.set i b) * p := by
      have h1 : (as.set i b)[i]? = some b := by rw [List.getElem?_set_self hi]
      have h2 := make_set (as := as.set i b) hp h1
      rw [List.set_set] at h2
      rw [← h2]
      congr 1
      refine (List.ext_getElem? fun k => ?_)
      by_cases hk : k = i
      · subst hk; rw [ha, List.getElem?_set_self hi]
      · rw [List.getElem?_set_ne (Ne.symm hk)]
    rw [e]
    exact Nat.mul_mod_left _ _
theorem make_div {as : List Nat} {i p a : Nat} (hp : primes[i]? = some p) (ha : as[i]? = some (a + 1)) : make as / p = make (as.set i a) := by
  have hi : i < as.length := (List.getElem?_eq_some_iff.mp ha).1
  have hp2 : 2 ≤ p := primes_two p (List.mem_of_getElem? hp)
  have h1 : (as.set i a)[i]? = some a := by rw [List.getElem?_set_self hi]
  have h2 := make_set (as := as.set i a) hp h1
  rw [List.set_set] at h2
  have e : as.set i (a + 1) = as := by
    refine (List.ext_getElem? fun k => ?_)
    by_cases hk : k = i
    · subst hk; rw [ha, List.getElem?_set_self hi]
    · rw [List.getElem?_set_ne (Ne.symm hk)]
  rw [e] at h2
  rw [h2]
  exact Nat.mul_div_cancel _ (by omega)
/-- coprime, if in no room both have something -/
theorem make_cop {as bs : List Nat} (h : ∀ i : Nat, as[i]? = some 0 ∨ bs[i]? = some 0 ∨ 12 ≤ i) : Nat.gcd (make as) (make bs) = 1 := by
  rw [make_def, make_def]
  have key : ∀ (ps as bs : List Nat), Cop ps → (∀ i : Nat, as[i]? = some 0 ∨ bs[i]? = some 0 ∨ ps.length ≤ i) → Nat.Coprime (makeL ps as) (makeL ps bs) := by
    intro ps
    induction ps with
    | nil => intro as bs _ _; cases as <;> simp [makeL]
    | cons p ps ih =>
      intro as bs hc h
      obtain ⟨c1, c2, c3⟩ := hc
      cases as with
      | nil => simp [makeL]
      | cons a as =>
        cases bs with
        | nil => simp [makeL]
        | cons b bs =>
          have ih' := ih as bs c3 fun i => by
            have := h (i + 1)
            simpa using this
          have h0 := h 0
          have ha : Nat.Coprime p (makeL ps as) := cop_make ps as c2
          have hb : Nat.Coprime p (makeL ps bs) := cop_make ps bs c2
          show Nat.Coprime (p ^ a * makeL ps as) (p ^ b * makeL ps bs)
          have g1 : Nat.Coprime (makeL ps as) (p ^ b * makeL ps bs) := Nat.Coprime.mul_right (Nat.Coprime.symm (Nat.Coprime.pow_left b ha)) ih'
          have g2 : Nat.Coprime (p ^ a) (p ^ b * makeL ps bs) := by
            rcases h0 with z | z | z
            · have e : a = 0 := by simpa using z
              subst e
              simp
            · have e : b = 0 := by simpa using z
              subst e
              rw [Nat.pow_zero, Nat.one_mul]
              exact Nat.Coprime.pow_left a hb
            · simp at z
          exact Nat.Coprime.mul_left g2 g1
  exact key primes as bs cop_primes h
end Fr
namespace Fr
/-! ### programs -/
abbrev Prog := List (Nat × Nat)
/-- whether it is a fraction -/
def isFrac (p : Nat × Nat) : Bool := (isNum p.1 && isNum p.2) && (decide (max p.1 p.2 ≤ 1000000) && decide (Nat.gcd p.1 p.2 = 1))
def isProg (l : Prog) : Bool := decide (l.length ≤ 16) && l.all isFrac
/-- the place of the first that fits -/
def firstAt (l : Prog) (n : Nat) : Option Nat := l.findIdx? fun p => decide (n % p.2 = 0)
def upAt (l : Prog) (i : Nat) : Nat := (l.getD i (1, 1)).1
def unAt (l : Prog) (i : Nat) : Nat := (l.getD i (1, 1)).2
/-- the number behind a step -/
def led (l : Prog) (n : Nat) : Option Nat := (firstAt l n).map fun i => n / unAt l i * upAt l i
theorem firstAt_some {l : Prog} {n i : Nat} (hi : i < l.length) (h : n % (l[i]).2 = 0) (hb : ∀ (j : Nat) (hj : j < l.length), j < i → n % (l[j]).2 ≠ 0) : firstAt l n = some i := by
  unfold firstAt
  rw [List.findIdx?_eq_some_iff_getElem]
  refine ⟨hi, by simpa using h, fun j hj => ?_⟩
  have := hb j (by omega) hj
  simpa using this
theorem firstAt_none {l : Prog} {n : Nat} (h : ∀ (j : Nat) (hj : j < l.length), n % (l[j]).2 ≠ 0) : firstAt l n = none := by
  unfold firstAt
  rw [List.findIdx?_eq_none_iff]
  intro p hp
  obtain ⟨j, hj, e⟩ := List.mem_iff_getElem.mp hp
  have := h j hj
  rw [e] at this
  simpa using this
theorem firstAt_is {l : Prog} {n i : Nat} (h : firstAt l n = some i) : ∃ hi : i < l.length, n % (l[i]).2 = 0 ∧ ∀ (j : Nat) (hj : j < l.length), j < i → n % (l[j]).2 ≠ 0 := by
  unfold firstAt at h
  rw [List.findIdx?_eq_some_iff_getElem] at h
  obtain ⟨hi, h1, h2⟩ := h
  refine ⟨hi, by simpa using h1, fun j hj hji => ?_⟩
  have := h2 j hji
  simpa using this
theorem firstAt_lt {l : Prog} {n i : Nat} (h : firstAt l n = some i) : i < l.length := (firstAt_is h).1
theorem unAt_eq {l : Prog} {i : Nat} (h : i < l.length) : unAt l i = (l[i]).2 := by
  unfold unAt
  rw [List.getD_eq_getElem?_getD, List.getElem?_eq_getElem h]
  rfl
theorem upAt_eq {l : Prog} {i : Nat} (h : i < l.length) : upAt l i = (l[i]).1 := by
  unfold upAt
  rw [List.getD_eq_getElem?_getD, List.getElem?_eq_getElem h]
  rfl
theorem isFrac_iff {p : Nat × Nat} : isFrac p = true ↔ isNum p.1 = true ∧ isNum p.2 = true ∧ p.1 ≤ 1000000 ∧ p.2 ≤ 1000000 ∧ Nat.gcd p.1 p.2 = 1 := by
  unfold isFrac
  simp only [Bool.and_eq_true, decide_eq_true_eq]
  constructor
  · rintro ⟨⟨h1, h2⟩, h3, h4⟩
    exact ⟨h1, h2, by omega, by omega, h4⟩
  · rintro ⟨h1, h2, h3, h4, h5⟩
    exact ⟨⟨h1, h2⟩, by omega, h5⟩
theorem isProg_iff {l : Prog} : isProg l = true ↔ l.length ≤ 16 ∧ ∀ p ∈ l, isFrac p = true := by
  unfold isProg
  simp only [Bool.and_eq_true, decide_eq_true_eq, List.all_eq_true]
theorem isNum_pos {n : Nat} (h : isNum n = true) : 0 < n := (isNum_iff.mp h).1
theorem isProg_pos {l : Prog} (h : isProg l = true) : ∀ p ∈ l, 0 < p.2 := fun p hp => isNum_pos (isFrac_iff.mp ((isProg_iff.mp h).2 p hp)).2.1
/-! ### too great -/
theorem two_pow_le_make {as : List Nat} {a : Nat} (hl : as.length = 12) (ha : a ∈ as) : 2 ^ a ≤ make as := by
  rw [make_def]
  have key : ∀ (ps bs : List Nat), (∀ p ∈ ps, 2 ≤ p) → bs.length = ps.length → a ∈ bs → 2 ^ a ≤ makeL ps bs := by
    intro ps
    induction ps with
    | nil =>
      intro bs _ hl h
      cases bs with
      | nil => cases h
      | cons b bs => simp at hl
    | cons p ps ih =>
      intro bs h2 hl h
      cases bs with
      | nil => simp at hl
      | cons b bs =>
        have hp := h2 p List.mem_cons_self
        have hpos : 0 < makeL ps bs := make_pos ps bs fun q hq => h2 q (List.mem_cons_of_mem _ hq)
        show 2 ^ a ≤ p ^ b * makeL ps bs
        rcases List.mem_cons.mp h with e | e
        · subst e
          have h3 : 2 ^ a ≤ p ^ a := Nat.pow_le_pow_left hp a
          have h4 : p ^ a * 1 ≤ p ^ a * makeL ps bs := Nat.mul_le_mul_left _ hpos
          omega
        · have h3 := ih bs (fun q hq => h2 q (List.mem_cons_of_mem _ hq)) (by simpa using hl) e
          have h4 : 0 < p ^ b := Nat.pow_pos (by omega)
          have h5 : 1 * makeL ps bs ≤ p ^ b * makeL ps bs := Nat.mul_le_mul_right _ h4
          omega
  exact key primes as primes_two hl ha
theorem great {n a : Nat} (h : 0 < n) (ha : a ∈ rooms n) (hb : 400 < a) : 0 < n / 10 ^ 60 / 10 ^ 60 := by
  have h1 := two_pow_le_make (rooms_len n) ha
  have h2 := make_rooms h
  have h3 : make (rooms n) * 1 ≤ make (rooms n) * left n := Nat.mul_le_mul_left _ h2.2
  have h4 : (2 : Nat) ^ 401 ≤ 2 ^ a := Nat.pow_le_pow_right (by decide) hb
  have h5 : (10 : Nat) ^ 60 * 10 ^ 60 ≤ 2 ^ 401 := by decide +kernel
  have h6 : 10 ^ 60 * 10 ^ 60 ≤ n := by omega
  rw [Nat.div_div_eq_div_mul]
  exact Nat.div_pos h6 (by decide +kernel)
/-! ### idle ones -/
def isIdle (l : Prog) (i : Nat) : Bool := !decide (firstAt l (unAt l i) = some i)
def idleOf (l : Prog) : List Nat := (List.range l.length).filter (isIdle l)
def leanOf (l : Prog) : Prog := l.zipIdx.filterMap fun p => if p.2 ∈ idleOf l then none else some p.1
end Fr
namespace Fr
/-! ### what the law draws -/
/-- a product of at most b of the first k primes -/
def SomeN (k b n : Nat) : Prop := ∃ as : List Nat, as.length = 12 ∧ n = make as ∧ as.sum ≤ b ∧ ∀ j, k ≤ j → j < 12 → as[j]? = some 0
def FracN (k : Nat) (p : Nat × Nat) : Prop := SomeN k 2 p.1 ∧ SomeN k 3 p.2 ∧ Nat.gcd p.1 p.2 = 1
theorem sum_dec : ∀ {as : List Nat} {i a : Nat}, as[i]? = some (a + 1) → (as.set i a).sum + 1 = as.sum
  | [], i, a, h => by simp at h
  | b :: as, 0, a, h => by
    have e : b = a + 1 := Option.some.inj h
    subst e
    show a + as.sum + 1 = a + 1 + as.sum
    omega
  | b :: as, i + 1, a, h => by
    have ih := sum_dec (as := as) (i := i) (a := a) h
    show b + (as.set i a).sum + 1 = b + as.sum
    omega
theorem mem_le_sum : ∀ {as : List Nat} {a : Nat}, a ∈ as → a ≤ as.sum
  | b :: as, a, h => by
    rw [List.sum_cons]
    rcases List.mem_cons.mp h with e | e
    · omega
    · have := mem_le_sum e
      omega
theorem SomeN.num {k b n : Nat} (h : SomeN k b n) (hb : b ≤ 400) : isNum n = true := by
  obtain ⟨as, h1, rfl, h2, _⟩ := h
  exact isNum_make h1 fun a ha => by
    have := mem_le_sum ha
    omega
theorem SomeN.le {k b n : Nat} (h : SomeN k b n) : n ≤ 2 ^ (6 * b) := by
  obtain ⟨as, _, rfl, h2, _⟩ := h
  exact Nat.le_trans (make_le as) (Nat.pow_le_pow_right (by decide) (by omega))
theorem FracN.frac {k : Nat} {p : Nat × Nat} (h : FracN k p) : isFrac p = true := by
  obtain ⟨h1, h2, h3⟩ := h
  have l1 := h1.le
  have l2 := h2.le
  refine isFrac_iff.mpr ⟨h1.num (by decide), h2.num (by decide), ?_, ?_, h3⟩
  · exact Nat.le_trans l1 (by decide)
  · exact Nat.le_trans l2 (by decide)
theorem fracs_prog {k : Nat} {l : Prog} (h : ∀ p ∈ l, FracN k p) (hl : l.length ≤ 16) : isProg l = true := isProg_iff.mpr ⟨hl, fun p hp => (h p hp).frac⟩
/-- the law's own step -/
def lawStep (l : Prog) (n : Nat) : Option (Nat × Nat) := (l.findIdx? fun p => decide (n * p.1 % p.2 = 0)).map fun i => (i, n * upAt l i / unAt l i)
theorem cop_fit {n t u : Nat} (h : Nat.gcd t u = 1) : n * t % u = 0 ↔ n % u = 0 := by
  constructor
  · intro e
    have d : u ∣ n * t := Nat.dvd_of_mod_eq_zero e
    exact Nat.mod_eq_zero_of_dvd (Nat.Coprime.dvd_of_dvd_mul_right (Nat.Coprime.symm h) d)
  · intro e
    exact Nat.mod_eq_zero_of_dvd (Nat.dvd_mul_right_of_dvd (Nat.dvd_of_mod_eq_zero e) t)
theorem fit_div {n t u : Nat} (h : n % u = 0) : n * t / u = n / u * t := by
  obtain ⟨c, rfl⟩ := Nat.dvd_of_mod_eq_zero h
  rcases Nat.eq_zero_or_pos u with z | z
  · subst z
    simp
  · rw [Nat.mul_div_cancel_left _ z, Nat.mul_assoc, Nat.mul_div_cancel_left _ z]
theorem lawStep_eq {l : Prog} (hP : isProg l = true) (n : Nat) : lawStep l n = (firstAt l n).map fun i => (i, n / unAt l i * upAt l i) := by
  have hc : ∀ p ∈ l, Nat.gcd p.1 p.2 = 1 := fun p hp => (isFrac_iff.mp ((isProg_iff.mp hP).2 p hp)).2.2.2.2
  have e1 : (l.findIdx? fun p => decide (n * p.1 % p.2 = 0)) = firstAt l n := by
    unfold firstAt
    have key : ∀ m : Prog, (∀ p ∈ m, Nat.gcd p.1 p.2 = 1) → (m.findIdx? fun p => decide (n * p.1 % p.2 = 0)) = m.findIdx? fun p => decide (n % p.2 = 0) := by
      intro m
      induction m with
      | nil => intro _; rfl
      | cons p m ih =>
        intro h
        rw [List.findIdx?_cons, List.findIdx?_cons, ih fun q hq => h q (List.mem_cons_of_mem _ hq)]
        have e : decide (n * p.1 % p.2 = 0) = decide (n % p.2 = 0) := by
          rw [Bool.eq_iff_iff, decide_eq_true_eq, decide_eq_true_eq]
          exact cop_fit (h p List.mem_cons_self)
        rw [e]
    exact key l hc
  unfold lawStep
  rw [e1]
  cases h : firstAt l n with
  | none => rfl
  | some i =>
    obtain ⟨hi, h0, _⟩ := firstAt_is h
    rw [Option.map_some, Option.map_some, unAt_eq hi, fit_div h0]
end Fr
namespace Fr
/-! ### idle ones, and the lean program -/
/-- an earlier one's under divides this one's -/
def dueAt (l : Prog) (i : Nat) : Bool := (l.take i).any fun p => decide (unAt l i % p.2 = 0)
theorem dueAt_iff {l : Prog} {i : Nat} (hi : i ≤ l.length) : dueAt l i = true ↔ ∃ (j : Nat) (hj : j < l.length), j < i ∧ unAt l i % (l[j]).2 = 0 := by
  unfold dueAt
  simp only [List.any_eq_true, decide_eq_true_eq]
  constructor
  · rintro ⟨p, hp, h⟩
    obtain ⟨j, hj, e⟩ := List.mem_iff_getElem.mp hp
    rw [List.length_take] at hj
    rw [List.getElem_take] at e
    exact ⟨j, by omega, by omega, by rw [e]; exact h⟩
  · rintro ⟨j, hj, hji, h⟩
    refine ⟨l[j], ?_, h⟩
    rw [List.mem_iff_getElem]
    exact ⟨j, by rw [List.length_take]; omega, by rw [List.getElem_take]⟩
theorem firstAt_self {l : Prog} {i : Nat} (hi : i < l.length) : ∃ j, firstAt l (unAt l i) = some j ∧ j ≤ i := by
  cases h : firstAt l (unAt l i) with
  | none =>
    unfold firstAt at h
    rw [List.findIdx?_eq_none_iff] at h
    have := h _ (List.getElem_mem hi)
    rw [unAt_eq hi] at this
    simp at this
  | some j =>
    refine ⟨j, rfl, ?_⟩
    obtain ⟨hj, _, hb⟩ := firstAt_is h
    rcases Nat.lt_or_ge i j with z | z
    · have := hb i hi z
      rw [unAt_eq hi] at this
      simp at this
    · exact z
theorem isIdle_due {l : Prog} {i : Nat} (hi : i < l.length) : isIdle l i = dueAt l i := by
  obtain ⟨j, hj, hji⟩ := firstAt_self hi
  obtain ⟨hjl, h0, hb⟩ := firstAt_is hj
  rw [Bool.eq_iff_iff, dueAt_iff (Nat.le_of_lt hi)]
  unfold isIdle
  rw [hj]
  simp only [Option.some.injEq, Bool.not_eq_true', decide_eq_false_iff_not]
  constructor
  · intro h
    exact ⟨j, hjl, by omega, h0⟩
  · rintro ⟨k, hk, hki, h⟩ e
    subst e
    exact hb k hk hki h
theorem idle_mem {l : Prog} {i : Nat} : i ∈ idleOf l ↔ i < l.length ∧ dueAt l i = true := by
  unfold idleOf
  rw [List.mem_filter, List.mem_range]
  constructor
  · rintro ⟨h1, h2⟩
    exact ⟨h1, by rw [← isIdle_due h1]; exact h2⟩
  · rintro ⟨h1, h2⟩
    exact ⟨h1, by rw [isIdle_due h1]; exact h2⟩
theorem idle_due (l : Prog) : idleOf l = (List.range l.length).filter (dueAt l) := by
  unfold idleOf
  refine List.filter_congr fun i hi => isIdle_due (List.mem_range.mp hi)
theorem lean_sub (l : Prog) : ∀ p ∈ leanOf l, p ∈ l := by
  intro p hp
  unfold leanOf at hp
  obtain ⟨⟨q, i⟩, hq, e⟩ := List.mem_filterMap.mp hp
  split at e
  · cases e
  · cases e
    exact (List.mem_zipIdx' hq).2 ▸ List.getElem_mem _
theorem lean_len (l : Prog) : (leanOf l).length ≤ l.length := by
  unfold leanOf
  have h := List.length_filterMap_le (fun p : (Nat × Nat) × Nat => if p.2 ∈ idleOf l then none else some p.1) l.zipIdx
  rw [List.length_zipIdx] at h
  exact h
theorem lean_prog {l : Prog} (h : isProg l = true) : isProg (leanOf l) = true := by
  obtain ⟨h1, h2⟩ := isProg_iff.mp h
  exact isProg_iff.mpr ⟨Nat.le_trans (lean_len l) h1, fun p hp => h2 p (lean_sub l p hp)⟩
/-- led by the fraction itself -/
theorem led_find (l : Prog) (n : Nat) : led l n = (l.find? fun p => decide (n % p.2 = 0)).map fun p => n / p.2 * p.1 := by
  unfold led
  cases h : firstAt l n with
  | none =>
    have : l.find? (fun p => decide (n % p.2 = 0)) = none := by
      unfold firstAt at h
      rw [List.findIdx?_eq_none_iff] at h
      rw [List.find?_eq_none]
      intro p hp
      have := h p hp
      simpa using this
    rw [this]
    rfl
  | some i =>
    obtain ⟨hi, h0, hb⟩ := firstAt_is h
    have : l.find? (fun p => decide (n % p.2 = 0)) = some l[i] := by
      rw [List.find?_eq_some_iff_getElem]
      refine ⟨by simpa using h0, i, hi, rfl, fun j hj => ?_⟩
      have := hb j (by omega) hj
      simpa using this
    rw [this, Option.map_some, Option.map_some, unAt_eq hi, upAt_eq hi]
/-- what is first to fit is kept, and stays the first -/
theorem lean_find (l : Prog) (n : Nat) : (leanOf l).find? (fun p => decide (n % p.2 = 0)) = l.find? fun p => decide (n % p.2 = 0) := by
  cases h : l.find? (fun p => decide (n % p.2 = 0)) with
  | none =>
    rw [List.find?_eq_none] at h ⊢
    exact fun p hp => h p (lean_sub l p hp)
  | some q =>
    rw [List.find?_eq_some_iff_append] at h
    obtain ⟨hq, l1, l2, e, hb⟩ := h
    have hq : n % q.2 = 0 := by simpa using hq
    have hlen : l1.length < l.length := by rw [e]; simp
    have hget : l[l1.length]'hlen = q := by
      simp only [e]
      rw [List.getElem_append_right (Nat.le_refl _)]
      simp
    have hni : l1.length ∉ idleOf l := by
      intro hm
      obtain ⟨_, hd⟩ := idle_mem.mp hm
      obtain ⟨j, hj, hji, h0⟩ := (dueAt_iff (Nat.le_of_lt hlen)).mp hd
      rw [unAt_eq hlen, hget] at h0
      have hjm : l[j] ∈ l1 := by
        simp only [e]
        rw [List.getElem_append_left hji]
        exact List.getElem_mem _
      have := hb _ hjm
      have h1 : l[j].2 ∣ q.2 := Nat.dvd_of_mod_eq_zero h0
      have h2 : q.2 ∣ n := Nat.dvd_of_mod_eq_zero hq
      have h3 : n % l[j].2 = 0 := Nat.mod_eq_zero_of_dvd (Nat.dvd_trans h1 h2)
      simp [h3] at this
    have e2 : leanOf l = (l1.zipIdx.filterMap fun p => if p.2 ∈ idleOf l then none else some p.1) ++ q :: ((l2.zipIdx (l1.length + 1)).filterMap fun p => if p.2 ∈ idleOf l then none else some p.1) := by
      unfold leanOf
      have e3 : l.zipIdx = l1.zipIdx ++ (q, l1.length) :: l2.zipIdx (l1.length + 1) := by
        have : (l1 ++ q :: l2).zipIdx = l1.zipIdx ++ (q, l1.length) :: l2.zipIdx (l1.length + 1) := by
          rw [List.zipIdx_append, List.zipIdx_cons]
          simp
        rw [← e] at this
        exact this
      rw [e3, List.filterMap_append, List.filterMap_cons]
      rw [if_neg hni]
    rw [List.find?_eq_some_iff_append]
    refine ⟨by simpa using hq, _, _, e2, ?_⟩
    intro p hp
    obtain ⟨⟨r, i⟩, hr, e4⟩ := List.mem_filterMap.mp hp
    split at e4
    · cases e4
    · cases e4
      have hrm : r ∈ l1 := (List.mem_zipIdx' hr).2 ▸ List.getElem_mem _
      exact hb r hrm
theorem lean_led (l : Prog) (n : Nat) : led (leanOf l) n = led l n := by
  rw [led_find, led_find, lean_find]
theorem lawStep_led {l : Prog} (hP : isProg l = true) (n : Nat) : (lawStep l n).map Prod.snd = led l n := by
  rw [lawStep_eq hP, Option.map_map]
  rfl
/-- the lean program has none idle -/
theorem lean_idle (l : Prog) : idleOf (leanOf l) = [] := by
  rw [idle_due, List.filter_eq_nil_iff]
  intro i hi
  rw [List.mem_range] at hi
  rw [Bool.not_eq_true]
  cases h : dueAt (leanOf l) i with
  | false => rfl
  | true =>
    exfalso
    obtain ⟨j, hj, hji, h0⟩ := (dueAt_iff (Nat.le_of_lt hi)).mp h
    rw [unAt_eq hi] at h0
    -- both stand in l, in their order
    have key : ∀ (m : Prog) (s : Nat) (i j : Nat) (hi : i < ((m.zipIdx s).filterMap fun p => if p.2 ∈ idleOf l then none else some p.1).length) (hji : j < i), ∃ (a b : Nat) (ha : a < m.length) (hb : b < m.length), b < a ∧ s + a ∉ idleOf l ∧ ((m.zipIdx s).filterMap fun p => if p.2 ∈ idleOf l then none else some p.1)[i] = m[a] ∧ ((m.zipIdx s).filterMap fun p => if p.2 ∈ idleOf l then none else some p.1)[j]'(by omega) = m[b] := by
      intro m
      induction m with
      | nil => intro s i j hi; simp at hi
      | cons p m ih =>
        intro s i j hi hji
        by_cases hp : s ∈ idleOf l
        · have e : (((p :: m).zipIdx s).filterMap fun p => if p.2 ∈ idleOf l then none else some p.1) = ((m.zipIdx (s + 1)).filterMap fun p => if p.2 ∈ idleOf l then none else some p.1) := by
            rw [List.zipIdx_cons, List.filterMap_cons, if_pos hp]
          obtain ⟨a, b, ha, hb, h1, h2, h3, h4⟩ := ih (s + 1) i j (by rw [← e]; exact hi) hji
          refine ⟨a + 1, b + 1, by simpa using ha, by simpa using hb, by omega, by rw [show s + (a + 1) = s + 1 + a by omega]; exact h2, ?_, ?_⟩
          · simp only [e]; rw [h3]; rfl
          · simp only [e]; rw [h4]; rfl
        · have e : (((p :: m).zipIdx s).filterMap fun p => if p.2 ∈ idleOf l then none else some p.1) = p :: ((m.zipIdx (s + 1)).filterMap fun p => if p.2 ∈ idleOf l then none else some p.1) := by
            rw [List.zipIdx_cons, List.filterMap_cons, if_neg hp]
          obtain ⟨i', rfl⟩ : ∃ i', i = i' + 1 := ⟨i - 1, by omega⟩
          have hi' : i' < ((m.zipIdx (s + 1)).filterMap fun p => if p.2 ∈ idleOf l then none else some p.1).length := by
            rw [e] at hi
            simpa using hi
          cases j with
          | zero =>
            have one : ∀ (m : Prog) (s i : Nat) (hi : i < ((m.zipIdx s).filterMap fun p => if p.2 ∈ idleOf l then none else some p.1).length), ∃ (a : Nat) (ha : a < m.length), s + a ∉ idleOf l ∧ ((m.zipIdx s).filterMap fun p => if p.2 ∈ idleOf l then none else some p.1)[i] = m[a] := by
              intro m
              induction m with
              | nil => intro s i hi; simp at hi
              | cons q m ih2 =>
                intro s i hi
                by_cases hq : s ∈ idleOf l
                · have e : (((q :: m).zipIdx s).filterMap fun p => if p.2 ∈ idleOf l then none else some p.1) = ((m.zipIdx (s + 1)).filterMap fun p => if p.2 ∈ idleOf l then none else some p.1) := by
                    rw [List.zipIdx_cons, List.filterMap_cons, if_pos hq]
                  obtain ⟨a, ha, h1, h2⟩ := ih2 (s + 1) i (by rw [← e]; exact hi)
                  refine ⟨a + 1, by simpa using ha, by rw [show s + (a + 1) = s + 1 + a by omega]; exact h1, ?_⟩
                  simp only [e]; rw [h2]; rfl
                · have e : (((q :: m).zipIdx s).filterMap fun p => if p.2 ∈ idleOf l then none else some p.1) = q :: ((m.zipIdx (s + 1)).filterMap fun p => if p.2 ∈ idleOf l then none else some p.1) := by
                    rw [List.zipIdx_cons, List.filterMap_cons, if_neg hq]
                  cases i with
                  | zero => exact ⟨0, by simp, by simpa using hq, by simp only [e]; rfl⟩
                  | succ i =>
                    obtain ⟨a, ha, h1, h2⟩ := ih2 (s + 1) i (by rw [e] at hi; simpa using hi)
                    refine ⟨a + 1, by simpa using ha, by rw [show s + (a + 1) = s + 1 + a by omega]; exact h1, ?_⟩
                    simp only [e]
                    rw [List.getElem_cons_succ, h2]; rfl
            obtain ⟨a, ha, h1, h2⟩ := one m (s + 1) i' hi'
            refine ⟨a + 1, 0, by simpa using ha, by simp, by omega, by rw [show s + (a + 1) = s + 1 + a by omega]; exact h1, ?_, ?_⟩
            · simp only [e]; rw [List.getElem_cons_succ, h2]; rfl
            · simp only [e]; rfl
          | succ j' =>
            obtain ⟨a, b, ha, hb, h1, h2, h3, h4⟩ := ih (s + 1) i' j' hi' (by omega)
            refine ⟨a + 1, b + 1, by simpa using ha, by simpa using hb, by omega, by rw [show s + (a + 1) = s + 1 + a by omega]; exact h2, ?_, ?_⟩
            · simp only [e]; rw [List.getElem_cons_succ, h3]; rfl
            · simp only [e]; rw [List.getElem_cons_succ, h4]; rfl
    obtain ⟨a, b, ha, hb, h1, h2, h3, h4⟩ := key l 0 i j (by unfold leanOf at hi; exact hi) hji
    have h3' : (leanOf l)[i] = l[a] := h3
    have h4' : (leanOf l)[j] = l[b] := h4
    rw [h3', h4'] at h0
    refine h2 ?_
    rw [Nat.zero_add]
    exact idle_mem.mpr ⟨ha, (dueAt_iff (Nat.le_of_lt ha)).mpr ⟨b, hb, h1, by rw [unAt_eq ha]; exact h0⟩⟩
/-! ### small numbers have small rooms -/
theorem room_lt {m k a : Nat} (h : 0 < m) (hk : m < 2 ^ k) (ha : a ∈ rooms m) : a < k := by
  have h1 := two_pow_le_make (rooms_len m) ha
  have h2 := make_rooms h
  have h3 : make (rooms m) * 1 ≤ make (rooms m) * left m := Nat.mul_le_mul_left _ h2.2
  rcases Nat.lt_or_ge a k with z | z
  · exact z
  · have : 2 ^ k ≤ 2 ^ a := Nat.pow_le_pow_right (by decide) z
    omega
theorem lt_log2 {n k j : Nat} (h : n < 2 ^ k) (hk : 0 < k) (hj : k ≤ j) : n.log2 < j := Nat.lt_of_lt_of_le (log2_lt' hk h) hj
theorem mil_lt {n : Nat} (h : n ≤ 1000000) : n < 2 ^ 20 := by omega
end Fr
namespace Fr
theorem makeL_snoc : ∀ (ps as : List Nat) (i p a : Nat), ps[i]? = some p → as[i]? = some a → makeL (ps.take (i + 1)) (as.take (i + 1)) = makeL (ps.take i) (as.take i) * p ^ a := by
  intro ps
  induction ps with
  | nil => intro as i p a h; simp at h
  | cons q ps ih =>
    intro as i p a h1 h2
    cases as with
    | nil => simp at h2
    | cons b as =>
      cases i with
      | zero =>
        simp only [List.getElem?_cons_zero, Option.some.injEq] at h1 h2
        subst h1 h2
        simp [makeL]
      | succ i =>
        simp only [List.getElem?_cons_succ] at h1 h2
        simp only [List.take_succ_cons, makeL]
        rw [ih as i p a h1 h2, Nat.mul_assoc]
theorem makeL_all : ∀ (ps as : List Nat), makeL (ps.take as.length) (as.take as.length) = makeL ps as := by
  intro ps
  induction ps with
  | nil => intro as; cases as <;> rfl
  | cons q ps ih =>
    intro as
    cases as with
    | nil => rfl
    | cons b as =>
      simp only [List.length_cons, List.take_succ_cons, makeL]
      rw [ih]
theorem makeL_pad : ∀ (ps as : List Nat) (k : Nat), makeL ps (as ++ List.replicate k 0) = makeL ps as := by
  intro ps
  induction ps with
  | nil => intro as k; cases as <;> cases k <;> simp [makeL, List.replicate_succ]
  | cons q ps ih =>
    intro as k
    cases as with
    | nil => rw [List.nil_append, makeL_zero]; rfl
    | cons b as => simp only [List.cons_append, makeL]; rw [ih]
theorem make_pad (as : List Nat) (k : Nat) : make (as ++ List.replicate k 0) = make as := by rw [make_def, make_def, makeL_pad]
theorem make_take (as : List Nat) : make as = makeL (primes.take as.length) (as.take as.length) := by rw [makeL_all, make_def]
theorem make_part_lt {as : List Nat} (h : ∀ a ∈ as, a ≤ 401) (hl : as.length ≤ 12) (i p j : Nat) (hp : p < 64) (hj : j ≤ 401) : makeL (primes.take i) (as.take i) * p ^ j < 2 ^ 40000 := by
  have h1 : makeL (primes.take i) (as.take i) ≤ 2 ^ (6 * (as.take i).sum) := makeL_lt _ _ fun p hp => primes_small p (List.mem_of_mem_take hp)
  have h2 : (as.take i).sum ≤ 401 * (as.take i).length := sum_le fun a ha => h a (List.mem_of_mem_take ha)
  have h3 : (as.take i).length ≤ 12 := Nat.le_trans (List.length_take_le' _ _) hl
  have h4 : p ^ j ≤ 2 ^ (6 * j) := by
    rw [Nat.pow_mul]
    exact Nat.pow_le_pow_left (by omega) j
  have h5 : makeL (primes.take i) (as.take i) * p ^ j ≤ 2 ^ (6 * (as.take i).sum + 6 * j) := by
    rw [Nat.pow_add]
    exact Nat.mul_le_mul h1 h4
  refine Nat.lt_of_le_of_lt h5 (Nat.pow_lt_pow_right (by decide) ?_)
  have : 401 * (as.take i).length ≤ 401 * 12 := Nat.mul_le_mul_left _ h3
  omega
theorem isNum_pad_false {as : List Nat} {k : Nat} (hl : as.length + k = 12) (h : ∃ a ∈ as, 400 < a) : isNum (make as) = false := by
  cases e : isNum (make as) with
  | false => rfl
  | true =>
    rw [← make_pad as k] at e
    have h2 := (isNum_iff.mp e).2.2
    rw [rooms_make (by simpa using hl)] at h2
    obtain ⟨a, ha, hb⟩ := h
    have := h2 a (List.mem_append_left _ ha)
    omega
/-! the law's own rooms of small numbers -/
theorem rooms_small {n : Nat} (h1 : 0 < n) (h : n < 2 ^ 400) : ∀ a ∈ rooms n, a ≤ 400 := by
  intro a ha
  obtain ⟨e, hl⟩ := make_rooms h1
  have hle : 2 ^ a ≤ make (rooms n) := two_pow_le_make (rooms_len n) ha
  have h3 : make (rooms n) ≤ n := by
    conv => rhs; rw [e]
    exact Nat.le_mul_of_pos_right _ hl
  have h4 : 2 ^ a < 2 ^ 400 := Nat.lt_of_le_of_lt (Nat.le_trans hle h3) h
  have := (Nat.pow_lt_pow_iff_right (by decide : 1 < 2)).mp h4
  omega
end Fr
namespace Fr
/-! ### rooms of a product -/
theorem cop_of_mod : ∀ p ∈ primes, ∀ m : Nat, m % p ≠ 0 → Nat.Coprime p m := by
  intro p hp m hm
  have key : ∀ p ∈ primes, ∀ r, r < p → r ≠ 0 → Nat.gcd r p = 1 := by decide +kernel
  have h2 : 0 < p := Nat.lt_of_lt_of_le (by decide) (primes_two p hp)
  show Nat.gcd p m = 1
  rw [Nat.gcd_rec]
  exact key p hp (m % p) (Nat.mod_lt _ h2) hm
theorem partL_dvd : ∀ (ps : List Nat) (n : Nat), (∀ p ∈ ps, 2 ≤ p) → 0 < n → (partL ps n).2 ∣ n ∧ 0 < (partL ps n).2 := by
  intro ps
  induction ps with
  | nil => intro n _ h; exact ⟨Nat.dvd_refl _, h⟩
  | cons p ps ih =>
    intro n h2 h
    have e := strip_eq (h2 p List.mem_cons_self) h
    have hp : 0 < (strip p n).2 := Nat.pos_of_ne_zero fun z => e.2 (by rw [z]; exact Nat.zero_mod _)
    obtain ⟨a, b⟩ := ih (strip p n).2 (fun q hq => h2 q (List.mem_cons_of_mem _ hq)) hp
    refine ⟨Nat.dvd_trans a ?_, b⟩
    exact ⟨p ^ (strip p n).1, by rw [Nat.mul_comm]; exact e.1⟩
theorem partL_mod : ∀ (ps : List Nat) (n : Nat), (∀ p ∈ ps, 2 ≤ p) → 0 < n → ∀ p ∈ ps, (partL ps n).2 % p ≠ 0 := by
  intro ps
  induction ps with
  | nil => intro n _ _ p hp; cases hp
  | cons q ps ih =>
    intro n h2 h p hp
    have e := strip_eq (h2 q List.mem_cons_self) h
    have hs : 0 < (strip q n).2 := Nat.pos_of_ne_zero fun z => e.2 (by rw [z]; exact Nat.zero_mod _)
    rcases List.mem_cons.mp hp with rfl | hp
    · intro z
      obtain ⟨d, _⟩ := partL_dvd ps (strip p n).2 (fun q hq => h2 q (List.mem_cons_of_mem _ hq)) hs
      exact e.2 (Nat.mod_eq_zero_of_dvd (Nat.dvd_trans (Nat.dvd_of_mod_eq_zero z) d))
    · exact ih (strip q n).2 (fun q hq => h2 q (List.mem_cons_of_mem _ hq)) hs p hp
theorem left_cop {n : Nat} (h : 0 < n) : ∀ p ∈ primes, Nat.Coprime p (left n) := fun p hp => cop_of_mod p hp _ (by rw [left_def]; exact partL_mod primes n primes_two h p hp)
theorem makeL_mul : ∀ (ps as bs : List Nat), as.length = bs.length → makeL ps as * makeL ps bs = makeL ps (List.zipWith (· + ·) as bs) := by
  intro ps
  induction ps with
  | nil => intro as bs _; cases as <;> cases bs <;> simp [makeL]
  | cons p ps ih =>
    intro as bs hl
    cases as with
    | nil => cases bs with
      | nil => simp [makeL]
      | cons => cases hl
    | cons a as =>
      cases bs with
      | nil => cases hl
      | cons b bs =>
        simp only [makeL, List.zipWith_cons_cons]
        rw [← ih as bs (by simpa using hl), Nat.pow_add]
        ac_rfl
theorem parts_mul {a b : Nat} (ha : 0 < a) (hb : 0 < b) : rooms (a * b) = List.zipWith (· + ·) (rooms a) (rooms b) ∧ left (a * b) = left a * left b := by
  have e1 := (make_rooms ha).1
  have e2 := (make_rooms hb).1
  have e3 : a * b = makeL primes (List.zipWith (· + ·) (rooms a) (rooms b)) * (left a * left b) := by
    rw [← makeL_mul primes _ _ (by rw [rooms_len, rooms_len]), ← make_def, ← make_def]
    conv => lhs; rw [e1, e2]
    ac_rfl
  have h := part_make primes (List.zipWith (· + ·) (rooms a) (rooms b)) (left a * left b) cop_primes (by rw [List.length_zipWith, rooms_len, rooms_len]; rfl) (fun q hq => Nat.Coprime.mul_right (left_cop ha q hq) (left_cop hb q hq))
  rw [← e3] at h
  constructor
  · rw [rooms_def, h]
  · rw [left_def (a * b), h]
theorem rooms_mul {a b : Nat} (ha : 0 < a) (hb : 0 < b) : rooms (a * b) = List.zipWith (· + ·) (rooms a) (rooms b) := (parts_mul ha hb).1
theorem left_mul {a b : Nat} (ha : 0 < a) (hb : 0 < b) : left (a * b) = left a * left b := (parts_mul ha hb).2
/-! ### a step keeps to the twelve primes -/
theorem led_left {l : Prog} {n x : Nat} (hP : isProg l = true) (hn : 0 < n) (hl : left n = 1) (h : led l n = some x) : 0 < x ∧ left x = 1 := by
  unfold led at h
  obtain ⟨i, hi, rfl⟩ := Option.map_eq_some_iff.mp h
  obtain ⟨hlt, h0, _⟩ := firstAt_is hi
  obtain ⟨f1, f2, f3, f4, f5⟩ := isFrac_iff.mp ((isProg_iff.mp hP).2 _ (List.getElem_mem hlt))
  rw [unAt_eq hlt, upAt_eq hlt]
  have hu := isNum_iff.mp f2
  have ht := isNum_iff.mp f1
  have e : n = (l[i]).2 * (n / (l[i]).2) := (Nat.mul_div_cancel' (Nat.dvd_of_mod_eq_zero h0)).symm
  have hq : 0 < n / (l[i]).2 := Nat.div_pos (Nat.le_of_dvd hn (Nat.dvd_of_mod_eq_zero h0)) hu.1
  have e2 : left (n / (l[i]).2) = 1 := by
    have := left_mul hu.1 hq
    rw [← e, hl, hu.2.1, Nat.one_mul] at this
    exact this.symm
  exact ⟨Nat.mul_pos hq ht.1, by rw [left_mul hq ht.1, e2, ht.2.1]⟩
theorem led_le {l : Prog} {n x : Nat} (hP : isProg l = true) (h : led l n = some x) : x ≤ n * 1000000 := by
  unfold led at h
  obtain ⟨i, hi, rfl⟩ := Option.map_eq_some_iff.mp h
  obtain ⟨hlt, h0, _⟩ := firstAt_is hi
  obtain ⟨f1, f2, f3, f4, f5⟩ := isFrac_iff.mp ((isProg_iff.mp hP).2 _ (List.getElem_mem hlt))
  rw [unAt_eq hlt, upAt_eq hlt]
  exact Nat.mul_le_mul (Nat.div_le_self _ _) f3
end Fr
namespace Fr
/-! ### rooms one by one -/
def rm (n r : Nat) : Nat := (rooms n).getD r 0
theorem rm_mul {a b : Nat} (ha : 0 < a) (hb : 0 < b) (r : Nat) : rm (a * b) r = rm a r + rm b r := by
  unfold rm
  rw [rooms_mul ha hb, List.getD_eq_getElem?_getD, List.getD_eq_getElem?_getD, List.getD_eq_getElem?_getD, List.getElem?_zipWith]
  by_cases h : r < 12
  · rw [List.getElem?_eq_getElem (by rw [rooms_len]; exact h), List.getElem?_eq_getElem (by rw [rooms_len]; exact h)]
    rfl
  · rw [List.getElem?_eq_none (by rw [rooms_len]; omega), List.getElem?_eq_none (by rw [rooms_len]; omega)]
    rfl
theorem rm_big {n r : Nat} (h : 12 ≤ r) : rm n r = 0 := by
  unfold rm
  rw [List.getD_eq_getElem?_getD, List.getElem?_eq_none (by rw [rooms_len]; exact h)]
  rfl
theorem rooms_rm (n : Nat) : rooms n = (List.range 12).map (rm n) := by
  apply List.ext_getElem?
  intro i
  rw [List.getElem?_map]
  by_cases h : i < 12
  · rw [List.getElem?_eq_getElem (by rw [rooms_len]; exact h), List.getElem?_range h]
    show _ = some ((rooms n).getD i 0)
    rw [List.getD_eq_getElem?_getD, List.getElem?_eq_getElem (by rw [rooms_len]; exact h)]
    rfl
  · rw [List.getElem?_eq_none (by rw [rooms_len]; omega), List.getElem?_eq_none (by simp; omega)]
    rfl
theorem num_ext {a b : Nat} (ha : 0 < a) (hb : 0 < b) (la : left a = 1) (lb : left b = 1) (h : ∀ r, r < 12 → rm a r = rm b r) : a = b := by
  rw [← make_rooms1 ha la, ← make_rooms1 hb lb, rooms_rm a, rooms_rm b]
  congr 1
  apply List.map_congr_left
  intro r hr
  exact h r (List.mem_range.mp hr)
theorem rm_make {f : Nat → Nat} {r : Nat} (h : r < 12) : rm (make ((List.range 12).map f)) r = f r := by
  unfold rm
  rw [rooms_make (by simp), List.getD_eq_getElem?_getD, List.getElem?_map, List.getElem?_range h]
  rfl
theorem left_mk {f : Nat → Nat} : left (make ((List.range 12).map f)) = 1 := left_make (by simp)
/-- which divides which, room by room -/
theorem dvd_rm {u n : Nat} (hu : 0 < u) (hn : 0 < n) (lu : left u = 1) (ln : left n = 1) : n % u = 0 ↔ ∀ r, r < 12 → rm u r ≤ rm n r := by
  constructor
  · intro h r _
    have e : n = u * (n / u) := (Nat.mul_div_cancel' (Nat.dvd_of_mod_eq_zero h)).symm
    have hq : 0 < n / u := Nat.div_pos (Nat.le_of_dvd hn (Nat.dvd_of_mod_eq_zero h)) hu
    have := rm_mul hu hq r
    rw [← e] at this
    omega
  · intro h
    have hq := make_pos' ((List.range 12).map fun r => rm n r - rm u r)
    have e : u * make ((List.range 12).map fun r => rm n r - rm u r) = n := by
      refine num_ext (Nat.mul_pos hu hq) hn (by rw [left_mul hu hq, lu, left_mk]) ln fun r hr => ?_
      rw [rm_mul hu hq, rm_make hr]
      have := h r hr
      omega
    rw [← e]
    exact Nat.mul_mod_right _ _
theorem div_rm {u n r : Nat} (hu : 0 < u) (hn : 0 < n) (h : n % u = 0) : rm (n / u) r = rm n r - rm u r := by
  have e : n = u * (n / u) := (Nat.mul_div_cancel' (Nat.dvd_of_mod_eq_zero h)).symm
  have hq : 0 < n / u := Nat.div_pos (Nat.le_of_dvd hn (Nat.dvd_of_mod_eq_zero h)) hu
  have := rm_mul hu hq r
  rw [← e] at this
  omega
theorem rm_pow {a : Nat} (ha : 0 < a) (r : Nat) : ∀ t, rm (a ^ t) r = t * rm a r
  | 0 => by
    rw [Nat.pow_zero, Nat.zero_mul]
    have := rm_mul (a := 1) (b := 1) (by decide) (by decide) r
    rw [Nat.one_mul] at this
    omega
  | t + 1 => by rw [Nat.pow_succ, rm_mul (Nat.pow_pos ha) ha, rm_pow ha r t, Nat.succ_mul]
theorem left_pow {a : Nat} (ha : 0 < a) (la : left a = 1) : ∀ t, left (a ^ t) = 1
  | 0 => by
    rw [Nat.pow_zero]
    have := left_mul (a := 1) (b := 1) (by decide) (by decide)
    rw [Nat.one_mul] at this
    have h1 : 0 < left 1 := (make_rooms (n := 1) (by decide)).2
    exact (Nat.mul_right_cancel h1 (by rw [Nat.one_mul]; exact this.symm))
  | t + 1 => by rw [Nat.pow_succ, left_mul (Nat.pow_pos ha) ha, left_pow ha la t, la]
end Fr
namespace Fr
/-! ### from which turn on something fits -/
structure Row4 where
  h : Nat
  o : Nat
  i : Nat
  d : Nat
def ffUp : List Row4 → Nat → Option Nat
  | [], f => some f
  | q :: r, f => if q.h < q.d then (if q.i ≤ q.o then none else ffUp r (max f ((q.d - q.h + q.i - q.o - 1) / (q.i - q.o)))) else ffUp r f
def okAt (q : Row4) (t : Nat) : Prop := (q.d : Int) ≤ q.h + t * ((q.i : Int) - q.o)
instance (q : Row4) (t : Nat) : Decidable (okAt q t) := by unfold okAt; exact inferInstance
def ffOf (rows : List Row4) : Option Nat := match ffUp rows 0 with
  | none => none
  | some f => if ∀ q ∈ rows, okAt q f then some f else none
/-- the least turn of one row -/
theorem ceil_least {h d k t : Nat} (hd : h < d) (hk : 0 < k) : (d - h + k - 1) / k ≤ t ↔ d ≤ h + t * k := by
  rw [Nat.div_le_iff_le_mul_add_pred hk]
  rw [Nat.mul_comm]
  omega
theorem okAt_up {q : Row4} (hi : q.o < q.i) (t : Nat) : okAt q t ↔ q.d ≤ q.h + t * (q.i - q.o) := by
  unfold okAt
  have e : ((q.i : Int) - q.o) = ((q.i - q.o : Nat) : Int) := by omega
  rw [e]
  constructor
  · intro h
    have : ((q.d : Nat) : Int) ≤ ((q.h + t * (q.i - q.o) : Nat) : Int) := by push_cast; exact h
    omega
  · intro h
    have : ((q.d : Nat) : Int) ≤ ((q.h + t * (q.i - q.o) : Nat) : Int) := by omega
    push_cast at this
    exact this
theorem okAt_no {q : Row4} (hi : q.i ≤ q.o) (hd : q.h < q.d) (t : Nat) : ¬ okAt q t := by
  unfold okAt
  intro h
  have h1 : (t : Int) * ((q.i : Int) - q.o) ≤ 0 := Int.mul_nonpos_of_nonneg_of_nonpos (by omega) (by omega)
  omega
/-- a row that does not grow only gets worse -/
theorem okAt_down {q : Row4} (hi : q.i ≤ q.o) {s t : Nat} (hst : s ≤ t) (h : okAt q t) : okAt q s := by
  unfold okAt at *
  have h1 : (t : Int) * ((q.i : Int) - q.o) ≤ (s : Int) * ((q.i : Int) - q.o) := Int.mul_le_mul_of_nonpos_right (by omega) (by omega)
  omega
theorem okAt_grow {q : Row4} (hi : q.o ≤ q.i) {s t : Nat} (hst : s ≤ t) (h : okAt q s) : okAt q t := by
  unfold okAt at *
  have h1 : (s : Int) * ((q.i : Int) - q.o) ≤ (t : Int) * ((q.i : Int) - q.o) := Int.mul_le_mul_of_nonneg_right (by omega) (by omega)
  omega
theorem ffUp_spec : ∀ (rows : List Row4) (f : Nat), match ffUp rows f with
    | none => ∃ q ∈ rows, ∀ t, ¬ okAt q t
    | some g => f ≤ g ∧ ∀ t, (g ≤ t ↔ f ≤ t ∧ ∀ q ∈ rows, q.h < q.d → okAt q t) := by
  intro rows
  induction rows with
  | nil =>
    intro f
    exact ⟨Nat.le_refl _, fun t => ⟨fun h => ⟨h, fun q hq => nomatch hq⟩, fun h => h.1⟩⟩
  | cons q rows ih =>
    intro f
    unfold ffUp
    by_cases hd : q.h < q.d
    · rw [if_pos hd]
      by_cases hi : q.i ≤ q.o
      · rw [if_pos hi]
        exact ⟨q, List.mem_cons_self, okAt_no hi hd⟩
      · rw [if_neg hi]
        have := ih (max f ((q.d - q.h + q.i - q.o - 1) / (q.i - q.o)))
        have hc : ∀ t, (q.d - q.h + q.i - q.o - 1) / (q.i - q.o) ≤ t ↔ okAt q t := fun t => by
          rw [okAt_up (by omega)]
          have e : q.d - q.h + q.i - q.o - 1 = q.d - q.h + (q.i - q.o) - 1 := by omega
          rw [e]
          exact ceil_least hd (by omega)
        cases e : ffUp rows (max f ((q.d - q.h + q.i - q.o - 1) / (q.i - q.o))) with
        | none =>
          rw [e] at this
          obtain ⟨p, hp, h⟩ := this
          exact ⟨p, List.mem_cons_of_mem _ hp, h⟩
        | some g =>
          rw [e] at this
          obtain ⟨h1, h2⟩ := this
          refine ⟨by omega, fun t => ?_⟩
          rw [h2 t]
          constructor
          · rintro ⟨a, b⟩
            refine ⟨by omega, fun p hp hpd => ?_⟩
            rcases List.mem_cons.mp hp with rfl | hp
            · exact (hc t).mp (by omega)
            · exact b p hp hpd
          · rintro ⟨a, b⟩
            have := (hc t).mpr (b q List.mem_cons_self hd)
            exact ⟨by omega, fun p hp hpd => b p (List.mem_cons_of_mem _ hp) hpd⟩
    · rw [if_neg hd]
      have := ih f
      cases e : ffUp rows f with
      | none =>
        rw [e] at this
        obtain ⟨p, hp, h⟩ := this
        exact ⟨p, List.mem_cons_of_mem _ hp, h⟩
      | some g =>
        rw [e] at this
        obtain ⟨h1, h2⟩ := this
        refine ⟨h1, fun t => ?_⟩
        rw [h2 t]
        constructor
        · rintro ⟨a, b⟩
          refine ⟨a, fun p hp hpd => ?_⟩
          rcases List.mem_cons.mp hp with rfl | hp
          · exact absurd hpd hd
          · exact b p hp hpd
        · rintro ⟨a, b⟩
          exact ⟨a, fun p hp hpd => b p (List.mem_cons_of_mem _ hp) hpd⟩
/-- what fits_from tells: the first turn at which all rows are met -/
theorem ffOf_spec (rows : List Row4) : match ffOf rows with
    | none => ∀ t, ¬ ∀ q ∈ rows, okAt q t
    | some g => (∀ q ∈ rows, okAt q g) ∧ ∀ t, t < g → ¬ ∀ q ∈ rows, okAt q t := by
  have h := ffUp_spec rows 0
  unfold ffOf
  cases e : ffUp rows 0 with
  | none =>
    rw [e] at h
    obtain ⟨q, hq, hn⟩ := h
    exact fun t z => hn t (z q hq)
  | some g =>
    rw [e] at h
    obtain ⟨_, h2⟩ := h
    have low : ∀ t, (∀ q ∈ rows, okAt q t) → g ≤ t := fun t z => (h2 t).mpr ⟨Nat.zero_le _, fun q hq _ => z q hq⟩
    dsimp only
    by_cases hall : ∀ q ∈ rows, okAt q g
    · rw [if_pos hall]
      exact ⟨hall, fun t ht z => absurd (low t z) (by omega)⟩
    · rw [if_neg hall]
      intro t z
      apply hall
      intro q hq
      have hgt := low t z
      by_cases hi : q.i ≤ q.o
      · exact okAt_down hi hgt (z q hq)
      · by_cases hd : q.h < q.d
        · exact ((h2 g).mp (Nat.le_refl _)).2 q hq hd
        · refine okAt_grow (s := 0) (by omega) (Nat.zero_le _) ?_
          unfold okAt
          omega
end Fr
namespace Fr
/-! ### turns by one fraction -/
def rowsOf (n u v w : Nat) : List Row4 := (List.range 12).map fun r => ⟨rm n r, rm u r, rm v r, rm w r⟩
/-- the number behind t turns -/
def turnN (n u v t : Nat) : Nat := n / u ^ t * v ^ t
structure Fr1 (u v : Nat) : Prop where
  u0 : 0 < u
  v0 : 0 < v
  lu : left u = 1
  lv : left v = 1
  cop : ∀ r, r < 12 → rm u r = 0 ∨ rm v r = 0
theorem turn_rm {n u v t : Nat} (F : Fr1 u v) (hn : 0 < n) (hl : left n = 1) (h : ∀ r, r < 12 → t * rm u r ≤ rm n r) :
    0 < turnN n u v t ∧ left (turnN n u v t) = 1 ∧ n % u ^ t = 0 ∧ ∀ r, r < 12 → rm (turnN n u v t) r = rm n r - t * rm u r + t * rm v r := by
  have hu := Nat.pow_pos (n := t) F.u0
  have hv := Nat.pow_pos (n := t) F.v0
  have hd : n % u ^ t = 0 := (dvd_rm hu hn (left_pow F.u0 F.lu t) hl).mpr fun r hr => by rw [rm_pow F.u0]; exact h r hr
  have hq : 0 < n / u ^ t := Nat.div_pos (Nat.le_of_dvd hn (Nat.dvd_of_mod_eq_zero hd)) hu
  have hlq : left (n / u ^ t) = 1 := by
    have e : n = u ^ t * (n / u ^ t) := (Nat.mul_div_cancel' (Nat.dvd_of_mod_eq_zero hd)).symm
    have := left_mul hu hq
    rw [← e, hl, left_pow F.u0 F.lu t, Nat.one_mul] at this
    exact this.symm
  refine ⟨Nat.mul_pos hq hv, ?_, hd, fun r hr => ?_⟩
  · unfold turnN
    rw [left_mul hq hv, hlq, left_pow F.v0 F.lv t]
  · unfold turnN
    rw [rm_mul hq hv, div_rm hu hn hd, rm_pow F.u0, rm_pow F.v0]
/-- w divides the number behind t turns, by rows -/
theorem turn_fit {n u v t w : Nat} (F : Fr1 u v) (hn : 0 < n) (hl : left n = 1) (h : ∀ r, r < 12 → t * rm u r ≤ rm n r) (hw : 0 < w) (lw : left w = 1) :
    turnN n u v t % w = 0 ↔ ∀ q ∈ rowsOf n u v w, okAt q t := by
  obtain ⟨a, b, _, c⟩ := turn_rm F hn hl h
  rw [dvd_rm hw a lw b]
  have key : ∀ r, r < 12 → (rm w r ≤ rm (turnN n u v t) r ↔ okAt ⟨rm n r, rm u r, rm v r, rm w r⟩ t) := fun r hr => by
    rw [c r hr]
    unfold okAt
    have hle := h r hr
    have e : ((t : Int) * ((rm v r : Int) - (rm u r : Int))) = ((t * rm v r : Nat) : Int) - ((t * rm u r : Nat) : Int) := by
      push_cast
      rw [Int.mul_sub]
    dsimp only
    rw [e]
    omega
  constructor
  · intro z q hq
    obtain ⟨r, hr, rfl⟩ := List.mem_map.mp hq
    exact (key r (List.mem_range.mp hr)).mp (z r (List.mem_range.mp hr))
  · intro z r hr
    exact (key r hr).mpr (z _ (List.mem_map.mpr ⟨r, List.mem_range.mpr hr, rfl⟩))
theorem turn_succ {n u v t : Nat} (F : Fr1 u v) (hn : 0 < n) (hl : left n = 1) (h : ∀ r, r < 12 → (t + 1) * rm u r ≤ rm n r) : turnN n u v t / u * v = turnN n u v (t + 1) := by
  have h' : ∀ r, r < 12 → t * rm u r ≤ rm n r := fun r hr => by
    have := h r hr
    rw [Nat.succ_mul] at this
    omega
  obtain ⟨a, b, _, c⟩ := turn_rm F hn hl h'
  obtain ⟨a', b', _, c'⟩ := turn_rm F hn hl h
  have hd : turnN n u v t % u = 0 := (dvd_rm F.u0 a F.lu b).mpr fun r hr => by
    rw [c r hr]
    have := h r hr
    rw [Nat.succ_mul] at this
    omega
  have hq : 0 < turnN n u v t / u := Nat.div_pos (Nat.le_of_dvd a (Nat.dvd_of_mod_eq_zero hd)) F.u0
  have hlq : left (turnN n u v t / u) = 1 := by
    have e : turnN n u v t = u * (turnN n u v t / u) := (Nat.mul_div_cancel' (Nat.dvd_of_mod_eq_zero hd)).symm
    have := left_mul F.u0 hq
    rw [← e, b, F.lu, Nat.one_mul] at this
    exact this.symm
  refine num_ext (Nat.mul_pos hq F.v0) a' (by rw [left_mul hq F.v0, hlq, F.lv]) b' fun r hr => ?_
  rw [rm_mul hq F.v0, div_rm F.u0 a hd, c r hr, c' r hr]
  have := h r hr
  rw [Nat.succ_mul] at this
  rw [Nat.succ_mul, Nat.succ_mul]
  omega
/-- how often u can be taken: by the rooms that it takes from -/
def outsOf (n u : Nat) : List Nat := (List.range 12).filterMap fun r => if 0 < rm u r then some (rm n r / rm u r) else none
theorem fits_out {n u v t : Nat} (F : Fr1 u v) : (∀ q ∈ rowsOf n u v u, okAt q t) ↔ ∀ a ∈ outsOf n u, t < a := by
  have key : ∀ r, r < 12 → (okAt ⟨rm n r, rm u r, rm v r, rm u r⟩ t ↔ (0 < rm u r → t < rm n r / rm u r)) := fun r hr => by
    unfold okAt
    dsimp only
    rcases F.cop r hr with e | e
    · rw [e]
      constructor
      · intro _ z
        omega
      · intro _
        have : (0 : Int) ≤ (t : Int) * ((rm v r : Int) - ((0 : Nat) : Int)) := Int.mul_nonneg (by omega) (by omega)
        omega
    · rw [e]
      by_cases h0 : 0 < rm u r
      · have e2 : (t : Int) * (((0 : Nat) : Int) - (rm u r : Int)) = -((t * rm u r : Nat) : Int) := by
          push_cast
          rw [Int.zero_sub, Int.mul_neg]
        rw [e2]
        have e3 : (t < rm n r / rm u r) ↔ (t + 1) * rm u r ≤ rm n r := by
          rw [← Nat.le_div_iff_mul_le h0]
          exact Iff.rfl
        rw [Nat.succ_mul] at e3
        constructor
        · intro z _
          exact e3.mpr (by omega)
        · intro z
          have := e3.mp (z h0)
          omega
      · have : rm u r = 0 := by omega
        rw [this]
        constructor
        · intro _ z
          omega
        · intro _
          simp
  constructor
  · intro z a ha
    obtain ⟨r, hr, e⟩ := List.mem_filterMap.mp ha
    split at e
    · rename_i h0
      cases e
      exact (key r (List.mem_range.mp hr)).mp (z _ (List.mem_map.mpr ⟨r, hr, rfl⟩)) h0
    · cases e
  · intro z q hq
    obtain ⟨r, hr, rfl⟩ := List.mem_map.mp hq
    refine (key r (List.mem_range.mp hr)).mpr fun h0 => z _ (List.mem_filterMap.mpr ⟨r, hr, ?_⟩)
    rw [if_pos h0]
theorem out_le {n u m : Nat} (h : ∀ a ∈ outsOf n u, m ≤ a) : ∀ r, r < 12 → m * rm u r ≤ rm n r := fun r hr => by
  by_cases h0 : 0 < rm u r
  · have := h (rm n r / rm u r) (List.mem_filterMap.mpr ⟨r, List.mem_range.mpr hr, by rw [if_pos h0]⟩)
    exact (Nat.le_div_iff_mul_le h0).mp this
  · have : rm u r = 0 := by omega
    rw [this, Nat.mul_zero]
    exact Nat.zero_le _
end Fr
namespace Fr
/-! ### how many turns a fraction has -/
def someOf (l : Prog) (n i : Nat) : List Nat := outsOf n (unAt l i) ++ (l.take i).filterMap fun p => ffOf (rowsOf n (unAt l i) (upAt l i) p.2)
theorem frac1 {l : Prog} {i : Nat} (hP : isProg l = true) (hi : i < l.length) : Fr1 (unAt l i) (upAt l i) := by
  obtain ⟨f1, f2, f3, f4, f5⟩ := isFrac_iff.mp ((isProg_iff.mp hP).2 _ (List.getElem_mem hi))
  rw [unAt_eq hi, upAt_eq hi]
  have hu := isNum_iff.mp f2
  have hv := isNum_iff.mp f1
  refine ⟨hu.1, hv.1, hu.2.1, hv.2.1, fun r hr => ?_⟩
  by_cases h1 : rm (l[i]).2 r = 0
  · exact .inl h1
  by_cases h2 : rm (l[i]).1 r = 0
  · exact .inr h2
  exfalso
  -- the r-th prime divides both
  have hp := make_pos' ((List.range 12).map fun j => if j = r then 1 else 0)
  have lp := left_mk (f := fun j => if j = r then 1 else 0)
  have d1 : (l[i]).1 % make ((List.range 12).map fun j => if j = r then 1 else 0) = 0 := (dvd_rm hp hv.1 lp hv.2.1).mpr fun j hj => by
    rw [rm_make hj]
    split
    · rename_i e
      rw [e]
      omega
    · exact Nat.zero_le _
  have d2 : (l[i]).2 % make ((List.range 12).map fun j => if j = r then 1 else 0) = 0 := (dvd_rm hp hu.1 lp hu.2.1).mpr fun j hj => by
    rw [rm_make hj]
    split
    · rename_i e
      rw [e]
      omega
    · exact Nat.zero_le _
  have d3 := Nat.dvd_gcd (Nat.dvd_of_mod_eq_zero d1) (Nat.dvd_of_mod_eq_zero d2)
  rw [f5] at d3
  have e1 : make ((List.range 12).map fun j => if j = r then 1 else 0) = 1 := Nat.dvd_one.mp d3
  have e2 := rm_make (f := fun j => if j = r then 1 else 0) hr
  rw [e1, if_pos rfl] at e2
  have e3 := rm_mul (a := 1) (b := 1) (by decide) (by decide) r
  rw [Nat.one_mul] at e3
  omega
theorem times_spec {l : Prog} {n i m : Nat} (hP : isProg l = true) (hn : 0 < n) (hl : left n = 1) (hi : firstAt l n = some i) (hm : m ∈ someOf l n i) (hle : ∀ a ∈ someOf l n i, m ≤ a) :
    0 < m ∧ (∀ t, t < m → firstAt l (turnN n (unAt l i) (upAt l i) t) = some i ∧ led l (turnN n (unAt l i) (upAt l i) t) = some (turnN n (unAt l i) (upAt l i) (t + 1))) ∧ firstAt l (turnN n (unAt l i) (upAt l i) m) ≠ some i ∧
      ∀ t, t ≤ m → ∀ r, r < 12 → t * rm (unAt l i) r ≤ rm n r := by
  have hlt := firstAt_lt hi
  have F := frac1 hP hlt
  have hou : ∀ a ∈ outsOf n (unAt l i), m ≤ a := fun a ha => hle a (List.mem_append_left _ ha)
  have room : ∀ t, t ≤ m → ∀ r, r < 12 → t * rm (unAt l i) r ≤ rm n r := fun t ht r hr => Nat.le_trans (Nat.mul_le_mul_right _ ht) (out_le hou r hr)
  have hnum : ∀ (j : Nat) (hj : j < l.length), 0 < (l[j]).2 ∧ left (l[j]).2 = 1 := fun j hj => by
    obtain ⟨f1, f2, _⟩ := isFrac_iff.mp ((isProg_iff.mp hP).2 _ (List.getElem_mem hj))
    have := isNum_iff.mp f2
    exact ⟨this.1, this.2.1⟩
  have before : ∀ t, t < m → firstAt l (turnN n (unAt l i) (upAt l i) t) = some i := fun t ht => by
    refine firstAt_some hlt ?_ fun j hj hji => ?_
    · rw [← unAt_eq hlt]
      refine (turn_fit F hn hl (room t (by omega)) F.u0 F.lu).mpr ((fits_out F).mpr fun a ha => ?_)
      have := hou a ha
      omega
    · intro z
      have fit := (turn_fit F hn hl (room t (by omega)) (hnum j hj).1 (hnum j hj).2).mp z
      have sp := ffOf_spec (rowsOf n (unAt l i) (upAt l i) (l[j]).2)
      cases e : ffOf (rowsOf n (unAt l i) (upAt l i) (l[j]).2) with
      | none =>
        rw [e] at sp
        exact sp t fit
      | some g =>
        rw [e] at sp
        have hg : g ∈ someOf l n i := by
          refine List.mem_append_right _ (List.mem_filterMap.mpr ⟨l[j], ?_, e⟩)
          rw [List.mem_take_iff_getElem]
          exact ⟨j, by omega, rfl⟩
        have := hle g hg
        exact sp.2 t (by omega) fit
  have behind : firstAt l (turnN n (unAt l i) (upAt l i) m) ≠ some i := fun z => by
    obtain ⟨h1, h2, h3⟩ := firstAt_is z
    rcases List.mem_append.mp hm with hm | hm
    · rw [← unAt_eq hlt] at h2
      have := (fits_out F).mp ((turn_fit F hn hl (room m (Nat.le_refl _)) F.u0 F.lu).mp h2) m hm
      omega
    · obtain ⟨p, hp, e⟩ := List.mem_filterMap.mp hm
      rw [List.mem_take_iff_getElem] at hp
      obtain ⟨j, hj, rfl⟩ := hp
      have hj2 : j < l.length := by omega
      have sp := ffOf_spec (rowsOf n (unAt l i) (upAt l i) (l[j]).2)
      rw [e] at sp
      exact h3 j hj2 (by omega) ((turn_fit F hn hl (room m (Nat.le_refl _)) (hnum j hj2).1 (hnum j hj2).2).mpr sp.1)
  refine ⟨?_, fun t ht => ⟨before t ht, ?_⟩, behind, room⟩
  · rcases Nat.eq_zero_or_pos m with z | z
    · exfalso
      apply behind
      rw [z]
      have : turnN n (unAt l i) (upAt l i) 0 = n := by unfold turnN; rw [Nat.pow_zero, Nat.pow_zero, Nat.div_one, Nat.mul_one]
      rw [this]
      exact hi
    · exact z
  · unfold led
    rw [before t ht]
    show some (turnN n (unAt l i) (upAt l i) t / unAt l i * upAt l i) = _
    rw [turn_succ F hn hl (room (t + 1) ht)]
/-- a room that grows above the bound stays above it -/
theorem great_later {n u v s t : Nat} (F : Fr1 u v) (hn : 0 < n) (hl : left n = 1) (h : ∀ k, k ≤ t → ∀ r, r < 12 → k * rm u r ≤ rm n r) (hb : ∀ r, r < 12 → rm n r ≤ 400) (hst : s ≤ t) {r : Nat} (hr : r < 12) (hg : 400 < rm (turnN n u v s) r) : 400 < rm (turnN n u v t) r := by
  obtain ⟨_, _, _, c1⟩ := turn_rm F hn hl (h s hst)
  obtain ⟨_, _, _, c2⟩ := turn_rm F hn hl (h t (Nat.le_refl _))
  rw [c1 r hr] at hg
  rw [c2 r hr]
  have h0 := hb r hr
  rcases F.cop r hr with e | e
  · rw [e] at hg ⊢
    have := Nat.mul_le_mul_right (rm v r) hst
    omega
  · rw [e] at hg
    omega
/-- no end, by the law's own -/
theorem outs_nil {n u : Nat} (hu : 0 < u) (lu : left u = 1) : outsOf n u = [] ↔ u = 1 := by
  constructor
  · intro h
    refine num_ext hu (by decide) lu ?_ fun r hr => ?_
    · have := left_pow hu lu 0
      rw [Nat.pow_zero] at this
      exact this
    · have e1 : rm 1 r = 0 := by
        have := rm_mul (a := 1) (b := 1) (by decide) (by decide) r
        rw [Nat.one_mul] at this
        omega
      rw [e1]
      rcases Nat.eq_zero_or_pos (rm u r) with z | z
      · exact z
      · have : rm n r / rm u r ∈ outsOf n u := List.mem_filterMap.mpr ⟨r, List.mem_range.mpr hr, by rw [if_pos z]⟩
        rw [h] at this
        cases this
  · rintro rfl
    unfold outsOf
    rw [List.filterMap_eq_nil_iff]
    intro r _
    have e1 : rm 1 r = 0 := by
      have := rm_mul (a := 1) (b := 1) (by decide) (by decide) r
      rw [Nat.one_mul] at this
      omega
    rw [e1]
    rfl
end Fr
namespace Fr
open PySem PySem.Spec PyProof.Rows L2

/-! ### heaps -/
theorem same_new {H : Hp} {p : Addr} {o : HO} (h : H p = none) : Same H (upd H p o) := fun b x e => by
  rw [upd_ne (ne_of_none e h)]
  exact e
/-- what H does not know may change -/
theorem same_put {H H' : Hp} {p : Addr} {o : HO} (s : Same H H') (h : H p = none) : Same H (upd H' p o) := fun b x e => by
  rw [upd_ne (ne_of_none e h)]
  exact s _ _ e
theorem same_tup {K : PySem.W.Frag} {H H' : Hp} {a : Addr} {xs : List V} (e : Same H H') (h : SqT K H a xs) : SqT K H' a xs := by
  rcases h with (h | ⟨o, h⟩) | h
  · exact .inl (.inl (e _ _ h))
  · exact .inl (.inr ⟨o, e _ _ h⟩)
  · exact .inr h
mutual
theorem same_dp {K : PySem.W.Frag} {H H' : Hp} (e : Same H H') : ∀ {d : PyData} {v : V}, Dp K H v d → Dp K H' v d
  | .none, _, .non => .non
  | .bool _, _, .bl b => .bl b
  | .int _, _, .int i => .int i
  | .str _, _, .str x => .str x
  | .list _, _, .lst h a => .lst (e.seq h) (same_dps e a)
  | .tuple _, _, .tup h a => .tup (same_tup e h) (same_dps e a)
theorem same_dps {K : PySem.W.Frag} {H H' : Hp} (e : Same H H') : ∀ {ds : List PyData} {vs : List V}, DpAll K H vs ds → DpAll K H' vs ds
  | [], _, .nil => .nil
  | _ :: _, _, .cons a b => .cons (same_dp e a) (same_dps e b)
end
theorem dps_len {K : PySem.W.Frag} {H : Hp} : ∀ {ds : List PyData} {vs : List V}, DpAll K H vs ds → vs.length = ds.length
  | [], _, .nil => rfl
  | _ :: _, _, .cons _ b => congrArg Nat.succ (dps_len b)
theorem dps_at {K : PySem.W.Frag} {H : Hp} : ∀ {ds : List PyData} {vs : List V} {i : Nat} {d : PyData}, DpAll K H vs ds → ds[i]? = some d → ∃ v, vs[i]? = some v ∧ Dp K H v d
  | [], _, _, _, .nil, h => by simp at h
  | e :: _, _, 0, d, .cons a _, h => by
    have z : e = d := Option.some.inj h
    subst z
    exact ⟨_, rfl, a⟩
  | _ :: _, _, i + 1, d, .cons _ b, h => dps_at (i := i) b h
theorem dps_at2 {K : PySem.W.Frag} {H : Hp} : ∀ {ds : List PyData} {vs : List V} {i : Nat} {v : V}, DpAll K H vs ds → vs[i]? = some v → ∃ d, ds[i]? = some d ∧ Dp K H v d
  | [], _, _, _, .nil, h => by simp at h
  | e :: _, _, 0, d, .cons a _, h => by
    have z := Option.some.inj h
    subst z
    exact ⟨_, rfl, a⟩
  | _ :: _, _, i + 1, d, .cons _ b, h => dps_at2 (i := i) b h
theorem dps_app {K : PySem.W.Frag} {H : Hp} : ∀ {ds es : List PyData} {vs ws : List V}, DpAll K H vs ds → DpAll K H ws es → DpAll K H (vs ++ ws) (ds ++ es)
  | [], _, _, _, .nil, h => h
  | _ :: _, _, _, _, .cons a b, h => .cons a (dps_app b h)
theorem dps_take {K : PySem.W.Frag} {H : Hp} : ∀ {ds : List PyData} {vs : List V} (n : Nat), DpAll K H vs ds → DpAll K H (vs.take n) (ds.take n)
  | _, _, 0, _ => .nil
  | [], _, _ + 1, .nil => .nil
  | _ :: _, _, n + 1, .cons a b => .cons a (dps_take n b)
theorem dps_drop {K : PySem.W.Frag} {H : Hp} : ∀ {ds : List PyData} {vs : List V} (n : Nat), DpAll K H vs ds → DpAll K H (vs.drop n) (ds.drop n)
  | _, _, 0, h => h
  | [], _, _ + 1, .nil => .nil
  | _ :: _, _, n + 1, .cons _ b => dps_drop n b
theorem dps_ints {K : PySem.W.Frag} {H : Hp} : ∀ (ns : List Int), DpAll K H (ns.map V.int) (ns.map PyData.int)
  | [] => .nil
  | n :: ns => .cons (.int n) (dps_ints ns)
theorem dps_of_ints {K : PySem.W.Frag} {H : Hp} : ∀ {ns : List Int} {vs : List V}, DpAll K H vs (ns.map PyData.int) → vs = ns.map V.int
  | [], _, .nil => rfl
  | n :: ns, _, .cons (.int _) b => congrArg (V.int n :: ·) (dps_of_ints b)

/-! ### a def that may be called by its name -/
abbrev ga := He.ga
/-- a def's own datum behind the top -/
def fdOf (K : PySem.W.Frag) (p : Str × Option Str) : FuncData := match K.lookup (He.fAd K p) with
  | some ⟨_, _, .func fd, _⟩ => fd
  | _ => default
abbrev FnP (K : PySem.W.Frag) (x : Str) (st : Stmt) : Prop := FunD K x x (defArgs st) (defBody st) (defScope st) [] [] (ga K x) (fdOf K (x, none))
structure Cal (P : Program) (w : World) (K : PySem.W.Frag) (mg : Str → Option Value) (base : Heap) (CX : CXT) (k : Nat) (x : Str) (ps : List Str) (sp : Sp) : Prop where
  fn : FnOk P w K mg base CX k (ga K x) (fdOf K (x, none)) ps sp
  m : mg x = some (.ref (ga K x))
  kp : PySem.W.keepIn K (.ref (ga K x)) = true
  b : Binds K (fdOf K (x, none)) ps []
def tCal (sp : Sp) (E : XK) (t : TA) : TE := fun σ H Q => t σ H fun vs H1 => sp vs H1 Q E
section
variable {X : Cx} {CX : CXT} {k : Nat} {x : Str} {ps : List Str} {sp : Sp} {E : XK} {p pos : Pos} {e : Expr} {es : List Expr} {t : TA}
theorem pe_cal (C : Cal X.prog X.w X.K X.mg X.base CX k x ps sp) (hr : Room k X.A) (hg : Gl X x) (hx : Passes CX X E) (ha : PA X (e :: es) t) (hdb : (x == ("__debug__" : Str)) = false := by decide)
    (he : starEach (e :: es) X.env = (false, eval e X.env) :: starEach es X.env := by rfl) (hpl : (backTo pos (starEach es X.env)).any (·.1) = false := by rfl) :
    PE X (.Call (.Name x p) (e :: es) [] pos) (tCal sp E t) := by
  have h := pe_call (p := p) (pos := pos) C.fn hr hg C.m C.kp C.b .nil hx ha hdb he hpl
  refine ⟨fun pins s σ H Q I q => h.run pins s σ H Q I ?_⟩
  show t σ H fun vs H1 => sp (vs ++ []) H1 Q E
  simp only [List.append_nil]
  exact q
theorem pe_cal0 (C : Cal X.prog X.w X.K X.mg X.base CX k x ps sp) (hr : Room k X.A) (hg : Gl X x) (hx : Passes CX X E) (hdb : (x == ("__debug__" : Str)) = false := by decide) :
    PE X (.Call (.Name x p) [] [] pos) (tCal sp E tNil) := by
  exact pe_call0 (p := p) (pos := pos) C.fn hr hg C.m C.kp C.b .nil hx hdb
end

/-! ### whole numbers that are not below nought -/
section
variable {X : Cx}
def rN (C : Nat → Nat → Prop) (g : Nat → Nat → V) : R2 := fun x y H Q => ∃ a b : Nat, x = .int a ∧ y = .int b ∧ C a b ∧ Q (g a b) H
def rN0 (g : Nat → Nat → V) : R2 := fun x y H Q => ∃ a b : Nat, x = .int a ∧ y = .int b ∧ Q (g a b) H
theorem opN_mod : OpR X (binaryOp .Mod) (rN (fun _ b => 0 < b) fun a b => .int ((a % b : Nat) : Int)) := by
  intro pins s σ H x y v u Q I rx ry h
  obtain ⟨a, b, rfl, rfl, hb, q⟩ := h
  exact op_mod pins s σ H _ _ v u Q I rx ry ⟨a, b, rfl, rfl, by omega, q⟩
theorem opN_div : OpR X (binaryOp .FloorDiv) (rN (fun _ b => 0 < b ∧ b.log2 < 9000) fun a b => .int ((a / b : Nat) : Int)) := by
  intro pins s σ H x y v u Q I rx ry h
  obtain ⟨a, b, rfl, rfl, ⟨h1, h2⟩, q⟩ := h
  exact op_fdivW pins s σ H _ _ v u Q I rx ry ⟨a, b, rfl, rfl, ⟨by omega, by simpa using h2⟩, q⟩
theorem opN_mul : OpR X (binaryOp .Mult) (rN (fun a b => a.log2 + b.log2 < 1000000) fun a b => .int ((a * b : Nat) : Int)) := by
  intro pins s σ H x y v u Q I rx ry h
  obtain ⟨a, b, rfl, rfl, h1, q⟩ := h
  exact op_mulW pins s σ H _ _ v u Q I rx ry ⟨a, b, rfl, rfl, by simpa [CMulW] using h1, q⟩
theorem opN_add : OpR X (binaryOp .Add) (rN0 fun a b => .int ((a + b : Nat) : Int)) := by
  intro pins s σ H x y v u Q I rx ry h
  obtain ⟨a, b, rfl, rfl, q⟩ := h
  exact op_add pins s σ H _ _ v u Q I rx ry ⟨a, b, rfl, rfl, q⟩
theorem opN_sub : OpR X (binaryOp .Sub) (rN (fun a b => b ≤ a) fun a b => .int ((a - b : Nat) : Int)) := by
  intro pins s σ H x y v u Q I rx ry h
  obtain ⟨a, b, rfl, rfl, h1, q⟩ := h
  refine op_sub pins s σ H _ _ v u Q I rx ry ⟨a, b, rfl, rfl, ?_⟩
  show Q (V.int ((a : Int) - (b : Int))) H
  rw [← Int.ofNat_sub h1]
  exact q
theorem opN_pow : OpR X (binaryOp .Pow) (rN (fun a b => b ≤ 1000000 ∧ a < 2 ^ 64) fun a b => .int ((a ^ b : Nat) : Int)) := by
  intro pins s σ H x y v u Q I rx ry h
  obtain ⟨a, b, rfl, rfl, ⟨h1, h2⟩, q⟩ := h
  refine op_pow pins s σ H _ _ v u Q I rx ry ⟨a, b, rfl, rfl, ⟨by omega, by omega, by simpa using h2⟩, ?_⟩
  show Q (V.int ((a : Int) ^ (b : Int).toNat)) H
  rw [Int.toNat_natCast, ← Int.natCast_pow]
  exact q
theorem opN_eq : OpR X (compareOp .Eq) (rN0 fun a b => .bl (decide (a = b))) := by
  intro pins s σ H x y v u Q I rx ry h
  obtain ⟨a, b, rfl, rfl, q⟩ := h
  refine op_eq pins s σ H _ _ v u Q I rx ry ⟨rfl, ?_⟩
  have e : decide (V.int (a : Int) = V.int (b : Int)) = decide (a = b) := by
    rw [Bool.eq_iff_iff]
    simp
    omega
  rw [e]
  exact q
theorem opN_ne : OpR X (compareOp .NotEq) (rN0 fun a b => .bl (!decide (a = b))) := by
  intro pins s σ H x y v u Q I rx ry h
  obtain ⟨a, b, rfl, rfl, q⟩ := h
  refine op_ne pins s σ H _ _ v u Q I rx ry ⟨rfl, ?_⟩
  have e : decide (V.int (a : Int) = V.int (b : Int)) = decide (a = b) := by
    rw [Bool.eq_iff_iff]
    simp
    omega
  rw [e]
  exact q
theorem opN_lt : OpR X (compareOp .Lt) (rN0 fun a b => .bl (decide (a < b))) := by
  intro pins s σ H x y v u Q I rx ry h
  obtain ⟨a, b, rfl, rfl, q⟩ := h
  refine op_lt pins s σ H _ _ v u Q I rx ry ⟨a, b, rfl, rfl, ?_⟩
  simpa using q
theorem opN_le : OpR X (compareOp .LtE) (rN0 fun a b => .bl (decide (a ≤ b))) := by
  intro pins s σ H x y v u Q I rx ry h
  obtain ⟨a, b, rfl, rfl, q⟩ := h
  refine op_le pins s σ H _ _ v u Q I rx ry ⟨a, b, rfl, rfl, ?_⟩
  simpa using q
theorem opN_gt : OpR X (compareOp .Gt) (rN0 fun a b => .bl (decide (b < a))) := by
  intro pins s σ H x y v u Q I rx ry h
  obtain ⟨a, b, rfl, rfl, q⟩ := h
  refine op_gt pins s σ H _ _ v u Q I rx ry ⟨a, b, rfl, rfl, ?_⟩
  simpa using q
theorem opN_ge : OpR X (compareOp .GtE) (rN0 fun a b => .bl (decide (b ≤ a))) := by
  intro pins s σ H x y v u Q I rx ry h
  obtain ⟨a, b, rfl, rfl, q⟩ := h
  refine op_ge pins s σ H _ _ v u Q I rx ry ⟨a, b, rfl, rfl, ?_⟩
  simpa using q
end

/-! ### isinstance of data -/
def tyD : PyData → String
  | .none => "NoneType"
  | .bool _ => "bool"
  | .int _ => "int"
  | .str _ => "str"
  | .list _ => "list"
  | .tuple _ => "tuple"
  | .dict _ => "dict"
def isD (n : String) (d : PyData) : Bool := (kitB (tyD d) n).getD false
theorem ty_of {K : PySem.W.Frag} {H : Hp} {v : V} {d : PyData} (h : Dp K H v d) : TyX K H v (.type (tyD d)) := by
  cases h with
  | non => exact .base .non
  | bl b => exact .base (.bl b)
  | int i => exact .base (.int i)
  | str x => exact .base (.str x)
  | lst h _ =>
    rcases h with (h | ⟨o, h⟩) | ⟨o, its, n, h, hc, _⟩
    · exact .base (.lst h)
    · exact .base (.frz h)
    · exact .kList h hc
  | tup h _ =>
    rcases h with (h | ⟨o, h⟩) | ⟨o, its, n, h, hc, _⟩
    · exact .base (.tup h)
    · exact .fTuple h
    · exact .kTuple h hc
def rIsD (K : PySem.W.Frag) (n : String) : List V → Hp → VK → Prop := fun xs H Q => ∃ (v : V) (d : PyData), xs = [v, .ty n] ∧ Dp K H v d ∧ Q (.bl (isD n d)) H
theorem kit_isD {n : String} (hk : (["NoneType", "bool", "int", "str", "list", "tuple"].all fun t => (kitB t n).isSome) = true) (d : PyData) (hd : ∀ z, d ≠ .dict z) : kitB (tyD d) n = some (isD n d) := by
  simp only [List.all_cons, List.all_nil, Bool.and_true, Bool.and_eq_true] at hk
  obtain ⟨h1, h2, h3, h4, h5, h6⟩ := hk
  have key : ∀ t : String, (kitB t n).isSome = true → kitB t n = some ((kitB t n).getD false) := fun t h => by
    cases e : kitB t n with
    | none =>
      rw [e] at h
      cases h
    | some b => rfl
  cases d with
  | none => exact key _ h1
  | bool _ => exact key _ h2
  | int _ => exact key _ h3
  | str _ => exact key _ h4
  | list _ => exact key _ h5
  | tuple _ => exact key _ h6
  | dict z => exact absurd rfl (hd z)
theorem call_isD {X : Cx} (n : String) (hk : (["NoneType", "bool", "int", "str", "list", "tuple"].all fun t => (kitB t n).isSome) = true) : CallR X (.builtin "isinstance") (rIsD X.K n) := by
  intro pins s σ H xs us Q I r h
  obtain ⟨v, d, rfl, hd, q⟩ := h
  exact call_isi pins s σ H _ us Q I r ⟨v, .ty n, _, _, isD n d, rfl, .ty n, ty_of hd, kit_ty (kit_isD hk d fun z e => by rw [e] at hd; cases hd), q⟩
theorem isK_int : (["NoneType", "bool", "int", "str", "list", "tuple"].all fun t => (kitB t "int").isSome) = true := by decide +kernel
theorem isK_bool : (["NoneType", "bool", "int", "str", "list", "tuple"].all fun t => (kitB t "bool").isSome) = true := by decide +kernel
theorem isK_str : (["NoneType", "bool", "int", "str", "list", "tuple"].all fun t => (kitB t "str").isSome) = true := by decide +kernel
theorem isK_list : (["NoneType", "bool", "int", "str", "list", "tuple"].all fun t => (kitB t "list").isSome) = true := by decide +kernel
theorem isK_tuple : (["NoneType", "bool", "int", "str", "list", "tuple"].all fun t => (kitB t "tuple").isSome) = true := by decide +kernel
def isIntD : PyData → Bool
  | .bool _ => true
  | .int _ => true
  | _ => false
def isBoolD : PyData → Bool
  | .bool _ => true
  | _ => false
def isStrD : PyData → Bool
  | .str _ => true
  | _ => false
def isListD : PyData → Bool
  | .list _ => true
  | _ => false
def isTupleD : PyData → Bool
  | .tuple _ => true
  | _ => false
theorem isD_int {K : PySem.W.Frag} {H : Hp} {v : V} {d : PyData} (h : Dp K H v d) : isD "int" d = isIntD d := by
  cases h <;> (simp only [isD, tyD, isIntD]; decide +kernel)
theorem isD_bool {K : PySem.W.Frag} {H : Hp} {v : V} {d : PyData} (h : Dp K H v d) : isD "bool" d = isBoolD d := by
  cases h <;> (simp only [isD, tyD, isBoolD]; decide +kernel)
theorem isD_str {K : PySem.W.Frag} {H : Hp} {v : V} {d : PyData} (h : Dp K H v d) : isD "str" d = isStrD d := by
  cases h <;> (simp only [isD, tyD, isStrD]; decide +kernel)
theorem isD_list {K : PySem.W.Frag} {H : Hp} {v : V} {d : PyData} (h : Dp K H v d) : isD "list" d = isListD d := by
  cases h <;> (simp only [isD, tyD, isListD]; decide +kernel)
theorem isD_tuple {K : PySem.W.Frag} {H : Hp} {v : V} {d : PyData} (h : Dp K H v d) : isD "tuple" d = isTupleD d := by
  cases h <;> (simp only [isD, tyD, isTupleD]; decide +kernel)
def rIs (K : PySem.W.Frag) (n : String) (f : PyData → Bool) : List V → Hp → VK → Prop := fun xs H Q => ∃ (v : V) (d : PyData), xs = [v, .ty n] ∧ Dp K H v d ∧ Q (.bl (f d)) H
section
variable {X : Cx}
theorem call_is {n : String} {f : PyData → Bool} (hk : (["NoneType", "bool", "int", "str", "list", "tuple"].all fun t => (kitB t n).isSome) = true) (he : ∀ {H : Hp} {v : V} {d : PyData}, Dp X.K H v d → isD n d = f d) :
    CallR X (.builtin "isinstance") (rIs X.K n f) := by
  intro pins s σ H xs us Q I r h
  obtain ⟨v, d, rfl, hd, q⟩ := h
  rw [← he hd] at q
  exact call_isD n hk pins s σ H _ us Q I r ⟨v, d, rfl, hd, q⟩
theorem is_int : CallR X (.builtin "isinstance") (rIs X.K "int" isIntD) := call_is isK_int isD_int
theorem is_bool : CallR X (.builtin "isinstance") (rIs X.K "bool" isBoolD) := call_is isK_bool isD_bool
theorem is_str : CallR X (.builtin "isinstance") (rIs X.K "str" isStrD) := call_is isK_str isD_str
theorem is_list : CallR X (.builtin "isinstance") (rIs X.K "list" isListD) := call_is isK_list isD_list
theorem is_tuple : CallR X (.builtin "isinstance") (rIs X.K "tuple" isTupleD) := call_is isK_tuple isD_tuple
end
end Fr
namespace Fr
open PySem PySem.Spec PyProof.Rows L2
abbrev nI (a : Nat) : V := .int (a : Int)
abbrev nD (a : Nat) : PyData := .int (a : Int)
/-! ### data without lists stand, though a list changes -/
mutual
def noL : PyData → Bool
  | .list _ => false
  | .dict _ => false
  | .tuple ds => noLs ds
  | _ => true
def noLs : List PyData → Bool
  | [] => true
  | d :: ds => noL d && noLs ds
end
theorem sqt_upd {K : PySem.W.Frag} {H : Hp} {D b : Addr} {ys zs xs : List V} (hD : H D = some (.lst ys)) (h : SqT K H b xs) : SqT K (upd H D (.lst zs)) b xs := by
  rcases h with (h | ⟨o, h⟩) | h
  · have n : b ≠ D := ne_of h hD (by intro z; cases z)
    exact .inl (.inl (by rw [upd_ne n]; exact h))
  · have n : b ≠ D := ne_of h hD (by intro z; cases z)
    exact .inl (.inr ⟨o, by rw [upd_ne n]; exact h⟩)
  · exact .inr h
mutual
theorem dp_upd {K : PySem.W.Frag} {H : Hp} {D : Addr} {ys zs : List V} (hD : H D = some (.lst ys)) : ∀ {d : PyData} {v : V}, noL d = true → Dp K H v d → Dp K (upd H D (.lst zs)) v d
  | .none, _, _, .non => .non
  | .bool _, _, _, .bl b => .bl b
  | .int _, _, _, .int i => .int i
  | .str _, _, _, .str x => .str x
  | .list _, _, h, _ => by simp [noL] at h
  | .tuple ds, _, h, .tup t a => .tup (sqt_upd hD t) (dps_upd hD (by simpa [noL] using h) a)
theorem dps_upd {K : PySem.W.Frag} {H : Hp} {D : Addr} {ys zs : List V} (hD : H D = some (.lst ys)) : ∀ {ds : List PyData} {vs : List V}, noLs ds = true → DpAll K H vs ds → DpAll K (upd H D (.lst zs)) vs ds
  | [], _, _, .nil => .nil
  | d :: ds, _, h, .cons a b => by
    have h2 : noL d = true ∧ noLs ds = true := by simpa [noLs] using h
    exact .cons (dp_upd hD h2.1 a) (dps_upd hD h2.2 b)
end
theorem noLs_app : ∀ (ds es : List PyData), noLs (ds ++ es) = (noLs ds && noLs es)
  | [], es => by simp [noLs]
  | d :: ds, es => by
    show (noL d && noLs (ds ++ es)) = (noL d && noLs ds && noLs es)
    rw [noLs_app ds es, Bool.and_assoc]
theorem noLs_of : ∀ {ds : List PyData}, (∀ d ∈ ds, noL d = true) → noLs ds = true
  | [], _ => by simp [noLs]
  | d :: ds, h => by
    simp only [noLs, Bool.and_eq_true]
    exact ⟨h d List.mem_cons_self, noLs_of fun e he => h e (List.mem_cons_of_mem _ he)⟩
/-! ### comprehensions -/
/-- what turns below i gave -/
def gath (F : Nat → Option PyData) (i : Nat) : List PyData := (List.range i).filterMap F
theorem gath_zero (F : Nat → Option PyData) : gath F 0 = [] := rfl
theorem gath_yes {F : Nat → Option PyData} {i : Nat} {d : PyData} (h : F i = some d) : gath F (i + 1) = gath F i ++ [d] := by
  unfold gath
  rw [List.range_succ, List.filterMap_append]
  simp [h]
theorem gath_no {F : Nat → Option PyData} {i : Nat} (h : F i = none) : gath F (i + 1) = gath F i := by
  unfold gath
  rw [List.range_succ, List.filterMap_append]
  simp [h]
theorem gath_len (F : Nat → Option PyData) (i : Nat) : (gath F i).length ≤ i := by
  unfold gath
  have h := List.length_filterMap_le F (List.range i)
  rw [List.length_range] at h
  exact h
theorem gath_noL {F : Nat → Option PyData} (hF : ∀ i d, F i = some d → noL d = true) (i : Nat) : noLs (gath F i) = true := by
  refine noLs_of fun d hd => ?_
  obtain ⟨j, _, e⟩ := List.mem_filterMap.mp hd
  exact hF j d e
theorem gath_mapI {α : Type} (l : List α) (g : Nat → α → Option PyData) : gath (fun i => l[i]?.bind (g i)) l.length = l.zipIdx.filterMap fun p => g p.2 p.1 := by
  unfold gath
  have e : l.zipIdx = (List.range l.length).filterMap fun i => l[i]?.map fun x => (x, i) := by
    refine List.ext_getElem? fun k => ?_
    have key : ∀ n, n ≤ l.length → ((List.range n).filterMap fun i => l[i]?.map fun x => (x, i)) = (l.zipIdx).take n := by
      intro n
      induction n with
      | zero => intro _; rfl
      | succ n ih =>
        intro hn
        have hlt : n < l.length := by omega
        rw [List.range_succ, List.filterMap_append, ih (by omega), List.take_add_one]
        congr 1
        simp [hlt]
    rw [key l.length (Nat.le_refl _), List.take_of_length_le (by simp)]
  rw [e, List.filterMap_filterMap]
  congr 1
  funext i
  cases l[i]? <;> rfl
theorem gath_map {α : Type} (l : List α) (g : α → PyData) : gath (fun i => l[i]?.map g) l.length = l.map g := by
  have h := gath_mapI l fun _ x => some (g x)
  have e1 : (fun (i : Nat) => l[i]?.bind fun x => some (g x)) = fun (i : Nat) => l[i]?.map g := by
    funext i
    cases l[i]? <;> rfl
  rw [e1] at h
  rw [h]
  have e3 : l.zipIdx.filterMap (fun p => some (g p.1)) = l.zipIdx.map (fun p => g p.1) := congrFun List.filterMap_eq_map' _
  rw [e3]
  have e2 : (l.zipIdx.map fun p => g p.1) = (l.zipIdx.map Prod.fst).map g := by rw [List.map_map]; rfl
  exact e2.trans (by rw [List.zipIdx_map_fst])
theorem gath_filter {α : Type} (l : List α) (g : α → Option PyData) : gath (fun i => l[i]?.bind g) l.length = l.filterMap g := by
  have h := gath_mapI l fun _ x => g x
  rw [h]
  have e2 : (l.zipIdx.filterMap fun p => g p.1) = (l.zipIdx.map Prod.fst).filterMap g := by rw [List.filterMap_map]; rfl
  exact e2.trans (by rw [List.zipIdx_map_fst])
theorem gath_range {n : Nat} (g : Nat → Option PyData) : gath g n = (List.range n).filterMap g := rfl
/-- a comprehension whose items are data without lists -/
theorem lc_dp {K : PySem.W.Frag} {J : It} {n : Nat} {G : Hp → Prop} {Y : Nat → Hp → V → Hp → Prop} (w : Walk J n G Y) {g : TG} {tt : TT} {te : TE} {vs : List Nat} {σ : L2.St} {H1 : Hp} {D : Addr} {Qd : Hp → Prop}
    (hD : H1 D = none) (hn : n ≤ 100000) (hG : ∀ H', Same H1 H' → G H') (F : Nat → Option PyData) (hF : ∀ i d, F i = some d → noL d = true)
    (hs : ∀ i x H' H'' (A : V → Hp → Prop) (B : Hp → Prop), i < n → Same H1 H' → Y i H' x H'' → (∀ y d H4, F i = some d → Same H' H4 → Dp K H4 y d → A y H4) → (F i = none → ∀ H3, Same H' H3 → B H3) →
      g x (wipe σ vs) H'' fun σ2 H2 => wipe σ2 vs = wipe σ vs ∧ tt σ2 H2 fun b H3 => if b = true then te σ2 H3 A else B H3)
    (hd : ∀ H' ys, Same H1 H' → H' D = some (.lst ys) → DpAll K H' ys (gath F n) → Qd H') :
    ∃ W : Nat → Nat → Hp → Prop, (∃ m, W 0 m (upd H1 D (.lst []))) ∧ ∀ i m H, W i m H →
      (J.stop i H ∧ Qd H) ∨ (J.go i H ∧ ∃ Nx : Hp → Prop, (∀ H', Nx H' → ∃ m', m' < m ∧ W (i + 1) m' H') ∧ ∀ x H', J.yld i H x H' → g x (wipe σ vs) H' fun σ2 H2 => wipe σ2 vs = wipe σ vs ∧ tt σ2 H2 fun b H3 =>
        if b = true then te σ2 H3 fun y H4 => ∃ acc, H4 D = some (.lst acc) ∧ acc.length < sizeLine ∧ Nx (upd H4 D (.lst (acc ++ [y]))) else Nx H3) := by
  refine lc_it w (fun i H' => Same H1 H' ∧ ∃ ys, H' D = some (.lst ys) ∧ DpAll K H' ys (gath F i)) ⟨same_new hD, [], upd_same, .nil⟩ (fun i H' _ p => hG H' p.1) (fun i x H' H'' hi p hY => ?_) (fun H' p => ?_)
  · obtain ⟨sm, ys, hy, hA⟩ := p
    refine hs i x H' H'' _ _ hi sm hY (fun y d H4 hFi s4 hdp => ?_) (fun hFi H3 s3 => ?_)
    · refine ⟨ys, s4 _ _ hy, ?_, ?_, ys ++ [y], upd_same, ?_⟩
      · have h1 := gath_len F i
        have h2 := dps_len hA
        exact Nat.lt_of_lt_of_le (show ys.length < 100000 by omega) (by decide)
      · exact same_put (sm.trans s4) hD
      · rw [gath_yes hFi]
        exact dps_app (dps_upd (s4 _ _ hy) (gath_noL hF i) (same_dps s4 hA)) (.cons (dp_upd (s4 _ _ hy) (hF i d hFi) hdp) .nil)
    · exact ⟨sm.trans s3, ys, s3 _ _ hy, by rw [gath_no hFi]; exact same_dps s3 hA⟩
  · obtain ⟨sm, ys, hy, hA⟩ := p
    exact hd H' ys sm hy hA
/-! ### the data of bools, of ints -/
theorem dps_bools {K : PySem.W.Frag} {H : Hp} : ∀ {bs : List Bool} {vs : List V}, DpAll K H vs (bs.map PyData.bool) → vs = bs.map V.bl
  | [], _, .nil => rfl
  | b :: bs, _, .cons (.bl _) t => congrArg (V.bl b :: ·) (dps_bools t)
theorem dps_nats {K : PySem.W.Frag} {H : Hp} : ∀ {ns : List Nat} {vs : List V}, DpAll K H vs (ns.map nD) → vs = ns.map nI
  | [], _, .nil => rfl
  | n :: ns, _, .cons (.int _) t => congrArg (nI n :: ·) (dps_nats t)
theorem dps_nats' {K : PySem.W.Frag} {H : Hp} : ∀ (ns : List Nat), DpAll K H (ns.map nI) (ns.map nD)
  | [] => .nil
  | n :: ns => .cons (.int _) (dps_nats' ns)
theorem nI_map (ns : List Nat) : ns.map nI = (ns.map fun (a : Nat) => (a : Int)).map V.int := by
  rw [List.map_map]
  rfl
/-! ### max of a tuple of whole numbers -/
def maxN : List Nat → Nat
  | [] => 0
  | a :: as => max a (maxN as)
theorem maxN_mem : ∀ {as : List Nat}, as ≠ [] → maxN as ∈ as
  | [], h => absurd rfl h
  | [a], _ => by simp [maxN]
  | a :: b :: as, _ => by
    have ih := maxN_mem (as := b :: as) (by simp)
    show max a (maxN (b :: as)) ∈ a :: b :: as
    rcases Nat.le_total a (maxN (b :: as)) with h | h
    · rw [Nat.max_eq_right h]
      exact List.mem_cons_of_mem _ ih
    · rw [Nat.max_eq_left h]
      exact List.mem_cons_self
theorem maxN_le : ∀ {as : List Nat} {a : Nat}, a ∈ as → a ≤ maxN as
  | b :: as, a, h => by
    rcases List.mem_cons.mp h with e | e
    · rw [e]
      exact Nat.le_max_left _ _
    · exact Nat.le_trans (maxN_le e) (Nat.le_max_right _ _)
theorem maxN_uniq {as : List Nat} {m : Nat} (h : m ∈ as) (hm : ∀ a ∈ as, a ≤ m) : m = maxN as :=
  Nat.le_antisymm (maxN_le h) (hm _ (maxN_mem (List.ne_nil_of_mem h)))
def rMaxT (K : PySem.W.Frag) : List V → Hp → VK → Prop := fun vs H Q => ∃ (a : Addr) (ns : List Nat), vs = [V.ref a] ∧ SqT K H a (ns.map nI) ∧ ns ≠ [] ∧ Q (nI (maxN ns)) H
theorem reads_int {h : Heap} {v : Value} {i : Int} {as : List Addr} (r : Reads h v (.int i) as) : ∃ t, v = .int i t := by
  cases r
  exact ⟨_, rfl⟩
theorem foldl_max : ∀ (ns : List Nat) (n : Nat), (ns.map fun (a : Nat) => (a : Int)).foldl max (n : Int) = ((max n (maxN ns) : Nat) : Int)
  | [], n => by simp [maxN]
  | a :: as, n => by
    show (as.map fun (a : Nat) => (a : Int)).foldl max (max (n : Int) (a : Int)) = _
    have e : max (n : Int) (a : Int) = ((max n a : Nat) : Int) := by omega
    rw [e, foldl_max as]
    show ((max (max n a) (maxN as) : Nat) : Int) = ((max n (max a (maxN as)) : Nat) : Int)
    rw [Nat.max_assoc]
theorem depth_ints : ∀ ns : List Int, PyData.depthAll (ns.map PyData.int) = 0
  | [] => by simp [PyData.depthAll]
  | n :: ns => by simp [PyData.depthAll, PyData.depth, depth_ints ns]
theorem alike_ints (ns : List Int) : PySem.W.AlikeAll (ns.map PyData.int) := by
  refine ⟨fun x hx y hy => ?_, fun x hx => ?_⟩
  · obtain ⟨i, _, rfl⟩ := List.mem_map.mp hx
    obtain ⟨j, _, rfl⟩ := List.mem_map.mp hy
    simp only [PySem.W.alike]
  · obtain ⟨i, _, rfl⟩ := List.mem_map.mp hx
    intro z
    cases z
theorem cr_maxT {X : Cx} (hc : X.calm = true) (hu : X.A.units + 1 < cLine) : CallR X (.builtin "max") (rMaxT X.K) := by
  intro pins s σ H vs us Q I r h
  obtain ⟨a, ns, rfl, hs, hne, q⟩ := h
  obtain ⟨its, rv, hl, _⟩ := I.tuple hs
  rw [Vals.ref1 r]
  cases ns with
  | nil => exact absurd rfl hne
  | cons n ns =>
    have hdp : DpAll X.K H ((n :: ns).map nI) (PyData.int (n : Int) :: (ns.map fun (a : Nat) => (a : Int)).map PyData.int) := by
      have h := dps_nats' (K := X.K) (H := H) (n :: ns)
      have e : (n :: ns).map nD = PyData.int (n : Int) :: (ns.map fun (a : Nat) => (a : Int)).map PyData.int := by
        rw [List.map_map]
        rfl
      rw [e] at h
      exact h
    obtain ⟨as, hr⟩ := Dp.readsAll I _ _ its hdp rv
    have ha := alike_ints ((n : Int) :: ns.map fun (a : Nat) => (a : Int))
    have hdep := depth_ints ((n : Int) :: ns.map fun (a : Nat) => (a : Int))
    refine PySem.W.max_tuple_data (I.ok.hd hc) (show s.heap.IsTuple a its.toArray from hl) (x := .int (n : Int)) (xs := (ns.map fun (a : Nat) => (a : Int)).map PyData.int) (by simpa using hr) ha (by rw [show PyData.depthAll (PyData.int (n : Int) :: (ns.map fun (a : Nat) => (a : Int)).map PyData.int) = 0 from hdep]; omega) fun i v h' tk bs hi r hk => ?_
    rw [PySem.W.maxD_ints, foldl_max] at r
    obtain ⟨t, rfl⟩ := reads_int r
    exact ⟨nI (maxN (n :: ns)), H, I.kept hk, ⟨t, rfl⟩, q⟩
/-! ### the rules over a named K (within a comprehension the context's own is told by its letter) -/
section
variable {X : Cx} {K : PySem.W.Frag}
theorem ixL (e : X.K = K)  : IxR X (rIxL K) := by
  subst e
  exact ix_list
theorem ixT (e : X.K = K)  : IxR X (rIxT K) := by
  subst e
  exact ix_tup
theorem ixA (e : X.K = K)  : IxR X (rIx K) := by
  subst e
  exact ix_seq
theorem slL (e : X.K = K)  : SlR X (rSlL K) := by
  subst e
  exact sl_list
theorem slT (e : X.K = K)  : SlR X (rSlA K) := by
  subst e
  exact sl_tupA
theorem inS (e : X.K = K)  : OpR X (compareOp .In) (rIn K false) := by
  subst e
  exact op_in_seq
theorem ninS (e : X.K = K)  : OpR X (compareOp .NotIn) (rIn K true) := by
  subst e
  exact op_notIn_seq
theorem eqD (e : X.K = K) (hu : X.A.units + 64 < cLine) : OpR X (compareOp .Eq) (rEqD K) := by
  subst e
  exact op_eqD hu
theorem neD (e : X.K = K) (hu : X.A.units + 64 < cLine) : OpR X (compareOp .NotEq) (rNeD K) := by
  subst e
  exact op_neD hu
theorem inD (e : X.K = K) (hu : X.A.units + 65 < cLine) : OpR X (compareOp .In) (rInD K) := by
  subst e
  exact op_inD hu
theorem catT (e : X.K = K)  : OpR X (binaryOp .Add) (rCatA K) := by
  subst e
  exact op_catA
theorem repT (e : X.K = K)  : OpR X (binaryOp .Mult) (rRepT K) := by
  subst e
  exact op_repT
theorem lenS (e : X.K = K)  : CallR X (.builtin "len") (fun xs H Q => ∃ p ys, xs = [.ref p] ∧ (SqL K H p ys ∨ SqT K H p ys) ∧ Q (.int ys.length) H) := by
  subst e
  exact call_len_seq
theorem listOf (e : X.K = K)  : CallR X (.type "list") (fun xs H Q => ∃ p ys, xs = [.ref p] ∧ (SqL K H p ys ∨ SqT K H p ys) ∧ ∀ l, H l = none → Q (.ref l) (upd H l (.lst ys))) := by
  subst e
  exact call_list_of
theorem tupleOf (e : X.K = K)  : CallR X (.type "tuple") (fun xs H Q => ∃ p ys, xs = [.ref p] ∧ ((SqL K H p ys ∧ ∀ l, H l = none → Q (.ref l) (upd H l (.tup ys))) ∨ (SqT K H p ys ∧ Q (.ref p) H))) := by
  subst e
  exact call_tuple_of
theorem isInt (e : X.K = K)  : CallR X (.builtin "isinstance") (rIs K "int" isIntD) := by
  subst e
  exact is_int
theorem isBool (e : X.K = K)  : CallR X (.builtin "isinstance") (rIs K "bool" isBoolD) := by
  subst e
  exact is_bool
theorem isStr (e : X.K = K)  : CallR X (.builtin "isinstance") (rIs K "str" isStrD) := by
  subst e
  exact is_str
theorem isList (e : X.K = K)  : CallR X (.builtin "isinstance") (rIs K "list" isListD) := by
  subst e
  exact is_list
theorem isTuple (e : X.K = K)  : CallR X (.builtin "isinstance") (rIs K "tuple" isTupleD) := by
  subst e
  exact is_tuple
theorem crAll (e : X.K = K) (hc : X.calm = true) : CallR X (.builtin "all") (rAll K) := by
  subst e
  exact cr_all hc
theorem crAny (e : X.K = K) (hc : X.calm = true) : CallR X (.builtin "any") (rAny K) := by
  subst e
  exact cr_any hc
theorem crSum (e : X.K = K) (hc : X.calm = true) : CallR X (.builtin "sum") (rSum K) := by
  subst e
  exact cr_sum hc
theorem crMax (e : X.K = K) (hc : X.calm = true) : CallR X (.builtin "max") (rMax K) := by
  subst e
  exact cr_max hc
theorem crMin (e : X.K = K) (hc : X.calm = true) : CallR X (.builtin "min") (rMin K) := by
  subst e
  exact cr_min hc
theorem crMaxT (e : X.K = K) (hc : X.calm = true) (hu : X.A.units + 1 < cLine) : CallR X (.builtin "max") (rMaxT K) := by
  subst e
  exact cr_maxT hc hu
theorem pgT {es : List Expr} {k n : Nat} {t : TGs} {pos : Pos} (e : X.K = K) (hc : X.calm = true) (h : PGs X es t) (hn : (assignEach es X.env).length = n := by rfl) (hst : (assignEach es X.env).findIdx? (·.1) = none := by rfl) : PG X (.Tuple es k pos) (gTup K n t) := by
  subst e
  exact pg_tup hc h hn hst
theorem piL {tg a : Expr} {ta : TE} (e : X.K = K) (ha : PE X a ta) : PI X tg a (iList K ta) := by
  subst e
  exact pi_list ha
theorem piT {tg a : Expr} {ta : TE} (e : X.K = K) (ha : PE X a ta) : PI X tg a (iTup K ta) := by
  subst e
  exact pi_tup ha
theorem piE {a : Expr} {ta : TA} {p pos tpos : Pos} {elts : List Expr} {kk : Nat} (e : X.K = K) (hg : Gl X "enumerate") (hm : X.mg "enumerate" = none) (ha : PA X [a] ta) (hs : starEach [a] X.env = [(false, eval a X.env)] := by rfl) :
    PI X (.Tuple elts kk tpos) (.Call (.Name "enumerate" p) [a] [] pos) (iEnum K ta) := by
  subst e
  exact pi_enum hg hm ha hs
theorem bm {o a : Expr} {es : List Expr} {to : TE} {t : TA} {name : Str} {apos cpos : Pos} {T id : String} {r : V → List V → Hp → VK → Prop} (e : X.K = K) (pa : PlainAttrs T) (slot : Slot T name id) (hty : typeOf (.builtin id) = pure (.type "method_descriptor")) (hm : MtR X id r) (ho : PE X o to) (ha : PA X (a :: es) t)
    (hbase : attributeBase o name X.env (eval o X.env) = eval o X.env := by rfl)
    (hfew : ((backTo cpos (starEach (a :: es) X.env)).all (fun x => !x.1) && (backToKw cpos (keywordEach [] X.env)).all (fun x => x.1.isSome)
      && decide ((a :: es).length + ([] : List Keyword).length + (if ([] : List Keyword).isEmpty then 0 else 1) < 30)) = true := by rfl)
    (hline : (apos.endLine == cpos.line) = true := by rfl) (h1 : starEach (a :: es) X.env = (false, eval a X.env) :: starEach es X.env := by rfl) (h2 : (backTo cpos (starEach es X.env)).any (·.1) = false := by rfl) : PE X (.Call (.Attribute o name apos) (a :: es) [] cpos) (tBM K T r to t) := by
  subst e
  exact pe_bm pa slot hty hm ho ha hbase hfew hline h1 h2
theorem bm0 {o : Expr} {to : TE} {name : Str} {apos cpos : Pos} {T id : String} {r : V → List V → Hp → VK → Prop} (e : X.K = K) (pa : PlainAttrs T) (slot : Slot T name id) (hty : typeOf (.builtin id) = pure (.type "method_descriptor")) (hm : MtR X id r) (ho : PE X o to)
    (hbase : attributeBase o name X.env (eval o X.env) = eval o X.env := by rfl) (hline : (apos.endLine == cpos.line) = true := by rfl) : PE X (.Call (.Attribute o name apos) [] [] cpos) (tBM0 K T r to) := by
  subst e
  exact pe_bm0 pa slot hty hm ho hbase hline
end
theorem walk_nats {n : Nat} : Walk (Itr 0 n) n (fun _ => True) (YFn nI) := walk_range.mono (fun _ h => h) fun i H x H' _ _ y => ⟨y.1, y.2.trans (congrArg V.int (Int.zero_add _))⟩
end Fr
namespace Fr
open PySem PySem.Spec PyProof.Rows L2
/-- a comprehension whose items are some data of a kind, without lists -/
theorem lc_ex {K : PySem.W.Frag} {J : It} {n : Nat} {G : Hp → Prop} {Y : Nat → Hp → V → Hp → Prop} (w : Walk J n G Y) {g : TG} {tt : TT} {te : TE} {vs : List Nat} {σ : L2.St} {H1 : Hp} {D : Addr} {Qd : Hp → Prop}
    (hD : H1 D = none) (hn : n ≤ 100000) (hG : ∀ H', Same H1 H' → G H') (S : PyData → Prop) (hS : ∀ d, S d → noL d = true)
    (hs : ∀ i x H' H'' (A : V → Hp → Prop) (B : Hp → Prop), i < n → Same H1 H' → Y i H' x H'' → (∀ y d H4, S d → Same H' H4 → Dp K H4 y d → A y H4) → (∀ H3, Same H' H3 → B H3) →
      g x (wipe σ vs) H'' fun σ2 H2 => wipe σ2 vs = wipe σ vs ∧ tt σ2 H2 fun b H3 => if b = true then te σ2 H3 A else B H3)
    (hd : ∀ H' ys ds, Same H1 H' → H' D = some (.lst ys) → DpAll K H' ys ds → (∀ d ∈ ds, S d) → ds.length ≤ n → Qd H') :
    ∃ W : Nat → Nat → Hp → Prop, (∃ m, W 0 m (upd H1 D (.lst []))) ∧ ∀ i m H, W i m H →
      (J.stop i H ∧ Qd H) ∨ (J.go i H ∧ ∃ Nx : Hp → Prop, (∀ H', Nx H' → ∃ m', m' < m ∧ W (i + 1) m' H') ∧ ∀ x H', J.yld i H x H' → g x (wipe σ vs) H' fun σ2 H2 => wipe σ2 vs = wipe σ vs ∧ tt σ2 H2 fun b H3 =>
        if b = true then te σ2 H3 fun y H4 => ∃ acc, H4 D = some (.lst acc) ∧ acc.length < sizeLine ∧ Nx (upd H4 D (.lst (acc ++ [y]))) else Nx H3) := by
  refine lc_it w (fun i H' => Same H1 H' ∧ i ≤ n ∧ ∃ ys ds, H' D = some (.lst ys) ∧ DpAll K H' ys ds ∧ (∀ d ∈ ds, S d) ∧ ds.length ≤ i) ⟨same_new hD, Nat.zero_le _, [], [], upd_same, .nil, fun d h => (nomatch h), Nat.le_refl _⟩ (fun i H' _ p => hG H' p.1) (fun i x H' H'' hi p hY => ?_) (fun H' p => ?_)
  · obtain ⟨sm, hin, ys, ds, hy, hA, hAS, hl⟩ := p
    refine hs i x H' H'' _ _ hi sm hY (fun y d H4 hSd s4 hdp => ?_) (fun H3 s3 => ?_)
    · refine ⟨ys, s4 _ _ hy, ?_, ?_, by omega, ys ++ [y], ds ++ [d], upd_same, ?_, ?_, ?_⟩
      · have h2 := dps_len hA
        exact Nat.lt_of_lt_of_le (show ys.length < 100000 by omega) (by decide)
      · exact same_put (sm.trans s4) hD
      · exact dps_app (dps_upd (s4 _ _ hy) (noLs_of fun e he => hS e (hAS e he)) (same_dps s4 hA)) (.cons (dp_upd (s4 _ _ hy) (hS d hSd) hdp) .nil)
      · intro e he
        rcases List.mem_append.mp he with z | z
        · exact hAS e z
        · have : e = d := by simpa using z
          rw [this]
          exact hSd
      · rw [List.length_append]
        show ds.length + 1 ≤ i + 1
        omega
    · exact ⟨sm.trans s3, by omega, ys, ds, s3 _ _ hy, same_dps s3 hA, hAS, by omega⟩
  · obtain ⟨sm, hin, ys, ds, hy, hA, hAS, hl⟩ := p
    exact hd H' ys ds sm hy hA hAS hl
end Fr
namespace Fr
open PySem PySem.Spec PyProof.Rows L2
section
variable {X : Cx}
def rN2 (g : Nat → Nat → Nat) : List V → Hp → VK → Prop := fun xs H Q => ∃ a b : Nat, xs = [nI a, nI b] ∧ Q (nI (g a b)) H
theorem max2N (hc : X.calm = true) : CallR X (.builtin "max") (rN2 max) := by
  intro pins s σ H xs us Q I r h
  obtain ⟨a, b, rfl, q⟩ := h
  refine call_max2 hc pins s σ H _ us Q I r ⟨a, b, rfl, ?_⟩
  have e : (if (b : Int) > (a : Int) then (b : Int) else (a : Int)) = ((max a b : Nat) : Int) := by
    split <;> omega
  rw [e]
  exact q
theorem min2N (hc : X.calm = true) : CallR X (.builtin "min") (rN2 min) := by
  intro pins s σ H xs us Q I r h
  obtain ⟨a, b, rfl, q⟩ := h
  refine call_min2 hc pins s σ H _ us Q I r ⟨a, b, rfl, ?_⟩
  have e : (if (b : Int) < (a : Int) then (b : Int) else (a : Int)) = ((min a b : Nat) : Int) := by
    split <;> omega
  rw [e]
  exact q
/-- what a def that may raise lets out is nothing here -/
theorem passN : Passes (L2N.CX X.prog X.w) X L2.E0 := fun _ _ _ _ _ _ _ h => by
  obtain ⟨_, _, _, _, _, _, _, _, _, _, _, _, z⟩ := h
  exact z.elim
end
end Fr
namespace Fr
open PySem PySem.Spec PyProof.Rows L2
/-! ### numbers, fractions, programs as data -/
def isNumD : PyData → Bool
  | .int i => decide (1 ≤ i) && isNum i.toNat
  | _ => false
def natO : PyData → Nat
  | .int i => i.toNat
  | _ => 0
def isFracD : PyData → Bool
  | .tuple [a, b] => (isNumD a && isNumD b) && (decide (max (natO a) (natO b) ≤ 1000000) && decide (Nat.gcd (natO a) (natO b) = 1))
  | _ => false
def isProgD : PyData → Bool
  | .list ds => decide (ds.length ≤ 16) && ds.all isFracD
  | _ => false
def fracD (p : Nat × Nat) : PyData := .tuple [nD p.1, nD p.2]
def progD (l : Prog) : PyData := .list (l.map fracD)
theorem isNumD_nat (n : Nat) : isNumD (nD n) = isNum n := by
  show (decide (1 ≤ (n : Int)) && isNum (n : Int).toNat) = isNum n
  rw [Int.toNat_natCast]
  by_cases h : 1 ≤ n
  · rw [decide_eq_true (by omega), Bool.true_and]
  · rw [decide_eq_false (by omega), Bool.false_and]
    cases e : isNum n with
    | false => rfl
    | true => exact absurd (isNum_pos e) (by omega)
theorem isNumD_is {d : PyData} (h : isNumD d = true) : ∃ n : Nat, d = nD n ∧ isNum n = true := by
  cases d with
  | int i =>
    obtain ⟨h1, h2⟩ := Bool.and_eq_true_iff.mp (show (decide (1 ≤ i) && isNum i.toNat) = true from h)
    have h1 := of_decide_eq_true h1
    exact ⟨i.toNat, by rw [show nD i.toNat = PyData.int (i.toNat : Int) from rfl, Int.toNat_of_nonneg (by omega)], h2⟩
  | _ => cases h
theorem isFracD_frac (p : Nat × Nat) : isFracD (fracD p) = isFrac p := by
  show ((isNumD (nD p.1) && isNumD (nD p.2)) && (decide (max (p.1 : Int).toNat (p.2 : Int).toNat ≤ 1000000) && decide (Nat.gcd (p.1 : Int).toNat (p.2 : Int).toNat = 1))) = isFrac p
  rw [isNumD_nat, isNumD_nat, Int.toNat_natCast, Int.toNat_natCast]
  rfl
theorem isFracD_is {d : PyData} (h : isFracD d = true) : ∃ p : Nat × Nat, d = fracD p ∧ isFrac p = true := by
  cases d with
  | tuple ds =>
    match ds, h with
    | [a, b], h =>
      obtain ⟨h1, h2⟩ := Bool.and_eq_true_iff.mp (show ((isNumD a && isNumD b) && (decide (max (natO a) (natO b) ≤ 1000000) && decide (Nat.gcd (natO a) (natO b) = 1))) = true from h)
      obtain ⟨ha, hb⟩ := Bool.and_eq_true_iff.mp h1
      obtain ⟨n, rfl, _⟩ := isNumD_is ha
      obtain ⟨m, rfl, _⟩ := isNumD_is hb
      exact ⟨(n, m), rfl, by rw [← isFracD_frac]; exact h⟩
  | _ => cases h
theorem all_frac : ∀ (l : Prog), (l.map fracD).all isFracD = l.all isFrac
  | [] => rfl
  | p :: l => by
    show (isFracD (fracD p) && (l.map fracD).all isFracD) = (isFrac p && l.all isFrac)
    rw [isFracD_frac, all_frac l]
theorem isProgD_prog (l : Prog) : isProgD (progD l) = isProg l := by
  show (decide ((l.map fracD).length ≤ 16) && (l.map fracD).all isFracD) = isProg l
  rw [all_frac, List.length_map]
  rfl
theorem isProgD_is {d : PyData} (h : isProgD d = true) : ∃ l : Prog, d = progD l ∧ isProg l = true := by
  cases d with
  | list ds =>
    obtain ⟨h1, h2⟩ := Bool.and_eq_true_iff.mp (show (decide (ds.length ≤ 16) && ds.all isFracD) = true from h)
    have key : ∀ es : List PyData, es.all isFracD = true → ∃ l : Prog, es = l.map fracD := by
      intro es
      induction es with
      | nil => intro _; exact ⟨[], rfl⟩
      | cons e es ih =>
        intro h
        obtain ⟨a, b⟩ := Bool.and_eq_true_iff.mp (show (isFracD e && es.all isFracD) = true from h)
        obtain ⟨p, rfl, _⟩ := isFracD_is a
        obtain ⟨l, rfl⟩ := ih b
        exact ⟨p :: l, rfl⟩
    obtain ⟨l, rfl⟩ := key ds h2
    exact ⟨l, rfl, by rw [← isProgD_prog]; exact h⟩
  | _ => cases h
theorem noL_frac (p : Nat × Nat) : noL (fracD p) = true := by
  simp [fracD, noL, noLs]
/-- a fraction at its place -/
theorem frac_at {K : PySem.W.Frag} {H : Hp} {v : V} {p : Nat × Nat} (h : Dp K H v (fracD p)) : ∃ b, v = .ref b ∧ SqT K H b [nI p.1, nI p.2] := by
  cases h with
  | tup hs ha =>
    cases ha with
    | cons h1 h2 =>
      cases h2 with
      | cons h2 h3 =>
        cases h3
        cases h1
        cases h2
        exact ⟨_, rfl, hs⟩
theorem prog_at {K : PySem.W.Frag} {H : Hp} {v : V} {l : Prog} (h : Dp K H v (progD l)) : ∃ (a : Addr) (xs : List V), v = .ref a ∧ SqL K H a xs ∧ DpAll K H xs (l.map fracD) ∧ xs.length = l.length := by
  cases h with
  | lst hs ha => exact ⟨_, _, rfl, hs, ha, by rw [dps_len ha, List.length_map]⟩
theorem prog_item {K : PySem.W.Frag} {H : Hp} {l : Prog} {xs : List V} {i : Nat} {x : V} (h : DpAll K H xs (l.map fracD)) (hx : xs[i]? = some x) : ∃ (hi : i < l.length) (b : Addr), x = .ref b ∧ SqT K H b [nI (l[i]).1, nI (l[i]).2] ∧ Dp K H x (fracD l[i]) := by
  obtain ⟨d, hd, hp⟩ := dps_at2 h hx
  rw [List.getElem?_map] at hd
  obtain ⟨p, hp2, rfl⟩ := Option.map_eq_some_iff.mp hd
  obtain ⟨hi, e⟩ := List.getElem?_eq_some_iff.mp hp2
  obtain ⟨b, e2, hs⟩ := frac_at hp
  rw [← e] at hs hp
  exact ⟨hi, b, e2, hs, hp⟩
theorem prog_get {K : PySem.W.Frag} {H : Hp} {l : Prog} {xs : List V} {i : Nat} (h : DpAll K H xs (l.map fracD)) (hi : i < l.length) : ∃ b, xs[i]? = some (.ref b) ∧ SqT K H b [nI (l[i]).1, nI (l[i]).2] := by
  have hl : xs.length = l.length := by rw [dps_len h, List.length_map]
  have hx : xs[i]? = some (xs[i]'(by omega)) := List.getElem?_eq_getElem (by omega)
  obtain ⟨_, b, e, hs, _⟩ := prog_item h hx
  exact ⟨b, by rw [hx, e], hs⟩
theorem atI0 {x : V} {xs : List V} : atI (x :: xs) 0 = some x := atI_nat (j := 0) rfl
theorem atI1 {x y : V} {xs : List V} : atI (x :: y :: xs) 1 = some y := atI_nat (j := 1) rfl
theorem atIn {xs : List V} {i : Nat} {x : V} (h : xs[i]? = some x) : atI xs (i : Int) = some x := atI_nat h
def optV : Option Nat → V
  | none => .non
  | some a => nI a
def optD : Option Nat → PyData
  | none => .none
  | some a => nD a
theorem dp_opt {K : PySem.W.Frag} {H : Hp} (o : Option Nat) : Dp K H (optV o) (optD o) := by
  cases o with
  | none => exact .non
  | some a => exact .int _
/-- a def that refuses by C what is none -/
def spNeed (K : PySem.W.Frag) (C : Addr) (f : PyData → Bool) : Sp := fun vs H Q E => ∃ (v : V) (d : PyData), vs = [v] ∧ Dp K H v d ∧ (f d = true → ∀ H', Same H H' → Q .non H') ∧ (f d = false → ∀ H', Same H H' → E (.ref C) none H')
end Fr
/-! ### lists walked while an exception is handled -/
namespace Hl
open PySem PySem.Spec PyProof.Rows L2 HotX L2H
section
variable {prog : Program} {w : World} {A : Around} {E : Value → Shared → Prop} {s : Shared}
theorem list_end {it l x1 : Addr} {i : Nat} {items : Array Value} {Q : Option Value → Shared → Prop} (hot : HotAt A x1 s.heap) (hx1 : x1 ≠ it)
    (hit : s.heap.IsListIter it l i) (hl : s.heap.IsList l items) (hx : items[i]? = none)
    (hQ : ∀ h', (∀ b o, b ≠ it → s.heap.get? b = some o → h'.get? b = some o) → Q none { s with heap := h' }) : wpAny (model prog w) A (pyNext (.ref it)) Q E s := by
  obtain ⟨hh, o1, vs1, h1, d1, c1⟩ := hot
  obtain ⟨o, ho, hc, hd⟩ := id hit
  obtain ⟨ol, hol, _, nl, hdl⟩ := hl
  have hu : ∀ f, (s.heap.update it f).get? x1 = some o1 := fun f => (Heap.get?_update_other _ _ (Ne.symm hx1)).trans h1
  unfold pyNext
  refine wpAny_bind (wpAny_attempt (wpAny_callSpecial?_slot (name := Str.ofString "__next__") hit.typeIs slot_listiter_next
    (wpAny_call_entry slot_listiter_next hit.typeIs entry_listiter_next ?_ (args_listiter_next _))))
  show wpAny _ _ (field (.ref it) 0 >>= _) _ _ s
  refine wpAny_bind (wpAny_field ho hd (x := .ref l) rfl ?_)
  show wpAny _ _ (if (Value.ref l == Value.none) = true then _ else _) _ _ s
  rw [if_neg (by intro z; cases z)]
  show wpAny _ _ (field (.ref it) 1 >>= _) _ _ s
  refine wpAny_bind (wpAny_field ho hd (x := .int i 0) rfl ?_)
  show wpAny _ _ (seqItems? (.ref l) >>= _) _ _ s
  refine wpAny_bind (wpAny_seqItems hol hdl ?_)
  simp only [Int.toNat_natCast, hx]
  refine wpAny_bind (wpAny_rule ?_)
  refine wpAny_bind (wpAny_setField ho hd (by simp) ?_)
  refine wpAny_bind ?_
  show wpAny _ _ (newExc (.type "StopIteration") []) _ _ _
  simp only [newExc, newTuple]
  refine wpAny_bind (wpAny_newObj_type ?_ (by size_fits))
  refine wpAny_bind (m := firstArgMember _ _) (wpAny_of_eq (a := Value.none) (by first | rfl | (simp only [firstArgMember]; rfl)) ?_)
  refine wpAny_newObj_type ?_ (by size_fits)
  refine raiseNew_hot ⟨hh, o1, vs1, Heap.get?_push_of_some _ (Heap.get?_push_of_some _ (hu _)), d1, c1⟩ (Nat.ne_of_lt (Heap.lt_size (Heap.get?_push_of_some _ (hu _)))) (Heap.get?_push_size _ rfl) rfl (by first | (simp; done) | (simp; omega)) ?_
  refine wpAny_bind (wpAny_isInstance (T := "StopIteration") (b := true) ⟨_, Heap.get?_update_self _ (Heap.get?_push_size _ rfl) rfl, rfl⟩ isSubtype_stop ?_)
  refine wpAny_pure (hQ _ fun b o hb e => ?_)
  have e2 : (s.heap.update it (Obj.mapFields (·.setIfInBounds 0 Value.none))).get? b = some o := (Heap.get?_update_other _ _ (Ne.symm hb)).trans e
  rw [Heap.get?_update_other _ _ (Nat.ne_of_gt (Heap.lt_size (Heap.get?_push_of_some _ e2)))]
  exact Heap.get?_push_of_some _ (Heap.get?_push_of_some _ e2)
theorem walksH {x1 : Addr} {o1 : Obj} {vs1 : Array Value} (hh : A.handled = some (.ref x1)) (d1 : o1.data = .fields vs1) (c1 : vs1[2]? = some .none) (I ax : Addr) (hne : ax ≠ I) (hx : x1 ≠ I) (items : Array Value) :
    Walks prog w A I [I, ax, x1] [I] items.size (fun i v => items[i]? = some v) (fun i h => h.IsListIter I ax i ∧ h.IsList ax items ∧ h.get? x1 = some o1) where
  sub := fun b hb => by simp at hb; simp [hb]
  frame := fun _ _ _ st hk => ⟨st.1.at fun o e => hk I (by simp) o e, st.2.1.at fun o e => hk ax (by simp) o e, hk x1 (by simp) _ st.2.2⟩
  item := fun i s Q E hi st hQ => by
    refine wpAny_pyNext_list_item st.1 st.2.1 (x := items[i]) (by simp [hi]) fun h' hit' hs' => ?_
    exact hQ _ h' s.toks (by simp [hi]) ⟨hit', st.2.1.extBut hs'.extBut hne, hs'.extBut x1 _ hx st.2.2⟩ fun b o hb e => hs'.extBut b o (fun h => hb (by simp [h])) e
  done := fun s Q E st hQ => list_end ⟨hh, o1, vs1, st.2.2, d1, c1⟩ hx st.1 st.2.1 (by simp) fun h' he' => hQ h' s.toks fun b o hb e => he' b o (fun h => hb (by simp [h])) e
  self := fun _ _ _ _ st hQ => wpAny_pyIter_listiter st.1 hQ

/-! ### sum([int(flag) for flag in flags]) -/
def ones (bs : List Bool) : List Int := bs.map fun b => if b then 1 else 0
theorem preSum_take (l : List Int) : ∀ n, n ≤ l.length → preSum (fun i => l.getD i 0) n = (l.take n).sum
  | 0, _ => by simp [preSum]
  | n + 1, h => by
    rw [preSum, preSum_take l n (by omega), List.take_succ, List.sum_append, List.getD_eq_getElem?_getD]
    congr 1
    rw [List.getElem?_eq_getElem (by omega)]
    simp
theorem vals_bl : ∀ {bs : List Bool} {us : List Value}, Vals (bs.map V.bl) us → us = bs.map Value.bool
  | [], _, .nil => rfl
  | b :: bs, _, .cons h t => by
    have e : _ = Value.bool b := h
    rw [e, vals_bl t]
    rfl
theorem paired_ones : ∀ {bs : List Bool} {ys : List Value}, Paired (fun v y => ∃ (b : Bool) (t : Tok), v = Value.bool b ∧ y = .int (if b then 1 else 0) t) (bs.map Value.bool) ys → ∀ (j : Nat) (y : Value), ys[j]? = some y → ∃ t, y = .int ((ones bs).getD j 0) t
  | [], _, .nil, j, y, h => by simp at h
  | b :: bs, _, .cons h t, j, y, e => by
    cases j with
    | zero =>
      obtain ⟨b', t', e1, e2⟩ := h
      cases e1
      rw [List.getElem?_cons_zero] at e
      cases e
      exact ⟨t', e2⟩
    | succ j =>
      rw [List.getElem?_cons_succ] at e
      exact paired_ones t j y e
theorem len_paired {F : Value → Value → Prop} : ∀ {a b : List Value}, Paired F a b → a.length = b.length
  | _, _, .nil => rfl
  | _, _, .cons _ t => congrArg (· + 1) (len_paired t)
end
def tSumB (i : Nat) (K : PySem.W.Frag) : TE := fun σ H Q => ∃ (a : Addr) (bs : List Bool), σ[i]? = some (some (.ref a)) ∧ SqL K H a (bs.map V.bl) ∧ Q (.int (ones bs).sum) H
theorem pe_sumB {X : Cx} {i : Nat} {x y : Str} {scope : Scope} {p1 p2 p3 px py pos pf pc : Pos} (hc : HotC X) (hgs : Gl X "sum") (hms : X.mg "sum" = none) (hmi : X.mg "int" = none)
    (hN : X.N[i]? = some y) (hv : Vis X.env.scope y) (hd : (y == ("__debug__" : Str)) = false) (hcd : (y == ("__classdict__" : Str)) = false) (hdx : (x == ("__debug__" : Str)) = false)
    (hfree : ∀ y ∈ scope.names, y.2 ≠ .free) (hcell : ∀ y ∈ scope.names, y.2 ≠ .cell) (hkind : scope.kind = .function)
    (hnames : ∀ y ∈ scope.names, y.2 = .local → scope.names.lookup y.1 = some .local) (hx : scope.names.lookup x = some .local) (hi : scope.names.lookup ("int" : Str) = some .globalImplicit) :
    PE X (.Call (.Name "sum" pf) [.ListComp (.Call (.Name "int" p1) [.Name x p2] [] p3) [⟨.Name x px, .Name y py, [], 0⟩] scope pos] [] pc) (tSumB i X.K) := by
  refine ⟨fun pins s σ H Q I h => ?_⟩
  obtain ⟨a, bs, e1, hl, q⟩ := h
  obtain ⟨p, ⟨hh, v1, d1, c1⟩, hp⟩ := hc
  have hx1 := (I.pin p (List.mem_append_left _ hp)).1
  obtain ⟨its, rv, hpl, hz⟩ := I.list hl
  have eits := vals_bl rv
  refine wpAny_Call_Name_kw (ld_blt I hgs hms (by rfl) ?_)
  refine PyProof.Rows.callWith_builtin1 ?_ (by rfl) (by rfl)
  refine Calls.spliced_cons ?_
  refine wpAny_ListComp_walk (fun _ => true) (fun v y => ∃ (b : Bool) (t : Tok), v = Value.bool b ∧ y = .int (if b then 1 else 0) t) hfree hcell hkind hnames hx ?_
  refine thn ((pe_var (X := X) (pos := py) hN hv hd hcd).run pins s σ H (fun v H' => v = .ref a ∧ H' = H) I ⟨.ref a, e1, rfl, rfl⟩) fun u s1 ⟨v, H1, I1, r1, ev, eH⟩ => ?_
  subst ev
  obtain rfl : u = Value.ref a := r1
  subst eH
  obtain ⟨its', rv', hpl', _⟩ := I1.list hl
  have eits' := vals_bl rv'
  have hx1' := (I1.pin p (List.mem_append_left _ hp)).1
  have hli := hpl'.isList
  refine wpAny_pyIter_list hli ?_
  have aL : a ≠ s1.heap.objs.size := by
    obtain ⟨o, ho, _⟩ := hli
    exact Nat.ne_of_lt (Heap.lt_size ho)
  have xL : p.1 ≠ s1.heap.objs.size := Nat.ne_of_lt (Heap.lt_size hx1')
  have ps : ∀ {o : Obj} (b : Addr) (u : Obj), s1.heap.get? b = some u → (s1.heap.push o).get? b = some u := fun b u e => Heap.get?_push_of_some _ e
  refine ⟨_, _, _, _, _, _, rfl, walksH hh d1 c1 s1.heap.objs.size a aL xL its'.toArray, ?_, ⟨⟨_, Heap.get?_push_size _ rfl, rfl, rfl⟩, hli.at fun o e => ps _ o e, ps _ _ hx1'⟩, ?_, ?_, ?_⟩
  · rw [eits']
    rw [List.length_map] at hz
    simpa using hz
  · intro b hb
    have e : (s1.heap.push { cls := .type "list_iterator", data := .fields #[.ref a, .int 0 0] }).objs.size = s1.heap.objs.size + 1 := Heap.size_push ..
    show b < (s1.heap.push { cls := .type "list_iterator", data := .fields #[.ref a, .int 0 0] }).objs.size
    rw [e]
    have hlt1 := Heap.lt_size hx1'
    have hlt2 : a < s1.heap.objs.size := by
      obtain ⟨o, ho, _⟩ := hli
      exact Heap.lt_size ho
    have hb' : b = s1.heap.objs.size ∨ b = a ∨ b = p.1 := by simpa using hb
    rcases hb' with rfl | rfl | rfl
    · exact Nat.lt_succ_self _
    · exact Nat.lt_succ_of_lt hlt2
    · exact Nat.lt_succ_of_lt hlt1
  · refine ⟨fun C j v s3 m3 E' hP hn hm hk ht => ?_, fun C j v s3 m3 E' hP hpv hn hm hk ht => ?_⟩
    · rw [List.forIn_nil]
      exact wpAny_pure ⟨rfl, s3.heap, s3.toks, rfl, fun _ _ e => e⟩
    · have old : ∀ b o, X.base.get? b = some o → s3.heap.get? b = some o := fun b o e => hk b o (fun z => by
        have z : b = s1.heap.objs.size := by simpa using z
        exact Nat.ne_of_lt (Heap.lt_size (I1.bk b o e)) z) (ps b o (I1.bk b o e))
      have hvb : ∃ b : Bool, v = .bool b := by
        have hm : v ∈ its' := by
          have := Array.mem_of_getElem? hP
          simpa using this
        rw [eits'] at hm
        obtain ⟨b, _, e⟩ := List.mem_map.mp hm
        exact ⟨b, e.symm⟩
      obtain ⟨b, rfl⟩ := hvb
      obtain ⟨mb, h1, h2⟩ := I1.mod.blt
      refine wpAny_Call_Name_kw (Calls.Name_function_global hkind hi (Calls.loadGlobal_builtin (mg := X.mg) (mb := mb) ?_ hmi ?_ ((h2 "int" (by decide)).trans (by rfl)) ?_))
      · show s3.heap.Ns X.env.globals X.mg
        rw [I1.ok.glob]
        exact I1.mod.glob.keeps old
      · show s3.heap.Ns X.env.builtins mb
        rw [I1.ok.blt]
        exact h1.keeps old
      · refine PyProof.Rows.callWith_type1 ?_ (by rfl) (by rfl)
        refine Calls.spliced_cons (wpAny_Name (wpAny_loadName_local hkind hx hn hm ?_) hdx)
        refine Calls.spliced_nil ?_
        refine call_int_bool ⟨⟨b, _, rfl, rfl⟩, s3.heap, s3.toks + 1, rfl, fun _ _ e => e⟩
  · intro D h' tk ys vs hD hlD hpD hlen hP hF hk
    have evs : vs.filter (fun _ => true) = bs.map Value.bool := by
      rw [List.filter_eq_self.mpr (fun _ _ => rfl), ← eits']
      apply List.ext_getElem?
      intro j
      by_cases hj : j < vs.length
      · have e := hP j vs[j] (List.getElem?_eq_getElem hj)
        rw [List.getElem?_eq_getElem hj, ← e]
        simp
      · rw [List.getElem?_eq_none (by omega), List.getElem?_eq_none]
        have : its'.toArray.size = its'.length := by simp
        omega
    rw [evs] at hF
    have kp : ∀ b o, s1.heap.get? b = some o → h'.get? b = some o := fun b o e => hk b o (fun z => by
        have z : b = s1.heap.objs.size := by simpa using z
        exact Nat.ne_of_lt (Heap.lt_size e) z) (ps b o e)
    refine Calls.spliced_nil ?_
    have hx2 := kp _ _ hx1'
    refine call_sum_walkG (wpAny_pyIter_list hlD ?_)
    have DL : D ≠ h'.objs.size := by
      obtain ⟨o, ho, _⟩ := hlD
      exact Nat.ne_of_lt (Heap.lt_size ho)
    have ps2 : ∀ {o : Obj} (b : Addr) (u : Obj), h'.get? b = some u → (h'.push o).get? b = some u := fun b u e => Heap.get?_push_of_some _ e
    refine ⟨_, _, _, _, _, _, fun i => (ones bs).getD i 0, rfl, walksH (A := X.A.in1) hh d1 c1 h'.objs.size D DL (Nat.ne_of_lt (Heap.lt_size hx2)) ys, ⟨⟨_, Heap.get?_push_size _ rfl, rfl, rfl⟩, hlD.at fun o e => ps2 _ o e, ps2 _ _ hx2⟩, ?_, ?_, ?_⟩
    · intro b hb
      have e : (h'.push { cls := .type "list_iterator", data := .fields #[.ref D, .int 0 0] }).objs.size = h'.objs.size + 1 := Heap.size_push ..
      show b < (h'.push { cls := .type "list_iterator", data := .fields #[.ref D, .int 0 0] }).objs.size
      rw [e]
      have hlt1 := Heap.lt_size hx2
      have hlt2 : D < h'.objs.size := by
        obtain ⟨o, ho, _⟩ := hlD
        exact Heap.lt_size ho
      have hb' : b = h'.objs.size ∨ b = D ∨ b = p.1 := by simpa using hb
      rcases hb' with rfl | rfl | rfl
      · exact Nat.lt_succ_self _
      · exact Nat.lt_succ_of_lt hlt2
      · exact Nat.lt_succ_of_lt hlt1
    · intro j y e
      exact paired_ones hF j y (by simpa using e)
    · intro h2 tk2 t2 hk2
      have eL : ys.size = (ones bs).length := by
        have := len_paired hF
        simp only [List.length_map, Array.length_toList] at this
        unfold ones
        rw [List.length_map]
        exact this.symm
      rw [eL, preSum_take _ _ (Nat.le_refl _), List.take_length]
      refine ⟨.int _, H1, I1.kept fun b o e => hk2 b o (fun z => ?_) (ps2 b o (kp b o e)), ⟨_, rfl⟩, q⟩
      have z : b = h'.objs.size := by simpa using z
      exact Nat.ne_of_lt (Heap.lt_size (kp b o e)) z
end Hl
namespace Hl
open PySem PySem.Spec PyProof.Rows L2 HotX L2H LamX
/-! ### a def called while an exception is handled, told of that very exception -/
theorem run_hot {CX : CXT} {P : Program} {w : World} {K : PySem.W.Frag} {mg : Str → Option Value} {base : Heap} {k : Nat} {x : Str} {params : Arguments} {body : List Stmt} {scope : Scope} {f : Addr} {fd : FuncData} {N ps : List Str}
    (D : FunD K x x params body scope [] [] f fd) (S : FnScope N ps scope) {A : Around} {outer : List Env} {s : Shared} {H : Hp} {args : Args} {us : List Value} {vs : List V} {Q : VK} {E : XK} {p : Addr × Obj}
    (hr : RoomH (k + 1) A) (hpin : PinOk outer H s p) (e0 : Env0 P w K mg base A outer s H) (hb : BindsTo s fd args (ps.zip us)) (r : Vals vs us) (hl : vs.length = ps.length)
    (hbody : ∀ cdv, RoomH k (A.deeper (envOfC x scope s.heap.objs.size f cdv)) → ∃ t, PSs (cxH CX P w K mg base N x scope f cdv A outer s H E p) body t ∧ t { nx := fun _ H' => Q .non H', rt := Q } (L2.start N vs) H) :
    codeAny (model P w) A (.call (.ref f) args) (CR CX outer P w H s Q E) s := by
  obtain ⟨oc, od, dV, kV, doc, pm, an, cdv, ct, osl, rfl, lk, hcd, _, _⟩ := D.ex
  have old : ∀ b o, base.get? b = some o → s.heap.get? b = some o := fun b o e => (e0.bs b o e).1
  refine codeAny_call_function hr.depth (e0.mod.kin.keeps old _ _ lk) rfl S.co S.gen rfl (PySem.W.codeRec_of (e0.mod.kin.keeps old) hcd) (hb _ _ _ _ (wpAny_newFunctionEnv_cells S.kind (fun y hy => ?_) fun env he s1 y1 => ?_))
  · rcases S.par y.1 (List.of_mem_zip (a := y.1) (b := y.2) hy).1 with q | q
    · exact Or.inl q
    · exact Or.inr ⟨q, PySem.W.cellsFrom_some _ _ _ (Or.inl q)⟩
  · subst he
    obtain ⟨t, ht, hq⟩ := hbody cdv (hr.deeper _)
    have I : Inv (cxH CX P w K mg base N x scope f cdv A outer s H E p) [] (L2.start N vs) H s1 := inv_startH S hpin e0 hl r y1
    refine ⟨(e0.mod.nolimit.keeps old).keeps y1.toInCall.keep, codeAny_func (wpAny_mono (ht.run [] s1 _ H _ I hq) (fun fl s' hs => ?_) fun _ _ z => z)⟩
    match fl, hs with
    | .ret u, ⟨v, σ', H', J, rv, z⟩ => exact ⟨v, H', J.os, J.bare, J.base, J.hok, rv, z⟩
    | .next, ⟨σ', H', J, z⟩ => exact ⟨.non, H', J.os, J.bare, J.base, J.hok, rfl, z⟩
    | .brk, ⟨_, _, _, z⟩ => exact z.elim
    | .cont, ⟨_, _, _, z⟩ => exact z.elim
/-- isinstance of the exception that is handled -/
theorem call_isH {X : Cx} {D : Addr} {p : Addr × Obj} (C : ExcC X.K D) (hp : p ∈ X.pn) (h1 : p.2.cls = .ref D) (h2 : p.2.dict = none) (hf : ∃ vs, p.2.data = .fields vs) : CallR X (.builtin "isinstance") (rIsE X.K D p.1) := by
  intro pins s σ H xs us Q I r h
  obtain ⟨c, cv, b, rfl, hcv, e, q⟩ := h
  match r with
  | .cons rx (.cons rt .nil) =>
    cases rx
    have ec := hcv _ rt
    subst ec
    have hget := (I.pin p (List.mem_append_left _ hp)).1
    obtain ⟨a, oc, od, oda, osl⟩ := p
    obtain ⟨vs, hv⟩ := hf
    dsimp only at h1 h2 hv hget
    subst h1 h2 hv
    exact PySem.W.kia_one (PySem.W.handS_kitx_exc C.hg C.hk C.hs C.hd C.ha C.hn C.ht C.hm) I.kIn (x := .ref a) (show PySem.W.InstAt s.heap a _ D none from ⟨hget, rfl, rfl, trivial⟩) e (fun z => nomatch z) fun tk => ⟨.bl b, H, I.kept (t' := tk) fun _ _ z => z, rfl, q⟩
/-! ### the lambda's body, told by the contexts without a context -/
def lamN (X : Cx) (A : Around) (outer : List Env) (s : Shared) (H : Hp) (E : XK) (scope : Scope) (f c' : Addr) : Cx :=
  (lamCx X A outer s H E scope f c').wish fun e s' => wpAny (model X.prog X.w) (A.deeper (lamEnv X scope s.heap.objs.size f c')) (leaving (lamEnv X scope s.heap.objs.size f c') e) (fun _ s'' => L2N.CX X.prog X.w outer H s E e s'') (fun e' s'' => L2N.CX X.prog X.w outer H s E e' s'') s'
section
variable {X : Cx} {pins : List (Addr × Obj)} {σ : L2.St} {H HZ : Hp} {s s1 : Shared}
/-- the lambda called in the context Z, entered at s -/
theorem actN {AZ : Around} {SZ : List Env} {f c' : Addr} {pm ctv : Value} {params : Arguments} {body : Expr} {scope : Scope} {k : Nat} {E : XK} {tb : TE} {Q : VK}
    (I : Inv X pins σ H s) (L : LamS X.env.scope scope) (hf : s.heap.get? f = some (PySem.W.kla_obj "<lambda>" (X.env.qual ++ "<lambda>") params body scope (cloFrom X.env.cells scope.names []) pm c' ctv)) (hfn : H f = none) (hfr : f ∉ frs X.stack)
    (hbind : bindArgs (PySem.W.kla_fn "<lambda>" (X.env.qual ++ "<lambda>") params body scope (cloFrom X.env.cells scope.names []) pm (.ref c') ctv) ⟨[], []⟩ = pure [])
    (e0 : Env0 X.prog X.w X.K X.mg X.base AZ SZ s1 HZ) (un : Un (frs X.stack) [] H HZ s.heap s1.heap) (nl : s1.heap.NoLimit) (hr : Room (k + 1) AZ)
    (hc : HZ c' = some (CodeO c' (X.env.qual ++ "<lambda>"))) (hbody : ∀ (A : Around) (outer : List Env) (s : Shared) (H : Hp), Room k (A.deeper (lamEnv X scope s.heap.objs.size f c')) → PE (lamN X A outer s H E scope f c') body tb) (ht : tb σ HZ Q) :
    codeAny (model X.prog X.w) AZ (.call (.ref f) ⟨[], []⟩) (CR (L2N.CX X.prog X.w) SZ X.prog X.w HZ s1 Q E) s1 := by
  have of1 := un.keep f _ hf hfn hfr (fun z => nomatch (show f ∈ ([] : List Addr) from z))
  obtain ⟨⟨oc, vs, t, hoc, hdc, hvc⟩, _, _⟩ := e0.hok c' _ hc
  refine PySem.W.kla_callFunE hr.depth of1 rfl L.co L.gen rfl ⟨c', oc, vs, t, rfl, hoc, hdc, hvc⟩ (hbind ▸ wpAny_pure ?_)
  refine wpAny_newFunctionEnv (fun y hy => (L.own y hy).2) (fun y hy => absurd hy (by simp)) (fun h₁ hns hsb => ⟨nl.fresh _ hsb, ?_⟩) L.kind
  have kp : ∀ b o, s1.heap.get? b = some o → h₁.get? b = some o := fun b o e => hsb.extBut b o (Nat.ne_of_lt (Heap.lt_size e)) (Heap.get?_push_of_some _ e)
  have J := (lam_start2 (A := AZ) (outer := SZ) (E := E) (f := f) (c' := c') (tk := s1.toks + ([] : List (Str × Value)).length) I L e0 hr.hd un hns kp).wish (fun e s' => wpAny (model X.prog X.w) (AZ.deeper (lamEnv X scope s1.heap.objs.size f c')) (leaving (lamEnv X scope s1.heap.objs.size f c') e) (fun _ s'' => L2N.CX X.prog X.w SZ HZ s1 E e s'') (fun e' s'' => L2N.CX X.prog X.w SZ HZ s1 E e' s'') s')
  show codeAny _ _ (.expr body (lamEnv X scope s1.heap.objs.size f c')) _ _
  refine PySem.W.kla_codeExpr (wpAny_mono ((hbody AZ SZ s1 HZ (hr.deeper _)).run [] _ _ HZ Q J ht) (fun v s' hq => ?_) fun _ _ z => z)
  obtain ⟨w', H', J', rv, q⟩ := hq
  exact ⟨w', H', J'.os, J'.bare, J'.base, J'.hok, rv, q⟩
end
theorem takesN {X : Cx} : L2N.Takes X (fun _ _ _ _ => False) := fun _ _ x => by
  obtain ⟨_, _, _, _, _, _, _, _, _, _, _, _, _, _, _, _, z⟩ := x
  exact z.elim
/-- the def that names the exception: nm D is its word -/
def WordP (P : Program) (w : World) (K : PySem.W.Frag) (mg : Str → Option Value) (base : Heap) (k : Nat) (f : Addr) (fd : FuncData) (nm : Addr → Str → Prop) : Prop :=
  ∀ (A : Around) (outer : List Env) (s : Shared) (H : Hp) (args : Args) (p : Addr × Obj) (D : Addr) (n : Str) (Q : VK), RoomH k A → Hot1 A p → PinOk outer H s p → p.2.cls = .ref D → p.2.dict = none → nm D n →
    Env0 P w K mg base A outer s H → BindsTo s fd args [("e", .ref p.1)] → (∀ H', Same H H' → Q (.str n) H') → codeAny (model P w) A (.call (.ref f) args) (CR L2.CX0 outer P w H s Q C8.E0) s
/-! ### told(lambda: body) -/
abbrev XTold (nm : Addr → Str → Prop) (Q : VK) : XK := fun cls d H' => ∃ D n, cls = .ref D ∧ d = none ∧ nm D n ∧ ∀ H'', Same H' H'' → Q (.str n) H''
def tTold (T : List (Addr × Str)) (nm : Addr → Str → Prop) (t : XK → TE) : TE := fun σ H Q => Tabs T H ∧ ∀ H1, ExtN H H1 → Tabs T H1 → t (XTold nm Q) σ H1 Q
theorem pe_told {X : Cx} {T : List (Addr × Str)} {nm : Addr → Str → Prop} {k kw : Nat} {g gw CS c P : Addr} {fdT fdW : FuncData} {aT : Arguments} {bT : List Stmt} {sT : Scope} {params : Arguments} {body : Expr} {scope : Scope} {t : XK → TE} {p lpos pos p1 p2 p3 p4 p5 p6 p7 p8 p9 p10 : Pos}
    (D : FunD X.K "_law_told" "_law_told" aT bT sT [] [] g fdT) (hbT : bT = [.Try [.Return (some (.Call (.Name "deed" p1) [] [] p2)) p3] [.ExceptHandler (some (.Name "RowError" p4)) (some "e") [.Return (some (.Call (.Name "_law_word" p5) [.Name "e" p6] [] p7)) p8] p9] [] [] p10])
    (Sg : FnScope ["deed", "e"] ["deed"] sT) (hlE : sT.names.lookup ("e" : Str) = some .local) (hlD : sT.names.lookup ("deed" : Str) = some .local) (hgT : Gl X "_law_told") (hmT : X.mg "_law_told" = some (.ref g)) (bdT : L2.Binds X.K fdT ["deed"] [])
    (hRE : X.mg "RowError" = some (.ref CS)) (hgRE : sT.names.lookup ("RowError" : Str) = some .globalImplicit) (hmW : X.mg "_law_word" = some (.ref gw)) (hgW : sT.names.lookup ("_law_word" : Str) = some .globalImplicit) (hkW : PySem.W.keepIn X.K (.ref gw) = true)
    (bdW : L2.Binds X.K fdW ["e"] []) (Wd : WordP X.prog X.w X.K X.mg X.base kw gw fdW nm) (hex : ∀ D n, nm D n → PySem.W.exmOne X.K (.ref D) (.ref CS) = some true)
    (TB : TabB X.base X.mg c P) (hcode : X.env.code = .ref c) (hmem : (P, X.env.qual ++ "<lambda>") ∈ T) (hu : ∀ p ∈ T, p.1 = P → p.2 = X.env.qual ++ "<lambda>") (hr : Room (k + 2) X.A) (hkw : kw ≤ k + 1) (L : LamS X.env.scope scope) (hdef : defaultsOf params X.env = ([], []))
    (hbind : ∀ (q : Str) (cl : List (Str × Addr)) (pm cv ctv : Value), bindArgs (PySem.W.kla_fn "<lambda>" q params body scope cl pm cv ctv) ⟨[], []⟩ = pure [])
    (hbody : ∀ (A : Around) (outer : List Env) (s : Shared) (H : Hp) (E : XK) (f c' : Addr), Room k (A.deeper (lamEnv X scope s.heap.objs.size f c')) → PE (lamN X A outer s H E scope f c') body (t E)) :
    PE X (.Call (.Name "_law_told" p) [.Lambda params body scope lpos] [] pos) (tTold T nm t) := by
  refine ⟨fun pins s σ H Q I h => ?_⟩
  obtain ⟨hT, h⟩ := h
  obtain ⟨oc, od, dV, kV, doc, pmT, an, cdT, ct, osl, rfl, lk, hcd, _, _⟩ := D.ex
  refine wpAny_Call_Name_kw (ld_glob I hgT hmT ?_ (by decide))
  refine PySem.W.callWith_K (h₀ := X.base) I.ok.mod.kin D.kp ?_ (by rfl) (by rfl)
  show wpAny _ _ (spliced ((false, eval (.Lambda params body scope lpos) X.env) :: backTo pos (starEach [] X.env))) _ _ s
  refine Calls.spliced_cons (lam_make2 I TB hcode hmem hu hT hdef (L.has I.ok) fun f c' pm' ctv H1 s' I1 eN T1 hf hfn hfr hco => ?_)
  refine Calls.spliced_nil ⟨I1.kIn, ?_⟩
  have hq := h H1 eN T1
  have rc : codeAny (model X.prog X.w) X.A (.call (.ref g) ⟨[.ref f], []⟩) (CR L2.CX0 X.stack X.prog X.w H1 s' Q C8.E0) s' := by
    refine run_ofS (N := ["deed", "e"]) (ps := ["deed"]) (us := [.ref f]) (vs := [.ref f]) lk hcd Sg hr I1.env0 (bdT s' [.ref f] I1.kIn rfl) (.cons rfl .nil) rfl fun hr' => ?_
    rw [hbT]
    generalize hZ : cxOf L2.CX0 X.prog X.w X.K X.mg X.base ["deed", "e"] "_law_told" sT g cdT X.A X.stack s' H1 C8.E0 = Z0
    have hps : PSs Z0.nox [.Try [.Return (some (.Call (.Name "deed" p1) [] [] p2)) p3] [.ExceptHandler (some (.Name "RowError" p4)) (some "e") [.Return (some (.Call (.Name "_law_word" p5) [.Name "e" p6] [] p7)) p8] p9] [] [] p10] _ :=
      pss_one (L2N.ps_try_as (X := Z0.nox) (c := .ref CS) (i := 1)
        (tb := fun W D σZ HZ => ∃ E : XK, (∀ cls d H'', E cls d H'' → W cls d σZ H'') ∧ σZ[0]? = some (some (.ref f)) ∧ HZ c' = some (CodeO c' (X.env.qual ++ "<lambda>")) ∧ t E σ HZ D.rt)
        (ts := fun a cls d D σZ HZ => ∃ DD n, cls = .ref DD ∧ d = none ∧ nm DD n ∧ σZ[1]? = some (some (.ref a)) ∧ ∀ H'', Same HZ H'' → D.rt (.str n) H'')
        (by rw [← hZ]; rfl) (by rw [← hZ]; rfl) (by rw [← hZ]; exact Sg.nd) (by rw [← hZ]; rfl) (by rw [← hZ]; exact hlE) (by rw [← hZ]; exact ⟨hgRE, by decide, .inl hRE⟩) takesN (fun W pn xe tk _ => ?_) (fun a oe cls d pn hz hdat => ?_))
    · refine ⟨_, hps.nox, XTold nm Q, fun cls d H'' e => ?_, by rfl, hco, hq⟩
      obtain ⟨DD, n, rfl, rfl, hn, q⟩ := e
      have hK : Z0.nox.K = X.K := by rw [← hZ]; rfl
      refine ⟨true, by rw [hK]; exact hex DD n hn, fun _ a na => ⟨DD, n, rfl, rfl, hn, by rfl, q⟩, fun z => nomatch z⟩
    · refine ⟨fun pinsZ sZ σZ HZ DZ IZ hh => ?_⟩
      obtain ⟨E, hW, h0, hc, ht⟩ := hh
      have pe : PE (Z0.nox.tr pn xe) (.Call (.Name "deed" p1) [] [] p2) (fun σZ HZ Q => (∀ cls d H'', E cls d H'' → W cls d σZ H'') ∧ σZ[0]? = some (some (.ref f)) ∧ HZ c' = some (CodeO c' (X.env.qual ++ "<lambda>")) ∧ t E σ HZ Q) := by
        subst hZ
        refine ⟨fun pinsZ sZ σZ HZ QZ IZ h => ?_⟩
        obtain ⟨hW, h0, hc, ht⟩ := h
        refine wpAny_Call_Name_kw (thn ((pe_var (pos := p1) (i := 0) rfl (.inl hlD)).run pinsZ sZ σZ HZ (fun v H2 => v = .ref f ∧ H2 = HZ) IZ ⟨.ref f, h0, rfl, rfl⟩) fun u s1 ⟨v, H2, I2, r2, ev, eH⟩ => ?_)
        subst ev
        subst eH
        obtain rfl : u = Value.ref f := r2
        have un : Un (frs X.stack) [] H1 H2 s'.heap s1.heap := I2.base
        have of1 := un.keep f _ hf hfn hfr (fun z => nomatch (show f ∈ ([] : List Addr) from z))
        refine PySem.W.callWith_F0 ⟨_, _, _, _, of1⟩ ?_
        have rc2 : codeAny (model X.prog X.w) (X.A.deeper (envOfC "_law_told" sT s'.heap.objs.size g cdT)) (.call (.ref f) ⟨[], []⟩) (CR (L2N.CX X.prog X.w) (envOfC "_law_told" sT s'.heap.objs.size g cdT :: X.stack) X.prog X.w H2 s1 QZ E) s1 :=
          actN (X := X) (pm := pm') (ctv := ctv) I1 L hf hfn hfr (hbind _ _ _ _ _) I2.env0 un I2.nolimit hr' hc (fun A outer s H hr2 => hbody A outer s H E f c' hr2) ht
        refine wpAny_call (codeAny_mono rc2 fun r s2 hq2 => ?_)
        match r, hq2 with
        | .error e, hq2 => exact tk e s2 (L2N.XE.of_call I2 (fun cls d H' h => hW cls d H' h) hq2)
        | .ok (.ret u), hq2 => exact I2.after hq2
      exact (pss_one (ps_ret (pos := p3) pe)).run pinsZ sZ σZ HZ DZ IZ ⟨hW, h0, hc, ht⟩
    · refine ⟨fun pinsZ sZ σZ HZ DZ IZ hh => ?_⟩
      have pe : PE (Z0.nox.suite a ((a, oe) :: pn)) (.Call (.Name "_law_word" p5) [.Name "e" p6] [] p7) (fun σZ HZ Q => ∃ DD n, cls = .ref DD ∧ d = none ∧ nm DD n ∧ σZ[1]? = some (some (.ref a)) ∧ ∀ H'', Same HZ H'' → Q (.str n) H'') := by
        subst hZ
        refine ⟨fun pinsZ sZ σZ HZ QZ IZ h => ?_⟩
        obtain ⟨DD, n, rfl, rfl, hn, h1, q⟩ := h
        refine wpAny_Call_Name_kw (ld_glob IZ hgW hmW ?_ (by decide))
        refine PySem.W.callWith_K (h₀ := X.base) IZ.ok.mod.kin hkW ?_ (by rfl) (by rfl)
        refine Calls.spliced_cons (thn ((pe_var (pos := p6) (i := 1) rfl (.inl hlE)).run pinsZ sZ σZ HZ (fun v H2 => v = .ref a ∧ H2 = HZ) IZ ⟨.ref a, h1, rfl, rfl⟩) fun u s1 ⟨v, H2, I2, r2, ev, eH⟩ => ?_)
        subst ev
        subst eH
        obtain rfl : u = Value.ref a := r2
        refine Calls.spliced_nil ⟨I2.kIn, ?_⟩
        have P1 := I2.pin (a, oe) (List.mem_append_left _ List.mem_cons_self)
        have b := bdW s1 [.ref a] I2.kIn rfl
        obtain ⟨vs, hv⟩ := hdat
        refine wpAny_call (codeAny_mono (Wd _ _ s1 H2 ⟨[.ref a], []⟩ (a, oe) DD n QZ (RoomH.mono (k := k + 1) ⟨hr'.dp, hr'.un⟩ hkw) ⟨rfl, vs, hv, hz.2.2 vs hv⟩ ⟨P1.1, P1.2.1, fun hm => (List.mem_cons.mp (I2.stkSub a hm)).elim P1.2.2.1 P1.2.2.2.1, P1.2.2.2.2⟩ hz.1 hz.2.1 hn I2.env0 b q) fun r s2 hq2 => ?_)
        match r, hq2 with
        | .error e, hq2 => exact (show False from hq2).elim
        | .ok (.ret u), hq2 => exact I2.after hq2
      exact (pss_one (ps_ret (pos := p8) pe)).run pinsZ sZ σZ HZ DZ IZ hh
  refine wpAny_call (codeAny_mono rc fun r s2 hq2 => ?_)
  match r, hq2 with
  | .error e, hq2 => exact (show False from hq2).elim
  | .ok (.ret u), hq2 => exact I1.after hq2
end Hl
namespace Fr
open PySem PySem.Spec PyProof.Rows L2 LamX
/-! ### the classes of the refusals -/
def excOne (K : PySem.W.Frag) (names : List Str) (n : Str) : Bool :=
  ((PySem.W.findIn K (.ref (ga K n)) "__getattribute__" == some (some (.builtin "BaseException.__getattribute__"))) && ((PySem.W.findIn K (.ref (ga K n)) "__getattr__" == some none) && ((PySem.W.subIn K (.ref (ga K n)) (.type "BaseException") == some true) && (PySem.W.hasDictIn K (ga K n)
    && ((PySem.W.findIn K (.ref (ga K n)) "__class__" == some (some (.builtin "object.__class__"))) && ((PySem.W.specialIn K (.builtin "object.__class__") "__get__" == some (some (.builtin "getset_descriptor.__get__"))) && ((PySem.W.takesIn K (.builtin "object.__class__") == some true) && ((PySem.W.mroIn K (ga K n) (.type "object") == some true)
    && ((names.all fun m => PySem.W.kitOne K (.ref (ga K n)) (.ref (ga K m)) == some (n == m)) && ((PySem.W.kitOne K (.ref (ga K n)) (.type "ValueError") == some true) && (PySem.W.exmOne K (.ref (ga K n)) (.ref (ga K "RowError")) == some true)))))))))))
def excB (K : PySem.W.Frag) (names : List Str) : Bool := names.all (excOne K names)
theorem exc_of {K : PySem.W.Frag} {names : List Str} {n : Str} (h : excB K names = true) (hn : n ∈ names) :
    ExcC K (ga K n) ∧ (∀ m ∈ names, PySem.W.kitOne K (.ref (ga K n)) (.ref (ga K m)) = some (n == m)) ∧ PySem.W.kitOne K (.ref (ga K n)) (.type "ValueError") = some true ∧ PySem.W.exmOne K (.ref (ga K n)) (.ref (ga K "RowError")) = some true := by
  have h1 := List.all_eq_true.mp h n hn
  unfold excOne at h1
  simp only [Bool.and_eq_true, beq_iff_eq, List.all_eq_true] at h1
  obtain ⟨a1, a2, a3, a4, a5, a6, a7, a8, a9, a10, a11⟩ := h1
  exact ⟨⟨a1, a2, a3, a4, a5, a6, a7, a8⟩, a9, a10, a11⟩
def Nm (K : PySem.W.Frag) (names : List Str) (D : Addr) (n : Str) : Prop := n ∈ names ∧ D = ga K n
/-! ### all but tables stays -/
theorem ext_l {K : PySem.W.Frag} {H H' : Hp} {a : Addr} {xs : List V} (e : ExtN H H') (h : SqL K H a xs) : SqL K H' a xs := by
  rcases h with (h | ⟨o, h⟩) | h
  · exact .inl (.inl (e _ _ h (fun _ z => by cases z)))
  · exact .inl (.inr ⟨o, e _ _ h (fun _ z => by cases z)⟩)
  · exact .inr h
theorem ext_t {K : PySem.W.Frag} {H H' : Hp} {a : Addr} {xs : List V} (e : ExtN H H') (h : SqT K H a xs) : SqT K H' a xs := by
  rcases h with (h | ⟨o, h⟩) | h
  · exact .inl (.inl (e _ _ h (fun _ z => by cases z)))
  · exact .inl (.inr ⟨o, e _ _ h (fun _ z => by cases z)⟩)
  · exact .inr h
mutual
theorem ext_dp {K : PySem.W.Frag} {H H' : Hp} (e : ExtN H H') : ∀ {v : V} {d : PyData}, Dp K H v d → Dp K H' v d
  | _, _, .non => .non
  | _, _, .bl b => .bl b
  | _, _, .int i => .int i
  | _, _, .str x => .str x
  | _, _, .lst h t => .lst (ext_l e h) (ext_dps e t)
  | _, _, .tup h t => .tup (ext_t e h) (ext_dps e t)
theorem ext_dps {K : PySem.W.Frag} {H H' : Hp} (e : ExtN H H') : ∀ {vs : List V} {ds : List PyData}, DpAll K H vs ds → DpAll K H' vs ds
  | _, _, .nil => .nil
  | _, _, .cons h t => .cons (ext_dp e h) (ext_dps e t)
end
theorem ext_same {H H' : Hp} (s : Same H H') : ExtN H H' := ExtN.of s
theorem ext_tabs {T : List (Addr × Str)} {H H' : Hp} (t : Tabs T H) (s : Same H H') : Tabs T H' := t.ext s
/-! ### defs that make lambdas -/
abbrev lamQ (x : Str) : Str := (x ++ ".<locals>.") ++ "<lambda>"
def Tb (K : PySem.W.Frag) (xs : List Str) : List (Addr × Str) := xs.map fun x => ((He.cT K (x, none)).2, lamQ x)
def tabsD (K : PySem.W.Frag) (xs : List Str) : Bool := decide ((xs.map fun x => (He.cT K (x, none)).2).Nodup)
theorem tb_mem {K : PySem.W.Frag} {xs : List Str} {x : Str} (h : x ∈ xs) : ((He.cT K (x, none)).2, lamQ x) ∈ Tb K xs := List.mem_map.mpr ⟨x, h, rfl⟩
theorem nodup_inj {α β : Type} {f : α → β} : ∀ {xs : List α} {x y : α}, (xs.map f).Nodup → x ∈ xs → y ∈ xs → f x = f y → x = y
  | a :: r, x, y, h, hx, hy, e => by
    rw [List.map_cons, List.nodup_cons] at h
    rcases List.mem_cons.mp hx with z1 | z1 <;> rcases List.mem_cons.mp hy with z2 | z2
    · rw [z1, z2]
    · exact absurd (List.mem_map.mpr ⟨y, z2, by rw [← e, z1]⟩) h.1
    · exact absurd (List.mem_map.mpr ⟨x, z1, by rw [e, z2]⟩) h.1
    · exact nodup_inj h.2 z1 z2 e
theorem tb_u {K : PySem.W.Frag} {xs : List Str} {x : Str} (hd : tabsD K xs = true) (h : x ∈ xs) : ∀ p ∈ Tb K xs, p.1 = (He.cT K (x, none)).2 → p.2 = lamQ x := fun p hp e => by
  obtain ⟨y, hy, rfl⟩ := List.mem_map.mp hp
  have e2 : y = x := nodup_inj (of_decide_eq_true hd) hy h e
  rw [e2]
theorem tabs0 {K : PySem.W.Frag} {H : Hp} {xs : List Str} (h : ∀ x ∈ xs, H (He.cT K (x, none)).2 = some (.tbl #[])) : Tabs (Tb K xs) H := fun p hp => by
  obtain ⟨y, hy, rfl⟩ := List.mem_map.mp hp
  exact TabS.nil (h y hy)
/-- what a def that makes lambdas is told of its table -/
abbrev TabX (K : PySem.W.Frag) (mg : Str → Option Value) (base : Heap) (xs : List Str) : Prop := ∀ x ∈ xs, TabB base mg (He.cT K (x, none)).1 (He.cT K (x, none)).2
section
variable {P : Program} {w : World} {K : PySem.W.Frag} {mg : Str → Option Value} {base : Heap}
theorem Cal.mkT {x : Str} {st : Stmt} {N ps : List Str} {k : Nat} {sp : Sp} (D : FnP K x st) (m : mg x = some (.ref (ga K x))) (S : FnScope N ps (defScope st))
    (hb : ∀ (kV doc pm : Value) (an : Option Addr) (cdv ct : Value) (us : List Value), us.length = ps.length → bindArgs (PySem.W.fnOf x x (defArgs st) (defBody st) (defScope st) .none kV doc pm an cdv ct) ⟨us, []⟩ = pure (ps.zip us))
    (len : ∀ vs H Q E, sp vs H Q E → vs.length = ps.length)
    (hbody : ∀ (A : Around) (outer : List Env) (s : Shared) (H : Hp) (vs : List V) (Q : VK) (E : XK), Room k (A.deeper (envOfC x (defScope st) s.heap.objs.size (ga K x) (.ref (He.codeOf K (x, none))))) → sp vs H Q E →
      ∃ t, PSs (cxOf L2.CX0 P w K mg base N x (defScope st) (ga K x) (.ref (He.codeOf K (x, none))) A outer s H E).nox (defBody st) t ∧ t { nx := fun _ H' => Q .non H', rt := Q } (start N vs) H) : Cal P w K mg base L2.CX0 (k + 1) x ps sp := by
  refine ⟨?_, m, D.kp, D.bindsN hb⟩
  have F : FunD K x x (defArgs st) (defBody st) (defScope st) [] [] (ga K x) (fdOf K (x, none)) := D
  obtain ⟨oc, od, dV, kV, doc, pm, an, cdv, ct, osl, e, lk, hcd, _, _⟩ := F.ex
  obtain ⟨c, rfl⟩ := He.codeIn_ref hcd
  rw [e] at lk ⊢
  have ec : He.codeOf K (x, none) = c := He.codeOf_eq lk rfl
  rw [ec] at hbody
  refine fn_of lk hcd S len fun A outer s H vs Q E hr hsp => ?_
  obtain ⟨t, h1, h2⟩ := hbody A outer s H vs Q E hr hsp
  exact ⟨t, h1.nox, h2⟩
end
end Fr
/-! ### zip of any number of lists and tuples -/
namespace Zn
open PySem PySem.Spec PyProof.Rows L2
/-- is it a list, the iterator, what it walks -/
abbrev K3 := Bool × Addr × Addr
def ItAt (h : Heap) (q : K3) (i : Nat) : Prop := match q with
  | (true, it, l) => h.IsListIter it l i
  | (false, it, l) => h.IsTupleIter it l i
def SqAt (h : Heap) (q : K3) (items : Array Value) : Prop := match q with
  | (true, _, l) => h.IsList l items
  | (false, _, l) => h.IsTuple l items
theorem ItAt.at' {h h' : Heap} {q : K3} {i : Nat} (x : ItAt h q i) (e : ∀ o, h.get? q.2.1 = some o → h'.get? q.2.1 = some o) : ItAt h' q i := by
  obtain ⟨b, it, l⟩ := q
  cases b
  · exact Heap.IsTupleIter.at x e
  · exact Heap.IsListIter.at x e
theorem SqAt.at' {h h' : Heap} {q : K3} {a : Array Value} (x : SqAt h q a) (e : ∀ o, h.get? q.2.2 = some o → h'.get? q.2.2 = some o) : SqAt h' q a := by
  obtain ⟨b, it, l⟩ := q
  cases b
  · obtain ⟨o, ho, r⟩ := x
    exact ⟨o, e o ho, r⟩
  · exact Heap.IsList.at x e
theorem ItAt.some {h : Heap} {q : K3} {i : Nat} (x : ItAt h q i) : ∃ o, h.get? q.2.1 = Option.some o ∧ ∃ vs, o.data = .fields vs := by
  obtain ⟨b, it, l⟩ := q
  cases b
  · obtain ⟨o, e, _, d⟩ := x
    exact ⟨o, e, _, d⟩
  · obtain ⟨o, e, _, d⟩ := x
    exact ⟨o, e, _, d⟩
section
variable {prog : Program} {w : World} {A : Around} {E : Value → Shared → Prop} {s : Shared}
theorem nx_item {q : K3} {i : Nat} {items : Array Value} {x : Value} {Q : Value → Shared → Prop} (hit : ItAt s.heap q i) (hl : SqAt s.heap q items) (hx : items[i]? = some x)
    (hQ : ∀ h', ItAt h' q (i + 1) → Heap.SameBut q.2.1 s.heap h' → Q x { s with heap := h' }) : wpAny (model prog w) A (Builtin.SmallTypes.nextOf (.ref q.2.1)) Q E s := by
  obtain ⟨b, it, l⟩ := q
  cases b
  · exact RZ.nextOf_tuple_item hit hl hx hQ
  · exact wpAny_nextOf_list_item hit hl hx hQ
theorem nx_end {q : K3} {i : Nat} {items : Array Value} {Q : Value → Shared → Prop} (hh : A.handled = none) (hit : ItAt s.heap q i) (hl : SqAt s.heap q items) (hx : items[i]? = none)
    (hE : ∀ h' e, Heap.ExtBut q.2.1 s.heap h' → (∃ o, h'.get? e = some o ∧ o.cls = .type "StopIteration") → E (.ref e) { s with heap := h' }) : wpAny (model prog w) A (Builtin.SmallTypes.nextOf (.ref q.2.1)) Q E s := by
  obtain ⟨b, it, l⟩ := q
  cases b
  · exact RZ.nextOf_tuple_end hh hit hl hx hE
  · exact wpAny_nextOf_list_end hh hit hl hx hE
end
abbrev tupO (os : Array Value) : Obj := { cls := .type "tuple", data := .seq os }
abbrev recO (vs : Array Value) : Obj := { cls := .type "zip", data := .fields vs }
def Ready (h : Heap) (i : Nat) : List K3 → List Value → Prop
  | [], [] => True
  | q :: r, x :: xs => ItAt h q i ∧ (∃ items, SqAt h q items ∧ items[i]? = some x) ∧ Ready h i r xs
  | _, _ => False
def Short (h : Heap) (i : Nat) : List K3 → Prop
  | [] => False
  | q :: r => ItAt h q i ∧ ∃ items, SqAt h q items ∧ (items[i]? = none ∨ (∃ x, items[i]? = some x) ∧ Short h i r)
theorem Ready.at' {h h' : Heap} {i : Nat} : ∀ {r : List K3} {xs : List Value}, Ready h i r xs → (∀ q ∈ r, ∀ o, h.get? q.2.1 = some o → h'.get? q.2.1 = some o) → (∀ q ∈ r, ∀ o, h.get? q.2.2 = some o → h'.get? q.2.2 = some o) → Ready h' i r xs
  | [], [], _, _, _ => True.intro
  | q :: r, x :: xs, ⟨a, ⟨items, b, c⟩, d⟩, e1, e2 => ⟨a.at' (e1 q List.mem_cons_self), ⟨items, b.at' (e2 q List.mem_cons_self), c⟩, Ready.at' d (fun p hp => e1 p (List.mem_cons_of_mem _ hp)) fun p hp => e2 p (List.mem_cons_of_mem _ hp)⟩
theorem Short.at' {h h' : Heap} {i : Nat} : ∀ {r : List K3}, Short h i r → (∀ q ∈ r, ∀ o, h.get? q.2.1 = some o → h'.get? q.2.1 = some o) → (∀ q ∈ r, ∀ o, h.get? q.2.2 = some o → h'.get? q.2.2 = some o) → Short h' i r
  | q :: r, ⟨a, items, b, c⟩, e1, e2 => ⟨a.at' (e1 q List.mem_cons_self), items, b.at' (e2 q List.mem_cons_self), c.imp id fun ⟨x, y⟩ => ⟨x, Short.at' y (fun p hp => e1 p (List.mem_cons_of_mem _ hp)) fun p hp => e2 p (List.mem_cons_of_mem _ hp)⟩⟩
abbrev FR := Option PySem.Fin × Unit
/-- a turn of zip's own loop -/
def StepF (prog : Program) (w : World) (A : Around) (f : Value × Nat → FR → Sem (ForInStep FR)) (z TO : Addr) : Prop :=
  ∀ (it : Value) (k : Nat) (c : FR) (Q : ForInStep FR → Shared → Prop) (E : Value → Shared → Prop) (s : Shared),
    wpAny (model prog w) A (Builtin.SmallTypes.nextOf it) (fun x s1 => ∃ os : Array Value, os.size ≤ 100 ∧ s1.heap.get? TO = some (tupO os) ∧ ∀ h', h'.get? TO = some (tupO (os.setIfInBounds k x)) → Heap.SameBut TO s1.heap h' → Q (.yield (none, ())) { s1 with heap := h' })
      (fun e s1 => ∃ vs, s1.heap.get? z = some (recO vs) ∧ 0 < vs.size ∧ ∀ h', Heap.SameBut z s1.heap h' → E e { s1 with heap := h' }) s → wpAny (model prog w) A (f (it, k) c) Q E s
/-- the cells lie apart -/
structure Apart (z TI TO : Addr) (r : List K3) : Prop where
  TIz : TI ≠ z
  TOz : TO ≠ z
  TITO : TI ≠ TO
  nd : (r.map (·.2.1)).Nodup
  iz : ∀ q ∈ r, q.2.1 ≠ z
  iTI : ∀ q ∈ r, q.2.1 ≠ TI
  iTO : ∀ q ∈ r, q.2.1 ≠ TO
  lz : ∀ q ∈ r, q.2.2 ≠ z
  lTO : ∀ q ∈ r, q.2.2 ≠ TO
  li : ∀ q ∈ r, ∀ p ∈ r, q.2.2 ≠ p.2.1
theorem Apart.tail {z TI TO : Addr} {q : K3} {r : List K3} (a : Apart z TI TO (q :: r)) : Apart z TI TO r :=
  ⟨a.TIz, a.TOz, a.TITO, (List.nodup_cons.mp a.nd).2, fun p hp => a.iz p (List.mem_cons_of_mem _ hp), fun p hp => a.iTI p (List.mem_cons_of_mem _ hp), fun p hp => a.iTO p (List.mem_cons_of_mem _ hp), fun p hp => a.lz p (List.mem_cons_of_mem _ hp),
    fun p hp => a.lTO p (List.mem_cons_of_mem _ hp), fun p hp p' hp' => a.li p (List.mem_cons_of_mem _ hp) p' (List.mem_cons_of_mem _ hp')⟩
theorem Apart.other {z TI TO : Addr} {q p : K3} {r : List K3} (a : Apart z TI TO (q :: r)) (hp : p ∈ r) : p.2.1 ≠ q.2.1 := fun e => (List.nodup_cons.mp a.nd).1 (List.mem_map.mpr ⟨p, hp, e⟩)
section
variable {prog : Program} {w : World} {A : Around} {f : Value × Nat → FR → Sem (ForInStep FR)} {z TI TO : Addr} {i : Nat}
theorem loop_item (hf : StepF prog w A f z TO) : ∀ (r : List K3) (xs : List Value) (k : Nat) (s : Shared) (os : Array Value) (Q : FR → Shared → Prop) (E : Value → Shared → Prop), Apart z TI TO r → Ready s.heap i r xs → s.heap.get? TO = some (tupO os) → os.size = k + r.length → os.size ≤ 100 →
    (∀ h' (os' : Array Value), h'.get? TO = some (tupO os') → os'.toList = os.toList.take k ++ xs → (∀ q ∈ r, ItAt h' q (i + 1)) → h'.objs.size = s.heap.objs.size → (∀ c o, c ≠ TO → (∀ q ∈ r, c ≠ q.2.1) → s.heap.get? c = some o → h'.get? c = some o) → Q (none, ()) { s with heap := h' }) →
    wpAny (model prog w) A (forIn ((r.map fun q => Value.ref q.2.1).zipIdx k) ((none, ()) : FR) f) Q E s := by
  intro r
  induction r with
  | nil =>
    intro xs k s os Q E D hr hT hk _ h
    cases xs with
    | cons x xs => exact hr.elim
    | nil =>
    rw [List.map_nil, List.zipIdx_nil, List.forIn_nil]
    refine wpAny_pure (h s.heap os hT ?_ (fun q hq => nomatch hq) rfl fun _ _ _ _ e => e)
    rw [List.append_nil, List.take_of_length_le (by simp at hk; simp [hk])]
  | cons q r ih =>
    intro xs k s os Q E D hr hT hk h100 h
    cases xs with
    | nil => exact hr.elim
    | cons x xs =>
    obtain ⟨h1, ⟨items, h2, h3⟩, h4⟩ := hr
    rw [List.map_cons, List.zipIdx_cons, List.forIn_cons]
    refine wpAny_bind (hf _ _ _ _ _ _ (nx_item h1 h2 h3 fun ha hia sa => ?_))
    have hTa : ha.get? TO = some (tupO os) := sa.extBut _ _ (D.iTO q List.mem_cons_self).symm hT
    refine ⟨os, h100, hTa, fun hb hTb sb => ?_⟩
    have kp : ∀ c o, c ≠ TO → c ≠ q.2.1 → s.heap.get? c = some o → hb.get? c = some o := fun c o c1 c2 e => sb.extBut c o c1 (sa.extBut c o c2 e)
    have hk' : k < os.size := by rw [hk, List.length_cons]; omega
    refine ih xs (k + 1) { s with heap := hb } (os.setIfInBounds k x) Q E D.tail ?_ hTb (by rw [Array.size_setIfInBounds, hk, List.length_cons]; omega) (by rw [Array.size_setIfInBounds]; exact h100) fun h' os' g1 g2 g3 g4 g5 => ?_
    · exact h4.at' (fun p hp o e => kp _ o (D.tail.iTO p hp) (D.other hp) e) fun p hp o e => kp _ o (D.tail.lTO p hp) (D.li p (List.mem_cons_of_mem _ hp) q List.mem_cons_self) e
    · refine h h' os' g1 ?_ (fun p hp => ?_) (by rw [g4]; show hb.objs.size = _; rw [sb.1, sa.1]) fun c o c1 c2 e => g5 c o c1 (fun p hp => c2 p (List.mem_cons_of_mem _ hp)) (kp c o c1 (c2 q List.mem_cons_self) e)
      · rw [g2]
        have hl : k < os.toList.length := by simpa using hk'
        rw [Array.toList_setIfInBounds, List.take_succ, List.take_set_of_le (Nat.le_refl _), List.getElem?_set_self hl]
        simp
      · rcases List.mem_cons.mp hp with rfl | hp
        · refine ItAt.at' hia fun o e => g5 _ o (D.iTO p List.mem_cons_self) (fun p' hp' z => D.other hp' z.symm) (sb.extBut _ o (D.iTO p List.mem_cons_self) e)
        · exact g3 p hp
theorem loop_end (hh : A.handled = none) (hf : StepF prog w A f z TO) : ∀ (r : List K3) (k : Nat) (s : Shared) (os : Array Value) (Q : FR → Shared → Prop) (E : Value → Shared → Prop) (f0 : Value), Apart z TI TO r → Short s.heap i r → IsZip s.heap z TI TO f0 → s.heap.get? TO = some (tupO os) → os.size ≤ 100 →
    (∀ h' e, (∀ c o, c ≠ z → c ≠ TO → (∀ q ∈ r, c ≠ q.2.1) → s.heap.get? c = some o → h'.get? c = some o) → (∃ o, h'.get? e = some o ∧ o.cls = .type "StopIteration") → E (.ref e) { s with heap := h' }) →
    wpAny (model prog w) A (forIn ((r.map fun q => Value.ref q.2.1).zipIdx k) ((none, ()) : FR) f) Q E s := by
  intro r
  induction r with
  | nil =>
    intro k s os Q E f0 D hs
    exact hs.elim
  | cons q r ih =>
    intro k s os Q E f0 D hs hz hT h100 h
    obtain ⟨h1, items, h2, h3⟩ := hs
    rw [List.map_cons, List.zipIdx_cons, List.forIn_cons]
    rcases h3 with h3 | ⟨⟨x, h3⟩, h4⟩
    · refine wpAny_bind (hf _ _ _ _ _ _ (nx_end hh h1 h2 h3 fun ha e sa he => ?_))
      have hz' : IsZip ha z TI TO f0 := sa _ _ (D.iz q List.mem_cons_self).symm hz
      refine ⟨_, hz', by simp, fun hb sb => h hb e (fun c o c1 c2 c3 g => sb.extBut _ _ c1 (sa _ _ (c3 q List.mem_cons_self) g)) ?_⟩
      obtain ⟨o, ho, hc⟩ := he
      refine ⟨o, sb.extBut _ _ (fun y => ?_) ho, hc⟩
      subst y
      rw [hz'] at ho
      cases ho
      simp at hc
    · refine wpAny_bind (hf _ _ _ _ _ _ (nx_item h1 h2 h3 fun ha hia sa => ?_))
      have hTa : ha.get? TO = some (tupO os) := sa.extBut _ _ (D.iTO q List.mem_cons_self).symm hT
      refine ⟨os, h100, hTa, fun hb hTb sb => ?_⟩
      have kp : ∀ c o, c ≠ TO → c ≠ q.2.1 → s.heap.get? c = some o → hb.get? c = some o := fun c o c1 c2 e => sb.extBut c o c1 (sa.extBut c o c2 e)
      refine ih (k + 1) { s with heap := hb } (os.setIfInBounds k x) Q E f0 D.tail ?_ (kp _ _ D.TOz.symm (D.iz q List.mem_cons_self).symm hz) hTb (by rw [Array.size_setIfInBounds]; exact h100) fun h' e g1 g2 => ?_
      · exact h4.at' (fun p hp o e => kp _ o (D.tail.iTO p hp) (D.other hp) e) fun p hp o e => kp _ o (D.tail.lTO p hp) (D.li p (List.mem_cons_of_mem _ hp) q List.mem_cons_self) e
      · exact h h' e (fun c o c1 c2 c3 g => g1 c o c1 c2 (fun p hp => c3 p (List.mem_cons_of_mem _ hp)) (kp c o c2 (c3 q List.mem_cons_self) g)) g2

end
section
variable {prog : Program} {w : World} {A : Around} {E : Value → Shared → Prop} {s : Shared} {z TI TO : Addr} {i : Nat}
theorem next_item {r : List K3} {xs : List Value} {os : Array Value} {Q : Value → Shared → Prop} (D : Apart z TI TO r) (hne : r ≠ []) (h100 : os.size ≤ 100) (hos : os.size = r.length)
    (hz : IsZip s.heap z TI TO .none) (hTI : s.heap.get? TI = some (tupO (r.map fun q => Value.ref q.2.1).toArray)) (hTO : s.heap.get? TO = some (tupO os)) (hr : Ready s.heap i r xs)
    (hQ : ∀ h', IsZip h' z TI TO (rawInt s.heap.objs.size) → h'.get? TI = some (tupO (r.map fun q => Value.ref q.2.1).toArray) → h'.get? TO = some (tupO xs.toArray) → (∀ q ∈ r, ItAt h' q (i + 1)) → h'.get? s.heap.objs.size = some (tupO xs.toArray) → h'.objs.size = s.heap.objs.size + 1 →
      (∀ c o, c ≠ z → c ≠ TO → (∀ q ∈ r, c ≠ q.2.1) → s.heap.get? c = some o → h'.get? c = some o) → Q (.ref s.heap.objs.size) { s with heap := h' }) :
    wpAny (model prog w) A (Builtin.«zip.__next__» ⟨[.ref z], []⟩) (fun fin s' => ∃ v, fin = .done (.ret v) ∧ Q v s') E s := by
  show wpAny _ _ (field (.ref z) 2 >>= _) _ _ _
  refine wpAny_bind (wpAny_field hz rfl (x := .bool false) rfl ?_)
  show wpAny _ _ (field (.ref z) 3 >>= _) _ _ _
  refine wpAny_bind (wpAny_field hz rfl (x := .ref TI) rfl ?_)
  refine wpAny_bind (wpAny_seqItems hTI rfl ?_)
  show wpAny _ _ (if (r.map fun q => Value.ref q.2.1).toArray.isEmpty = true then _ else _) _ _ _
  rw [if_neg (by cases r with | nil => exact absurd rfl hne | cons => simp)]
  show wpAny _ _ (Builtin.SmallTypes.ownedTupleIsFree (.ref z) >>= _) _ _ _
  refine wpAny_bind ?_
  unfold Builtin.SmallTypes.ownedTupleIsFree
  refine wpAny_bind (wpAny_field hz rfl (x := .none) rfl (wpAny_pure ?_))
  simp only [if_true]
  refine wpAny_bind (wpAny_rule ?_)
  refine wpAny_bind (wpAny_field hz rfl (x := .ref TO) rfl ?_)
  refine wpAny_bind (wpAny_setField_rec hz (by simp) fun h₁ hz₁ hs₁ => ?_)
  replace hz₁ : IsZip h₁ z TI TO .ellipsis := hz₁
  refine wpAny_bind ?_
  refine loop_item (i := i) (fun it k c Q E s h => by
    refine wpAny_bind (wpAny_onRaise ?_)
    show wpAny _ _ (Builtin.SmallTypes.nextOf it >>= _) _ _ _
    refine wpAny_bind (wpAny_mono h (fun x s1 hx => wpAny_pure ?_) fun e s1 he => ?_)
    · obtain ⟨os, h100, hT, hq⟩ := hx
      refine wpAny_bind (wpAny_seqItems hT rfl ?_)
      refine wpAny_bind (wpAny_updateSeq hT rfl ?_ (Nat.le_trans h100 (by decide)) (by rw [Array.size_setIfInBounds]; exact Nat.le_trans h100 (by decide)))
      refine wpAny_bind (wpAny_letGo (wpAny_pure (hq _ ?_ (Heap.SameBut.update ..))))
      rw [Heap.get?_update_self _ hT rfl]
      simp [Obj.mapSeq]
    · obtain ⟨vs, hz, h0, hq⟩ := he
      exact wpAny_setField_rec hz h0 fun h' _ sb => hq h' sb) r xs 0 { s with heap := h₁ } os _ _ D ?_ (hs₁.extBut _ _ D.TOz hTO) (by rw [hos, Nat.zero_add]) h100 fun h₂ os' g1 g2 g3 g4 g5 => ?_
  · exact hr.at' (fun q hq o e => hs₁.extBut _ o (D.iz q hq) e) fun q hq o e => hs₁.extBut _ o (D.lz q hq) e
  have eos : os' = xs.toArray := by
    rw [List.take_zero, List.nil_append] at g2
    rw [← g2]
  subst eos
  refine wpAny_bind (wpAny_seqItems g1 rfl ?_)
  have hxl : xs.length ≤ 100 := by
    have e1 : ∀ {h : Heap} {r : List K3} {xs : List Value}, Ready h i r xs → xs.length = r.length := by
      intro h r
      induction r with
      | nil =>
        intro xs hr
        cases xs with
        | nil => rfl
        | cons => exact hr.elim
      | cons q r ih =>
        intro xs hr
        cases xs with
        | nil => exact hr.elim
        | cons x xs => exact congrArg (· + 1) (ih hr.2.2)
    rw [e1 hr, ← hos]
    exact h100
  refine wpAny_bind (wpAny_newTuple ?_ (by show xs.length ≤ sizeLine; exact Nat.le_trans hxl (by decide)))
  have hsz : h₂.objs.size = s.heap.objs.size := by rw [g4]; exact hs₁.1
  have hz₂ : IsZip h₂ z TI TO .ellipsis := g5 _ _ D.TOz.symm (fun q hq => (D.iz q hq).symm) hz₁
  have kp : ∀ c o, c ≠ z → c ≠ TO → (∀ q ∈ r, c ≠ q.2.1) → s.heap.get? c = some o → h₂.get? c = some o := fun c o c1 c2 c3 e => g5 c o c2 c3 (hs₁.extBut _ _ c1 e)
  have hzlt : z < h₂.objs.size := Heap.lt_size hz₂
  show wpAny _ _ (Builtin.SmallTypes.ownedTupleHandOut (.ref z) (.ref h₂.objs.size) >>= _) _ _ _
  refine wpAny_bind ?_
  unfold Builtin.SmallTypes.ownedTupleHandOut
  have hz₆ : IsZip (h₂.push (tupO xs.toArray)) z TI TO .ellipsis := Heap.get?_push_of_some _ hz₂
  refine wpAny_bind (wpAny_setField_rec hz₆ (by simp) fun h₇ hz₇ hs₇ => ?_)
  replace hz₇ : IsZip h₇ z TI TO (rawInt h₂.objs.size) := hz₇
  refine wpAny_setField_rec hz₇ (by simp) fun h₈ hz₈ hs₈ => ?_
  replace hz₈ : IsZip h₈ z TI TO (rawInt h₂.objs.size) := hz₈
  have up : ∀ c o, c ≠ z → h₂.get? c = some o → h₈.get? c = some o := fun c o c1 e => hs₈.extBut _ _ c1 (hs₇.extBut _ _ c1 (Heap.get?_push_of_some _ e))
  have hT₈ : h₈.get? h₂.objs.size = some (tupO xs.toArray) := hs₈.extBut _ _ (Nat.ne_of_gt hzlt) (hs₇.extBut _ _ (Nat.ne_of_gt hzlt) (Heap.get?_push_size _ rfl))
  have hz8 : h₈.objs.size = h₂.objs.size + 1 := by rw [hs₈.1, hs₇.1, Heap.size_push]
  rw [hsz] at hz₈ hT₈ hz8
  refine wpAny_pure ⟨_, rfl, ?_⟩
  show Q (.ref h₂.objs.size) _
  rw [hsz]
  exact hQ h₈ hz₈ (up _ _ D.TIz (kp _ _ D.TIz D.TITO (fun q hq => (D.iTI q hq).symm) hTI)) (up _ _ D.TOz g1) (fun q hq => (g3 q hq).at' fun o e => up _ o (D.iz q hq) e) hT₈ hz8 fun c o c1 c2 c3 e => up c o c1 (kp c o c1 c2 c3 e)
theorem next_end {r : List K3} {os : Array Value} {Q : PySem.Fin → Shared → Prop} (hh : A.handled = none) (D : Apart z TI TO r) (hne : r ≠ []) (h100 : os.size ≤ 100)
    (hz : IsZip s.heap z TI TO .none) (hTI : s.heap.get? TI = some (tupO (r.map fun q => Value.ref q.2.1).toArray)) (hTO : s.heap.get? TO = some (tupO os)) (hr : Short s.heap i r)
    (hE : ∀ h' e, (∀ c o, c ≠ z → c ≠ TO → (∀ q ∈ r, c ≠ q.2.1) → s.heap.get? c = some o → h'.get? c = some o) → (∃ o, h'.get? e = some o ∧ o.cls = .type "StopIteration") → E (.ref e) { s with heap := h' }) :
    wpAny (model prog w) A (Builtin.«zip.__next__» ⟨[.ref z], []⟩) Q E s := by
  show wpAny _ _ (field (.ref z) 2 >>= _) _ _ _
  refine wpAny_bind (wpAny_field hz rfl (x := .bool false) rfl ?_)
  show wpAny _ _ (field (.ref z) 3 >>= _) _ _ _
  refine wpAny_bind (wpAny_field hz rfl (x := .ref TI) rfl ?_)
  refine wpAny_bind (wpAny_seqItems hTI rfl ?_)
  show wpAny _ _ (if (r.map fun q => Value.ref q.2.1).toArray.isEmpty = true then _ else _) _ _ _
  rw [if_neg (by cases r with | nil => exact absurd rfl hne | cons => simp)]
  show wpAny _ _ (Builtin.SmallTypes.ownedTupleIsFree (.ref z) >>= _) _ _ _
  refine wpAny_bind ?_
  unfold Builtin.SmallTypes.ownedTupleIsFree
  refine wpAny_bind (wpAny_field hz rfl (x := .none) rfl (wpAny_pure ?_))
  simp only [if_true]
  refine wpAny_bind (wpAny_rule ?_)
  refine wpAny_bind (wpAny_field hz rfl (x := .ref TO) rfl ?_)
  refine wpAny_bind (wpAny_setField_rec hz (by simp) fun h₁ hz₁ hs₁ => ?_)
  replace hz₁ : IsZip h₁ z TI TO .ellipsis := hz₁
  refine wpAny_bind ?_
  refine loop_end (i := i) hh (fun it k c Q E s h => by
    refine wpAny_bind (wpAny_onRaise ?_)
    show wpAny _ _ (Builtin.SmallTypes.nextOf it >>= _) _ _ _
    refine wpAny_bind (wpAny_mono h (fun x s1 hx => wpAny_pure ?_) fun e s1 he => ?_)
    · obtain ⟨os, h100, hT, hq⟩ := hx
      refine wpAny_bind (wpAny_seqItems hT rfl ?_)
      refine wpAny_bind (wpAny_updateSeq hT rfl ?_ (Nat.le_trans h100 (by decide)) (by rw [Array.size_setIfInBounds]; exact Nat.le_trans h100 (by decide)))
      refine wpAny_bind (wpAny_letGo (wpAny_pure (hq _ ?_ (Heap.SameBut.update ..))))
      rw [Heap.get?_update_self _ hT rfl]
      simp [Obj.mapSeq]
    · obtain ⟨vs, hz, h0, hq⟩ := he
      exact wpAny_setField_rec hz h0 fun h' _ sb => hq h' sb) r 0 { s with heap := h₁ } os _ _ .ellipsis D ?_ hz₁ (hs₁.extBut _ _ D.TOz hTO) h100 fun h₂ e g1 g2 => ?_
  · exact hr.at' (fun q hq o e => hs₁.extBut _ o (D.iz q hq) e) fun q hq o e => hs₁.extBut _ o (D.lz q hq) e
  · exact hE h₂ e (fun c o c1 c2 c3 x => g1 c o c1 c2 c3 (hs₁.extBut _ _ c1 x)) g2
end
end Zn
namespace Zn
open PySem PySem.Spec PyProof.Rows L2
/-! ### a zip made -/
abbrev K2 := Bool × Addr
def made : Nat → List K2 → List K3
  | _, [] => []
  | n, (b, l) :: r => (b, n, l) :: made (n + 1) r
theorem made_len : ∀ (ks : List K2) (n : Nat), (made n ks).length = ks.length
  | [], _ => rfl
  | _ :: r, n => congrArg (· + 1) (made_len r (n + 1))
theorem made_ge : ∀ (ks : List K2) (n : Nat) (q : K3), q ∈ made n ks → n ≤ q.2.1 ∧ @LT.lt Nat _ q.2.1 (n + ks.length)
  | (b, l) :: r, n, q, h => by
    rcases List.mem_cons.mp h with rfl | h
    · exact ⟨Nat.le_refl _, by simp⟩
    · have := made_ge r (n + 1) q h
      simp only [List.length_cons]
      omega
theorem made_src : ∀ (ks : List K2) (n : Nat) (q : K3), q ∈ made n ks → (q.1, q.2.2) ∈ ks
  | (b, l) :: r, n, q, h => by
    rcases List.mem_cons.mp h with rfl | h
    · exact List.mem_cons_self
    · exact List.mem_cons_of_mem _ (made_src r (n + 1) q h)
theorem made_nodup : ∀ (ks : List K2) (n : Nat), ((made n ks).map (·.2.1)).Nodup
  | [], _ => List.nodup_nil
  | (b, l) :: r, n => by
    refine List.nodup_cons.mpr ⟨fun h => ?_, made_nodup r (n + 1)⟩
    obtain ⟨q, hq, e⟩ := List.mem_map.mp h
    have := (made_ge r (n + 1) q hq).1
    have e : @Eq Nat q.2.1 n := e
    omega
def Sq0 (h : Heap) (q : K2) : Prop := ∃ items, SqAt h (q.1, 0, q.2) items
theorem Sq0.lt {h : Heap} {q : K2} (x : Sq0 h q) : q.2 < h.objs.size := by
  obtain ⟨b, l⟩ := q
  obtain ⟨items, x⟩ := x
  cases b
  · obtain ⟨o, e, _⟩ := x
    exact Heap.lt_size e
  · obtain ⟨o, e, _⟩ := x
    exact Heap.lt_size e
theorem Sq0.keep {h h' : Heap} {q : K2} (x : Sq0 h q) (k : ∀ b o, h.get? b = some o → h'.get? b = some o) : Sq0 h' q := by
  obtain ⟨items, x⟩ := x
  exact ⟨items, x.at' fun o e => k _ o e⟩
section
variable {prog : Program} {w : World} {A : Around} {E : Value → Shared → Prop}
theorem iter_one {q : K2} {s : Shared} {Q : Value → Shared → Prop} (hq : Sq0 s.heap q) (h : ∀ h', (∀ b o, s.heap.get? b = some o → h'.get? b = some o) → h'.objs.size = s.heap.objs.size + 1 → ItAt h' (q.1, s.heap.objs.size, q.2) 0 → Q (.ref s.heap.objs.size) { s with heap := h' }) :
    wpAny (model prog w) A (pyIter (.ref q.2)) Q E s := by
  obtain ⟨b, l⟩ := q
  obtain ⟨items, hq⟩ := hq
  cases b
  · exact wpAny_pyIter_tuple hq (h _ (fun b o e => Heap.get?_push_of_some _ e) (Heap.size_push ..) ⟨_, Heap.get?_push_size _ rfl, rfl, rfl⟩)
  · exact wpAny_pyIter_list hq (h _ (fun b o e => Heap.get?_push_of_some _ e) (Heap.size_push ..) ⟨_, Heap.get?_push_size _ rfl, rfl, rfl⟩)
theorem iter_all : ∀ (ks : List K2) (acc : Array Value) (s : Shared) (Q : Array Value → Shared → Prop), (∀ q ∈ ks, Sq0 s.heap q) →
    (∀ h', (∀ b o, s.heap.get? b = some o → h'.get? b = some o) → h'.objs.size = s.heap.objs.size + ks.length → (∀ q ∈ made s.heap.objs.size ks, ItAt h' q 0) → Q (acc ++ ((made s.heap.objs.size ks).map fun q => Value.ref q.2.1).toArray) { s with heap := h' }) →
    wpAny (model prog w) A (forIn (ks.map fun q => Value.ref q.2) acc fun x r => do
      let v ← holding r.toList (pyIter x)
      pure (ForInStep.yield (r.push v))) Q E s := by
  intro ks
  induction ks with
  | nil =>
    intro acc s Q _ h
    rw [List.map_nil, List.forIn_nil]
    have := h s.heap (fun _ _ e => e) rfl (fun q hq => nomatch hq)
    refine wpAny_pure ?_
    simpa [made] using this
  | cons q ks ih =>
    intro acc s Q hq h
    rw [List.map_cons, List.forIn_cons]
    refine wpAny_bind (wpAny_bind (wpAny_holding (iter_one (hq q List.mem_cons_self) fun h1 k1 z1 i1 => wpAny_pure ?_)))
    refine ih _ { s with heap := h1 } Q (fun p hp => (hq p (List.mem_cons_of_mem _ hp)).keep k1) fun h2 k2 z2 i2 => ?_
    have e := h h2 (fun b o e => k2 b o (k1 b o e)) (by rw [z2]; show h1.objs.size + _ = _; rw [z1, List.length_cons]; omega) (fun p hp => ?_)
    · have e2 : acc ++ ((made s.heap.objs.size (q :: ks)).map fun q => Value.ref q.2.1).toArray = acc.push (.ref s.heap.objs.size) ++ ((made h1.objs.size ks).map fun q => Value.ref q.2.1).toArray := by
        rw [z1]
        obtain ⟨b, l⟩ := q
        simp [made]
      rw [e2] at e
      exact e
    · obtain ⟨b, l⟩ := q
      rcases List.mem_cons.mp hp with rfl | hp
      · exact i1.at' fun o e => k2 _ o e
      · have z1 : h1.objs.size = s.heap.objs.size + 1 := z1
        refine i2 p ?_
        show p ∈ made h1.objs.size ks
        rw [z1]
        exact hp
/-- what zip leaves -/
structure Zip0 (n : Nat) (ks : List K2) (h h' : Heap) : Prop where
  z : IsZip h' (n + ks.length + 2) (n + ks.length) (n + ks.length + 1) .none
  ti : h'.get? (n + ks.length) = some (tupO ((made n ks).map fun q => Value.ref q.2.1).toArray)
  to : h'.get? (n + ks.length + 1) = some (tupO (Array.replicate ks.length Value.none))
  its : ∀ q ∈ made n ks, ItAt h' q 0
  keep : ∀ b o, h.get? b = some o → h'.get? b = some o
theorem meets_new (ks : List K2) (h100 : ks.length ≤ 100) : Meets (Builtin.«zip.__new__» ⟨.type "zip" :: ks.map (fun q => Value.ref q.2), []⟩) (fun _ R s => (∀ q ∈ ks, Sq0 s.heap q) ∧ ∀ h', Zip0 s.heap.objs.size ks s.heap h' → R (.ok (.ret (.ref (s.heap.objs.size + ks.length + 2)))) { s with heap := h' }) :=
  .of_wp fun prog w A R s h => by
    obtain ⟨hq, h⟩ := h
    unfold Builtin.«zip.__new__»
    refine wpAny_bind (m := Builtin.SmallTypes.newClass _ _) ?_
    unfold Builtin.SmallTypes.newClass
    refine wpAny_bind (wpAny_of_eq (a := true) (by first | rfl | kernel_rfl) ?_)
    refine wpAny_bind (wpAny_of_eq (a := true) sub_zip ?_)
    refine wpAny_pure ?_
    show wpAny _ _ (Builtin.SmallTypes.iterAll (ks.map fun q => Value.ref q.2) >>= _) _ _ _
    unfold Builtin.SmallTypes.iterAll
    refine wpAny_bind (wpAny_bind (iter_all ks #[] s _ hq fun h1 k1 z1 i1 => wpAny_pure ?_))
    have el : ((#[] : Array Value) ++ ((made s.heap.objs.size ks).map fun (q : K3) => Value.ref q.2.1).toArray).toList = (made s.heap.objs.size ks).map fun (q : K3) => Value.ref q.2.1 := by simp
    rw [el]
    have hl := made_len ks s.heap.objs.size
    refine wpAny_bind (wpAny_newTuple ?_ (by rw [List.length_map, hl]; exact Nat.le_trans h100 (by decide)))
    refine wpAny_bind (wpAny_newTuple ?_ (by rw [List.length_map, List.length_map, hl]; exact Nat.le_trans h100 (by decide)))
    refine wpAny_bind ?_
    unfold Builtin.SmallTypes.newRecord
    refine wpAny_newObj_type ?_ (by show 5 ≤ sizeLine + 2; decide)
    refine wpAny_pure ⟨_, rfl, ?_⟩
    have z1 : h1.objs.size = s.heap.objs.size + ks.length := z1
    have en : ((made s.heap.objs.size ks).map fun q => Value.ref q.2.1).map (fun _ => Value.none) = List.replicate ks.length Value.none := by
      rw [List.map_map]
      have e9 : ∀ l : List K3, l.map ((fun _ => Value.none) ∘ fun (q : K3) => Value.ref q.2.1) = List.replicate l.length Value.none := by
        intro l
        induction l with
        | nil => rfl
        | cons a l ih => rw [List.map_cons, ih]; rfl
      rw [e9, hl]
    rw [en]
    generalize hm : (made s.heap.objs.size ks).map (fun q => Value.ref q.2.1) = ms at *
    have zz1 : (h1.push (tupO ms.toArray)).objs.size = s.heap.objs.size + ks.length + 1 := by rw [Heap.size_push, z1]
    have zz2 : ((h1.push (tupO ms.toArray)).push (tupO (List.replicate ks.length Value.none).toArray)).objs.size = s.heap.objs.size + ks.length + 2 := by rw [Heap.size_push, zz1]
    have g1 : (h1.push (tupO ms.toArray)).get? (s.heap.objs.size + ks.length) = some (tupO ms.toArray) := by rw [← z1]; exact Heap.get?_push_size _ rfl
    have g2 : ((h1.push (tupO ms.toArray)).push (tupO (List.replicate ks.length Value.none).toArray)).get? (s.heap.objs.size + ks.length + 1) = some (tupO (List.replicate ks.length Value.none).toArray) := by rw [← zz1]; exact Heap.get?_push_size _ rfl
    show R (.ok (.ret (.ref ((h1.push (tupO ms.toArray)).push (tupO (List.replicate ks.length Value.none).toArray)).objs.size))) _
    rw [zz2]
    refine h _ ⟨?_, ?_, ?_, fun q hq => (i1 q hq).at' fun o e => Heap.get?_push_of_some _ (Heap.get?_push_of_some _ (Heap.get?_push_of_some _ e)), fun b o e => Heap.get?_push_of_some _ (Heap.get?_push_of_some _ (Heap.get?_push_of_some _ (k1 b o e)))⟩
    · rw [← zz2, ← zz1, ← z1]
      exact Heap.get?_push_size _ rfl
    · rw [hm]
      exact Heap.get?_push_of_some _ (Heap.get?_push_of_some _ g1)
    · have e3 : Array.replicate ks.length Value.none = (List.replicate ks.length Value.none).toArray := by simp
      rw [e3]
      exact Heap.get?_push_of_some _ g2

theorem call_zipN {ks : List K2} {s : Shared} {Q : Value → Shared → Prop} (h100 : ks.length ≤ 100) (h1 : checkTypeCall "zip" ⟨ks.map (fun q => Value.ref q.2), []⟩ = pure ()) (h2 : checkBuiltinCall "zip.__new__" ⟨.type "zip" :: ks.map (fun q => Value.ref q.2), []⟩ = pure ())
    (h3 : ∀ obj, argsOk "object.__init__" ⟨obj :: ks.map (fun q => Value.ref q.2), []⟩) (hq : ∀ q ∈ ks, Sq0 s.heap q) (h : ∀ h', Zip0 s.heap.objs.size ks s.heap h' → Q (.ref (s.heap.objs.size + ks.length + 2)) { s with heap := h' }) :
    wpAny (model prog w) A (call (.type "zip") (ks.map fun q => Value.ref q.2)) Q E s := by
  refine callType_new F.called_zip (by decide) h1 h2 h3 F.entry_zip_new (meets_new ks h100) ⟨hq, fun h' z => ?_⟩
  exact ⟨⟨_, z.z, rfl⟩, h h' z⟩
theorem apart_made {n : Nat} {ks : List K2} (hl : ∀ q ∈ ks, @LT.lt Nat _ q.2 n) : Apart (n + ks.length + 2) (n + ks.length) (n + ks.length + 1) (made n ks) := by
  have lt : ∀ q ∈ made n ks, @LT.lt Nat _ q.2.2 n := fun q hq => hl _ (made_src ks n q hq)
  have ge : ∀ q ∈ made n ks, n ≤ q.2.1 ∧ @LT.lt Nat _ q.2.1 (n + ks.length) := made_ge ks n
  refine ⟨?_, ?_, ?_, made_nodup ks n, fun q hq e => ?_, fun q hq e => ?_, fun q hq e => ?_, fun q hq e => ?_, fun q hq e => ?_, fun q hq p hp e => ?_⟩
  · exact Nat.ne_of_lt (by omega)
  · exact Nat.ne_of_lt (by omega)
  · exact Nat.ne_of_lt (by omega)
  · have e : @Eq Nat q.2.1 _ := e
    have := ge q hq
    omega
  · have e : @Eq Nat q.2.1 _ := e
    have := ge q hq
    omega
  · have e : @Eq Nat q.2.1 _ := e
    have := ge q hq
    omega
  · have e : @Eq Nat q.2.2 _ := e
    have := lt q hq
    omega
  · have e : @Eq Nat q.2.2 _ := e
    have := lt q hq
    omega
  · have e : @Eq Nat q.2.2 _ := e
    have := lt q hq
    have := ge p hp
    omega
end
/-! ### the walk -/
def Sq (K : PySem.W.Frag) (H : Hp) (q : K2) (xs : List V) : Prop := match q with
  | (true, a) => SqL K H a xs
  | (false, a) => SqT K H a xs
/-- row i: an item of each -/
def Row (K : PySem.W.Frag) (H : Hp) (i : Nat) : List K2 → List V → Prop
  | [], [] => True
  | q :: r, x :: xs => (∃ ys, Sq K H q ys ∧ ys[i]? = some x) ∧ Row K H i r xs
  | _, _ => False
def Out (K : PySem.W.Frag) (H : Hp) (i : Nat) : List K2 → Prop
  | [] => False
  | q :: r => ∃ ys, Sq K H q ys ∧ (ys.length ≤ i ∨ i < ys.length ∧ Out K H i r)
def Itn (K : PySem.W.Frag) (ks : List K2) : It :=
  ⟨fun i H => ∃ xs, Row K H i ks xs, fun i H v H' => ∃ T xs, v = .ref T ∧ H T = none ∧ H' = upd H T (.tup xs) ∧ ∀ xs', Row K H i ks xs' → xs' = xs, fun i H => Out K H i ks⟩
section
variable {X : Cx} {pins : List (Addr × Obj)} {σ : L2.St} {H : Hp} {s : Shared}
theorem sq_at (I : Inv X pins σ H s) {q : K2} {xs : List V} (h : Sq X.K H q xs) : ∃ its : List Value, Vals xs its ∧ ∀ n, SqAt s.heap (q.1, n, q.2) its.toArray := by
  obtain ⟨b, a⟩ := q
  cases b
  · obtain ⟨its, r, p, _⟩ := I.tuple h
    exact ⟨its, r, fun _ => p⟩
  · obtain ⟨its, r, p, _⟩ := I.list h
    exact ⟨its, r, fun _ => p.isList⟩
theorem sq_inj (I : Inv X pins σ H s) {q : K2} {xs ys : List V} (h : Sq X.K H q xs) (h' : Sq X.K H q ys) : xs = ys := by
  obtain ⟨b, a⟩ := q
  cases b
  · exact I.tuple_inj h h'
  · exact I.list_inj h h'
theorem row_inj (I : Inv X pins σ H s) {i : Nat} : ∀ {ks : List K2} {xs ys : List V}, Row X.K H i ks xs → Row X.K H i ks ys → xs = ys := by
  intro ks
  induction ks with
  | nil =>
    intro xs ys h1 h2
    cases xs with
    | cons => exact h1.elim
    | nil =>
      cases ys with
      | cons => exact h2.elim
      | nil => rfl
  | cons q ks ih =>
    intro xs ys h1 h2
    cases xs with
    | nil => exact h1.elim
    | cons x xs =>
      cases ys with
      | nil => exact h2.elim
      | cons y ys =>
        obtain ⟨⟨u, a1, a2⟩, a3⟩ := h1
        obtain ⟨⟨v, b1, b2⟩, b3⟩ := h2
        rw [sq_inj I a1 b1, b2] at a2
        rw [Option.some.inj a2, ih a3 b3]
theorem ready_of (I : Inv X pins σ H s) {i : Nat} : ∀ {ks : List K2} {n : Nat} {xs : List V}, (∀ q ∈ made n ks, ItAt s.heap q i) → Row X.K H i ks xs → ∃ us, Vals xs us ∧ Ready s.heap i (made n ks) us := by
  intro ks
  induction ks with
  | nil =>
    intro n xs _ h
    cases xs with
    | cons => exact h.elim
    | nil => exact ⟨[], .nil, True.intro⟩
  | cons q ks ih =>
    intro n xs hi h
    cases xs with
    | nil => exact h.elim
    | cons x xs =>
      obtain ⟨b, l⟩ := q
      obtain ⟨⟨u, a1, a2⟩, a3⟩ := h
      obtain ⟨its, r, p⟩ := sq_at I a1
      obtain ⟨v, hv, rv⟩ := r.get a2
      obtain ⟨us, h1, h2⟩ := ih (n := n + 1) (fun q hq => hi q (List.mem_cons_of_mem _ hq)) a3
      exact ⟨v :: us, .cons rv h1, hi _ List.mem_cons_self, ⟨_, p n, by simpa using hv⟩, h2⟩
theorem short_of (I : Inv X pins σ H s) {i : Nat} : ∀ {ks : List K2} {n : Nat}, (∀ q ∈ made n ks, ItAt s.heap q i) → Out X.K H i ks → Short s.heap i (made n ks) := by
  intro ks
  induction ks with
  | nil =>
    intro n _ h
    exact h.elim
  | cons q ks ih =>
    intro n hi h
    obtain ⟨b, l⟩ := q
    obtain ⟨ys, a1, a2⟩ := h
    obtain ⟨its, r, p⟩ := sq_at I a1
    have hl := r.length
    refine ⟨hi _ List.mem_cons_self, _, p n, ?_⟩
    rcases a2 with a2 | ⟨a2, a3⟩
    · exact .inl (by simp; omega)
    · refine .inr ⟨⟨its[i]'(by omega), by simp⟩, ih (n := n + 1) (fun q hq => hi q (List.mem_cons_of_mem _ hq)) a3⟩
theorem row_len {K : PySem.W.Frag} {i : Nat} : ∀ {ks : List K2} {xs : List V}, Row K H i ks xs → xs.length = ks.length := by
  intro ks
  induction ks with
  | nil =>
    intro xs h
    cases xs with
    | nil => rfl
    | cons => exact h.elim
  | cons q ks ih =>
    intro xs h
    cases xs with
    | nil => exact h.elim
    | cons x xs => exact congrArg (· + 1) (ih h.2)
end
end Zn
namespace Zn
open PySem PySem.Spec PyProof.Rows L2
abbrev fpZ (n : Nat) (ks : List K2) : List Addr := (n + ks.length + 2) :: (n + ks.length) :: (n + ks.length + 1) :: (made n ks).map (·.2.1)
def tnZ (n : Nat) (ks : List K2) (i : Nat) (h : Heap) : Prop :=
  IsZip h (n + ks.length + 2) (n + ks.length) (n + ks.length + 1) .none ∧ h.get? (n + ks.length) = some (tupO ((made n ks).map fun q => Value.ref q.2.1).toArray) ∧ (∃ os : Array Value, os.size = ks.length ∧ h.get? (n + ks.length + 1) = some (tupO os)) ∧ ∀ q ∈ made n ks, ItAt h q i
theorem fpz_cases {n : Nat} {ks : List K2} {c : Addr} (h : c ∈ fpZ n ks) : c = n + ks.length + 2 ∨ c = n + ks.length ∨ c = n + ks.length + 1 ∨ ∃ q ∈ made n ks, c = q.2.1 := by
  rcases List.mem_cons.mp h with h | h
  · exact .inl h
  · rcases List.mem_cons.mp h with h | h
    · exact .inr (.inl h)
    · rcases List.mem_cons.mp h with h | h
      · exact .inr (.inr (.inl h))
      · obtain ⟨q, hq, e⟩ := List.mem_map.mp h
        exact .inr (.inr (.inr ⟨q, hq, e.symm⟩))
theorem fpz_it {n : Nat} {ks : List K2} {q : K3} (h : q ∈ made n ks) : q.2.1 ∈ fpZ n ks := List.mem_cons_of_mem _ (List.mem_cons_of_mem _ (List.mem_cons_of_mem _ (List.mem_map.mpr ⟨q, h, rfl⟩)))
theorem turnN {P : Program} {w : World} {K : PySem.W.Frag} {elts : List Expr} {kk : Nat} {tpos : Pos} {n : Nat} {ks : List K2} (hne : ks ≠ []) (h100 : ks.length ≤ 100) (hl : ∀ q ∈ ks, @LT.lt Nat _ q.2 n) :
    Turn P w K (.Tuple elts kk tpos) (Itn K ks) (fpZ n ks) (n + ks.length + 2) (tnZ n ks) := by
  have D := apart_made (n := n) (ks := ks) hl
  have hne' : made n ks ≠ [] := fun e => hne (List.eq_nil_of_length_eq_zero (by rw [← made_len ks n, e]; rfl))
  have pyn : ∀ {A : Around} {s : Shared} {E : Value → Shared → Prop} {Q : Option Value → Shared → Prop}, IsZip s.heap (n + ks.length + 2) (n + ks.length) (n + ks.length + 1) .none →
      wpAny (model P w) A.in1 (Builtin.«zip.__next__» ⟨[.ref (n + ks.length + 2)], []⟩) (fun fin s' => ∃ v, fin = .done (.ret v) ∧ Q (some v) s') (fun e s' => wpAny (model P w) A (isInstance e (.type "StopIteration") >>= fun b => if b = true then pure none else throw e) Q E s') s → wpAny (model P w) A (pyNext (.ref (n + ks.length + 2))) Q E s := by
    intro A s E Q hz h
    have hT : s.TypeIs (.ref (n + ks.length + 2)) "zip" := ⟨_, hz, rfl⟩
    unfold pyNext
    refine wpAny_bind (wpAny_attempt (wpAny_callSpecial?_slot (name := Str.ofString "__next__") hT F.slot_zip_next
      (wpAny_call_entry F.slot_zip_next hT F.entry_zip_next (wpAny_mono h (fun fin s' hf => ?_) fun e s' he => he) (F.args_zip_next_1 _))))
    obtain ⟨v, e, q⟩ := hf
    exact ⟨v, e, wpAny_pure q⟩
  refine ⟨List.mem_cons_self, ?_, ?_, ?_, ?_, ?_⟩
  · rintro i h ⟨hz, hTI, ⟨os, ho, hTO⟩, hi⟩ c hc
    rcases fpz_cases hc with rfl | rfl | rfl | ⟨q, hq, rfl⟩
    · exact ⟨_, hz, fun v z => nomatch z⟩
    · exact ⟨_, hTI, fun v z => nomatch z⟩
    · exact ⟨_, hTO, fun v z => nomatch z⟩
    · obtain ⟨o, e, vs, d⟩ := (hi q hq).some
      exact ⟨o, e, fun v z => by rw [d] at z; cases z⟩
  · rintro i h h' ⟨hz, hTI, ⟨os, ho, hTO⟩, hi⟩ k
    exact ⟨k _ List.mem_cons_self _ hz, k _ (List.mem_cons_of_mem _ List.mem_cons_self) _ hTI, ⟨os, ho, k _ (List.mem_cons_of_mem _ (List.mem_cons_of_mem _ List.mem_cons_self)) _ hTO⟩, fun q hq => (hi q hq).at' fun o e => k _ (fpz_it hq) o e⟩
  · intro X hP hw hK hc i pins s σ H E I hf st hg
    subst hP hw hK
    obtain ⟨hz, hTI, ⟨os, ho, hTO⟩, hi⟩ := st
    obtain ⟨xs, hrow⟩ := hg
    obtain ⟨us, rv, rd⟩ := ready_of I (n := n) hi hrow
    have hlx := row_len hrow
    have hlu : us.length = ks.length := by rw [← hlx]; exact rv.length.symm
    have hzl : @LT.lt Nat _ (n + ks.length + 2) s.heap.objs.size := Heap.lt_size hz
    refine pyn hz (next_item D hne' (by rw [ho]; exact h100) (by rw [ho, made_len]) hz hTI hTO rd fun h' z' TI' TO' i' T' sz' k' => ?_)
    refine ⟨_, rfl, wpAny_letOwnedTupleGo_zip (s := { s with heap := h' }) z' fun h2 z2 sb => ?_⟩
    have neZ : s.heap.objs.size ≠ n + ks.length + 2 := Nat.ne_of_gt hzl
    have hT2 : h2.get? s.heap.objs.size = some (tupO us.toArray) := (sb.2 _ neZ).trans T'
    have new : ObjOk X.prog X.w (upd H s.heap.objs.size (.tup xs)) h2 s.heap.objs.size (.tup xs) :=
      ⟨by rw [hlx]; exact Nat.le_trans h100 (by decide), us, rv, ⟨_, hT2, rfl, _, rfl⟩⟩
    have I1 : Inv X pins σ (upd H s.heap.objs.size (.tup xs)) { s with heap := h2 } :=
      I.turnedNew (t' := s.toks) (ch := fpZ n ks) (fun c o hb q => (sb.2 c (fun q' => hb (by rw [q']; exact List.mem_cons_self))).trans (k' c o (fun q' => hb (by rw [q']; exact List.mem_cons_self)) (fun q' => hb (by rw [q']; exact List.mem_cons_of_mem _ (List.mem_cons_of_mem _ List.mem_cons_self))) (fun p hp q' => hb (by rw [q']; exact fpz_it hp)) q)) hf (Nat.le_refl _) new
    refine ⟨.ref s.heap.objs.size, _, I1, rfl, ⟨_, xs, rfl, I.hok.fresh (Nat.le_refl _), rfl, fun xs' hx' => row_inj I hx' hrow⟩, ⟨z2, (sb.2 _ D.TIz).trans TI', ⟨us.toArray, by simpa using hlu, (sb.2 _ D.TOz).trans TO'⟩, fun q hq => (i' q hq).at' fun o e => (sb.2 _ (D.iz q hq)).trans e⟩, fun c hcm => ?_⟩
    have hlt : @LT.lt Nat _ c s.heap.objs.size := by
      rcases fpz_cases hcm with rfl | rfl | rfl | ⟨q, hq, rfl⟩
      · exact hzl
      · exact Heap.lt_size hTI
      · exact Heap.lt_size hTO
      · obtain ⟨o, e, _⟩ := (hi q hq).some
        exact Heap.lt_size e
    show upd H s.heap.objs.size (.tup xs) c = none
    rw [upd_ne (Nat.ne_of_lt hlt)]
    exact (hf c hcm).1
  · intro X hP hw hK hc i pins s σ H E I hf st hg
    subst hP hw hK
    obtain ⟨hz, hTI, ⟨os, ho, hTO⟩, hi⟩ := st
    refine pyn hz (next_end (I.ok.hd hc) D hne' (by rw [ho]; exact h100) hz hTI hTO (short_of I hi hg) fun h' e k he => ?_)
    obtain ⟨o, heo, hce⟩ := he
    refine wpAny_bind (wpAny_isInstance (T := "StopIteration") (b := true) ⟨o, heo, hce⟩ isSubtype_stop (wpAny_pure ⟨rfl, ?_⟩))
    exact I.turnedL (t' := s.toks) (ch := fpZ n ks) (fun c o hb q => k c o (fun q' => hb (by rw [q']; exact List.mem_cons_self)) (fun q' => hb (by rw [q']; exact List.mem_cons_of_mem _ (List.mem_cons_of_mem _ List.mem_cons_self))) (fun p hp q' => hb (by rw [q']; exact fpz_it hp)) q) hf
  · intro A i s Q E st h
    exact wpAny_pyIter_zip st.1 h

/-! ### zip(a, b, ..) as what is walked -/
def iZipN (K : PySem.W.Frag) (N : Nat) (ta : TA) : TI := fun σ H R => ta σ H fun vs H1 => ∃ ks : List K2, ks.length = N ∧ vs = ks.map (fun q => V.ref q.2) ∧ (∀ q ∈ ks, ∃ xs, Sq K H1 q xs) ∧ R (Itn K ks) H1
theorem vals_refs : ∀ {ks : List K2} {us : List Value}, Vals (ks.map fun q => V.ref q.2) us → us = ks.map fun q => Value.ref q.2 := by
  intro ks
  induction ks with
  | nil =>
    intro us h
    cases h
    rfl
  | cons q ks ih =>
    intro us h
    cases h with
    | cons a b =>
      cases a
      rw [ih b]
      rfl
section
variable {X : Cx} {pins : List (Addr × Obj)} {σ : L2.St} {H : Hp} {s : Shared}
theorem sq0_of (I : Inv X pins σ H s) {q : K2} {xs : List V} (h : Sq X.K H q xs) : Sq0 s.heap q := by
  obtain ⟨its, _, p⟩ := sq_at I h
  exact ⟨_, p 0⟩
theorem zip_it {ks : List K2} {R : It → Hp → Prop} {elts : List Expr} {kk : Nat} {tpos : Pos} {E : Value → Shared → Prop} (I : Inv X pins σ H s) (hne : ks ≠ []) (h100 : ks.length ≤ 100) (h1 : checkTypeCall "zip" ⟨ks.map (fun q => Value.ref q.2), []⟩ = pure ()) (h2 : checkBuiltinCall "zip.__new__" ⟨.type "zip" :: ks.map (fun q => Value.ref q.2), []⟩ = pure ())
    (h3 : ∀ obj, argsOk "object.__init__" ⟨obj :: ks.map (fun q => Value.ref q.2), []⟩) (hq : ∀ q ∈ ks, ∃ xs, Sq X.K H q xs) (q : R (Itn X.K ks) H) :
    wpAny (model X.prog X.w) X.A (call (.type "zip") (ks.map fun q => Value.ref q.2)) (fun v s1 => wpAny (model X.prog X.w) X.A (pyIter v) (PIE X pins σ (.Tuple elts kk tpos) R) E s1) E s := by
  have h0 : ∀ q ∈ ks, Sq0 s.heap q := fun q hm => by
    obtain ⟨xs, hx⟩ := hq q hm
    exact sq0_of I hx
  refine call_zipN h100 h1 h2 h3 h0 fun h' z => wpAny_pyIter_zip z.z ?_
  have I2 : Inv X pins σ H { s with heap := h' } := I.kept (t' := s.toks) z.keep
  refine ⟨_, fpZ s.heap.objs.size ks, _, _, H, rfl, I2, turnN hne h100 fun q hm => (h0 q hm).lt, ⟨z.z, z.ti, ⟨_, by simp, z.to⟩, z.its⟩, fun c hc => ?_, q⟩
  have hle : @LE.le Nat _ s.heap.objs.size c := by
    rcases fpz_cases hc with rfl | rfl | rfl | ⟨q, hq, rfl⟩
    · show s.heap.objs.size ≤ s.heap.objs.size + ks.length + 2
      omega
    · show s.heap.objs.size ≤ s.heap.objs.size + ks.length
      omega
    · show s.heap.objs.size ≤ s.heap.objs.size + ks.length + 1
      omega
    · exact (made_ge ks _ q hq).1
  exact I.fpOk hle (I.hok.fresh hle)
end
theorem init4 (a b c d : Value) : argsOk "object.__init__" ⟨[a, b, c, d], []⟩ := by
  unfold argsOk; rw [signature?_of (id := "object.__init__") (n := ['_', '_', 't', 'i', 'n', 'i', '_', '_']) (o := ['t', 'c', 'e', 'j', 'b', 'o']) (by kernel_rfl) PySem.F.owner_object]; kernel_rfl
theorem init5 (a b c d e : Value) : argsOk "object.__init__" ⟨[a, b, c, d, e], []⟩ := by
  unfold argsOk; rw [signature?_of (id := "object.__init__") (n := ['_', '_', 't', 'i', 'n', 'i', '_', '_']) (o := ['t', 'c', 'e', 'j', 'b', 'o']) (by kernel_rfl) PySem.F.owner_object]; kernel_rfl
theorem tc3 (a b c : Value) : checkTypeCall "zip" ⟨[a, b, c], []⟩ = pure () := by kernel_rfl
theorem tc4 (a b c d : Value) : checkTypeCall "zip" ⟨[a, b, c, d], []⟩ = pure () := by kernel_rfl
theorem nc3 (a b c : Value) : checkBuiltinCall "zip.__new__" ⟨[.type "zip", a, b, c], []⟩ = pure () := by kernel_rfl
theorem nc4 (a b c d : Value) : checkBuiltinCall "zip.__new__" ⟨[.type "zip", a, b, c, d], []⟩ = pure () := by kernel_rfl
section
variable {X : Cx} {K : PySem.W.Frag} {ta : TA} {p pos tpos : Pos} {elts : List Expr} {kk : Nat} {e1 e2 e3 e4 : Expr}
theorem zip2 (hK : X.K = K) (hg : Gl X "zip") (hm : X.mg "zip" = none) (ha : PA X [e1, e2] ta)
    (hs : starEach [e1, e2] X.env = (false, eval e1 X.env) :: starEach [e2] X.env := by rfl) (hpl : (backTo pos (starEach [e2] X.env)).any (·.1) = false := by rfl) :
    PI X (.Tuple elts kk tpos) (.Call (.Name "zip" p) [e1, e2] [] pos) (iZipN K 2 ta) := by
  subst hK
  refine ⟨fun pins s σ H R I h => ?_⟩
  refine Call_ (ld_blt I hg hm PyProof.Rows.boot_zip (PyProof.Rows.callWith_type1 (thn (ha.run pos pins s σ H _ I h) fun us s1 ⟨vs, H1, I1, r1, q1⟩ => ?_) hs hpl))
  obtain ⟨ks, hl, rfl, hq, q⟩ := q1
  rw [vals_refs r1]
  match ks, hl with
  | [(b1, a1), (b2, a2)], _ => exact zip_it I1 (fun z => nomatch z) (by show 2 ≤ 100; decide) (F.typeCall_zip_2 _ _) (F.newCall_zip_2 _ _) (fun o => F.args_object_init_3 o _ _) hq q
theorem zip3 (hK : X.K = K) (hg : Gl X "zip") (hm : X.mg "zip" = none) (ha : PA X [e1, e2, e3] ta)
    (hs : starEach [e1, e2, e3] X.env = (false, eval e1 X.env) :: starEach [e2, e3] X.env := by rfl) (hpl : (backTo pos (starEach [e2, e3] X.env)).any (·.1) = false := by rfl) :
    PI X (.Tuple elts kk tpos) (.Call (.Name "zip" p) [e1, e2, e3] [] pos) (iZipN K 3 ta) := by
  subst hK
  refine ⟨fun pins s σ H R I h => ?_⟩
  refine Call_ (ld_blt I hg hm PyProof.Rows.boot_zip (PyProof.Rows.callWith_type1 (thn (ha.run pos pins s σ H _ I h) fun us s1 ⟨vs, H1, I1, r1, q1⟩ => ?_) hs hpl))
  obtain ⟨ks, hl, rfl, hq, q⟩ := q1
  rw [vals_refs r1]
  match ks, hl with
  | [(b1, a1), (b2, a2), (b3, a3)], _ => exact zip_it I1 (fun z => nomatch z) (by show 3 ≤ 100; decide) (tc3 _ _ _) (nc3 _ _ _) (fun o => init4 o _ _ _) hq q
theorem zip4 (hK : X.K = K) (hg : Gl X "zip") (hm : X.mg "zip" = none) (ha : PA X [e1, e2, e3, e4] ta)
    (hs : starEach [e1, e2, e3, e4] X.env = (false, eval e1 X.env) :: starEach [e2, e3, e4] X.env := by rfl) (hpl : (backTo pos (starEach [e2, e3, e4] X.env)).any (·.1) = false := by rfl) :
    PI X (.Tuple elts kk tpos) (.Call (.Name "zip" p) [e1, e2, e3, e4] [] pos) (iZipN K 4 ta) := by
  subst hK
  refine ⟨fun pins s σ H R I h => ?_⟩
  refine Call_ (ld_blt I hg hm PyProof.Rows.boot_zip (PyProof.Rows.callWith_type1 (thn (ha.run pos pins s σ H _ I h) fun us s1 ⟨vs, H1, I1, r1, q1⟩ => ?_) hs hpl))
  obtain ⟨ks, hl, rfl, hq, q⟩ := q1
  rw [vals_refs r1]
  match ks, hl with
  | [(b1, a1), (b2, a2), (b3, a3), (b4, a4)], _ => exact zip_it I1 (fun z => nomatch z) (by show 4 ≤ 100; decide) (tc4 _ _ _ _) (nc4 _ _ _ _) (fun o => init5 o _ _ _ _) hq q
end
/-! ### loops over columns -/
def SqAll (K : PySem.W.Frag) (H : Hp) : List K2 → List (List V) → Prop
  | [], [] => True
  | q :: r, y :: ys => Sq K H q y ∧ SqAll K H r ys
  | _, _ => False
def rowAt (i : Nat) (yss : List (List V)) : List V := yss.map fun ys => ys.getD i .non
theorem row_at {K : PySem.W.Frag} {H : Hp} {i : Nat} : ∀ {ks : List K2} {yss : List (List V)}, SqAll K H ks yss → (∀ ys ∈ yss, i < ys.length) → Row K H i ks (rowAt i yss) := by
  intro ks
  induction ks with
  | nil =>
    intro yss h _
    cases yss with
    | nil => exact True.intro
    | cons => exact h.elim
  | cons q ks ih =>
    intro yss h hl
    cases yss with
    | nil => exact h.elim
    | cons y yss =>
      refine ⟨⟨y, h.1, ?_⟩, ih h.2 fun ys hy => hl ys (List.mem_cons_of_mem _ hy)⟩
      show y[i]? = some (y.getD i V.non)
      rw [List.getD_eq_getElem?_getD, List.getElem?_eq_getElem (hl y List.mem_cons_self)]
      rfl
theorem out_at {K : PySem.W.Frag} {H : Hp} {n : Nat} : ∀ {ks : List K2} {yss : List (List V)}, SqAll K H ks yss → (∀ ys ∈ yss, n ≤ ys.length) → (∃ ys ∈ yss, ys.length = n) → Out K H n ks := by
  intro ks
  induction ks with
  | nil =>
    intro yss h _ hm
    cases yss with
    | nil =>
      obtain ⟨_, z, _⟩ := hm
      cases z
    | cons => exact h.elim
  | cons q ks ih =>
    intro yss h hl hm
    cases yss with
    | nil => exact h.elim
    | cons y yss =>
      refine ⟨y, h.1, ?_⟩
      by_cases hy : y.length ≤ n
      · exact .inl hy
      · refine .inr ⟨by omega, ih h.2 (fun ys hy => hl ys (List.mem_cons_of_mem _ hy)) ?_⟩
        obtain ⟨z, hz, e⟩ := hm
        rcases List.mem_cons.mp hz with rfl | hz
        · omega
        · exact ⟨z, hz, e⟩
theorem for_zipN {K : PySem.W.Frag} {ks : List K2} {yss : List (List V)} {n : Nat} {g : TG} {tb : TS} {D : Ends} {σ : L2.St} {H : Hp} (hlen : ∀ ys ∈ yss, n ≤ ys.length) (hmin : ∃ ys ∈ yss, ys.length = n) (Pv : Nat → L2.St → Hp → Prop) (h0 : Pv 0 σ H) (hq : ∀ i σ H, Pv i σ H → SqAll K H ks yss)
    (hs : ∀ (i : Nat) (T : Addr) (σ : L2.St) (H : Hp), i < n → Pv i σ H → H T = none → g (.ref T) σ (upd H T (.tup (rowAt i yss))) fun σ2 H2 => tb { D with nx := Pv (i + 1), ct := Pv (i + 1), bk := D.nx } σ2 H2) (hd : ∀ σ H, Pv n σ H → D.nx σ H) :
    ∃ W : Nat → Nat → L2.St → Hp → Prop, (∃ m, W 0 m σ H) ∧ ∀ i m σ H, W i m σ H →
      ((Itn K ks).stop i H ∧ D.nx σ H) ∨ ((Itn K ks).go i H ∧ ∃ N : L2.St → Hp → Prop, (∀ σ' H', N σ' H' → ∃ m', m' < m ∧ W (i + 1) m' σ' H') ∧ ∀ v H', (Itn K ks).yld i H v H' → g v σ H' fun σ2 H2 => tb { D with nx := N, ct := N, bk := D.nx } σ2 H2) := by
  refine ⟨fun i m σ H => m = n - i ∧ i ≤ n ∧ Pv i σ H, ⟨n, rfl, Nat.zero_le _, h0⟩, fun i m σ H ⟨em, hi, p⟩ => ?_⟩
  have hS := hq i σ H p
  by_cases hlt : i < n
  · have hrow := row_at hS fun ys hy => Nat.lt_of_lt_of_le hlt (hlen ys hy)
    refine .inr ⟨⟨_, hrow⟩, Pv (i + 1), fun σ' H' p' => ⟨n - (i + 1), by omega, rfl, hlt, p'⟩, fun v H' y => ?_⟩
    obtain ⟨T, xs, rfl, hT, rfl, hx⟩ := y
    rw [← hx _ hrow]
    exact hs i T σ H hlt p hT
  · have e : i = n := by omega
    subst e
    exact .inl ⟨out_at hS hlen hmin, hd σ H p⟩
end Zn
namespace Fr
open PySem PySem.Spec PyProof.Rows L2
/-- a comprehension without a test: one item for each -/
theorem lc_all {K : PySem.W.Frag} {J : It} {n : Nat} {G : Hp → Prop} {Y : Nat → Hp → V → Hp → Prop} (w : Walk J n G Y) {g : TG} {tt : TT} {te : TE} {vs : List Nat} {σ : L2.St} {H1 : Hp} {D : Addr} {Qd : Hp → Prop}
    (hD : H1 D = none) (hn : n ≤ 100000) (hG : ∀ H', Same H1 H' → G H') (S : Nat → PyData → Prop) (hS : ∀ i d, S i d → noL d = true)
    (hs : ∀ i x H' H'' (A : V → Hp → Prop) (B : Hp → Prop), i < n → Same H1 H' → Y i H' x H'' → (∀ y d H4, S i d → Same H' H4 → Dp K H4 y d → A y H4) →
      g x (wipe σ vs) H'' fun σ2 H2 => wipe σ2 vs = wipe σ vs ∧ tt σ2 H2 fun b H3 => if b = true then te σ2 H3 A else B H3)
    (hd : ∀ H' ys ds, Same H1 H' → H' D = some (.lst ys) → DpAll K H' ys ds → ds.length = n → (∀ i d, ds[i]? = some d → S i d) → Qd H') :
    ∃ W : Nat → Nat → Hp → Prop, (∃ m, W 0 m (upd H1 D (.lst []))) ∧ ∀ i m H, W i m H →
      (J.stop i H ∧ Qd H) ∨ (J.go i H ∧ ∃ Nx : Hp → Prop, (∀ H', Nx H' → ∃ m', m' < m ∧ W (i + 1) m' H') ∧ ∀ x H', J.yld i H x H' → g x (wipe σ vs) H' fun σ2 H2 => wipe σ2 vs = wipe σ vs ∧ tt σ2 H2 fun b H3 =>
        if b = true then te σ2 H3 fun y H4 => ∃ acc, H4 D = some (.lst acc) ∧ acc.length < sizeLine ∧ Nx (upd H4 D (.lst (acc ++ [y]))) else Nx H3) := by
  refine lc_it w (fun i H' => Same H1 H' ∧ i ≤ n ∧ ∃ ys ds, H' D = some (.lst ys) ∧ DpAll K H' ys ds ∧ ds.length = i ∧ ∀ j d, ds[j]? = some d → S j d) ⟨same_new hD, Nat.zero_le _, [], [], upd_same, .nil, rfl, fun j d h => by simp at h⟩ (fun i H' _ p => hG H' p.1) (fun i x H' H'' hi p hY => ?_) (fun H' p => ?_)
  · obtain ⟨sm, hin, ys, ds, hy, hA, hl, hAS⟩ := p
    refine hs i x H' H'' _ _ hi sm hY (fun y d H4 hSd s4 hdp => ?_)
    refine ⟨ys, s4 _ _ hy, ?_, ?_, by omega, ys ++ [y], ds ++ [d], upd_same, ?_, ?_, ?_⟩
    · have h2 := dps_len hA
      exact Nat.lt_of_lt_of_le (show ys.length < 100000 by omega) (by decide)
    · exact same_put (sm.trans s4) hD
    · exact dps_app (dps_upd (s4 _ _ hy) (noLs_of fun e he => by
        obtain ⟨j, hj⟩ := List.mem_iff_getElem?.mp he
        exact hS j e (hAS j e hj)) (same_dps s4 hA)) (.cons (dp_upd (s4 _ _ hy) (hS i d hSd) hdp) .nil)
    · rw [List.length_append, hl]
      rfl
    · intro j d' e
      by_cases hj : j < ds.length
      · rw [List.getElem?_append_left hj] at e
        exact hAS j d' e
      · rw [List.getElem?_append_right (by omega)] at e
        have hj2 : j - ds.length = 0 := by
          by_cases z : j - ds.length = 0
          · exact z
          · rw [List.getElem?_eq_none (by simp; omega)] at e
            cases e
        rw [hj2] at e
        cases e
        have : j = i := by omega
        rw [this]
        exact hSd
  · obtain ⟨sm, _, ys, ds, hy, hA, hl, hAS⟩ := p
    exact hd H' ys ds sm hy hA hl hAS
end Fr
namespace Fr
open PySem PySem.Spec PyProof.Rows L2
/-! ### written data -/
def tDat (K : PySem.W.Frag) (d : PyData) : TE := fun _ H Q => ∀ v H', Same H H' → Dp K H' v d → Q v H'
def tDats (K : PySem.W.Frag) (ds : List PyData) : TA := fun _ H Q => ∀ vs H', Same H H' → DpAll K H' vs ds → Q vs H'
theorem PE.imp {X : Cx} {e : Expr} {t t' : TE} (h : PE X e t) (i : ∀ σ H Q, t' σ H Q → t σ H Q) : PE X e t' := ⟨fun pins s σ H Q I q => h.run pins s σ H Q I (i σ H Q q)⟩
theorem PA.imp {X : Cx} {es : List Expr} {t t' : TA} (h : PA X es t) (i : ∀ σ H Q, t' σ H Q → t σ H Q) : PA X es t' := ⟨fun pos pins s σ H Q I q => h.run pos pins s σ H Q I (i σ H Q q)⟩
section
variable {X : Cx} {K : PySem.W.Frag} {pos : Pos} {j : Nat}
theorem dl_int {i : Int} : PE X (.Constant (.int i) j pos) (tDat K (.int i)) := PE.imp pe_int fun σ H Q q => q _ H (Same.refl H) (.int i)
theorem dl_neg {i : Int} {p : Pos} : PE X (.UnaryOp .USub (.Constant (.int i) j p) pos) (tDat K (.int (-i))) := PE.imp (pe_un un_neg pe_int) fun σ H Q q => ⟨i, rfl, q _ H (Same.refl H) (.int (-i))⟩
theorem dl_bl {b : Bool} : PE X (.Constant (.bool b) j pos) (tDat K (.bool b)) := PE.imp pe_bl fun σ H Q q => q _ H (Same.refl H) (.bl b)
theorem dl_non : PE X (.Constant .none j pos) (tDat K .none) := PE.imp pe_non fun σ H Q q => q _ H (Same.refl H) .non
theorem dl_str {x : Str} : PE X (.Constant (.str x) j pos) (tDat K (.str x)) := PE.imp pe_str fun σ H Q q => q _ H (Same.refl H) (.str x)
theorem dl_nil : PA X [] (tDats K []) := PA.imp pa_nil fun σ H Q q => q [] H (Same.refl H) .nil
theorem dl_cons {e : Expr} {es : List Expr} {d : PyData} {ds : List PyData} (h : PE X e (tDat K d)) (t : PA X es (tDats K ds)) (hs : starEach (e :: es) X.env = (false, eval e X.env) :: starEach es X.env := by rfl) : PA X (e :: es) (tDats K (d :: ds)) :=
  PA.imp (pa_cons h t hs) fun σ H Q q v H1 s1 h1 vs H2 s2 h2 => q (v :: vs) H2 (s1.trans s2) (.cons (same_dp s2 h1) h2)
theorem dl_tup {es : List Expr} {ds : List PyData} {x1 : Nat} (hl : ds.length ≤ 1000) (h : PA X es (tDats K ds)) : PE X (.Tuple es x1 pos) (tDat K (.tuple ds)) :=
  PE.imp (pe_tup h) fun σ H Q q vs H1 s1 h1 => ⟨by rw [dps_len h1]; exact Nat.le_trans hl (by decide), fun p np => q (.ref p) _ (s1.trans (same_new np)) (.tup (SqT.of upd_same) (same_dps (same_new np) h1))⟩
theorem dl_lst {es : List Expr} {ds : List PyData} (hl : ds.length ≤ 1000) (h : PA X es (tDats K ds)) : PE X (.List es pos) (tDat K (.list ds)) :=
  PE.imp (pe_lst h) fun σ H Q q vs H1 s1 h1 => ⟨by rw [dps_len h1]; exact Nat.le_trans hl (by decide), fun p np => q (.ref p) _ (s1.trans (same_new np)) (.lst (SqL.of upd_same) (same_dps (same_new np) h1))⟩
end
/-! ### zip, walked -/
theorem same_sqAll {K : PySem.W.Frag} {H H' : Hp} (s : Same H H') : ∀ {ks : List Zn.K2} {yss : List (List V)}, Zn.SqAll K H ks yss → Zn.SqAll K H' ks yss := by
  intro ks
  induction ks with
  | nil =>
    intro yss h
    cases yss with
    | nil => exact True.intro
    | cons => exact h.elim
  | cons q ks ih =>
    intro yss h
    cases yss with
    | nil => exact h.elim
    | cons y yss =>
      refine ⟨?_, ih h.2⟩
      obtain ⟨b, a⟩ := q
      cases b
      · exact same_tup s h.1
      · exact s.seq h.1
theorem walk_zipN {K : PySem.W.Frag} {ks : List Zn.K2} {yss : List (List V)} {n : Nat} (hlen : ∀ ys ∈ yss, n ≤ ys.length) (hmin : ∃ ys ∈ yss, ys.length = n) :
    Walk (Zn.Itn K ks) n (fun H => Zn.SqAll K H ks yss) (fun i H x H' => ∃ T, x = .ref T ∧ H T = none ∧ H' = upd H T (.tup (Zn.rowAt i yss))) := by
  refine ⟨fun i H hi q => ⟨_, Zn.row_at q fun ys hy => Nat.lt_of_lt_of_le hi (hlen ys hy)⟩, fun H q => Zn.out_at q hlen hmin, fun i H x H' hi q y => ?_⟩
  obtain ⟨T, xs, rfl, hT, rfl, hx⟩ := y
  refine ⟨T, rfl, hT, ?_⟩
  rw [← hx _ (Zn.row_at q fun ys hy => Nat.lt_of_lt_of_le hi (hlen ys hy))]
end Fr
namespace Fr
open PySem PySem.Spec PyProof.Rows L2
/-! ### a list of one's own that grows -/
theorem app_dp {K : PySem.W.Frag} {H : Hp} {o : Addr} {ys : List V} {ds : List PyData} {y : V} {d : PyData} (ho : H o = some (.lst ys)) (hA : DpAll K H ys ds) (hn : noLs ds = true) (hd : Dp K H y d) (hnd : noL d = true) :
    DpAll K (upd H o (.lst (ys ++ [y]))) (ys ++ [y]) (ds ++ [d]) :=
  dps_app (dps_upd ho hn hA) (.cons (dp_upd ho hnd hd) .nil)
theorem noL_opt (x : Option Nat) : noL (optD x) = true := by cases x <;> rfl
theorem noLs_nats (ns : List Nat) : noLs (ns.map nD) = true := noLs_of fun d hd => by
  obtain ⟨n, _, rfl⟩ := List.mem_map.mp hd
  rfl
theorem cut_take (xs : List V) (i : Nat) : cutV xs none (some (i : Int)) = xs.take i := by
  unfold cutV
  rw [show HT.sIx xs.length xs.length (some (i : Int)) = min i xs.length from HT.sIx_nat xs.length xs.length i, HT.sIx_none]
  rw [List.drop_zero, Nat.sub_zero]
  rcases Nat.le_total i xs.length with h | h
  · rw [Nat.min_eq_left h]
  · rw [Nat.min_eq_right h, List.take_of_length_le (Nat.le_refl _), List.take_of_length_le h]
/-- the least of a list -/
theorem min_int {as : List Nat} {m : Int} (hm : m ∈ as.map fun (x : Nat) => (x : Int)) (hle : ∀ y, y ∈ (as.map fun (x : Nat) => (x : Int)) → m ≤ y) : ∃ k : Nat, m = k ∧ as.min? = some k := by
  obtain ⟨k, hk, rfl⟩ := List.mem_map.mp hm
  refine ⟨k, rfl, ?_⟩
  rw [List.min?_eq_some_iff]
  refine ⟨hk, fun y hy => ?_⟩
  have := hle (y : Int) (List.mem_map.mpr ⟨y, hy, rfl⟩)
  omega
end Fr
namespace Fr
open PySem PySem.Spec PyProof.Rows L2
theorem opNotBl {X : Cx} : OpR X (compareOp .IsNot) (fun x y H Q => ∃ a b, x = .bl a ∧ y = .bl b ∧ Q (.bl (!decide (a = b))) H) := op_isnot_bl
end Fr
namespace Zn
open PySem PySem.Spec PyProof.Rows L2
open AutoSeq1 (wpAny_loadPart')
/-! ### enumerate of a tuple -/
theorem meets_enumT (l : Addr) (items : Array Value) (n : Nat) (dct : Option Addr) (sl : Array (Option Value)) :
    Meets (Builtin.«enumerate.__new__» ⟨[.type "enumerate", .ref l], []⟩) (fun _ R s => s.heap.get? l = some { cls := .type "tuple", dict := dct, data := .seq items n, slots := sl } ∧
      R (.ok (.ret (.ref (s.heap.push { cls := .type "tuple_iterator", data := .fields #[.ref l, .int 0 0] }).objs.size)))
        { s with heap := (s.heap.push { cls := .type "tuple_iterator", data := .fields #[.ref l, .int 0 0] }).push { cls := .type "enumerate", data := .fields #[.none, .bool false, .ref s.heap.objs.size, rawInt 0, .none, .none] } }) :=
  .of_wp fun prog w A R s h => by
    obtain ⟨hp, g, d, tk, os⟩ := s; obtain ⟨hl, h⟩ := h
    have hsub := sub_enumerate
    have hL : Heap.IsTuple (Shared.heap ⟨hp, g, d, tk, os⟩) l items := ⟨_, hl, rfl, n, rfl⟩
    wp_walk using wpAny_loadPart' hl
    refine wpAny_stack_any fun st => wpAny_pure ?_
    split
    · rename_i c _ _ _ _ _
      cases (c == Value.type "enumerate")
      · wp_walk using wpAny_loadPart' hl, wpAny_pyIter_tuple hL
        exact ⟨_, rfl, h⟩
      · wp_walk using wpAny_loadPart' hl, wpAny_pyIter_tuple hL
        exact ⟨_, rfl, h⟩
    · wp_walk using wpAny_loadPart' hl, wpAny_pyIter_tuple hL
      exact ⟨_, rfl, h⟩
theorem call_enumT {prog : Program} {w : World} {A : Around} {E : Value → Shared → Prop} {s : Shared} {l : Addr} {items : Array Value} {Q : Value → Shared → Prop} (hL : s.heap.IsTuple l items)
    (h : ∀ h', IsEnum h' (s.heap.objs.size + 1) s.heap.objs.size 0 .none → h'.IsTupleIter s.heap.objs.size l 0 → h'.objs.size = s.heap.objs.size + 2 →
      (∀ b o, s.heap.get? b = some o → h'.get? b = some o) → Q (.ref (s.heap.objs.size + 1)) { s with heap := h' }) :
    wpAny (model prog w) A (call (.type "enumerate") [.ref l]) Q E s := by
  obtain ⟨⟨c, dct, dt, sl⟩, hl, hc, n, hd⟩ := hL
  replace hc : c = .type "tuple" := hc
  replace hd : dt = .seq items n := hd
  subst hc hd
  refine callType_new F.called_enumerate (by decide) (F.typeCall_enumerate_1 _) (F.newCall_enumerate_1 _) (fun obj => F.args_object_init_2 obj _) F.entry_enumerate_new
    (meets_enumT l items n dct sl) ⟨hl, ?_⟩
  have hz : (s.heap.push { cls := .type "tuple_iterator", data := .fields #[.ref l, .int 0 0] }).objs.size = s.heap.objs.size + 1 := Heap.size_push ..
  show _ ∧ _
  rw [hz]
  have he : IsEnum ((s.heap.push { cls := .type "tuple_iterator", data := .fields #[.ref l, .int 0 0] }).push
      { cls := .type "enumerate", data := .fields #[.none, .bool false, .ref s.heap.objs.size, rawInt 0, .none, .none] }) (s.heap.objs.size + 1) s.heap.objs.size 0 .none := by
    have := Heap.get?_push_size (s.heap.push { cls := .type "tuple_iterator", data := .fields #[.ref l, .int 0 0] })
      (o := { cls := .type "enumerate", data := .fields #[.none, .bool false, .ref s.heap.objs.size, rawInt 0, .none, .none] }) rfl
    rw [hz] at this; exact this
  refine ⟨⟨_, he, rfl⟩, h _ he ⟨_, Heap.get?_push_of_some _ (Heap.get?_push_size _ rfl), rfl, rfl⟩ (by rw [Heap.size_push, hz]) fun b o x => Heap.get?_push_of_some _ (Heap.get?_push_of_some _ x)⟩
/-- the tuple at a, each item in a new pair -/
def IteT (K : PySem.W.Frag) (a : Addr) : It :=
  ⟨fun i H => ∃ (xs : List V) (x : V), SqT K H a xs ∧ xs[i]? = some x, fun i H v H' => ∃ T x, v = .ref T ∧ H T = none ∧ H' = upd H T (.tup [.int (i : Nat), x]) ∧ ∀ xs, SqT K H a xs → xs[i]? = some x, fun i H => ∃ xs : List V, SqT K H a xs ∧ xs.length = i⟩
theorem tup_inj {X : Cx} {pins : List (Addr × Obj)} {σ : L2.St} {H : Hp} {s : Shared} (I : Inv X pins σ H s) {a : Addr} {xs ys : List V} (h : SqT X.K H a xs) (h' : SqT X.K H a ys) : xs = ys := sq_inj I (q := (false, a)) h h'
theorem turn_enumT {P : Program} {w : World} {K : PySem.W.Frag} {elts : List Expr} {kk : Nat} {tpos : Pos} (a e it : Addr) (hai : a ≠ it) (hea : e ≠ a) :
    Turn P w K (.Tuple elts kk tpos) (IteT K a) [e, it] e (fun i h => (∃ old, IsEnum h e it ((i : Nat) : Int) old) ∧ h.IsTupleIter it a i ∧ e ≠ it) where
  mem := by simp
  obj := fun i h st b hb => by
    obtain ⟨⟨old, he⟩, ⟨o, ho, hc, hd⟩, _⟩ := st
    have e' : b = e ∨ b = it := by simpa using hb
    rcases e' with z | z
    · rw [z]; exact ⟨_, he, fun v q => nomatch q⟩
    · rw [z]; exact ⟨o, ho, fun v q => by rw [hd] at q; cases q⟩
  keep := fun i h h' st k => let ⟨⟨old, he⟩, hi, hne⟩ := st; ⟨⟨old, k e (by simp) _ he⟩, hi.at fun o q => k it (by simp) o q, hne⟩
  item := by
    intro X hP hw hK hc i pins s σ H E I hf st hg
    subst hP hw hK
    obtain ⟨⟨old, he⟩, hit, hne⟩ := st
    obtain ⟨xs, x, hq, hx⟩ := hg
    obtain ⟨its, rv, p, hz⟩ := I.tuple hq
    obtain ⟨u, hu, ru⟩ := rv.get hx
    have hlt : i < its.toArray.size := by
      have := (List.getElem?_eq_some_iff.mp hu).1
      simpa using this
    have hel : e < s.heap.objs.size := Heap.lt_size he
    have hil : it < s.heap.objs.size := by obtain ⟨_, q, _⟩ := hit; exact Heap.lt_size q
    refine wpAny_pyNext_enum_itemD (Draws.tuple (A := X.A.in1) (I.ok.hd hc) it a hai its.toArray) he ⟨hit, p⟩ hlt hne (by simp [hne, hea]) fun x' h' tk hx' ho hit' hT hsz hk => ?_
    have ex : x' = u := by
      rw [show its.toArray[i]? = some u by simpa using hu] at hx'
      exact (Option.some.inj hx').symm
    subst ex
    refine ⟨_, rfl, wpAny_letOwnedTupleGo_enum (s := { s with heap := h', toks := tk + 1 }) ho fun h'' he' sb => ?_⟩
    have hT2 : h''.get? s.heap.objs.size = some { cls := .type "tuple", data := .seq #[.int i tk, x'] } := (sb.2 _ (Nat.ne_of_gt hel)).trans hT
    have new : ObjOk X.prog X.w (upd H s.heap.objs.size (.tup [.int (i : Nat), x])) h'' s.heap.objs.size (.tup [.int (i : Nat), x]) :=
      ⟨by show 2 ≤ sizeLine; decide, [.int i tk, x'], .cons ⟨_, rfl⟩ (.cons ru .nil), ⟨_, hT2, rfl, _, rfl⟩⟩
    have I1 : Inv X pins σ (upd H s.heap.objs.size (.tup [.int (i : Nat), x])) { s with heap := h'', toks := tk + 1 } :=
      I.turnedNew (ch := [e, it]) (fun b ob hb q => (sb.2 b (fun z => hb (by simp [z]))).trans (hk b ob (fun z => hb (by simp [z])) (fun z => hb (by simp [z])) q)) hf (Nat.le_refl _) new
    refine ⟨.ref s.heap.objs.size, _, I1, rfl, ⟨_, x, rfl, I.hok.fresh (Nat.le_refl _), rfl, fun ys hy => by rw [tup_inj I hy hq]; exact hx⟩, ⟨⟨x', ?_⟩, hit'.1.at fun o q => (sb.2 it (Ne.symm hne)).trans q, hne⟩, fun b hb => ?_⟩
    · have e1 : ((i + 1 : Nat) : Int) = (i : Int) + 1 := by omega
      rw [e1]; exact he'
    · have hb' : b < s.heap.objs.size := by
        have e' : b = e ∨ b = it := by simpa using hb
        rcases e' with z | z
        · rw [z]; exact hel
        · rw [z]; exact hil
      rw [upd_ne (Nat.ne_of_lt hb')]
      exact (hf b hb).1
  done := by
    intro X hP hw hK hc i pins s σ H E I hf st hg
    subst hP hw hK
    obtain ⟨⟨old, he⟩, hit, hne⟩ := st
    obtain ⟨xs, hq, hx⟩ := hg
    obtain ⟨its, rv, p, hz⟩ := I.tuple hq
    obtain ⟨f0, f1, f2, f3, f4, f5⟩ := hf it (by simp)
    have hl : its.toArray.size = i := by
      have := rv.length
      simp only [List.size_toArray]
      omega
    exact wpAny_pyNext_enum_endD (Draws.tuple (A := X.A.in1) (I.ok.hd hc) it a hai its.toArray) he (by rw [hl]; exact ⟨hit, p⟩) fun h' eb => ⟨rfl, I.turned (t' := s.toks) (fun b o hb q => eb b o hb q) f0 f1 f3 f4 f5⟩
  self := fun A i s Q E st h => let ⟨⟨_, he⟩, _⟩ := st; wpAny_pyIter_enum he h
def iEnumT (K : PySem.W.Frag) (ta : TA) : TI := fun σ H R => ta σ H fun vs H1 => ∃ a xs, vs = [.ref a] ∧ SqT K H1 a xs ∧ R (IteT K a) H1
theorem piET {X : Cx} {K : PySem.W.Frag} {e : Expr} {ta : TA} {p pos tpos : Pos} {elts : List Expr} {kk : Nat} (hK : X.K = K) (hg : Gl X "enumerate") (hm : X.mg "enumerate" = none) (ha : PA X [e] ta) (hs : starEach [e] X.env = [(false, eval e X.env)] := by rfl) :
    PI X (.Tuple elts kk tpos) (.Call (.Name "enumerate" p) [e] [] pos) (iEnumT K ta) := by
  subst hK
  refine ⟨fun pins s σ H R I h => ?_⟩
  refine Call_ (ld_blt I hg hm boot_enumerate (PyProof.Rows.callWith_type1 (thn (ha.run pos pins s σ H _ I h) fun us s1 ⟨vs, H1, I1, r1, q1⟩ => ?_) hs rfl))
  obtain ⟨a, xs, ex, hq, q⟩ := q1
  subst ex
  cases r1 with
  | cons r rr =>
    cases rr
    cases r
    obtain ⟨its, rv, p', hz⟩ := I1.tuple hq
    have hal : a < s1.heap.objs.size := by
      obtain ⟨o, e, _⟩ := p'
      exact Heap.lt_size e
    refine call_enumT p' fun h' he hit hsz hk => wpAny_pyIter_enum he ?_
    have I2 : Inv X pins σ H1 { s1 with heap := h' } := I1.kept (t' := s1.toks) hk
    refine ⟨s1.heap.objs.size + 1, [s1.heap.objs.size + 1, s1.heap.objs.size], _, _, H1, rfl, I2, turn_enumT a (s1.heap.objs.size + 1) s1.heap.objs.size (Nat.ne_of_lt hal) (Nat.ne_of_gt (Nat.lt_succ_of_lt hal)), ⟨⟨.none, he⟩, hit, Nat.succ_ne_self _⟩, fun b hb => ?_, q⟩
    have e' : b = s1.heap.objs.size + 1 ∨ b = s1.heap.objs.size := by simpa using hb
    have hle : s1.heap.objs.size ≤ b := by
      rcases e' with z | z
      · rw [z]; exact Nat.le_add_right _ _
      · rw [z]; exact Nat.le_refl _
    exact I1.fpOk hle (I1.hok.fresh hle)
theorem walk_enumT {K : PySem.W.Frag} {a : Addr} {xs : List V} : Walk (IteT K a) xs.length (fun H => SqT K H a xs) (fun i H v H' => ∃ T x, v = .ref T ∧ H T = none ∧ H' = upd H T (.tup [.int (i : Nat), x]) ∧ xs[i]? = some x) := by
  refine ⟨fun i _ hi q => ⟨xs, xs[i], q, by simp [hi]⟩, fun _ q => ⟨xs, q, rfl⟩, fun i H v H' _ q y => ?_⟩
  obtain ⟨T, x, h1, h2, h3, h4⟩ := y
  exact ⟨T, x, h1, h2, h3, h4 xs q⟩
end Zn
namespace Fr
open PySem PySem.Spec PyProof.Rows L2
/-! ### len(set(t)) of a tuple of ints -/
theorem len_sub {α : Type} [DecidableEq α] : ∀ {l m : List α}, l.Nodup → (∀ x ∈ l, x ∈ m) → l.length ≤ m.length
  | [], _, _, _ => Nat.zero_le _
  | a :: l, m, hn, hs => by
    have ha := hs a List.mem_cons_self
    have hn' := List.nodup_cons.mp hn
    have := len_sub (m := m.erase a) hn'.2 fun x hx => (List.mem_erase_of_ne (fun e : x = a => hn'.1 (by rw [← e]; exact hx))).mpr (hs x (List.mem_cons_of_mem _ hx))
    rw [List.length_erase_of_mem ha] at this
    have h0 : 0 < m.length := List.length_pos_of_mem ha
    simp only [List.length_cons]
    omega
theorem dup_at {α : Type} [DecidableEq α] : ∀ {l : List α}, ¬ l.Nodup → ∃ a, a ∈ l.erase a ∧ a ∈ l
  | [], h => absurd List.nodup_nil h
  | b :: l, h => by
    by_cases hb : b ∈ l
    · exact ⟨b, by simp [hb], List.mem_cons_self⟩
    · have hl : ¬ l.Nodup := fun z => h (List.nodup_cons.mpr ⟨hb, z⟩)
      obtain ⟨a, h1, h2⟩ := dup_at hl
      refine ⟨a, ?_, List.mem_cons_of_mem _ h2⟩
      have hne : b ≠ a := fun e => hb (e ▸ h2)
      rw [List.erase_cons_tail (by simpa using hne)]
      exact List.mem_cons_of_mem _ h1
theorem nodup_of_len {α : Type} [DecidableEq α] {out ns : List α} (hn : out.Nodup) (hs : ∀ x ∈ out, x ∈ ns) (hl : ns.length ≤ out.length) : ns.Nodup := by
  by_cases z : ns.Nodup
  · exact z
  · obtain ⟨a, h1, h2⟩ := dup_at z
    have := len_sub (m := ns.erase a) hn fun x hx => by
      by_cases e : x = a
      · rw [e]
        exact h1
      · exact (List.mem_erase_of_ne e).mpr (hs x hx)
    rw [List.length_erase_of_mem h2] at this
    have := List.length_pos_of_mem h2
    omega
def tLenSetT (K : PySem.W.Frag) (ta : TE) : TE := fun σ H Q => ta σ H fun x H1 => ∃ (l : Addr) (ns : List Int), x = .ref l ∧ SqT K H1 l (ns.map V.int) ∧ ns.length ≤ 1000 ∧ ∀ c : Nat, (ns.Nodup → c = ns.length) → (¬ ns.Nodup → c ≠ ns.length) → Q (.int (c : Nat)) H1
theorem pe_lenSetT {X : Cx} {K : PySem.W.Frag} {a : Expr} {ta : TE} {p p2 q pos : Pos} (hK : X.K = K) (hg : Gl X "len") (hm : X.mg "len" = none) (hg2 : Gl X "set") (hm2 : X.mg "set" = none) (ha : PE X a ta) (hc : X.calm = true := by rfl)
    (na : starEach [a] X.env = (false, eval a X.env) :: starEach [] X.env := by rfl) : PE X (.Call (.Name "len" p) [.Call (.Name "set" p2) [a] [] q] [] pos) (tLenSetT K ta) := by
  subst hK
  refine ⟨fun pins s σ H Q I h => ?_⟩
  refine Call_ (ld_blt I hg hm boot_len ?_)
  refine PyProof.Rows.callWith_builtin1 (PyProof.Rows.args_cons ?_ rfl) rfl rfl
  refine Call_ (ld_blt I hg2 hm2 boot_set ?_)
  refine PyProof.Rows.callWith_type1 (PyProof.Rows.args_cons (thn (ha.run pins s σ H _ I h) fun v s1 ⟨x, H1, I1, r1, q1⟩ => PyProof.Rows.args_nil ?_) na) na rfl
  obtain ⟨l, ns, rfl, hq, hl, q1⟩ := q1
  cases r1
  obtain ⟨its, rv, pt, hz⟩ := I1.tuple hq
  have hi : IntsAre its.toArray.toList ns := ints_of_vals rv
  refine call_set_tupI ns (I1.ok.hd hc) (show s1.heap.IsTuple l its.toArray from pt) hi (by unfold scanBound; omega) fun h' tk c R1 hcn k => ?_
  refine PyProof.Rows.args_nil ?_
  obtain ⟨o, es, ep, t, ho, hex, hdt, g, nd, hm2, hb, hf, hn, hr, hl2⟩ := R1
  have I2 : Inv X pins σ H1 { s1 with heap := h', toks := tk } := I1.kept k
  have hmem : ∀ j, j ∈ es.toList.map keyOf ↔ j ∈ ns := fun j => by rw [← hm2 j, decide_eq_true_eq]
  have hlen : (es.toList.map keyOf).length = c := by rw [List.length_map, Array.length_toList, hn]
  have h1 : c ≤ ns.length := by rw [← hlen]; exact len_sub nd fun x hx => (hmem x).mp hx
  refine call_len_set ho hex hdt hf (by rw [hn]; omega) ⟨.int c, H1, I2.tok _, ⟨_, by rw [hn]⟩, q1 c (fun hnd => ?_) (fun hnd e => hnd ?_)⟩
  · have h2 := len_sub hnd fun x hx => (hmem x).mpr hx
    omega
  · exact nodup_of_len nd (fun x hx => (hmem x).mp hx) (by omega)
end Fr
namespace Fr
open PySem PySem.Spec PyProof.Rows L2
/-! ### t.index(x) of a tuple of flat things -/
def rIndexT (K : PySem.W.Frag) : V → List V → Hp → VK → Prop := fun x xs H Q => ∃ (a : Addr) (ys : List V) (y : V) (j : Nat) (z : V), x = V.ref a ∧ xs = [y] ∧ SqT K H a ys ∧ flatV y = true ∧ ys.all flatV = true ∧ ys[j]? = some z ∧ eqV z y = true ∧
  (∀ (m : Nat) (z' : V), m < j → ys[m]? = some z' → eqV z' y = false) ∧ Q (.int (j : Nat)) H
theorem mt_tidx {X : Cx} {K : PySem.W.Frag} (hK : X.K = K) : MtR X "tuple.index" (rIndexT K) := by
  subst hK
  intro pins s σ H x xs v us Q I rx rxs h
  obtain ⟨a, ys, y, j, z, rfl, rfl, hs, fy, fys, hz, hzj, hno, q⟩ := h
  cases rx
  cases rxs with
  | cons ry rt =>
    rename_i uy ut
    cases rt
    obtain ⟨its, rv, ⟨⟨cls, dd, data, sl⟩, ho, hc, n, hd⟩, hlen⟩ := I.tuple hs
    simp only at hc hd
    subst hc hd
    obtain ⟨u, hu, ru⟩ := rv.get hz
    obtain ⟨hjl, hje⟩ := List.getElem?_eq_some_iff.mp hu
    have hvl := rv.length
    have hj : j < its.toArray.size := by simpa using hjl
    refine call_meets PySem.F.slot_tuple_index ⟨_, ho, rfl⟩ PySem.F.entry_tuple_index (PySem.F.args_tuple_index_2 _ _)
      (TI.tuple_indexAt a its.toArray n dd sl uy (eqU y) j hj ?_ ?_) ⟨ho, fun u' hu' => mem_eqAt ry fy rv fys u' (by simpa using hu'), ?_⟩
    · have e1 : its.toArray[j] = u := by simpa using hje
      rw [e1, eqU_of ru (flat_at fys hz)]
      exact hzj
    · intro m hm hmj
      have hml : m < its.length := by simpa using hm
      have hmy : m < ys.length := by omega
      have hy' : ys[m]? = some ys[m] := List.getElem?_eq_getElem hmy
      obtain ⟨u2, hu2, ru2⟩ := rv.get hy'
      obtain ⟨_, hme⟩ := List.getElem?_eq_some_iff.mp hu2
      have e1 : its.toArray[m] = u2 := by simpa using hme
      rw [e1, eqU_of ru2 (flat_at fys hy')]
      exact hno m _ hmj hy'
    · exact ⟨.int (j : Nat), H, I.tok _, ⟨_, rfl⟩, q⟩
theorem mt_lidx {X : Cx} {K : PySem.W.Frag} (hK : X.K = K) : MtR X "list.index" (rIndex K) := by
  subst hK
  exact mt_index
end Fr
/-! An exception that leaves a comprehension from its element (a call there raises). The block's own context may wish
for exceptions (bxe); what comes out of it is noted by the frame and handed on by the comprehension (bxe_noted);
pe_lcX is the rule. It stands beside the library's rule for comprehensions that raise nothing, over the same reading. -/
namespace L2
open PySem PySem.Spec PyProof.Rows
/-- raised by a call in the block -/
def bxe (X : Cx) (s : Shared) (H : Hp) (scope : Scope) (ce : Env) (fp : List Addr) (Ex : XK) : Value → Shared → Prop :=
  fun u s' => ∃ (pins : List (Addr × Obj)) (σ : St) (HB : Hp) (sB : Shared), Inv (X.blk s H scope ce fp) pins σ HB sB ∧ L2N.CX X.prog X.w X.stack HB sB Ex u s'
theorem bxe_passes {X : Cx} {s : Shared} {H : Hp} {scope : Scope} {ce : Env} {fp : List Addr} {Ex : XK} : Passes (L2N.CX X.prog X.w) ((X.blk s H scope ce fp).wish (bxe X s H scope ce fp Ex)) Ex :=
  fun pins σ H' s' _ _ I c => ⟨pins, σ, H', s', I.unwish, c⟩
/-! ### a ground with one place less -/
abbrev hid (B : Heap) (C : Addr) : Heap := PySem.W.hideAll B [C]
theorem hid_none {B : Heap} {C b : Addr} (h : B.get? b = none) : (hid B C).get? b = none := by
  cases q : (hid B C).get? b with
  | none => rfl
  | some z =>
    have := PySem.W.of_hideAll _ q
    rw [h] at this
    cases this
theorem hid_self {B : Heap} {C : Addr} : (hid B C).get? C = none := PySem.W.hideAll_none _ (by simp)
theorem hid_get {B : Heap} {C b : Addr} {o : Obj} (h : B.get? b = some o) (n : b ≠ C) : (hid B C).get? b = some o := PySem.W.hideAll_get _ h (by simpa using n)
theorem hid_out {B : Heap} {C b : Addr} {o : Obj} (h : (hid B C).get? b = some o) : B.get? b = some o ∧ b ≠ C := ⟨PySem.W.of_hideAll _ h, fun z => by rw [z, hid_self] at h; cases h⟩
theorem hid_frames {B h : Heap} {C : Addr} : ∀ {l : List Env}, h.FunFrames B l → h.FunFrames (hid B C) l
  | [], _ => trivial
  | _ :: _, ⟨a, ⟨L, o, b, c, d, e⟩, r⟩ => ⟨a, ⟨L, o, b, hid_none c, d, e⟩, hid_frames r⟩
theorem hid_flying {B h : Heap} {C e : Addr} {l : List Env} {Z : Obj → Prop} (f : HandSPX.FlyingZ B l e Z h) : HandSPX.FlyingZ (hid B C) l e Z h := by
  obtain ⟨p1, p2, p3, oe, fs, T, oT, ts, q1, q2, q3, q4, q5, q6⟩ := f
  exact ⟨fun b o z => p1 b o (hid_out z).1, hid_none p2, hid_frames p3, oe, fs, T, oT, ts, q1, q2, q3, q4, hid_none q5, q6⟩
section
variable {X : Cx} {pins : List (Addr × Obj)} {σ : St} {Hd : Hp} {sd : Shared} {scope : Scope} {ce : Env} {fp : List Addr}
/-- from the block back to the def that it stands in -/
theorem blk_back {pb : List (Addr × Obj)} {τ : St} {Hn : Hp} {t : Shared} (J : Inv X pins σ Hd sd) (fo : ∀ b ∈ fp, FpOk X pins Hd b ∧ b < sd.heap.objs.size) (cl : ce.locals = sd.heap.objs.size) (G : Inv (X.blk sd Hd scope ce fp) pb τ Hn t) :
    Inv X pins σ Hn t ∧ FpOk X pins Hn sd.heap.objs.size ∧ ∃ m, t.heap.Ns ce.locals m := by
  refine ⟨J.call' (ch := fp) G.os G.base G.hok G.bare fun b hb => ?_, J.fpOk (Nat.le_refl _) ?_, ?_⟩
  · obtain ⟨⟨_, c1, _, c3, c4, c5⟩, _⟩ := fo b hb
    exact ⟨c3, c1, c4, c5⟩
  · rw [← cl]
    exact G.free
  · obtain ⟨m, n, _⟩ := G.loc
    exact ⟨m, n⟩
/-- the block's names change, the def's state stays -/
theorem Inv.butC {Hn : Hp} {t : Shared} {h' : Heap} {C : Addr} (J : Inv X pins σ Hn t) (f : FpOk X pins Hn C) (k : ∀ b o, b ≠ C → t.heap.get? b = some o → h'.get? b = some o) : Inv X pins σ Hn { t with heap := h' } := by
  obtain ⟨c0, c1, c2, c3, c4, c5⟩ := f
  exact J.turned (t' := t.toks) k c0 c1 c3 c4 c5
variable {W : WX} {Ex : XK}
/-- what a raise in the block comes to: noted by the frame, the block's names let go, handed on -/
theorem bxe_noted {u : Value} {s' : Shared} (tk : L2N.Takes X W) (hW : ∀ cls d σ H, Ex cls d H → W cls d σ H) (hs : X.stack = X.env :: X.outer) (hf : X.env.frame = some X.env.locals) (cf : ce.frame = X.env.frame) (cl : ce.locals = sd.heap.objs.size)
    (J : Inv X pins σ Hd sd) (fo : ∀ b ∈ fp, FpOk X pins Hd b ∧ b < sd.heap.objs.size) (x : bxe X sd Hd scope ce fp Ex u s') : notedBy (model X.prog X.w) X.A ce (CompFails (model X.prog X.w) X.A X.xe ce) u s' := by
  obtain ⟨pb, τ, HB, sB, IB, c⟩ := x
  obtain ⟨a, B0, H0, cls0, d0, eu, ⟨_, _, _, oe0, vs0, T0, oT0, ts0, w1, w2, w3, w4, w5, w6, w7, w8, w9⟩, _⟩ := id c
  obtain ⟨a1, B, t, pb', τ', Hn, cls, d, rfl, G, nb, up, sky, na, os, ag, hE⟩ := L2N.XE.of_call (W := fun cls d _ H => Ex cls d H) IB (fun _ _ _ z => z) c
  cases eu
  have fly : HandSPX.FlyingZ B X.stack a (L2N.Zn cls d) s'.heap := by
    rcases sky with ⟨_, _, _, oe, vs, z1, _, z3, z4⟩ | z | ⟨_, _, _, oe, vs, T, oT, ts, z1, _, z3, z4, _, _, z7, z8, z9⟩
    · rw [w1] at z1
      cases z1
      rw [w3] at z3
      cases z3
      rw [w4] at z4
      cases z4
    · exact z
    · rw [w1] at z1
      cases z1
      rw [w3] at z3
      cases z3
      rw [w4] at z4
      cases z4
      rw [w7] at z7
      cases z7
      rw [w8] at z8
      cases z8
      rw [w9] at z9
      exact absurd z9 (by simp [rawInt])
  obtain ⟨JG, fC, m, nG⟩ := blk_back J fo cl G
  have nS : s'.heap.Ns ce.locals m := nG.upToSlots up
  have J2 := JG.butC (h' := hid t.heap sd.heap.objs.size) fC fun b o n e => hid_get e n
  have fl2 := hid_flying (C := sd.heap.objs.size) fly
  rw [hs] at fl2
  show wpAny _ _ (noteFrame (.ref a) ce) _ _ s'
  rw [noteFrame_env _ cf]
  refine PXN.looks_onZ L2N.Zn.steady (by rw [J.ok.frames, hs]) hf fl2 fun g held up1 => ?_
  have n1 : g.Ns ce.locals m := nS.upToSlots up1
  refine ⟨m, n1, fun g2 m2 n2 same => ?_⟩
  rw [cl] at n1 n2 same
  obtain ⟨b1, b0, f1, oe, fs, T, oT, ts, q1, q2, q3, q4, q5, q6, q7, q8, q9⟩ := held
  obtain ⟨oC, esC, epC, c1, c2, _⟩ := n1
  have apart : ∀ (b : Addr) (o : Obj) (fs : Array Value), g.get? b = some o → o.data = .fields fs → b ≠ sd.heap.objs.size := fun b o fs e e' z => by
    rw [z, c1] at e
    cases e
    rw [c2] at e'
    cases e'
  have q1' := (same.2 a (apart _ _ _ q1 q3)).trans q1
  have q7' := (same.2 T (apart _ _ _ q7 q8)).trans q7
  unfold PySem.passOn
  refine wpAny_bind (wpAny_field q1' q3 q4 ?_)
  have notNone : ¬ (Value.ref T == Value.none) = true := by simp
  rw [if_neg notNone, cf, hf]
  refine wpAny_bind (HandSPX.setFlight_anyZ (base := hid B sd.heap.objs.size) (l := X.env :: X.outer) (Z := L2N.Zn cls d) (fr := some X.env.locals) (fun b o z => (same.2 b (hid_out z).2).trans (b1 b o z)) (Heap.FunFrames.sameBut same n2 f1) ⟨oe, fs, T, oT, ts, q1', q2, q3, q4, q5, q6, q7', q8, q9⟩ fun g3 r1 r2 r3 up3 => wpAny_throw ?_)
  rw [← hs] at r2
  refine tk _ _ ⟨a, hid B sd.heap.objs.size, _, pins, σ, Hn, cls, d, rfl, J2, fun b o e n => ?_, fun b o e nf => ?_, .inr (.inr ⟨r1, b0, r2, r3⟩), na, os, ag, hW _ _ _ _ hE⟩
  · obtain ⟨e1, e2⟩ := hid_out e
    exact hid_get (nb b o e1 n) e2
  · obtain ⟨e1, e2⟩ := hid_out e
    obtain ⟨sl1, e3⟩ := up b o e1 nf
    obtain ⟨sl2, e4⟩ := up1 b _ e3 nf
    obtain ⟨sl3, e5⟩ := up3 b _ ((same.2 b e2).trans e4) nf
    exact ⟨sl3, e5⟩
/-- the turns of the loop -/
theorem lcx_turns {elt tg iter : Expr} {ifs : List Expr} {own : List (Str × Nat)} {pos : Pos} {g : TG} {tt : TT} {te : TE} {Q : VK} {it D : Addr} {tn : Nat → Heap → Prop} {It : It} {V : Nat → Nat → Hp → Prop} {sb : Shared} {m0 : Nat}
    (tk : L2N.Takes X W) (hW : ∀ cls d σ H, Ex cls d H → W cls d σ H) (hs : X.stack = X.env :: X.outer) (hf : X.env.frame = some X.env.locals) (cf : ce.frame = X.env.frame) (cl : ce.locals = sd.heap.objs.size) (hc : X.calm = true)
    (J : Inv X pins σ Hd sd) (fo : ∀ b ∈ fp, FpOk X pins Hd b ∧ b < sd.heap.objs.size) (Tn : Turn X.prog X.w X.K tg It fp it tn)
    (pg : PG (X.blk sd Hd scope ce fp) tg g) (pt : PTs (X.blk sd Hd scope ce fp) ifs tt) (pe : PE ((X.blk sd Hd scope ce fp).wish (bxe X sd Hd scope ce fp Ex)) elt te)
    (I0 : Inv (X.blk sd Hd scope ce fp) [] (wipe σ (own.map (·.2))) Hd sb) (t0 : tn 0 sb.heap) (v0 : V 0 m0 Hd)
    (turn : ∀ i m H, V i m H → (It.stop i H ∧ Q (.ref D) H) ∨ (It.go i H ∧ ∃ Nx : Hp → Prop, (∀ H', Nx H' → ∃ m', m' < m ∧ V (i + 1) m' H') ∧ ∀ x H', It.yld i H x H' → g x (wipe σ (own.map (·.2))) H' fun σ2 H2 => wipe σ2 (own.map (·.2)) = wipe σ (own.map (·.2)) ∧ tt σ2 H2 fun b H3 =>
      if b = true then te σ2 H3 fun y H4 => ∃ acc, H4 D = some (.lst acc) ∧ acc.length < sizeLine ∧ Nx (upd H4 D (.lst (acc ++ [y]))) else Nx H3)) :
    codeAny (model X.prog X.w) X.A (.compLoop (.ListComp elt [⟨tg, iter, ifs, 0⟩] scope pos) 0 (.ref it) (.ref D) ce) (compEnds (model X.prog X.w) X.A X.xe none (EP X pins σ Q) (.ref D) ce) sb := by
  have ff : ∀ {τ : St} {H : Hp} {t : Shared}, Inv (X.blk sd Hd scope ce fp) [] τ H t → (∀ b ∈ fp, H b = none) → ∀ b ∈ fp, FpOk (X.blk sd Hd scope ce fp) [] H b := fun {τ H t} G n b hb => by
    obtain ⟨x1, x2⟩ := G.ok.exf b hb
    exact ⟨n b hb, x1, G.ok.exfs b hb, .inl hb, x2, fun p hp => (nomatch (show p ∈ ([] : List (Addr × Obj)) from hp))⟩
  refine compLoop_any (fun k t => ∃ i H, Inv (X.blk sd Hd scope ce fp) [] (wipe σ (own.map (·.2))) H t ∧ tn i t.heap ∧ (∀ b ∈ fp, H b = none) ∧ V i k H) (fun k t ⟨i, H, G, tG, nG, v⟩ => ?_) m0 ⟨0, Hd, I0, t0, fun b hb => (fo b hb).1.1, v0⟩
  rcases turn i k H v with ⟨stop, q⟩ | ⟨go, Nx, next, step⟩
  · refine thnF (Tn.done (X.blk sd Hd scope ce fp) rfl rfl rfl hc i [] t _ H (fun _ _ => False) G (ff G nG) tG stop) fun r t1 ⟨er, G1⟩ => ?_
    subst er
    obtain ⟨J1, fC, m, nC⟩ := blk_back J fo cl G1
    exact ⟨m, nC, fun h' same => ⟨.ref D, H, J1.butC fC fun b o n e => (same.2 b (by rw [cl]; exact n)).trans e, rfl, q⟩⟩
  · refine thnF (Tn.item (X.blk sd Hd scope ce fp) rfl rfl rfl hc i [] t _ H (fun _ _ => False) G (ff G nG) tG go) fun r t1 ⟨u, er, h1⟩ => ?_
    subst er
    refine thnF h1 fun _ t2 ⟨x, H2, G2, r2, y2, tn2, n2⟩ => ?_
    refine thnF (pg.run _ t2 _ H2 x u _ (G2.pinned (ff G2 n2) (Tn.obj _ _ tn2)) r2 (step x H2 y2)) fun _ t3 ⟨σ3, H3, G3, e3, q3⟩ => ?_
    refine thnF (pt.run _ t3 σ3 H3 _ G3 q3) fun b t4 ⟨H4, G4, q4⟩ => ?_
    have on : ∀ {t' : Shared} {H' : Hp}, Inv (X.blk sd Hd scope ce fp) ([] ++ pinsAt fp t2.heap) σ3 H' t' → Nx H' → ∃ k', k' < k ∧ ∃ i H, Inv (X.blk sd Hd scope ce fp) [] (wipe σ (own.map (·.2))) H t' ∧ tn i t'.heap ∧ (∀ b ∈ fp, H b = none) ∧ V i k' H := fun {t' H'} G' nx => by
      obtain ⟨k', lt, v'⟩ := next H' nx
      have kept : ∀ b ∈ fp, ∀ o, t2.heap.get? b = some o → t'.heap.get? b = some o ∧ H' b = none := fun b hb o e => by
        obtain ⟨p1, p2, _⟩ := G'.pin (b, o) (List.mem_append_right _ (List.mem_append_right _ (mem_pinsAt hb e)))
        exact ⟨p1, p2⟩
      have weaker := G'.unpinned (pins := []) |>.weak (σ' := wipe σ (own.map (·.2))) (by rw [← e3, wipe_length]) fun j v z => (wipe_some (by rw [e3]; exact z)).1
      refine ⟨k', lt, i + 1, H', weaker, Tn.keep _ _ _ tn2 fun b hb o e => (kept b hb o e).1, fun b hb => ?_, v'⟩
      obtain ⟨o, e, _⟩ := Tn.obj _ _ tn2 b hb
      exact (kept b hb o e).2
    cases b with
    | false => exact on G4 q4
    | true =>
      refine wpAny_mono (pe.run _ t4 σ3 H4 _ (G4.wish _) q4) (fun z t5 ⟨y, H5, G5, r5, acc, d5, l5, nx⟩ => ?_) fun u' t' hx => bxe_noted tk hW hs hf cf cl J fo hx
      exact app_ok (X := X.blk sd Hd scope ce fp) G5.unwish d5 l5 r5 fun t6 G6 => on G6 nx
/-- the block begins -/
theorem lcx_start {elt tg iter : Expr} {ifs : List Expr} {own : List (Str × Nat)} {pos : Pos} {g : TG} {tt : TT} {te : TE} {Q : VK} {it D : Addr} {tn : Nat → Heap → Prop} {It : It} {V : Nat → Nat → Hp → Prop} {m0 : Nat} {cells : List (Str × Addr)}
    (tk : L2N.Takes X W) (hW : ∀ cls d σ H, Ex cls d H → W cls d σ H) (hs : X.stack = X.env :: X.outer) (hf : X.env.frame = some X.env.locals) (hc : X.calm = true) (hN : X.N.Nodup) (ok : BlkOk X.N X.env.scope scope own)
    (J : Inv X pins σ Hd sd) (fo : ∀ b ∈ fp, FpOk X pins Hd b ∧ b < sd.heap.objs.size) (Tn : Turn X.prog X.w X.K tg It fp it tn) (t0 : tn 0 sd.heap)
    (ec : cells = cellsFrom (sd.heap.objs.size + 1) scope.names (cloFrom X.env.cells scope.names []))
    (pg : PG (X.blk sd Hd scope (compEnvC scope cells sd.heap.objs.size X.env) fp) tg g) (pt : PTs (X.blk sd Hd scope (compEnvC scope cells sd.heap.objs.size X.env) fp) ifs tt)
    (pe : PE ((X.blk sd Hd scope (compEnvC scope cells sd.heap.objs.size X.env) fp).wish (bxe X sd Hd scope (compEnvC scope cells sd.heap.objs.size X.env) fp Ex)) elt te) (v0 : V 0 m0 Hd)
    (turn : ∀ i m H, V i m H → (It.stop i H ∧ Q (.ref D) H) ∨ (It.go i H ∧ ∃ Nx : Hp → Prop, (∀ H', Nx H' → ∃ m', m' < m ∧ V (i + 1) m' H') ∧ ∀ x H', It.yld i H x H' → g x (wipe σ (own.map (·.2))) H' fun σ2 H2 => wipe σ2 (own.map (·.2)) = wipe σ (own.map (·.2)) ∧ tt σ2 H2 fun b H3 =>
      if b = true then te σ2 H3 fun y H4 => ∃ acc, H4 D = some (.lst acc) ∧ acc.length < sizeLine ∧ Nx (upd H4 D (.lst (acc ++ [y]))) else Nx H3)) :
    codeAny (model X.prog X.w) X.A (.compStart (.ListComp elt [⟨tg, iter, ifs, 0⟩] scope pos) 0 (.ref it) (.ref D) (compEnvC scope cells sd.heap.objs.size X.env)) (compEnds (model X.prog X.w) X.A X.xe none (EP X pins σ Q) (.ref D) (compEnvC scope cells sd.heap.objs.size X.env))
      { sd with heap := pushCells (sd.heap.push { cls := .type "dict", data := .dict #[] }) scope.names } := by
  have I0 := block_start J ok hN fo
  rw [← ec] at I0
  have tb : tn 0 (pushCells (sd.heap.push { cls := .type "dict", data := .dict #[] }) scope.names) := Tn.keep _ _ _ t0 fun b _ o e => pushCells_keeps _ _ _ _ (Heap.get?_push_of_some _ e)
  have loop := lcx_turns (iter := iter) (pos := pos) (D := D) (Q := Q) tk hW hs hf (ce := compEnvC scope cells sd.heap.objs.size X.env) rfl rfl hc J fo Tn pg pt pe I0 tb v0 turn
  exact codeAny_compStart_list loop (Tn.self X.A 0 _ _ _ tb loop)
/-- [f(..) for target in iter if ..]: the element's calls may raise -/
theorem pe_lcX {elt tg iter : Expr} {ifs : List Expr} {own : List (Str × Nat)} {pos : Pos} {wi : TI} {g : TG} {tt : TT} {te : TE} (tk : L2N.Takes X W) (hW : ∀ cls d σ H, Ex cls d H → W cls d σ H)
    (hs : X.stack = X.env :: X.outer) (hf : X.env.frame = some X.env.locals) (hc : X.calm = true) (hN : X.N.Nodup) (hi : PI X tg iter wi) (ok : BlkOk X.N X.env.scope scope own)
    (hg : ∀ (s : Shared) (H : Hp) (C : Addr) (cl : List (Str × Addr)) (fp : List Addr), PG (X.blk s H scope (compEnvC scope cl C X.env) fp) tg g)
    (ht : ∀ (s : Shared) (H : Hp) (C : Addr) (cl : List (Str × Addr)) (fp : List Addr), PTs (X.blk s H scope (compEnvC scope cl C X.env) fp) ifs tt)
    (he : ∀ (s : Shared) (H : Hp) (C : Addr) (cl : List (Str × Addr)) (fp : List Addr), PE ((X.blk s H scope (compEnvC scope cl C X.env) fp).wish (bxe X s H scope (compEnvC scope cl C X.env) fp Ex)) elt te)
    (hfs : ∀ x, foldedSetIterable iter X.env x = pure x := by intro _; rfl) : PE X (.ListComp elt [⟨tg, iter, ifs, 0⟩] scope pos) (tLc wi g tt te (own.map (·.2))) := by
  refine ⟨fun pins s σ H Q I h => ?_⟩
  rw [eval_ListComp]
  refine comprehension_at (use := none) rfl hfs (closure_ok fun y hy e => (ok.free y hy e).elim (fun z => I.ok.has _ (.inl z)) fun z => I.ok.has _ (.inr z)) ok.kind (fun y hy e => by rw [ok.uniq y hy, e]) ?_
  refine thn (hi.run pins s σ H _ I h) fun xv s1 hx => thn hx fun itv s2 ⟨it, fp, tn, It, H2, e, I2, Tn, t2, f2, q⟩ => ?_
  subst e
  refine wpAny_newObj_type (newEnv_comp ?_) (by show 0 ≤ sizeLine; decide)
  have hn : H2 s2.heap.objs.size = none := I2.hok.fresh (Nat.le_refl _)
  obtain ⟨V, ⟨m0, v0⟩, turn⟩ := q s2.heap.objs.size hn
  have grow : ∀ b o, s2.heap.get? b = some o → (s2.heap.push { cls := .type "list", data := .seq ([] : List Value).toArray }).get? b = some o := fun b o e => Heap.get?_push_of_some _ e
  have J : Inv X pins σ (upd H2 s2.heap.objs.size (.lst [])) { s2 with heap := s2.heap.push { cls := .type "list", data := .seq ([] : List Value).toArray } } :=
    I2.laid (t' := s2.toks) grow (Nat.le_refl _) ⟨Nat.zero_le _, [], 0, .nil, Heap.get?_push_size _ rfl⟩
  have fo : ∀ b ∈ fp, FpOk X pins (upd H2 s2.heap.objs.size (.lst [])) b ∧ b < (s2.heap.push { cls := .type "list", data := .seq ([] : List Value).toArray }).objs.size := fun b hb => by
    obtain ⟨o, e, _⟩ := Tn.obj _ _ t2 b hb
    have lt := Heap.lt_size e
    obtain ⟨c0, c⟩ := f2 b hb
    exact ⟨⟨by rw [upd_ne (Nat.ne_of_lt lt)]; exact c0, c⟩, by rw [Heap.size_push]; exact Nat.lt_succ_of_lt lt⟩
  have tn1 : tn 0 (s2.heap.push { cls := .type "list", data := .seq ([] : List Value).toArray }) := Tn.keep _ _ _ t2 fun b _ o e => grow b o e
  exact lcx_start (scope := scope) (own := own) tk hW hs hf hc hN ok J fo Tn tn1 rfl (hg _ _ _ _ _) (ht _ _ _ _ _) (he _ _ _ _ _) v0 turn
end
end L2
namespace Fr
open PySem PySem.Spec PyProof.Rows L2
/-! ### the texts by their places -/
def topS (i : Nat) : Stmt := PySem.Challenge.pw_fractrows_k90_again_and_shared.main.body.getD i (.Pass ⟨0, 0, 0, 0⟩)
abbrev s_is_count : Stmt := topS 10
theorem sc_is_count : FnScope ["thing", "low", "high"] ["thing", "low", "high"] (defScope s_is_count) := ⟨rfl, rfl, rfl, by decide +kernel, rfl, by decide +kernel, by decide +kernel⟩
abbrev s_need_count : Stmt := topS 11
theorem sc_need_count : FnScope ["thing", "low", "high"] ["thing", "low", "high"] (defScope s_need_count) := ⟨rfl, rfl, rfl, by decide +kernel, rfl, by decide +kernel, by decide +kernel⟩
abbrev s_parted : Stmt := topS 12
theorem sc_parted : FnScope ["number", "found", "prime", "many"] ["number"] (defScope s_parted) := ⟨rfl, rfl, rfl, by decide +kernel, rfl, by decide +kernel, by decide +kernel⟩
abbrev s_is_number : Stmt := topS 13
theorem sc_is_number : FnScope ["thing", "found", "left", "many"] ["thing"] (defScope s_is_number) := ⟨rfl, rfl, rfl, by decide +kernel, rfl, by decide +kernel, by decide +kernel⟩
abbrev s_need_number : Stmt := topS 14
theorem sc_need_number : FnScope ["number"] ["number"] (defScope s_need_number) := ⟨rfl, rfl, rfl, by decide +kernel, rfl, by decide +kernel, by decide +kernel⟩
abbrev s_common : Stmt := topS 19
theorem sc_common : FnScope ["one", "other"] ["one", "other"] (defScope s_common) := ⟨rfl, rfl, rfl, by decide +kernel, rfl, by decide +kernel, by decide +kernel⟩
abbrev s_is_fraction : Stmt := topS 20
theorem sc_is_fraction : FnScope ["thing", "one"] ["thing"] (defScope s_is_fraction) := ⟨rfl, rfl, rfl, by decide +kernel, rfl, by decide +kernel, by decide +kernel⟩
abbrev s_is_program : Stmt := topS 21
theorem sc_is_program : FnScope ["thing", "one"] ["thing"] (defScope s_is_program) := ⟨rfl, rfl, rfl, by decide +kernel, rfl, by decide +kernel, by decide +kernel⟩
abbrev s_need_program : Stmt := topS 22
theorem sc_need_program : FnScope ["program"] ["program"] (defScope s_need_program) := ⟨rfl, rfl, rfl, by decide +kernel, rfl, by decide +kernel, by decide +kernel⟩
abbrev s_first_at : Stmt := topS 23
theorem sc_first_at : FnScope ["program", "number", "place", "fraction"] ["program", "number"] (defScope s_first_at) := ⟨rfl, rfl, rfl, by decide +kernel, rfl, by decide +kernel, by decide +kernel⟩
abbrev s_led : Stmt := topS 24
theorem sc_led : FnScope ["program", "number", "place"] ["program", "number"] (defScope s_led) := ⟨rfl, rfl, rfl, by decide +kernel, rfl, by decide +kernel, by decide +kernel⟩
abbrev s_need_room : Stmt := topS 25
theorem sc_need_room : FnScope ["number"] ["number"] (defScope s_need_room) := ⟨rfl, rfl, rfl, by decide +kernel, rfl, by decide +kernel, by decide +kernel⟩
abbrev s_look : Stmt := topS 26
theorem sc_look : FnScope ["program", "number"] ["program", "number"] (defScope s_look) := ⟨rfl, rfl, rfl, by decide +kernel, rfl, by decide +kernel, by decide +kernel⟩
abbrev s_step : Stmt := topS 27
theorem sc_step : FnScope ["program", "number", "found"] ["program", "number"] (defScope s_step) := ⟨rfl, rfl, rfl, by decide +kernel, rfl, by decide +kernel, by decide +kernel⟩
abbrev s_run : Stmt := topS 28
theorem sc_run : FnScope ["program", "number", "most", "found", "later"] ["program", "number", "most"] (defScope s_run) := ⟨rfl, rfl, rfl, by decide +kernel, rfl, by decide +kernel, by decide +kernel⟩
abbrev s_end : Stmt := topS 29
theorem sc_end : FnScope ["program", "number", "most", "found"] ["program", "number", "most"] (defScope s_end) := ⟨rfl, rfl, rfl, by decide +kernel, rfl, by decide +kernel, by decide +kernel⟩
abbrev s_idle : Stmt := topS 30
theorem sc_idle : FnScope ["program", "place"] ["program"] (defScope s_idle) := ⟨rfl, rfl, rfl, by decide +kernel, rfl, by decide +kernel, by decide +kernel⟩
abbrev s_lean : Stmt := topS 31
theorem sc_lean : FnScope ["program", "out", "place", "fraction"] ["program"] (defScope s_lean) := ⟨rfl, rfl, rfl, by decide +kernel, rfl, by decide +kernel, by decide +kernel⟩
abbrev s_needs : Stmt := topS 34
theorem sc_needs : FnScope ["programs", "found", "program", "fraction", "have", "due"] ["programs"] (defScope s_needs) := ⟨rfl, rfl, rfl, by decide +kernel, rfl, by decide +kernel, by decide +kernel⟩
abbrev s_numbers_to : Stmt := topS 35
theorem sc_numbers_to : FnScope ["most", "found", "prime", "many", "longer", "row", "turn", "number"] ["most"] (defScope s_numbers_to) := ⟨rfl, rfl, rfl, by decide +kernel, rfl, by decide +kernel, by decide +kernel⟩
abbrev s_parting : Stmt := topS 36
theorem sc_parting : FnScope ["one", "other", "most", "many", "own", "some", "number"] ["one", "other"] (defScope s_parting) := ⟨rfl, rfl, rfl, by decide +kernel, rfl, by decide +kernel, by decide +kernel⟩
abbrev s_vector : Stmt := topS 39
theorem sc_vector : FnScope ["fraction"] ["fraction"] (defScope s_vector) := ⟨rfl, rfl, rfl, by decide +kernel, rfl, by decide +kernel, by decide +kernel⟩
abbrev s_fits_from : Stmt := topS 40
theorem sc_fits_from : FnScope ["rooms", "takes", "gives", "need", "found", "have", "out", "into", "due"] ["rooms", "takes", "gives", "need"] (defScope s_fits_from) := ⟨rfl, rfl, rfl, by decide +kernel, rfl, by decide +kernel, by decide +kernel⟩
abbrev s_times_at : Stmt := topS 41
theorem sc_times_at : FnScope ["program", "number", "place", "rooms", "takes", "gives", "some", "fraction", "found", "have", "out"] ["program", "number", "place"] (defScope s_times_at) := ⟨rfl, rfl, rfl, by decide +kernel, rfl, by decide +kernel, by decide +kernel⟩
abbrev s_powered : Stmt := topS 42
theorem sc_powered : FnScope ["fraction", "many", "top", "under", "turn"] ["fraction", "many"] (defScope s_powered) := ⟨rfl, rfl, rfl, by decide +kernel, rfl, by decide +kernel, by decide +kernel⟩
abbrev s_jumps : Stmt := topS 43
theorem sc_jumps : FnScope ["program", "number", "most", "found", "place", "many", "top", "under"] ["program", "number", "most"] (defScope s_jumps) := ⟨rfl, rfl, rfl, by decide +kernel, rfl, by decide +kernel, by decide +kernel⟩
abbrev s_many_steps : Stmt := topS 44
theorem sc_many_steps : FnScope ["program", "number", "most", "found", "place", "many"] ["program", "number", "most"] (defScope s_many_steps) := ⟨rfl, rfl, rfl, by decide +kernel, rfl, by decide +kernel, by decide +kernel⟩
abbrev s_is_line : Stmt := topS 51
theorem sc_is_line : FnScope ["thing", "lines", "goal"] ["thing", "lines"] (defScope s_is_line) := ⟨rfl, rfl, rfl, by decide +kernel, rfl, by decide +kernel, by decide +kernel⟩
abbrev s_need_machine : Stmt := topS 52
theorem sc_need_machine : FnScope ["machine", "line"] ["machine"] (defScope s_need_machine) := ⟨rfl, rfl, rfl, by decide +kernel, rfl, by decide +kernel, by decide +kernel⟩
abbrev s_need_counters : Stmt := topS 53
theorem sc_need_counters : FnScope ["counters", "good", "one"] ["counters"] (defScope s_need_counters) := ⟨rfl, rfl, rfl, by decide +kernel, rfl, by decide +kernel, by decide +kernel⟩
abbrev s_changed : Stmt := topS 54
theorem sc_changed : FnScope ["counters", "place", "by"] ["counters", "place", "by"] (defScope s_changed) := ⟨rfl, rfl, rfl, by decide +kernel, rfl, by decide +kernel, by decide +kernel⟩
abbrev s_went : Stmt := topS 55
theorem sc_went : FnScope ["machine", "state", "at", "counters", "line"] ["machine", "state"] (defScope s_went) := ⟨rfl, rfl, rfl, by decide +kernel, rfl, by decide +kernel, by decide +kernel⟩
abbrev s_machine_run : Stmt := topS 56
theorem sc_machine_run : FnScope ["machine", "counters", "most", "found", "later"] ["machine", "counters", "most"] (defScope s_machine_run) := ⟨rfl, rfl, rfl, by decide +kernel, rfl, by decide +kernel, by decide +kernel⟩
abbrev s_at_line : Stmt := topS 57
theorem sc_at_line : FnScope ["place"] ["place"] (defScope s_at_line) := ⟨rfl, rfl, rfl, by decide +kernel, rfl, by decide +kernel, by decide +kernel⟩
abbrev s_program_of : Stmt := topS 58
theorem sc_program_of : FnScope ["machine", "found", "place", "line", "own"] ["machine"] (defScope s_program_of) := ⟨rfl, rfl, rfl, by decide +kernel, rfl, by decide +kernel, by decide +kernel⟩
abbrev s_walked : Stmt := topS 61
theorem sc_walked : FnScope ["program", "number", "many", "found", "later"] ["program", "number", "many"] (defScope s_walked) := ⟨rfl, rfl, rfl, by decide +kernel, rfl, by decide +kernel, by decide +kernel⟩
abbrev s_goes_on : Stmt := topS 62
theorem sc_goes_on : FnScope ["program", "row", "first", "last", "start", "goal", "more", "number", "rooms", "fraction", "due", "have", "own", "need", "grown"] ["program", "row", "first", "last"] (defScope s_goes_on) := ⟨rfl, rfl, rfl, by decide +kernel, rfl, by decide +kernel, by decide +kernel⟩
abbrev s_never : Stmt := topS 63
theorem sc_never : FnScope ["program", "number", "most", "row", "last", "first"] ["program", "number", "most"] (defScope s_never) := ⟨rfl, rfl, rfl, by decide +kernel, rfl, by decide +kernel, by decide +kernel⟩
abbrev s_shows : Stmt := topS 64
theorem sc_shows : FnScope ["program", "number", "thing", "good", "row", "one"] ["program", "number", "thing"] (defScope s_shows) := ⟨rfl, rfl, rfl, by decide +kernel, rfl, by decide +kernel, by decide +kernel⟩
abbrev s_need : Stmt := topS 68
theorem sc_need : FnScope ["good"] ["good"] (defScope s_need) := ⟨rfl, rfl, rfl, by decide +kernel, rfl, by decide +kernel, by decide +kernel⟩
abbrev s_program_text : Stmt := topS 69
theorem sc_program_text : FnScope ["program", "top", "under"] ["program"] (defScope s_program_text) := ⟨rfl, rfl, rfl, by decide +kernel, rfl, by decide +kernel, by decide +kernel⟩
abbrev s_written : Stmt := topS 70
theorem sc_written : FnScope ["program"] ["program"] (defScope s_written) := ⟨rfl, rfl, rfl, by decide +kernel, rfl, by decide +kernel, by decide +kernel⟩
abbrev s_number_in : Stmt := topS 71
theorem sc_number_in : FnScope ["word", "sign"] ["word"] (defScope s_number_in) := ⟨rfl, rfl, rfl, by decide +kernel, rfl, by decide +kernel, by decide +kernel⟩
abbrev s_fraction_in : Stmt := topS 72
theorem sc_fraction_in : FnScope ["word", "top", "line", "under"] ["word"] (defScope s_fraction_in) := ⟨rfl, rfl, rfl, by decide +kernel, rfl, by decide +kernel, by decide +kernel⟩
abbrev s_read : Stmt := topS 73
theorem sc_read : FnScope ["text", "found", "word"] ["text"] (defScope s_read) := ⟨rfl, rfl, rfl, by decide +kernel, rfl, by decide +kernel, by decide +kernel⟩
abbrev s__law_cell : Stmt := topS 75
theorem sc__law_cell : FnScope ["script", "k"] ["script", "k"] (defScope s__law_cell) := ⟨rfl, rfl, rfl, by decide +kernel, rfl, by decide +kernel, by decide +kernel⟩
abbrev s__law_drawn : Stmt := topS 76
theorem sc__law_drawn : FnScope ["cell", "k", "more"] ["cell", "k"] (defScope s__law_drawn) := ⟨rfl, rfl, rfl, by decide +kernel, rfl, by decide +kernel, by decide +kernel⟩
abbrev s__law_primes : Stmt := topS 77
theorem sc__law_primes : FnScope [] [] (defScope s__law_primes) := ⟨rfl, rfl, rfl, by decide +kernel, rfl, by decide +kernel, by decide +kernel⟩
abbrev s__law_some : Stmt := topS 78
theorem sc__law_some : FnScope ["more", "primes", "most", "found", "j"] ["more", "primes", "most"] (defScope s__law_some) := ⟨rfl, rfl, rfl, by decide +kernel, rfl, by decide +kernel, by decide +kernel⟩
abbrev s__law_fraction : Stmt := topS 79
theorem sc__law_fraction : FnScope ["more", "primes", "top", "under", "prime"] ["more", "primes"] (defScope s__law_fraction) := ⟨rfl, rfl, rfl, by decide +kernel, rfl, by decide +kernel, by decide +kernel⟩
abbrev s__law_program : Stmt := topS 80
theorem sc__law_program : FnScope ["more", "primes", "found", "j", "one"] ["more", "primes"] (defScope s__law_program) := ⟨rfl, rfl, rfl, by decide +kernel, rfl, by decide +kernel, by decide +kernel⟩
abbrev s__law_machine : Stmt := topS 81
theorem sc__law_machine : FnScope ["more", "lines", "found", "j", "here", "one", "other", "word"] ["more"] (defScope s__law_machine) := ⟨rfl, rfl, rfl, by decide +kernel, rfl, by decide +kernel, by decide +kernel⟩
abbrev s__law_copy : Stmt := topS 82
theorem sc__law_copy : FnScope ["thing", "one", "name"] ["thing"] (defScope s__law_copy) := ⟨rfl, rfl, rfl, by decide +kernel, rfl, by decide +kernel, by decide +kernel⟩
abbrev s__law_spoil : Stmt := topS 83
theorem sc__law_spoil : FnScope ["thing", "one"] ["thing"] (defScope s__law_spoil) := ⟨rfl, rfl, rfl, by decide +kernel, rfl, by decide +kernel, by decide +kernel⟩
abbrev s__law_again : Stmt := topS 84
theorem sc__law_again : FnScope ["deed", "handed", "kept", "told", "due"] ["deed", "handed"] (defScope s__law_again) := ⟨rfl, rfl, rfl, by decide +kernel, rfl, by decide +kernel, by decide +kernel⟩
abbrev s_law : Stmt := topS 85
theorem sc_law : FnScope ["script", "k", "more", "program", "machine", "number", "handed", "deed", "deeds"] ["script"] (defScope s_law) := ⟨rfl, rfl, rfl, by decide +kernel, rfl, by decide +kernel, by decide +kernel⟩
/-! ### what stands behind the top -/
structure Txt (K : PySem.W.Frag) (mg : Str → Option Value) : Prop where
  b_isinstance : mg "isinstance" = none
  b_int : mg "int" = none
  b_bool : mg "bool" = none
  b_str : mg "str" = none
  b_list : mg "list" = none
  b_tuple : mg "tuple" = none
  b_len : mg "len" = none
  b_all : mg "all" = none
  b_any : mg "any" = none
  b_max : mg "max" = none
  b_min : mg "min" = none
  b_sum : mg "sum" = none
  b_range : mg "range" = none
  b_zip : mg "zip" = none
  b_enumerate : mg "enumerate" = none
  b_dict : mg "dict" = none
  b_ValueError : mg "ValueError" = none
  d_is_count : FnP K "is_count" s_is_count
  m_is_count : mg "is_count" = some (.ref (ga K "is_count"))
  d_need_count : FnP K "need_count" s_need_count
  m_need_count : mg "need_count" = some (.ref (ga K "need_count"))
  d_parted : FnP K "parted" s_parted
  m_parted : mg "parted" = some (.ref (ga K "parted"))
  d_is_number : FnP K "is_number" s_is_number
  m_is_number : mg "is_number" = some (.ref (ga K "is_number"))
  d_need_number : FnP K "need_number" s_need_number
  m_need_number : mg "need_number" = some (.ref (ga K "need_number"))
  d_common : FnP K "common" s_common
  m_common : mg "common" = some (.ref (ga K "common"))
  d_is_fraction : FnP K "is_fraction" s_is_fraction
  m_is_fraction : mg "is_fraction" = some (.ref (ga K "is_fraction"))
  d_is_program : FnP K "is_program" s_is_program
  m_is_program : mg "is_program" = some (.ref (ga K "is_program"))
  d_need_program : FnP K "need_program" s_need_program
  m_need_program : mg "need_program" = some (.ref (ga K "need_program"))
  d_first_at : FnP K "first_at" s_first_at
  m_first_at : mg "first_at" = some (.ref (ga K "first_at"))
  d_led : FnP K "led" s_led
  m_led : mg "led" = some (.ref (ga K "led"))
  d_need_room : FnP K "need_room" s_need_room
  m_need_room : mg "need_room" = some (.ref (ga K "need_room"))
  d_look : FnP K "look" s_look
  m_look : mg "look" = some (.ref (ga K "look"))
  d_step : FnP K "step" s_step
  m_step : mg "step" = some (.ref (ga K "step"))
  d_run : FnP K "run" s_run
  m_run : mg "run" = some (.ref (ga K "run"))
  d_end : FnP K "end" s_end
  m_end : mg "end" = some (.ref (ga K "end"))
  d_idle : FnP K "idle" s_idle
  m_idle : mg "idle" = some (.ref (ga K "idle"))
  d_lean : FnP K "lean" s_lean
  m_lean : mg "lean" = some (.ref (ga K "lean"))
  d_needs : FnP K "needs" s_needs
  m_needs : mg "needs" = some (.ref (ga K "needs"))
  d_numbers_to : FnP K "numbers_to" s_numbers_to
  m_numbers_to : mg "numbers_to" = some (.ref (ga K "numbers_to"))
  d_parting : FnP K "parting" s_parting
  m_parting : mg "parting" = some (.ref (ga K "parting"))
  d_vector : FnP K "vector" s_vector
  m_vector : mg "vector" = some (.ref (ga K "vector"))
  d_fits_from : FnP K "fits_from" s_fits_from
  m_fits_from : mg "fits_from" = some (.ref (ga K "fits_from"))
  d_times_at : FnP K "times_at" s_times_at
  m_times_at : mg "times_at" = some (.ref (ga K "times_at"))
  d_powered : FnP K "powered" s_powered
  m_powered : mg "powered" = some (.ref (ga K "powered"))
  d_jumps : FnP K "jumps" s_jumps
  m_jumps : mg "jumps" = some (.ref (ga K "jumps"))
  d_many_steps : FnP K "many_steps" s_many_steps
  m_many_steps : mg "many_steps" = some (.ref (ga K "many_steps"))
  d_is_line : FnP K "is_line" s_is_line
  m_is_line : mg "is_line" = some (.ref (ga K "is_line"))
  d_need_machine : FnP K "need_machine" s_need_machine
  m_need_machine : mg "need_machine" = some (.ref (ga K "need_machine"))
  d_need_counters : FnP K "need_counters" s_need_counters
  m_need_counters : mg "need_counters" = some (.ref (ga K "need_counters"))
  d_changed : FnP K "changed" s_changed
  m_changed : mg "changed" = some (.ref (ga K "changed"))
  d_went : FnP K "went" s_went
  m_went : mg "went" = some (.ref (ga K "went"))
  d_machine_run : FnP K "machine_run" s_machine_run
  m_machine_run : mg "machine_run" = some (.ref (ga K "machine_run"))
  d_at_line : FnP K "at_line" s_at_line
  m_at_line : mg "at_line" = some (.ref (ga K "at_line"))
  d_program_of : FnP K "program_of" s_program_of
  m_program_of : mg "program_of" = some (.ref (ga K "program_of"))
  d_walked : FnP K "walked" s_walked
  m_walked : mg "walked" = some (.ref (ga K "walked"))
  d_goes_on : FnP K "goes_on" s_goes_on
  m_goes_on : mg "goes_on" = some (.ref (ga K "goes_on"))
  d_never : FnP K "never" s_never
  m_never : mg "never" = some (.ref (ga K "never"))
  d_shows : FnP K "shows" s_shows
  m_shows : mg "shows" = some (.ref (ga K "shows"))
  d_need : FnP K "need" s_need
  m_need : mg "need" = some (.ref (ga K "need"))
  d_program_text : FnP K "program_text" s_program_text
  m_program_text : mg "program_text" = some (.ref (ga K "program_text"))
  d_written : FnP K "written" s_written
  m_written : mg "written" = some (.ref (ga K "written"))
  d_number_in : FnP K "number_in" s_number_in
  m_number_in : mg "number_in" = some (.ref (ga K "number_in"))
  d_fraction_in : FnP K "fraction_in" s_fraction_in
  m_fraction_in : mg "fraction_in" = some (.ref (ga K "fraction_in"))
  d_read : FnP K "read" s_read
  m_read : mg "read" = some (.ref (ga K "read"))
  d__law_cell : FnP K "_law_cell" s__law_cell
  m__law_cell : mg "_law_cell" = some (.ref (ga K "_law_cell"))
  d__law_drawn : FnP K "_law_drawn" s__law_drawn
  m__law_drawn : mg "_law_drawn" = some (.ref (ga K "_law_drawn"))
  d__law_primes : FnP K "_law_primes" s__law_primes
  m__law_primes : mg "_law_primes" = some (.ref (ga K "_law_primes"))
  d__law_some : FnP K "_law_some" s__law_some
  m__law_some : mg "_law_some" = some (.ref (ga K "_law_some"))
  d__law_fraction : FnP K "_law_fraction" s__law_fraction
  m__law_fraction : mg "_law_fraction" = some (.ref (ga K "_law_fraction"))
  d__law_program : FnP K "_law_program" s__law_program
  m__law_program : mg "_law_program" = some (.ref (ga K "_law_program"))
  d__law_machine : FnP K "_law_machine" s__law_machine
  m__law_machine : mg "_law_machine" = some (.ref (ga K "_law_machine"))
  d__law_copy : FnP K "_law_copy" s__law_copy
  m__law_copy : mg "_law_copy" = some (.ref (ga K "_law_copy"))
  d__law_spoil : FnP K "_law_spoil" s__law_spoil
  m__law_spoil : mg "_law_spoil" = some (.ref (ga K "_law_spoil"))
  d__law_again : FnP K "_law_again" s__law_again
  m__law_again : mg "_law_again" = some (.ref (ga K "_law_again"))
  d_law : FnP K "law" s_law
  m_law : mg "law" = some (.ref (ga K "law"))
  m_RowError : mg "RowError" = some (.ref (ga K "RowError"))
  x_RowError : PySem.W.excIn K (ga K "RowError") He.veBase "ValueError.__new__" = true ∧ PySem.W.keepIn K (.ref (ga K "RowError")) = true ∧ PySem.W.subIn K (.ref (ga K "RowError")) (.type "BaseException") = some true ∧ PySem.W.typeIn K (.ref (ga K "RowError")) = some (.type "type")
  m_BadNumber : mg "BadNumber" = some (.ref (ga K "BadNumber"))
  x_BadNumber : PySem.W.excIn K (ga K "BadNumber") He.veBase "ValueError.__new__" = true ∧ PySem.W.keepIn K (.ref (ga K "BadNumber")) = true ∧ PySem.W.subIn K (.ref (ga K "BadNumber")) (.type "BaseException") = some true ∧ PySem.W.typeIn K (.ref (ga K "BadNumber")) = some (.type "type")
  m_BadProgram : mg "BadProgram" = some (.ref (ga K "BadProgram"))
  x_BadProgram : PySem.W.excIn K (ga K "BadProgram") He.veBase "ValueError.__new__" = true ∧ PySem.W.keepIn K (.ref (ga K "BadProgram")) = true ∧ PySem.W.subIn K (.ref (ga K "BadProgram")) (.type "BaseException") = some true ∧ PySem.W.typeIn K (.ref (ga K "BadProgram")) = some (.type "type")
  m_BadMachine : mg "BadMachine" = some (.ref (ga K "BadMachine"))
  x_BadMachine : PySem.W.excIn K (ga K "BadMachine") He.veBase "ValueError.__new__" = true ∧ PySem.W.keepIn K (.ref (ga K "BadMachine")) = true ∧ PySem.W.subIn K (.ref (ga K "BadMachine")) (.type "BaseException") = some true ∧ PySem.W.typeIn K (.ref (ga K "BadMachine")) = some (.type "type")
  m_TooGreat : mg "TooGreat" = some (.ref (ga K "TooGreat"))
  x_TooGreat : PySem.W.excIn K (ga K "TooGreat") He.veBase "ValueError.__new__" = true ∧ PySem.W.keepIn K (.ref (ga K "TooGreat")) = true ∧ PySem.W.subIn K (.ref (ga K "TooGreat")) (.type "BaseException") = some true ∧ PySem.W.typeIn K (.ref (ga K "TooGreat")) = some (.type "type")
  m_BadText : mg "BadText" = some (.ref (ga K "BadText"))
  x_BadText : PySem.W.excIn K (ga K "BadText") He.veBase "ValueError.__new__" = true ∧ PySem.W.keepIn K (.ref (ga K "BadText")) = true ∧ PySem.W.subIn K (.ref (ga K "BadText")) (.type "BaseException") = some true ∧ PySem.W.typeIn K (.ref (ga K "BadText")) = some (.type "type")
  m_PRIMES : mg "PRIMES" = some (.ref (ga K "PRIMES"))
  t_PRIMES : ∀ H : Hp, SqT K H (ga K "PRIMES") [.int 2, .int 3, .int 5, .int 7, .int 11, .int 13, .int 17, .int 19, .int 23, .int 29, .int 31, .int 37]
  c_MOST_ROOM : ∃ t, mg "MOST_ROOM" = some (.int 400 t)
  c_MOST_FRACTIONS : ∃ t, mg "MOST_FRACTIONS" = some (.int 16 t)
  c_MOST_STEPS_programs : ∃ t, mg "MOST_STEPS_programs" = some (.int 2000 t)
  c_MOST_PART : ∃ t, mg "MOST_PART" = some (.int 1000000 t)
  c_MOST_LOOKED : ∃ t, mg "MOST_LOOKED" = some (.int 5000 t)
  c_MOST_JUMPS : ∃ t, mg "MOST_JUMPS" = some (.int 200 t)
  c_COUNTERS : ∃ t, mg "COUNTERS" = some (.int 3 t)
  c_MOST_LINES : ∃ t, mg "MOST_LINES" = some (.int 4 t)
  c_MOST_COUNTER : ∃ t, mg "MOST_COUNTER" = some (.int 100 t)
  c_MOST_STEPS_machines : ∃ t, mg "MOST_STEPS_machines" = some (.int 500 t)
  m_SIZES : mg "SIZES" = some (.ref (ga K "SIZES"))
  v_SIZES : He.valsB K (ga K "SIZES") [("add", .int 3), ("take", .int 4), ("end", .int 1)] = true
  n_SIZES : PySem.W.nsIn K (ga K "SIZES") "stop" = some none
  c_MOST_LOOK : ∃ t, mg "MOST_LOOK" = some (.int 200 t)
  c_FIGURES : ∃ t, mg "FIGURES" = some (.str "0123456789" t)
  c_MOST_FIGURES : ∃ t, mg "MOST_FIGURES" = some (.int 7 t)
  w_tab : tabsD K ["law"] = true
end Fr
namespace Fr
open PySem PySem.Spec PyProof.Rows L2
/-! ### what is told: its list, if it has one, was not there before -/
inductive FD (K : PySem.W.Frag) (H H' : Hp) : V → PyData → Prop
  | no {v : V} {d : PyData} (h : Dp K H' v d) (hn : noL d = true) : FD K H H' v d
  | lst {a : Addr} {xs : List V} {ds : List PyData} (h : H a = none) (ha : H' a = some (.lst xs)) (hx : DpAll K H' xs ds) (hn : noLs ds = true) : FD K H H' (.ref a) (.list ds)
  | pair {a b : Addr} {xs : List V} {u : V} {ds : List PyData} {e : PyData} (h : H a = none) (hb : SqT K H' b [.ref a, u]) (ha : H' a = some (.lst xs)) (hx : DpAll K H' xs ds) (hn : noLs ds = true) (hu : Dp K H' u e) (he : noL e = true) : FD K H H' (.ref b) (.tuple [.list ds, e])
theorem FD.dp {K : PySem.W.Frag} {H H' : Hp} {v : V} {d : PyData} (h : FD K H H' v d) : Dp K H' v d := by
  cases h with
  | no h _ => exact h
  | lst _ ha hx _ => exact .lst (SqL.of ha) hx
  | pair _ hb ha hx _ hu _ => exact .tup hb (.cons (.lst (SqL.of ha) hx) (.cons hu .nil))
theorem FD.old {K : PySem.W.Frag} {H0 H H' : Hp} {v : V} {d : PyData} (s : Same H0 H) (h : FD K H H' v d) : FD K H0 H' v d := by
  cases h with
  | no h hn => exact .no h hn
  | lst h ha hx hn => exact .lst (s.free h) ha hx hn
  | pair h hb ha hx hn hu he => exact .pair (s.free h) hb ha hx hn hu he
/-- a def's promise may be asked for less -/
theorem Cal.weak {P : Program} {w : World} {K : PySem.W.Frag} {mg : Str → Option Value} {base : Heap} {CX : CXT} {k : Nat} {x : Str} {ps : List Str} {sp sp' : Sp} (C : Cal P w K mg base CX k x ps sp) (h : ∀ vs H Q E, sp' vs H Q E → sp vs H Q E) : Cal P w K mg base CX k x ps sp' :=
  ⟨⟨fun vs H Q E z => C.fn.len vs H Q E (h _ _ _ _ z), fun A outer s H args us vs Q E a b c d e => C.fn.run A outer s H args us vs Q E a b c d (h _ _ _ _ e)⟩, C.m, C.kp, C.b⟩
end Fr
namespace Fr
open PySem PySem.Spec PyProof.Rows L2
section
variable {P : Program} {w : World} {K : PySem.W.Frag} {mg : Str → Option Value} {base : Heap}
theorem Cal.mk0 {x : Str} {st : Stmt} {N ps : List Str} {k : Nat} {sp : Sp} (D : FnP K x st) (m : mg x = some (.ref (ga K x))) (S : FnScope N ps (defScope st))
    (hb : ∀ (kV doc pm : Value) (an : Option Addr) (cdv ct : Value) (us : List Value), us.length = ps.length → bindArgs (PySem.W.fnOf x x (defArgs st) (defBody st) (defScope st) .none kV doc pm an cdv ct) ⟨us, []⟩ = pure (ps.zip us))
    (len : ∀ vs H Q E, sp vs H Q E → vs.length = ps.length)
    (hbody : ∀ (cdv : Value) (A : Around) (outer : List Env) (s : Shared) (H : Hp) (vs : List V) (Q : VK) (E : XK), Room k (A.deeper (envOfC x (defScope st) s.heap.objs.size (ga K x) cdv)) → sp vs H Q E →
      ∃ t, PSs (cxOf L2.CX0 P w K mg base N x (defScope st) (ga K x) cdv A outer s H E).nox (defBody st) t ∧ t { nx := fun _ H' => Q .non H', rt := Q } (start N vs) H) : Cal P w K mg base L2.CX0 (k + 1) x ps sp := by
  refine ⟨D.ok S len fun cdv A outer s H vs Q E hr h => ?_, m, D.kp, D.bindsN hb⟩
  obtain ⟨t, h1, h2⟩ := hbody cdv A outer s H vs Q E hr h
  exact ⟨t, h1.nox, h2⟩
theorem Cal.mkX {x : Str} {st : Stmt} {N ps : List Str} {k : Nat} {sp : Sp} (D : FnP K x st) (m : mg x = some (.ref (ga K x))) (S : FnScope N ps (defScope st))
    (hb : ∀ (kV doc pm : Value) (an : Option Addr) (cdv ct : Value) (us : List Value), us.length = ps.length → bindArgs (PySem.W.fnOf x x (defArgs st) (defBody st) (defScope st) .none kV doc pm an cdv ct) ⟨us, []⟩ = pure (ps.zip us))
    (len : ∀ vs H Q E, sp vs H Q E → vs.length = ps.length)
    (hbody : ∀ (cdv : Value) (A : Around) (outer : List Env) (s : Shared) (H : Hp) (vs : List V) (Q : VK) (E : XK), Room k (A.deeper (envOfC x (defScope st) s.heap.objs.size (ga K x) cdv)) → sp vs H Q E →
      ∃ t, PSs (cxOf (L2N.CX P w) P w K mg base N x (defScope st) (ga K x) cdv A outer s H E) (defBody st) t ∧ t { nx := fun _ H' => Q .non H', rt := Q } (start N vs) H) : Cal P w K mg base (L2N.CX P w) (k + 1) x ps sp :=
  ⟨D.ok S len hbody, m, D.kp, D.bindsN hb⟩

/-! ### parted -/
def spParted : Sp := fun vs H Q _ => ∃ n : Nat, vs = [nI n] ∧ 0 < n ∧ ∀ p t H', Same H H' → H' t = some (.tup ((rooms n).map nI)) → H' p = some (.tup [.ref t, nI (left n)]) → Q (.ref p) H'
theorem ok_parted (T : Txt K mg) : Cal P w K mg base L2.CX0 1 "parted" ["number"] spParted := by
  refine Cal.mk0 T.d_parted T.m_parted sc_parted (fun _ _ _ _ _ _ us hl => match us, hl with | [_], _ => rfl) (fun vs H Q E h => ?_) (fun cdv A outer s H vs Q E hr h => ?_)
  · obtain ⟨n, rfl, _⟩ := h
    rfl
  obtain ⟨n, rfl, hn, q⟩ := h
  refine ⟨_, (pss_cons (ps_set (i := 1) sc_parted.nd rfl (.inl rfl) (pe_lst pa_nil))
      (pss_cons (ps_for PassesOwn.never rfl (piT rfl (pe_glob (v := .ref (ga K "PRIMES")) (by rfl) T.m_PRIMES rfl)) (pg_name (i := 2) sc_parted.nd rfl (.inl rfl)) (pss_cons (ps_set (i := 3) sc_parted.nd rfl (.inl rfl) pe_int)
      (pss_cons (ps_while PassesOwn.never (pt_cmpR opN_eq (pe_op opN_mod (pv 0) (pv 2)) pe_int (nomark _)) (pss_cons (ps_set (i := 0) sc_parted.nd rfl (.inl rfl) (pe_op opN_div (pv 0) (pv 2)))
      (pss_one (ps_set (i := 3) sc_parted.nd rfl (.inl rfl) (pe_op opN_add (pv 3) pe_int)))))
      (pss_one (ps_expr (bm rfl PySem.F.plainAttrs_list PySem.F.slot_list_append PySem.F.type_list_append mt_append (pv 1) (pa_cons (pv 3) pa_nil)))))))
      (pss_one (ps_ret (pe_tup (pa_cons (pe_callTy (tupleOf rfl) (by rfl) T.b_tuple boot_tuple (pa_cons (pv 1) pa_nil)) (pa_cons (pv 0) pa_nil))))))), ?_⟩
  refine ⟨Nat.zero_le _, fun o no => ?_⟩
  have hP : SqT K (upd H o (.lst [])) (ga K "PRIMES") (primes.map nI) := T.t_PRIMES _
  refine ⟨_, rfl, ⟨_, hP⟩, for_tup (xs := primes.map nI) (fun i σ H3 => ∃ y2 y3, σ = [some (nI (partL (primes.take i) n).2), some (.ref o), y2, y3] ∧ Same H H3 ∧ H3 o = some (.lst ((partL (primes.take i) n).1.map nI))) ?_ ?_ ?_ ?_⟩
  · exact ⟨none, none, rfl, same_new no, upd_same⟩
  · rintro i σ H3 _ _
    exact T.t_PRIMES _
  · rintro i x σ H3 hx ⟨y2, y3, rfl, sm, ho⟩
    rw [List.getElem?_map] at hx
    obtain ⟨p, hp, rfl⟩ := Option.map_eq_some_iff.mp hx
    have hp2 : 2 ≤ p := primes_two p (List.mem_of_getElem? hp)
    have hps : p < 64 := primes_small p (List.mem_of_getElem? hp)
    have hm : 0 < (partL (primes.take i) n).2 := partL_pos _ (fun r hr => primes_two r (List.mem_of_mem_take hr)) n hn
    rw [take_at hp, partL_snoc]
    generalize hA : partL (primes.take i) n = A at *
    refine ⟨fun m σ H4 => ∃ x k : Nat, σ = [some (nI x), some (.ref o), some (nI p), some (nI k)] ∧ H4 = H3 ∧ 0 < x ∧ x = m ∧ (strip p A.2).1 = k + (strip p x).1 ∧ (strip p A.2).2 = (strip p x).2, ⟨_, A.2, 0, rfl, rfl, hm, rfl, by omega, rfl⟩, ?_⟩
    rintro m σ H4 ⟨x, k, rfl, rfl, hx0, rfl, e1, e2⟩
    refine ⟨_, rfl, _, rfl, x, p, rfl, rfl, by omega, _, 0, rfl, rfl, _, rfl, ite2 (fun hd => ?_) (fun hd => ?_)⟩
    · have hd := of_decide_eq_true hd
      obtain ⟨f1, f2, f3⟩ := strip_yes hd hp2 hx0
      refine ⟨fun σ' H' => ∃ x' k' : Nat, x' < x ∧ σ' = [some (nI x'), some (.ref o), some (nI p), some (nI k')] ∧ H' = H4 ∧ 0 < x' ∧ (strip p A.2).1 = k' + (strip p x').1 ∧ (strip p A.2).2 = (strip p x').2, ?_, ?_⟩
      · rintro σ' H' ⟨x', k', h1, h2, h3, h4, h5, h6⟩
        exact ⟨x', h1, x', k', h2, h3, h4, rfl, h5, h6⟩
      · refine ⟨_, rfl, _, rfl, x, p, rfl, rfl, ⟨by omega, ?_⟩, _, rfl, k, 1, rfl, rfl, x / p, k + 1, f3, rfl, rfl, f2, ?_, ?_⟩
        · exact Nat.lt_of_lt_of_le (PySem.Flt.log2_lt_of (by decide) (show p < 2 ^ 6 by omega)) (by decide)
        · rw [e1, f1]; show k + ((strip p (x / p)).1 + 1) = _; omega
        · rw [e2, f1]
    · have hd : ¬ x % p = 0 := fun z => hd (decide_eq_true z)
      rw [strip_no hd hp2] at e1 e2
      refine ⟨_, rfl, .inl ⟨rfl, _, SqL.of ho⟩, _, rfl, o, _, _, rfl, rfl, ho, ?_, ?_⟩
      · rw [List.length_map, ← hA, partL_len]
        exact Nat.lt_of_le_of_lt (List.length_take_le' _ _) (by decide)
      · refine ⟨some (nI p), some (nI k), ?_, same_put sm no, ?_⟩
        · rw [e2]
        · rw [upd_same, e1, List.map_append]
          rfl
  · rintro σ H3 ⟨y2, y3, rfl, sm, ho⟩
    have ep : primes.take (primes.map nI).length = primes := rfl
    rw [ep] at ho ⊢
    refine ⟨_, rfl, o, _, rfl, .inl ⟨SqL.of ho, fun t nt => ?_⟩⟩
    refine ⟨_, rfl, (by show 2 ≤ sizeLine; decide), fun p np => ?_⟩
    have ntp : t ≠ p := ne_of_none upd_same np
    exact q p t _ ((sm.trans (same_new nt)).trans (same_new np)) (by rw [upd_ne ntp, upd_same, rooms_def]) (by rw [upd_same, left_def])
end
end Fr
namespace Fr
open PySem PySem.Spec PyProof.Rows L2
section
variable {P : Program} {w : World} {K : PySem.W.Frag} {mg : Str → Option Value} {base : Heap}
/-! ### is_number -/
def spIsNumber (K : PySem.W.Frag) : Sp := fun vs H Q _ => ∃ (v : V) (d : PyData), vs = [v] ∧ Dp K H v d ∧ ∀ H', Same H H' → Q (.bl (isNumD d)) H'
theorem all_le (as : List Nat) : ((as.map fun a => decide (a ≤ 400)).all id) = as.all fun a => decide (a ≤ 400) := by
  rw [List.all_map]
  rfl
theorem isNum_eq {n : Nat} (h : 1 ≤ n) : isNum n = (decide (left n = 1) && (rooms n).all fun a => decide (a ≤ 400)) := by
  unfold isNum
  rw [decide_eq_true h, Bool.true_and]
theorem ok_is_number (T : Txt K mg) : Cal P w K mg base L2.CX0 2 "is_number" ["thing"] (spIsNumber K) := by
  have c_parted := ok_parted (P := P) (w := w) (base := base) T
  refine Cal.mk0 T.d_is_number T.m_is_number sc_is_number (fun _ _ _ _ _ _ us hl => match us, hl with | [_], _ => rfl) (fun vs H Q E h => ?_) (fun cdv A outer s H vs Q E hr h => ?_)
  · obtain ⟨v, d, rfl, _⟩ := h
    rfl
  obtain ⟨v, d, rfl, hd, q⟩ := h
  refine ⟨_, (pss_cons (ps_if (PW.pt (pw_or (pt_not (pt_val (pe_callB (isInt rfl) (by rfl) T.b_isinstance boot_isinstance (pa_cons (pv 0) (pa_cons (pe_bltn (v := .ty "int") (by rfl) T.b_int boot_int rfl) pa_nil))))) (pw_or (pt_val (pe_callB (isBool rfl) (by rfl) T.b_isinstance boot_isinstance (pa_cons (pv 0) (pa_cons (pe_bltn (v := .ty "bool") (by rfl) T.b_bool boot_bool rfl) pa_nil)))) (pw_or1 (pt_cmpR op_lt (pv 0) pe_int (nomark _)))))) (pss_one (ps_ret pe_bl)) pss_nil)
      (pss_cons (ps_asg (pe_cal c_parted (hr.mono (by decide)) (by rfl) pass0 (pa_cons (pv 0) pa_nil)) (pgT (n := 2) rfl rfl (pgs_cons (pg_name (i := 1) sc_is_number.nd rfl (.inl rfl)) (pgs_cons (pg_name (i := 2) sc_is_number.nd rfl (.inl rfl)) pgs_nil))))
      (pss_one (ps_ret (pe_and (pe_cmpR opN_eq (pv 2) pe_int (nomark _)) (pe_one (pe_callB (crAll rfl rfl) (by rfl) T.b_all boot_all (pa_cons (pe_lc (own := [("many", 3)]) rfl sc_is_number.nd (piT rfl (pv 1)) (blkOk_by (own := [("many", 3)]) (N := ["thing", "found", "left", "many"]) (sc := defScope s_is_number) (by decide +kernel)) (fun _ _ _ _ _ => (pg_name (i := 3) sc_is_number.nd rfl (.inl rfl))) (fun _ _ _ _ _ => pts_nil) (fun _ _ _ _ _ => (pe_cmpR opN_le (pv 3) (pe_glob (v := .int 400) (by rfl) T.c_MOST_ROOM.choose_spec ⟨_, rfl⟩) (nomark _)))) pa_nil)))))))), ?_⟩
  refine ⟨_, rfl, _, _, rfl, hd, _, rfl, ?_⟩
  have q0 := q H (Same.refl H)
  cases d with
  | int i =>
    cases hd
    refine iteF ⟨_, rfl, _, _, rfl, .int i, _, rfl, iteF ⟨_, rfl, i, 1, rfl, rfl, _, rfl, ite2 (fun h1 => ?_) (fun h1 => ?_)⟩⟩
    · have h1 := of_decide_eq_true h1
      have e : isNumD (.int i) = false := by
        show (decide (1 ≤ i) && isNum i.toNat) = false
        rw [decide_eq_false (by omega), Bool.false_and]
      rw [e] at q0
      exact q0
    · have h1 : 1 ≤ i := by
        have : ¬ i < 1 := fun z => h1 (decide_eq_true z)
        omega
      obtain ⟨n, rfl⟩ : ∃ n : Nat, i = n := ⟨i.toNat, by omega⟩
      refine ⟨_, rfl, n, rfl, by omega, fun p t H1 sm ht hp => ?_⟩
      have e : isNumD (.int (n : Int)) = (decide (left n = 1) && (rooms n).all fun a => decide (a ≤ 400)) := by
        show (decide (1 ≤ (n : Int)) && isNum (n : Int).toNat) = _
        rw [decide_eq_true h1, Bool.true_and, Int.toNat_natCast, isNum_eq (by omega)]
      rw [e] at q
      refine ⟨p, _, rfl, SqT.of hp, rfl, _, _, rfl, _, _, rfl, rfl, ?_⟩
      refine ⟨_, rfl, left n, 1, rfl, rfl, _, rfl, ite2 (fun h2 => ?_) (fun h2 => ?_)⟩
      · rw [h2, Bool.true_and] at q
        refine ⟨_, rfl, t, rfl, ⟨_, SqT.of ht⟩, fun D hD => ?_⟩
        refine lc_dp (K := K) walk_tup hD (by rw [List.length_map, rooms_len]; decide) (fun H' s' => same_tup s' (SqT.of ht)) (fun i => ((rooms n)[i]?).map fun a => PyData.bool (decide (a ≤ 400))) ?_ ?_ ?_
        · intro i d e
          obtain ⟨a, _, rfl⟩ := Option.map_eq_some_iff.mp e
          rfl
        · rintro i x H' H'' A B hi s' ⟨rfl, hx⟩ hA hB
          rw [List.getElem?_map] at hx
          obtain ⟨a, ha, rfl⟩ := Option.map_eq_some_iff.mp hx
          exact ⟨rfl, _, rfl, a, 400, rfl, rfl, hA _ _ _ (by rw [ha]; rfl) (Same.refl _) (.bl _)⟩
        · intro H' ys s' hD' hA
          rw [List.length_map, gath_map] at hA
          have e2 : ys = ((rooms n).map fun a => decide (a ≤ 400)).map V.bl := dps_bools (by rw [List.map_map]; exact hA)
          rw [e2] at hD'
          refine ⟨D, _, rfl, SqL.of hD', ?_⟩
          rw [all_le]
          exact q H' (sm.trans s')
      · rw [show decide (left n = 1) = false by simpa using h2, Bool.false_and] at q
        exact q H1 sm
  | bool b =>
    cases hd
    exact iteF ⟨_, rfl, _, _, rfl, .bl b, _, rfl, iteT (iteT q0)⟩
  | none => exact iteT (iteT q0)
  | str x => exact iteT (iteT q0)
  | list xs => exact iteT (iteT q0)
  | tuple xs => exact iteT (iteT q0)
  | dict xs => exact iteT (iteT q0)
end
end Fr
namespace Fr
open PySem PySem.Spec PyProof.Rows L2
section
variable {P : Program} {w : World} {K : PySem.W.Frag} {mg : Str → Option Value} {base : Heap}
theorem ok_need_number (T : Txt K mg) : Cal P w K mg base (L2N.CX P w) 3 "need_number" ["number"] (spNeed K (ga K "BadNumber") isNumD) := by
  have c_is_number := ok_is_number (P := P) (w := w) (base := base) T
  refine Cal.mkX T.d_need_number T.m_need_number sc_need_number (fun _ _ _ _ _ _ us hl => match us, hl with | [_], _ => rfl) (fun vs H Q E h => ?_) (fun cdv A outer s H vs Q E hr h => ?_)
  · obtain ⟨v, d, rfl, _⟩ := h
    rfl
  obtain ⟨v, d, rfl, hd, q1, q2⟩ := h
  refine ⟨_, (pss_one (ps_if (pt_not (pt_val (pe_cal c_is_number (hr.mono (by decide)) (by rfl) pass0 (pa_cons (pv 0) pa_nil)))) (pss_one (L2N.ps_raise rfl (L2N.takes_of rfl rfl rfl rfl) (L2N.pmk_own PySem.F.excBase_ValueError T.x_BadNumber.1 T.m_BadNumber T.x_BadNumber.2.1 (raises_own T.x_BadNumber.2.2.1 T.x_BadNumber.2.2.2) (by rfl)))) pss_nil)), ?_⟩
  refine ⟨_, rfl, v, d, rfl, hd, fun H1 s1 => ⟨_, rfl, ?_⟩⟩
  cases e : isNumD d with
  | true => exact iteF (q1 e H1 s1)
  | false => exact iteT (q2 e H1 s1)
end
end Fr
namespace Fr
open PySem PySem.Spec PyProof.Rows L2
section
variable {P : Program} {w : World} {K : PySem.W.Frag} {mg : Str → Option Value} {base : Heap}
/-! ### is_count -/
def isCountD (lo hi : Int) : PyData → Bool
  | .int i => decide (lo ≤ i) && decide (i ≤ hi)
  | _ => false
def spCount (K : PySem.W.Frag) : Sp := fun vs H Q _ => ∃ (v : V) (d : PyData) (lo hi : Int), vs = [v, .int lo, .int hi] ∧ Dp K H v d ∧ Q (.bl (isCountD lo hi d)) H
theorem ok_is_count (T : Txt K mg) : Cal P w K mg base L2.CX0 1 "is_count" ["thing", "low", "high"] (spCount K) := by
  refine Cal.mk0 T.d_is_count T.m_is_count sc_is_count (fun _ _ _ _ _ _ us hl => match us, hl with | [_, _, _], _ => rfl) (fun vs H Q E h => ?_) (fun cdv A outer s H vs Q E hr h => ?_)
  · obtain ⟨v, d, lo, hi, rfl, _⟩ := h
    rfl
  obtain ⟨v, d, lo, hi, rfl, hd, q⟩ := h
  refine ⟨_, (pss_one (ps_ret (pe_and (pe_callB (isInt rfl) (by rfl) T.b_isinstance boot_isinstance (pa_cons (pv 0) (pa_cons (pe_bltn (v := .ty "int") (by rfl) T.b_int boot_int rfl) pa_nil))) (pe_and (pe_not (pe_callB (isBool rfl) (by rfl) T.b_isinstance boot_isinstance (pa_cons (pv 0) (pa_cons (pe_bltn (v := .ty "bool") (by rfl) T.b_bool boot_bool rfl) pa_nil)))) (pe_one (pe_chain op_le op_le (pv 1) (pv 0) (pv 2))))))), ?_⟩
  refine ⟨_, rfl, _, _, rfl, hd, _, rfl, ?_⟩
  cases d with
  | int i =>
    cases hd
    refine iteT ⟨_, rfl, _, _, rfl, .int i, _, rfl, _, rfl, iteT ⟨_, rfl, _, rfl, lo, i, rfl, rfl, _, rfl, ?_⟩⟩
    refine ite2 (fun h => ?_) (fun h => ?_)
    · refine ⟨_, rfl, i, hi, rfl, rfl, ?_⟩
      have e : isCountD lo hi (.int i) = decide (i ≤ hi) := by
        show (decide (lo ≤ i) && decide (i ≤ hi)) = _
        rw [h, Bool.true_and]
      rw [e] at q
      exact q
    · have e : isCountD lo hi (.int i) = false := by
        show (decide (lo ≤ i) && decide (i ≤ hi)) = _
        rw [Bool.eq_false_iff.mpr h, Bool.false_and]
      rw [e] at q
      exact q
  | bool b =>
    cases hd
    exact iteT ⟨_, rfl, _, _, rfl, .bl b, _, rfl, _, rfl, iteF q⟩
  | none => exact iteF q
  | str x => exact iteF q
  | list xs => exact iteF q
  | tuple xs => exact iteF q
  | dict xs => exact iteF q
def spNeedC (K : PySem.W.Frag) (C : Addr) : Sp := fun vs H Q E => ∃ (v : V) (d : PyData) (lo hi : Int), vs = [v, .int lo, .int hi] ∧ Dp K H v d ∧ (isCountD lo hi d = true → Q .non H) ∧ (isCountD lo hi d = false → E (.ref C) none H)
theorem ok_need_count (T : Txt K mg) : Cal P w K mg base (L2N.CX P w) 2 "need_count" ["thing", "low", "high"] (spNeedC K (ga K "BadNumber")) := by
  have c_is_count := ok_is_count (P := P) (w := w) (base := base) T
  refine Cal.mkX T.d_need_count T.m_need_count sc_need_count (fun _ _ _ _ _ _ us hl => match us, hl with | [_, _, _], _ => rfl) (fun vs H Q E h => ?_) (fun cdv A outer s H vs Q E hr h => ?_)
  · obtain ⟨v, d, lo, hi, rfl, _⟩ := h
    rfl
  obtain ⟨v, d, lo, hi, rfl, hd, q1, q2⟩ := h
  refine ⟨_, (pss_one (ps_if (pt_not (pt_val (pe_cal c_is_count (hr.mono (by decide)) (by rfl) pass0 (pa_cons (pv 0) (pa_cons (pv 1) (pa_cons (pv 2) pa_nil)))))) (pss_one (L2N.ps_raise rfl (L2N.takes_of rfl rfl rfl rfl) (L2N.pmk_own PySem.F.excBase_ValueError T.x_BadNumber.1 T.m_BadNumber T.x_BadNumber.2.1 (raises_own T.x_BadNumber.2.2.1 T.x_BadNumber.2.2.2) (by rfl)))) pss_nil)), ?_⟩
  refine ⟨_, rfl, _, rfl, _, rfl, v, d, lo, hi, rfl, hd, _, rfl, ?_⟩
  cases e : isCountD lo hi d with
  | true => exact iteF (q1 e)
  | false => exact iteT (q2 e)
end
end Fr
namespace Fr
open PySem PySem.Spec PyProof.Rows L2
section
variable {P : Program} {w : World} {K : PySem.W.Frag} {mg : Str → Option Value} {base : Heap}
/-! ### common -/
def spCommon : Sp := fun vs H Q _ => ∃ a b : Nat, vs = [nI a, nI b] ∧ Q (nI (Nat.gcd a b)) H
theorem gcd_step (a b : Nat) : Nat.gcd b (a % b) = Nat.gcd a b := by
  rw [Nat.gcd_comm b (a % b), ← Nat.gcd_rec, Nat.gcd_comm]
theorem ok_common (T : Txt K mg) : Cal P w K mg base L2.CX0 1 "common" ["one", "other"] spCommon := by
  refine Cal.mk0 T.d_common T.m_common sc_common (fun _ _ _ _ _ _ us hl => match us, hl with | [_, _], _ => rfl) (fun vs H Q E h => ?_) (fun cdv A outer s H vs Q E hr h => ?_)
  · obtain ⟨a, b, rfl, _⟩ := h
    rfl
  obtain ⟨a, b, rfl, q⟩ := h
  refine ⟨_, (pss_cons (ps_while PassesOwn.never (pt_cmpR opN_ne (pv 1) pe_int (nomark _)) (pss_one (ps_par (i := 0) (j := 1) (by rfl) sc_common.nd rfl rfl (by decide) rfl rfl (pa_cons (pv 1) (pa_cons (pe_op opN_mod (pv 0) (pv 1)) pa_nil)) (by rfl))))
      (pss_one (ps_ret (pv 0)))), ?_⟩
  refine ⟨fun m σ H3 => ∃ x : Nat, σ = [some (nI x), some (nI m)] ∧ H3 = H ∧ Nat.gcd x m = Nat.gcd a b, ⟨b, a, rfl, rfl, rfl⟩, ?_⟩
  rintro m σ H3 ⟨x, rfl, rfl, e⟩
  refine ⟨_, rfl, m, 0, rfl, rfl, _, rfl, ?_⟩
  by_cases h : m = 0
  · subst h
    refine iteF ⟨_, rfl, ?_⟩
    rw [Nat.gcd_zero_right] at e
    show Q (nI x) H3
    rw [e]
    exact q
  · rw [decide_eq_false h]
    refine iteT ⟨fun σ' H' => σ' = [some (nI m), some (nI (x % m))] ∧ H' = H3, ?_, ?_⟩
    · rintro σ' H' ⟨h1, h2⟩
      exact ⟨x % m, Nat.mod_lt _ (by omega), m, h1, h2, by rw [gcd_step, e]⟩
    · exact ⟨_, rfl, _, rfl, _, rfl, x, m, rfl, rfl, by omega, _, _, rfl, rfl, rfl⟩
/-! ### is_fraction -/
def spIs (K : PySem.W.Frag) (f : PyData → Bool) : Sp := fun vs H Q _ => ∃ (v : V) (d : PyData), vs = [v] ∧ Dp K H v d ∧ ∀ H', Same H H' → Q (.bl (f d)) H'
theorem ok_is_fraction (T : Txt K mg) : Cal P w K mg base L2.CX0 3 "is_fraction" ["thing"] (spIs K isFracD) := by
  have c_is_number := ok_is_number (P := P) (w := w) (base := base) T
  have c_common := ok_common (P := P) (w := w) (base := base) T
  refine Cal.mk0 T.d_is_fraction T.m_is_fraction sc_is_fraction (fun _ _ _ _ _ _ us hl => match us, hl with | [_], _ => rfl) (fun vs H Q E h => ?_) (fun cdv A outer s H vs Q E hr h => ?_)
  · obtain ⟨v, d, rfl, _⟩ := h
    rfl
  obtain ⟨v, d, rfl, hd, q⟩ := h
  refine ⟨_, (pss_cons (ps_if (PW.pt (pw_or (pt_not (pt_val (pe_callB (isTuple rfl) (by rfl) T.b_isinstance boot_isinstance (pa_cons (pv 0) (pa_cons (pe_bltn (v := .ty "tuple") (by rfl) T.b_tuple boot_tuple rfl) pa_nil))))) (pw_or (pt_cmpR opN_ne (pe_callB (lenS rfl) (by rfl) T.b_len PySem.boot_len (pa_cons (pv 0) pa_nil)) pe_int (nomark _)) (pw_or1 (pt_not (pt_val (pe_callB (crAll rfl rfl) (by rfl) T.b_all boot_all (pa_cons (pe_lc (own := [("one", 1)]) rfl sc_is_fraction.nd (piT rfl (pv 0)) (blkOk_by (own := [("one", 1)]) (N := ["thing", "one"]) (sc := defScope s_is_fraction) (by decide +kernel)) (fun _ _ _ _ _ => (pg_name (i := 1) sc_is_fraction.nd rfl (.inl rfl))) (fun _ _ _ _ _ => pts_nil) (fun _ _ _ _ _ => (pe_cal c_is_number (hr.mono (by decide)) (by rfl) pass0 (pa_cons (pv 1) pa_nil)))) pa_nil)))))))) (pss_one (ps_ret pe_bl)) pss_nil)
      (pss_one (ps_ret (pe_and (pe_cmpR opN_le (pe_callB (crMaxT rfl rfl (hu_of hr)) (by rfl) T.b_max boot_max (pa_cons (pv 0) pa_nil)) (pe_glob (v := .int 1000000) (by rfl) T.c_MOST_PART.choose_spec ⟨_, rfl⟩) (nomark _)) (pe_one (pe_cmpR opN_eq (pe_cal c_common (hr.mono (by decide)) (by rfl) pass0 (pa_cons (pe_ix (ixT rfl) (pv 0) pe_int (fun _ _ => rfl)) (pa_cons (pe_ix (ixT rfl) (pv 0) pe_int (fun _ _ => rfl)) pa_nil))) pe_int (nomark _))))))), ?_⟩
  refine ⟨_, rfl, _, _, rfl, hd, _, rfl, ?_⟩
  have q0 := q H (Same.refl H)
  cases d with
  | tuple ds =>
    cases hd with
    | @tup a xs _ hs ha =>
      have hlen := dps_len ha
      refine iteF ⟨_, rfl, a, xs, rfl, .inr hs, xs.length, 2, rfl, rfl, _, rfl, ?_⟩
      by_cases h2 : xs.length = 2
      · rw [decide_eq_true h2]
        refine iteF ⟨_, rfl, a, rfl, ⟨_, hs⟩, fun D hD => ?_⟩
        refine lc_dp (K := K) walk_tup hD (by rw [h2]; decide) (fun H' s' => same_tup s' hs) (fun i => ds[i]?.map fun d => PyData.bool (isNumD d)) ?_ ?_ ?_
        · intro i d e
          obtain ⟨a, _, rfl⟩ := Option.map_eq_some_iff.mp e
          rfl
        · rintro i x H' H'' A B hi s' ⟨rfl, hx⟩ hA hB
          obtain ⟨d, hd, hp⟩ := dps_at2 ha hx
          exact ⟨rfl, _, rfl, x, d, rfl, same_dp s' hp, fun H4 s4 => hA _ _ _ (by rw [hd]; rfl) s4 (.bl _)⟩
        · intro H' ys s' hD' hA
          rw [hlen, gath_map] at hA
          have e2 : ys = (ds.map isNumD).map V.bl := dps_bools (by rw [List.map_map]; exact hA)
          rw [e2] at hD'
          obtain ⟨x, y, rfl⟩ : ∃ x y, ds = [x, y] := by
            match ds, hlen with
            | [x, y], _ => exact ⟨x, y, rfl⟩
            | [], h => rw [h2] at h; cases h
            | [_], h => rw [h2] at h; cases h
            | _ :: _ :: _ :: _, h => rw [h2] at h; simp at h
          refine ⟨D, [isNumD x, isNumD y], rfl, SqL.of hD', _, rfl, ?_⟩
          have e3 : ([isNumD x, isNumD y].all id) = (isNumD x && isNumD y) := by simp
          rw [e3]
          cases hxy : (isNumD x && isNumD y) with
          | false =>
            have e4 : isFracD (.tuple [x, y]) = false := by
              show ((isNumD x && isNumD y) && _) = false
              rw [hxy, Bool.false_and]
            rw [e4] at q
            exact iteT (q H' s')
          | true =>
            obtain ⟨hx, hy⟩ := Bool.and_eq_true_iff.mp hxy
            obtain ⟨n, rfl, _⟩ := isNumD_is hx
            obtain ⟨m, rfl, _⟩ := isNumD_is hy
            have exs : xs = [n, m].map nI := dps_nats (ns := [n, m]) ha
            have hs' : SqT K H' a ([n, m].map nI) := by rw [← exs]; exact same_tup s' hs
            have e4 : isFracD (.tuple [nD n, nD m]) = (decide (max n m ≤ 1000000) && decide (Nat.gcd n m = 1)) := by
              show ((isNumD (nD n) && isNumD (nD m)) && (decide (max (n : Int).toNat (m : Int).toNat ≤ 1000000) && decide (Nat.gcd (n : Int).toNat (m : Int).toNat = 1))) = _
              rw [hxy, Bool.true_and, Int.toNat_natCast, Int.toNat_natCast]
            rw [e4] at q
            refine iteF ⟨_, rfl, a, [n, m], rfl, hs', by simp, maxN [n, m], 1000000, rfl, rfl, _, rfl, ?_⟩
            have e5 : maxN [n, m] = max n m := by simp [maxN]
            rw [e5]
            cases hmx : decide (max n m ≤ 1000000) with
            | false =>
              rw [hmx, Bool.false_and] at q
              exact iteF (q H' s')
            | true =>
              rw [hmx, Bool.true_and] at q
              refine iteT ⟨_, rfl, a, _, 0, _, rfl, rfl, hs', atI0, _, rfl, a, _, 1, _, rfl, rfl, hs', atI1, n, m, rfl, Nat.gcd n m, 1, rfl, rfl, ?_⟩
              exact q H' s'
      · rw [decide_eq_false h2]
        have e : isFracD (.tuple ds) = false := by
          match ds, hlen with
          | [], _ => rfl
          | [_], _ => rfl
          | [_, _], h => exact absurd h h2
          | _ :: _ :: _ :: _, _ => rfl
        rw [e] at q0
        exact iteT (iteT q0)
  | none => exact iteT (iteT q0)
  | bool b => exact iteT (iteT q0)
  | int i => exact iteT (iteT q0)
  | str x => exact iteT (iteT q0)
  | list xs => exact iteT (iteT q0)
  | dict xs => exact iteT (iteT q0)
/-! ### is_program -/
theorem ok_is_program (T : Txt K mg) : Cal P w K mg base L2.CX0 4 "is_program" ["thing"] (spIs K isProgD) := by
  have c_is_fraction := ok_is_fraction (P := P) (w := w) (base := base) T
  refine Cal.mk0 T.d_is_program T.m_is_program sc_is_program (fun _ _ _ _ _ _ us hl => match us, hl with | [_], _ => rfl) (fun vs H Q E h => ?_) (fun cdv A outer s H vs Q E hr h => ?_)
  · obtain ⟨v, d, rfl, _⟩ := h
    rfl
  obtain ⟨v, d, rfl, hd, q⟩ := h
  refine ⟨_, (pss_cons (ps_if (PW.pt (pw_or (pt_not (pt_val (pe_callB (isList rfl) (by rfl) T.b_isinstance boot_isinstance (pa_cons (pv 0) (pa_cons (pe_bltn (v := .ty "list") (by rfl) T.b_list boot_list rfl) pa_nil))))) (pw_or1 (pt_cmpR opN_gt (pe_callB (lenS rfl) (by rfl) T.b_len PySem.boot_len (pa_cons (pv 0) pa_nil)) (pe_glob (v := .int 16) (by rfl) T.c_MOST_FRACTIONS.choose_spec ⟨_, rfl⟩) (nomark _))))) (pss_one (ps_ret pe_bl)) pss_nil)
      (pss_one (ps_ret (pe_callB (crAll rfl rfl) (by rfl) T.b_all boot_all (pa_cons (pe_lc (own := [("one", 1)]) rfl sc_is_program.nd (piL rfl (pv 0)) (blkOk_by (own := [("one", 1)]) (N := ["thing", "one"]) (sc := defScope s_is_program) (by decide +kernel)) (fun _ _ _ _ _ => (pg_name (i := 1) sc_is_program.nd rfl (.inl rfl))) (fun _ _ _ _ _ => pts_nil) (fun _ _ _ _ _ => (pe_cal c_is_fraction (hr.mono (by decide)) (by rfl) pass0 (pa_cons (pv 1) pa_nil)))) pa_nil))))), ?_⟩
  refine ⟨_, rfl, _, _, rfl, hd, _, rfl, ?_⟩
  have q0 := q H (Same.refl H)
  cases d with
  | list ds =>
    cases hd with
    | @lst a xs _ hs ha =>
      have hlen := dps_len ha
      refine iteF ⟨_, rfl, a, xs, rfl, .inl hs, xs.length, 16, rfl, rfl, _, rfl, ?_⟩
      have e0 : isProgD (.list ds) = (decide (ds.length ≤ 16) && ds.all isFracD) := rfl
      by_cases h2 : 16 < xs.length
      · rw [decide_eq_true h2]
        rw [e0, decide_eq_false (by omega), Bool.false_and] at q0
        exact iteT q0
      · rw [decide_eq_false h2]
        rw [e0, decide_eq_true (by omega), Bool.true_and] at q
        refine iteF ⟨_, rfl, a, rfl, ⟨_, hs⟩, fun D hD => ?_⟩
        refine lc_dp (K := K) walk_list hD (by omega) (fun H' s' => s'.seq hs) (fun i => ds[i]?.map fun d => PyData.bool (isFracD d)) ?_ ?_ ?_
        · intro i d e
          obtain ⟨a, _, rfl⟩ := Option.map_eq_some_iff.mp e
          rfl
        · rintro i x H' H'' A B hi s' ⟨rfl, hx⟩ hA hB
          obtain ⟨d, hd, hp⟩ := dps_at2 ha hx
          exact ⟨rfl, _, rfl, x, d, rfl, same_dp s' hp, fun H4 s4 => hA _ _ _ (by rw [hd]; rfl) s4 (.bl _)⟩
        · intro H' ys s' hD' hA
          rw [hlen, gath_map] at hA
          have e2 : ys = (ds.map isFracD).map V.bl := dps_bools (by rw [List.map_map]; exact hA)
          rw [e2] at hD'
          refine ⟨D, ds.map isFracD, rfl, SqL.of hD', ?_⟩
          have e3 : ((ds.map isFracD).all id) = ds.all isFracD := by rw [List.all_map]; rfl
          rw [e3]
          exact q H' s'
  | none => exact iteT (iteT q0)
  | bool b => exact iteT (iteT q0)
  | int i => exact iteT (iteT q0)
  | str x => exact iteT (iteT q0)
  | tuple xs => exact iteT (iteT q0)
  | dict xs => exact iteT (iteT q0)
theorem ok_need_program (T : Txt K mg) : Cal P w K mg base (L2N.CX P w) 5 "need_program" ["program"] (spNeed K (ga K "BadProgram") isProgD) := by
  have c_is_program := ok_is_program (P := P) (w := w) (base := base) T
  refine Cal.mkX T.d_need_program T.m_need_program sc_need_program (fun _ _ _ _ _ _ us hl => match us, hl with | [_], _ => rfl) (fun vs H Q E h => ?_) (fun cdv A outer s H vs Q E hr h => ?_)
  · obtain ⟨v, d, rfl, _⟩ := h
    rfl
  obtain ⟨v, d, rfl, hd, q1, q2⟩ := h
  refine ⟨_, (pss_one (ps_if (pt_not (pt_val (pe_cal c_is_program (hr.mono (by decide)) (by rfl) pass0 (pa_cons (pv 0) pa_nil)))) (pss_one (L2N.ps_raise rfl (L2N.takes_of rfl rfl rfl rfl) (L2N.pmk_own PySem.F.excBase_ValueError T.x_BadProgram.1 T.m_BadProgram T.x_BadProgram.2.1 (raises_own T.x_BadProgram.2.2.1 T.x_BadProgram.2.2.2) (by rfl)))) pss_nil)), ?_⟩
  refine ⟨_, rfl, v, d, rfl, hd, fun H1 s1 => ⟨_, rfl, ?_⟩⟩
  cases e : isProgD d with
  | true => exact iteF (q1 e H1 s1)
  | false => exact iteT (q2 e H1 s1)
end
end Fr
namespace Fr
open PySem PySem.Spec PyProof.Rows L2
section
variable {P : Program} {w : World} {K : PySem.W.Frag} {mg : Str → Option Value} {base : Heap}
/-! ### first_at -/
def spFirst (K : PySem.W.Frag) : Sp := fun vs H Q _ => ∃ (v : V) (l : Prog) (n : Nat), vs = [v, nI n] ∧ Dp K H v (progD l) ∧ (∀ p ∈ l, 0 < p.2) ∧ ∀ H', Same H H' → Q (optV (firstAt l n)) H'
theorem ok_first_at (T : Txt K mg) : Cal P w K mg base L2.CX0 1 "first_at" ["program", "number"] (spFirst K) := by
  refine Cal.mk0 T.d_first_at T.m_first_at sc_first_at (fun _ _ _ _ _ _ us hl => match us, hl with | [_, _], _ => rfl) (fun vs H Q E h => ?_) (fun cdv A outer s H vs Q E hr h => ?_)
  · obtain ⟨v, l, n, rfl, _⟩ := h
    rfl
  obtain ⟨v, l, n, rfl, hd, hpos, q⟩ := h
  obtain ⟨a, xs, rfl, hs, ha, hlen⟩ := prog_at hd
  refine ⟨_, (pss_cons (ps_for PassesOwn.never rfl (piE rfl (by rfl) T.b_enumerate (pa_cons (pv 0) pa_nil)) (pgT (n := 2) rfl rfl (pgs_cons (pg_name (i := 2) sc_first_at.nd rfl (.inl rfl)) (pgs_cons (pg_name (i := 3) sc_first_at.nd rfl (.inl rfl)) pgs_nil))) (pss_one (ps_if (pt_cmpR opN_eq (pe_op opN_mod (pv 1) (pe_ix (ixT rfl) (pv 3) pe_int (fun _ _ => rfl))) pe_int (nomark _)) (pss_one (ps_ret (pv 2))) pss_nil)))
      (pss_one (ps_ret pe_non))), ?_⟩
  refine ⟨_, rfl, a, xs, rfl, hs, for_it walk_enum (fun i σ H3 => (∃ y2 y3, σ = [some (.ref a), some (nI n), y2, y3]) ∧ Same H H3 ∧ ∀ (j : Nat) (hj : j < l.length), j < i → n % (l[j]).2 ≠ 0) ⟨⟨none, none, rfl⟩, Same.refl H, fun j hj h => absurd h (by omega)⟩ (fun i σ H3 _ p => p.2.1.seq hs) ?_ ?_⟩
  · rintro i x σ H3 H4 hi ⟨⟨y2, y3, rfl⟩, sm, hb⟩ ⟨T', x1, x2, rfl, nT, rfl, e1, e2⟩
    have e1 : x1 = nI i := (Option.some.inj e1).symm
    subst e1
    have sT : Same H3 (upd H3 T' (.tup [nI i, x2])) := same_new nT
    obtain ⟨hi', b, rfl, hb2, _⟩ := prog_item (same_dps (sm.trans sT) ha) e2
    refine ⟨T', _, rfl, SqT.of upd_same, rfl, _, _, rfl, _, _, rfl, rfl, ?_⟩
    refine ⟨_, rfl, _, rfl, b, _, 1, _, rfl, rfl, hb2, atI1, n, (l[i]).2, rfl, rfl, hpos _ (List.getElem_mem hi'), _, 0, rfl, rfl, _, rfl, ?_⟩
    by_cases hf : n % (l[i]).2 = 0
    · rw [decide_eq_true hf]
      refine iteT ⟨_, rfl, ?_⟩
      have e := firstAt_some hi' hf fun j hj hji => hb j hj hji
      rw [e] at q
      exact q _ (sm.trans sT)
    · rw [decide_eq_false hf]
      refine iteF ⟨⟨_, _, rfl⟩, sm.trans sT, fun j hj hji => ?_⟩
      by_cases hji2 : j = i
      · subst hji2
        exact hf
      · exact hb j hj (by omega)
  · rintro σ H3 ⟨⟨y2, y3, rfl⟩, sm, hb⟩
    have e : firstAt l n = none := firstAt_none fun j hj => hb j hj (by omega)
    rw [e] at q
    exact q H3 sm
/-! ### led -/
def spLed (K : PySem.W.Frag) : Sp := fun vs H Q _ => ∃ (v : V) (l : Prog) (n : Nat), vs = [v, nI n] ∧ Dp K H v (progD l) ∧ isProg l = true ∧ n < 2 ^ 30000 ∧ ∀ H', Same H H' → Q (optV (led l n)) H'
theorem ok_led (T : Txt K mg) : Cal P w K mg base L2.CX0 2 "led" ["program", "number"] (spLed K) := by
  have c_first_at := ok_first_at (P := P) (w := w) (base := base) T
  refine Cal.mk0 T.d_led T.m_led sc_led (fun _ _ _ _ _ _ us hl => match us, hl with | [_, _], _ => rfl) (fun vs H Q E h => ?_) (fun cdv A outer s H vs Q E hr h => ?_)
  · obtain ⟨v, l, n, rfl, _⟩ := h
    rfl
  obtain ⟨v, l, n, rfl, hd, hP, hn, q⟩ := h
  refine ⟨_, (pss_cons (ps_set (i := 2) sc_led.nd rfl (.inl rfl) (pe_cal c_first_at (hr.mono (by decide)) (by rfl) pass0 (pa_cons (pv 0) (pa_cons (pv 1) pa_nil))))
      (pss_one (ps_ret (pe_ifExp (pt_cmpR op_isN (pv 2) pe_non (nomark _)) pe_non (pe_op opN_mul (pe_op opN_div (pv 1) (pe_ix (ixT rfl) (pe_ix (ixL rfl) (pv 0) (pv 2) (fun _ _ => rfl)) pe_int (fun _ _ => rfl))) (pe_ix (ixT rfl) (pe_ix (ixL rfl) (pv 0) (pv 2) (fun _ _ => rfl)) pe_int (fun _ _ => rfl))))))), ?_⟩
  refine ⟨_, rfl, _, rfl, v, l, n, rfl, hd, isProg_pos hP, fun H1 s1 => ?_⟩
  cases e : firstAt l n with
  | none =>
    have e2 : led l n = none := by unfold led; rw [e]; rfl
    rw [e2] at q
    exact ⟨_, rfl, rfl, _, rfl, iteT (q H1 s1)⟩
  | some i =>
    have hi := firstAt_lt e
    have e2 : led l n = some (n / (l[i]).2 * (l[i]).1) := by
      unfold led
      rw [e, Option.map_some, unAt_eq hi, upAt_eq hi]
    rw [e2] at q
    obtain ⟨a, xs, rfl, hs, ha, hlen⟩ := prog_at (same_dp s1 hd)
    obtain ⟨b, hb, hbs⟩ := prog_get ha hi
    obtain ⟨f1, f2, f3, f4, f5⟩ := isFrac_iff.mp ((isProg_iff.mp hP).2 _ (List.getElem_mem hi))
    refine ⟨_, rfl, rfl, _, rfl, iteF ?_⟩
    refine ⟨_, rfl, _, rfl, _, rfl, a, xs, i, _, rfl, rfl, hs, atIn hb, b, _, 1, _, rfl, rfl, hbs, atI1, n, (l[i]).2, rfl, rfl, ⟨isNum_pos f2, lt_log2 (mil_lt f4) (by decide) (by decide)⟩, ?_⟩
    refine ⟨_, rfl, _, rfl, a, xs, i, _, rfl, rfl, hs, atIn hb, b, _, 0, _, rfl, rfl, hbs, atI0, n / (l[i]).2, (l[i]).1, rfl, rfl, ?_, q H1 s1⟩
    have h1 : n / (l[i]).2 < 2 ^ 30000 := Nat.lt_of_le_of_lt (Nat.div_le_self _ _) hn
    have h2 := lt_log2 (j := 30000) h1 (by decide) (by decide)
    have h3 := lt_log2 (j := 20) (mil_lt f3) (by decide) (by decide)
    omega
/-! ### need_room -/
def spRoom (K : PySem.W.Frag) (C : Addr) : Sp := fun vs H Q E => ∃ n : Nat, vs = [nI n] ∧ 0 < n ∧ (maxN (rooms n) ≤ 400 → ∀ H', Same H H' → Q .non H') ∧ (400 < maxN (rooms n) → ∀ H', Same H H' → E (.ref C) none H')
theorem rooms_ne (n : Nat) : rooms n ≠ [] := fun z => by
  have h := rooms_len n
  rw [z] at h
  cases h
theorem ok_need_room (T : Txt K mg) : Cal P w K mg base (L2N.CX P w) 3 "need_room" ["number"] (spRoom K (ga K "TooGreat")) := by
  have c_parted := ok_parted (P := P) (w := w) (base := base) T
  refine Cal.mkX T.d_need_room T.m_need_room sc_need_room (fun _ _ _ _ _ _ us hl => match us, hl with | [_], _ => rfl) (fun vs H Q E h => ?_) (fun cdv A outer s H vs Q E hr h => ?_)
  · obtain ⟨n, rfl, _⟩ := h
    rfl
  obtain ⟨n, rfl, hn, q1, q2⟩ := h
  refine ⟨_, (pss_one (ps_if (PW.pt (pw_and (pt_cmpR opN_gt (pe_op opN_div (pe_op opN_div (pv 0) (pe_op opN_pow pe_int pe_int)) (pe_op opN_pow pe_int pe_int)) pe_int (nomark _)) (pw_and1 (pt_cmpR opN_gt (pe_callB (crMaxT rfl rfl (hu_of hr)) (by rfl) T.b_max boot_max (pa_cons (pe_ix (ixT rfl) (pe_cal c_parted (hr.mono (by decide)) (by rfl) pass0 (pa_cons (pv 0) pa_nil)) pe_int (fun _ _ => rfl)) pa_nil)) (pe_glob (v := .int 400) (by rfl) T.c_MOST_ROOM.choose_spec ⟨_, rfl⟩) (nomark _))))) (pss_one (L2N.ps_raise rfl (L2N.takes_of rfl rfl rfl rfl) (L2N.pmk_own PySem.F.excBase_ValueError T.x_TooGreat.1 T.m_TooGreat T.x_TooGreat.2.1 (raises_own T.x_TooGreat.2.2.1 T.x_TooGreat.2.2.2) (by rfl)))) pss_nil)), ?_⟩
  have hT : ((10 : Nat) ^ 60).log2 < 9000 := by decide +kernel
  have hp : 0 < (10 : Nat) ^ 60 := by decide +kernel
  generalize hB : (10 : Nat) ^ 60 = B at hT hp
  refine ⟨_, rfl, 10, 60, rfl, rfl, ⟨by decide, by decide⟩, n, B, rfl, congrArg nI hB, ⟨hp, hT⟩, 10, 60, rfl, rfl, ⟨by decide, by decide⟩, n / B, B, rfl, congrArg nI hB, ⟨hp, hT⟩, n / B / B, 0, rfl, rfl, _, rfl, ?_⟩
  by_cases hg : 0 < n / B / B
  · rw [decide_eq_true hg]
    refine iteT ⟨_, rfl, n, rfl, hn, fun p t H1 s1 ht hp => ?_⟩
    refine ⟨p, _, 0, _, rfl, rfl, SqT.of hp, atI0, t, rooms n, rfl, SqT.of ht, rooms_ne n, maxN (rooms n), 400, rfl, rfl, _, rfl, ?_⟩
    by_cases hm : 400 < maxN (rooms n)
    · rw [decide_eq_true hm]
      exact iteT (q2 hm H1 s1)
    · rw [decide_eq_false hm]
      exact iteF (q1 (by omega) H1 s1)
  · rw [decide_eq_false hg]
    refine iteF (iteF (q1 ?_ H (Same.refl H)))
    rcases Nat.lt_or_ge 400 (maxN (rooms n)) with h | h
    · have z := great hn (maxN_mem (rooms_ne n)) h
      rw [hB] at z
      exact absurd z hg
    · exact h
/-! ### look -/
def spLook (K : PySem.W.Frag) : Sp := fun vs H Q E => ∃ (v u : V) (d e : PyData), vs = [v, u] ∧ Dp K H v d ∧ Dp K H u e ∧ (isProgD d = true → isNumD e = true → ∀ H', Same H H' → Q .non H') ∧
  (isProgD d = false → ∀ H', Same H H' → E (.ref (ga K "BadProgram")) none H') ∧ (isProgD d = true → isNumD e = false → ∀ H', Same H H' → E (.ref (ga K "BadNumber")) none H')
theorem ok_look (T : Txt K mg) : Cal P w K mg base (L2N.CX P w) 6 "look" ["program", "number"] (spLook K) := by
  have c_need_program := ok_need_program (P := P) (w := w) (base := base) T
  have c_need_number := ok_need_number (P := P) (w := w) (base := base) T
  refine Cal.mkX T.d_look T.m_look sc_look (fun _ _ _ _ _ _ us hl => match us, hl with | [_, _], _ => rfl) (fun vs H Q E h => ?_) (fun cdv A outer s H vs Q E hr h => ?_)
  · obtain ⟨v, u, d, e, rfl, _⟩ := h
    rfl
  obtain ⟨v, u, d, e, rfl, hd, he, q1, q2, q3⟩ := h
  refine ⟨_, (pss_cons (ps_expr (pe_cal c_need_program (hr.mono (by decide)) (by rfl) (L2N.passes_call (L2N.takes_of rfl rfl rfl rfl) (fun _ _ _ _ h => h)) (pa_cons (pv 0) pa_nil)))
      (pss_one (ps_expr (pe_cal c_need_number (hr.mono (by decide)) (by rfl) (L2N.passes_call (L2N.takes_of rfl rfl rfl rfl) (fun _ _ _ _ h => h)) (pa_cons (pv 1) pa_nil))))), ?_⟩
  refine ⟨_, rfl, v, d, rfl, hd, fun hp H1 s1 => ?_, fun hp H1 s1 => q2 hp H1 s1⟩
  exact ⟨_, rfl, u, e, rfl, same_dp s1 he, fun hn H2 s2 => q1 hp hn H2 (s1.trans s2), fun hn H2 s2 => q3 hp hn H2 (s1.trans s2)⟩
/-! ### step -/
def isGreat (o : Option Nat) : Bool := match o with
  | some m => decide (400 < maxN (rooms m))
  | none => false
def spStep (K : PySem.W.Frag) : Sp := fun vs H Q E => ∃ (v u : V) (d e : PyData), vs = [v, u] ∧ Dp K H v d ∧ Dp K H u e ∧
  (isProgD d = false → ∀ H', Same H H' → E (.ref (ga K "BadProgram")) none H') ∧ (isProgD d = true → isNumD e = false → ∀ H', Same H H' → E (.ref (ga K "BadNumber")) none H') ∧
  (∀ (l : Prog) (n : Nat), d = progD l → e = nD n → isProg l = true → isNum n = true → (isGreat (led l n) = false → ∀ H', Same H H' → Q (optV (led l n)) H') ∧ (isGreat (led l n) = true → ∀ H', Same H H' → E (.ref (ga K "TooGreat")) none H'))
theorem led_pos {l : Prog} {n m : Nat} (hP : isProg l = true) (hn : 0 < n) (h : led l n = some m) : 0 < m := by
  unfold led at h
  obtain ⟨i, hi, rfl⟩ := Option.map_eq_some_iff.mp h
  obtain ⟨hlt, h0, _⟩ := firstAt_is hi
  obtain ⟨f1, f2, f3, f4, f5⟩ := isFrac_iff.mp ((isProg_iff.mp hP).2 _ (List.getElem_mem hlt))
  rw [unAt_eq hlt, upAt_eq hlt]
  exact Nat.mul_pos (Nat.div_pos (Nat.le_of_dvd hn (Nat.dvd_of_mod_eq_zero h0)) (isNum_pos f2)) (isNum_pos f1)
theorem num_lt {n : Nat} (h : isNum n = true) : n < 2 ^ 30000 := Nat.lt_trans (isNum_lt h) (Nat.pow_lt_pow_right (by decide) (by decide))
theorem ok_step (T : Txt K mg) : Cal P w K mg base (L2N.CX P w) 7 "step" ["program", "number"] (spStep K) := by
  have c_look := ok_look (P := P) (w := w) (base := base) T
  have c_led := ok_led (P := P) (w := w) (base := base) T
  have c_need_room := ok_need_room (P := P) (w := w) (base := base) T
  refine Cal.mkX T.d_step T.m_step sc_step (fun _ _ _ _ _ _ us hl => match us, hl with | [_, _], _ => rfl) (fun vs H Q E h => ?_) (fun cdv A outer s H vs Q E hr h => ?_)
  · obtain ⟨v, u, d, e, rfl, _⟩ := h
    rfl
  obtain ⟨v, u, d, e, rfl, hd, he, q1, q2, q3⟩ := h
  refine ⟨_, (pss_cons (ps_expr (pe_cal c_look (hr.mono (by decide)) (by rfl) (L2N.passes_call (L2N.takes_of rfl rfl rfl rfl) (fun _ _ _ _ h => h)) (pa_cons (pv 0) (pa_cons (pv 1) pa_nil))))
      (pss_cons (ps_set (i := 2) sc_step.nd rfl (.inl rfl) (pe_cal c_led (hr.mono (by decide)) (by rfl) pass0 (pa_cons (pv 0) (pa_cons (pv 1) pa_nil))))
      (pss_cons (ps_if (pt_cmpR op_notN (pv 2) pe_non (nomark _)) (pss_one (ps_expr (pe_cal c_need_room (hr.mono (by decide)) (by rfl) (L2N.passes_call (L2N.takes_of rfl rfl rfl rfl) (fun _ _ _ _ h => h)) (pa_cons (pv 2) pa_nil)))) pss_nil)
      (pss_one (ps_ret (pv 2)))))), ?_⟩
  refine ⟨_, rfl, _, rfl, v, u, d, e, rfl, hd, he, fun hp hn H1 s1 => ?_, q1, q2⟩
  obtain ⟨l, rfl, hP⟩ := isProgD_is hp
  obtain ⟨n, rfl, hN⟩ := isNumD_is hn
  cases he
  obtain ⟨q4, q5⟩ := q3 l n rfl rfl hP hN
  refine ⟨_, rfl, _, rfl, v, l, n, rfl, same_dp s1 hd, hP, num_lt hN, fun H2 s2 => ?_⟩
  cases hl : led l n with
  | none =>
    rw [hl] at q4
    exact ⟨_, rfl, rfl, _, rfl, iteF ⟨_, rfl, q4 rfl H2 (s1.trans s2)⟩⟩
  | some m =>
    rw [hl] at q4 q5
    refine ⟨_, rfl, rfl, _, rfl, iteT ⟨_, rfl, m, rfl, led_pos hP (isNum_pos hN) hl, fun hm H3 s3 => ?_, fun hm H3 s3 => ?_⟩⟩
    · exact ⟨_, rfl, q4 (decide_eq_false (by omega)) H3 ((s1.trans s2).trans s3)⟩
    · exact q5 (decide_eq_true hm) H3 ((s1.trans s2).trans s3)
end
end Fr
namespace Fr
open PySem PySem.Spec PyProof.Rows L2
section
variable {P : Program} {w : World} {K : PySem.W.Frag} {mg : Str → Option Value} {base : Heap}
/-! ### fits_at -/
/-! ### run -/
def runF (l : Prog) : Nat → Nat → Option (List Nat)
  | 0, n => some [n]
  | f + 1, n => match led l n with
    | none => some [n]
    | some x => if 400 < maxN (rooms x) then none else (runF l f x).map (n :: ·)
theorem maxN_bd {as : List Nat} {b : Nat} (h : maxN as ≤ b) : ∀ a ∈ as, a ≤ b := fun a ha => Nat.le_trans (maxN_le ha) h
theorem led_num {l : Prog} {n x : Nat} (hP : isProg l = true) (hN : isNum n = true) (h : led l n = some x) (hx : ¬ 400 < maxN (rooms x)) : isNum x = true := by
  have hn := isNum_iff.mp hN
  obtain ⟨a, b⟩ := led_left hP hn.1 hn.2.1 h
  exact isNum_iff.mpr ⟨a, b, maxN_bd (by omega)⟩
theorem runF_num {l : Prog} (hP : isProg l = true) : ∀ (f n : Nat) (r : List Nat), isNum n = true → runF l f n = some r → r ≠ [] ∧ r.length ≤ f + 1 ∧ ∀ x ∈ r, isNum x = true := by
  intro f
  induction f with
  | zero =>
    intro n r hn h
    cases h
    exact ⟨by simp, by simp, fun x hx => by rw [List.mem_singleton.mp hx]; exact hn⟩
  | succ f ih =>
    intro n r hn h
    unfold runF at h
    cases e : led l n with
    | none =>
      rw [e] at h
      cases h
      exact ⟨by simp, by simp, fun x hx => by rw [List.mem_singleton.mp hx]; exact hn⟩
    | some x =>
      rw [e] at h
      dsimp only at h
      split at h
      · cases h
      · rename_i hg
        obtain ⟨r', h', rfl⟩ := Option.map_eq_some_iff.mp h
        obtain ⟨a, b, c⟩ := ih x r' (led_num hP hn e hg) h'
        refine ⟨by simp, by simp; omega, fun y hy => ?_⟩
        rcases List.mem_cons.mp hy with rfl | hy
        · exact hn
        · exact c y hy
def spRun (K : PySem.W.Frag) : Sp := fun vs H Q E => ∃ (v u c : V) (d e g : PyData), vs = [v, u, c] ∧ Dp K H v d ∧ Dp K H u e ∧ Dp K H c g ∧
  (isProgD d = false → ∀ H', Same H H' → E (.ref (ga K "BadProgram")) none H') ∧ (isProgD d = true → isNumD e = false → ∀ H', Same H H' → E (.ref (ga K "BadNumber")) none H') ∧
  (isProgD d = true → isNumD e = true → isCountD 0 2000 g = false → ∀ H', Same H H' → E (.ref (ga K "BadNumber")) none H') ∧
  (∀ (l : Prog) (n m : Nat), d = progD l → e = nD n → g = nD m → isProg l = true → isNum n = true → m ≤ 2000 →
    (∀ r, runF l m n = some r → ∀ p H', Same H H' → H p = none → H' p = some (.lst (r.map nI)) → Q (.ref p) H') ∧ (runF l m n = none → ∀ H', Same H H' → E (.ref (ga K "TooGreat")) none H'))
theorem isCount_is {hi : Nat} {g : PyData} (h : isCountD 0 hi g = true) : ∃ m : Nat, g = nD m ∧ m ≤ hi := by
  cases g with
  | int i =>
    have h : (decide ((0 : Int) ≤ i) && decide (i ≤ (hi : Int))) = true := h
    rw [Bool.and_eq_true] at h
    have h1 := of_decide_eq_true h.1
    have h2 := of_decide_eq_true h.2
    refine ⟨i.toNat, ?_, by omega⟩
    show PyData.int i = .int (i.toNat : Int)
    rw [Int.toNat_of_nonneg h1]
  | _ => cases h
theorem ok_run (T : Txt K mg) : Cal P w K mg base (L2N.CX P w) 8 "run" ["program", "number", "most"] (spRun K) := by
  have c_look := ok_look (P := P) (w := w) (base := base) T
  have c_need_count := ok_need_count (P := P) (w := w) (base := base) T
  have c_led := ok_led (P := P) (w := w) (base := base) T
  have c_need_room := ok_need_room (P := P) (w := w) (base := base) T
  refine Cal.mkX T.d_run T.m_run sc_run (fun _ _ _ _ _ _ us hl => match us, hl with | [_, _, _], _ => rfl) (fun vs H Q E h => ?_) (fun cdv A outer s H vs Q E hr h => ?_)
  · obtain ⟨v, u, c, d, e, g, rfl, _⟩ := h
    rfl
  obtain ⟨v, u, c, d, e, g, rfl, hd, he, hg, q1, q2, q3, q4⟩ := h
  refine ⟨_, (pss_cons (ps_expr (pe_cal c_look (hr.mono (by decide)) (by rfl) (L2N.passes_call (L2N.takes_of rfl rfl rfl rfl) (fun _ _ _ _ h => h)) (pa_cons (pv 0) (pa_cons (pv 1) pa_nil))))
      (pss_cons (ps_expr (pe_cal c_need_count (hr.mono (by decide)) (by rfl) (L2N.passes_call (L2N.takes_of rfl rfl rfl rfl) (fun _ _ _ _ h => h)) (pa_cons (pv 2) (pa_cons pe_int (pa_cons (pe_glob (v := .int 2000) (by rfl) T.c_MOST_STEPS_programs.choose_spec ⟨_, rfl⟩) pa_nil)))))
      (pss_cons (ps_set (i := 3) sc_run.nd rfl (.inl rfl) (pe_lst (pa_cons (pv 1) pa_nil)))
      (pss_cons (ps_set (i := 4) sc_run.nd rfl (.inl rfl) (pe_cal c_led (hr.mono (by decide)) (by rfl) pass0 (pa_cons (pv 0) (pa_cons (pv 1) pa_nil))))
      (pss_cons (ps_while (passes_of rfl) (PW.pt (pw_and (pt_cmpR op_notN (pv 4) pe_non (nomark _)) (pw_and1 (pt_cmpR opN_le (pe_callB (lenS rfl) (by rfl) T.b_len PySem.boot_len (pa_cons (pv 3) pa_nil)) (pv 2) (nomark _))))) (pss_cons (ps_expr (pe_cal c_need_room (hr.mono (by decide)) (by rfl) (L2N.passes_call (L2N.takes_of rfl rfl rfl rfl) (fun _ _ _ _ h => h)) (pa_cons (pv 4) pa_nil)))
      (pss_cons (ps_expr (bm rfl PySem.F.plainAttrs_list PySem.F.slot_list_append PySem.F.type_list_append mt_append (pv 3) (pa_cons (pv 4) pa_nil)))
      (pss_one (ps_set (i := 4) sc_run.nd rfl (.inl rfl) (pe_cal c_led (hr.mono (by decide)) (by rfl) pass0 (pa_cons (pv 0) (pa_cons (pv 4) pa_nil))))))))
      (pss_one (ps_ret (pv 3)))))))), ?_⟩
  refine ⟨_, rfl, _, rfl, v, u, d, e, rfl, hd, he, fun hp hn H1 s1 => ?_, q1, q2⟩
  refine ⟨_, rfl, c, g, 0, 2000, rfl, same_dp s1 hg, fun hc => ?_, fun hc => q3 hp hn hc H1 s1⟩
  obtain ⟨l, rfl, hP⟩ := isProgD_is hp
  obtain ⟨n, rfl, hN⟩ := isNumD_is hn
  obtain ⟨m, rfl, hm⟩ := isCount_is (hi := 2000) hc
  cases he
  cases hg
  obtain ⟨q5, q6⟩ := q4 l n m rfl rfl rfl hP hN hm
  refine ⟨_, rfl, (by show 1 ≤ sizeLine; decide), fun o no => ?_⟩
  have s2 := s1.trans (same_new (o := .lst [nI n]) no)
  refine ⟨_, rfl, _, rfl, v, l, n, rfl, same_dp s2 hd, hP, num_lt hN, fun H3 s3 => ?_⟩
  have hoH : H o = none := s1.free no
  refine ⟨fun j σ H4 => ∃ (fs : List Nat) (z : Nat), σ = [some v, some (nI n), some (nI m), some (.ref o), some (optV (led l z))] ∧ Same H H4 ∧ H4 o = some (.lst ((fs ++ [z]).map nI)) ∧ isNum z = true ∧ fs.length + j = m ∧ runF l m n = (runF l j z).map (fs ++ ·), ⟨m, [], n, rfl, s2.trans s3, s3 _ _ upd_same, hN, by simp, by simp⟩, ?_⟩
  rintro j σ H4 ⟨fs, z, rfl, s4, ho, hz, hj, hrun⟩
  have fin : runF l j z = some [z] → Q (.ref o) H4 := fun e => q5 (fs ++ [z]) (by rw [hrun, e]; rfl) o H4 s4 hoH ho
  cases hl : led l z with
  | none =>
    refine ⟨_, rfl, rfl, _, rfl, iteF (iteF ⟨_, rfl, fin ?_⟩)⟩
    cases j with
    | zero => rfl
    | succ j => unfold runF; rw [hl]
  | some x =>
    have hlen : ((fs ++ [z]).map nI).length = fs.length + 1 := by simp
    have hzn := isNum_iff.mp hz
    obtain ⟨hx0, hxl⟩ := led_left hP hzn.1 hzn.2.1 hl
    refine ⟨_, rfl, rfl, _, rfl, iteT ⟨_, rfl, o, _, rfl, .inl (SqL.of ho), _, rfl, fs.length + 1, m, by rw [hlen], rfl, _, rfl, ite2 (fun hc => ?_) (fun hc => ?_)⟩⟩
    · have hc := of_decide_eq_true hc
      obtain ⟨j, rfl⟩ : ∃ j', j = j' + 1 := ⟨j - 1, by omega⟩
      have hrun2 : runF l (j + 1) z = if 400 < maxN (rooms x) then none else (runF l j x).map (z :: ·) := by
        conv => lhs; unfold runF
        rw [hl]
      refine ⟨fun σ' H' => ∃ (fs : List Nat) (z : Nat), σ' = [some v, some (nI n), some (nI m), some (.ref o), some (optV (led l z))] ∧ Same H H' ∧ H' o = some (.lst ((fs ++ [z]).map nI)) ∧ isNum z = true ∧ fs.length + j = m ∧ runF l m n = (runF l j z).map (fs ++ ·), ?_, ?_⟩
      · rintro σ' H' ⟨fs', z', a1, a2, a3, a4, a5, a6⟩
        exact ⟨j, Nat.lt_succ_self j, fs', z', a1, a2, a3, a4, a5, a6⟩
      · refine ⟨_, rfl, x, rfl, hx0, (fun hle H5 s5 => ?_), fun hgt H5 s5 => q6 ?_ H5 (s4.trans s5)⟩
        · have hxn : isNum x = true := led_num hP hz hl (by omega)
          refine ⟨_, rfl, .inl ⟨rfl, _, SqL.of (s5 _ _ ho)⟩, _, rfl, o, _, _, rfl, rfl, s5 _ _ ho, (by rw [hlen]; exact Nat.lt_of_lt_of_le (show fs.length + 1 < 3000 by omega) (by decide)), ?_⟩
          have s6 : Same H (upd H5 o (.lst ((fs ++ [z]).map nI ++ [nI x]))) := same_put (s4.trans s5) hoH
          refine ⟨_, rfl, _, rfl, v, l, x, rfl, same_dp s6 hd, hP, num_lt hxn, fun H7 s7 => ?_⟩
          refine ⟨fs ++ [z], x, rfl, s6.trans s7, s7 _ _ ?_, hxn, by rw [List.length_append]; show fs.length + 1 + j = m; omega, ?_⟩
          · rw [upd_same, List.map_append, List.map_append, List.map_append]
            rfl
          · rw [hrun, hrun2, if_neg (by omega)]
            cases runF l j x with
            | none => rfl
            | some r => simp
        · rw [hrun, hrun2, if_pos hgt]
          rfl
    · refine ⟨_, rfl, fin ?_⟩
      have hc : ¬ fs.length + 1 ≤ m := fun z => hc (decide_eq_true z)
      obtain rfl : j = 0 := by omega
      rfl
/-! ### end -/
theorem at_last (r : List Nat) (z : Nat) : atI ((r ++ [z]).map nI) (-1) = some (nI z) := by
  have e : ixN ((r ++ [z]).map nI).length (-1) = some r.length := by
    rw [List.length_map, List.length_append]
    unfold ixN
    rw [if_neg (by decide), if_pos (by show -((r.length + 1 : Nat) : Int) ≤ -1; omega)]
    show some (-1 + ((r.length + 1 : Nat) : Int)).toNat = _
    congr 1
    omega
  unfold atI
  rw [e]
  show ((r ++ [z]).map nI)[r.length]? = some (nI z)
  simp
def spEnd (K : PySem.W.Frag) : Sp := fun vs H Q E => ∃ (v u c : V) (d e g : PyData), vs = [v, u, c] ∧ Dp K H v d ∧ Dp K H u e ∧ Dp K H c g ∧
  (isProgD d = false → ∀ H', Same H H' → E (.ref (ga K "BadProgram")) none H') ∧ (isProgD d = true → isNumD e = false → ∀ H', Same H H' → E (.ref (ga K "BadNumber")) none H') ∧
  (isProgD d = true → isNumD e = true → isCountD 0 2000 g = false → ∀ H', Same H H' → E (.ref (ga K "BadNumber")) none H') ∧
  (∀ (l : Prog) (n m : Nat), d = progD l → e = nD n → g = nD m → isProg l = true → isNum n = true → m ≤ 2000 →
    (∀ r z, runF l m n = some (r ++ [z]) → ∀ H', Same H H' → Q (if led l z = none then nI z else .non) H') ∧ (runF l m n = none → ∀ H', Same H H' → E (.ref (ga K "TooGreat")) none H'))
theorem ok_end (T : Txt K mg) : Cal P w K mg base (L2N.CX P w) 9 "end" ["program", "number", "most"] (spEnd K) := by
  have c_run := ok_run (P := P) (w := w) (base := base) T
  have c_led := ok_led (P := P) (w := w) (base := base) T
  refine Cal.mkX T.d_end T.m_end sc_end (fun _ _ _ _ _ _ us hl => match us, hl with | [_, _, _], _ => rfl) (fun vs H Q E h => ?_) (fun cdv A outer s H vs Q E hr h => ?_)
  · obtain ⟨v, u, c, d, e, g, rfl, _⟩ := h
    rfl
  obtain ⟨v, u, c, d, e, g, rfl, hd, he, hg, q1, q2, q3, q4⟩ := h
  refine ⟨_, (pss_cons (ps_set (i := 3) sc_end.nd rfl (.inl rfl) (pe_cal c_run (hr.mono (by decide)) (by rfl) (L2N.passes_call (L2N.takes_of rfl rfl rfl rfl) (fun _ _ _ _ h => h)) (pa_cons (pv 0) (pa_cons (pv 1) (pa_cons (pv 2) pa_nil)))))
      (pss_one (ps_ret (pe_ifExp (pt_cmpR op_isN (pe_cal c_led (hr.mono (by decide)) (by rfl) pass0 (pa_cons (pv 0) (pa_cons (pe_ix (ixL rfl) (pv 3) (pe_un un_neg pe_int) (fun _ _ => rfl)) pa_nil))) pe_non (nomark _)) (pe_ix (ixL rfl) (pv 3) (pe_un un_neg pe_int) (fun _ _ => rfl)) pe_non)))), ?_⟩
  refine ⟨_, rfl, _, rfl, _, rfl, v, u, c, d, e, g, rfl, hd, he, hg, q1, q2, q3, fun l n m e1 e2 e3 hP hN hm => ?_⟩
  obtain ⟨q5, q6⟩ := q4 l n m e1 e2 e3 hP hN hm
  refine ⟨fun r hr2 p H1 s1 np hp => ?_, q6⟩
  obtain ⟨h1, h2, h3⟩ := runF_num hP m n r hN hr2
  obtain ⟨r', z, rfl⟩ : ∃ r' z, r = r' ++ [z] := ⟨r.dropLast, r.getLast h1, (List.dropLast_concat_getLast h1).symm⟩
  have hzn := h3 z (by simp)
  subst e1
  have hat := at_last r' z
  refine ⟨_, rfl, _, rfl, 1, rfl, p, _, _, _, rfl, rfl, SqL.of hp, hat, v, l, z, rfl, same_dp s1 hd, hP, num_lt hzn, fun H2 s2 => ⟨rfl, _, rfl, ?_⟩⟩
  have qz := q5 r' z hr2 H2 (s1.trans s2)
  cases hl : led l z with
  | none =>
    rw [hl, if_pos rfl] at qz
    exact iteT ⟨_, rfl, 1, rfl, p, _, _, _, rfl, rfl, SqL.of (s2 _ _ hp), hat, qz⟩
  | some x =>
    rw [hl, if_neg (fun z => by cases z)] at qz
    exact iteF qz
end
end Fr
namespace Fr
open PySem PySem.Spec PyProof.Rows L2
section
variable {P : Program} {w : World} {K : PySem.W.Frag} {mg : Str → Option Value} {base : Heap}
/-! ### idle -/
def spIdle (K : PySem.W.Frag) : Sp := fun vs H Q E => ∃ (v : V) (d : PyData), vs = [v] ∧ Dp K H v d ∧
  (isProgD d = false → ∀ H', Same H H' → E (.ref (ga K "BadProgram")) none H') ∧
  (∀ l : Prog, d = progD l → isProg l = true → ∀ p H', H p = none → Same H H' → H' p = some (.lst ((idleOf l).map nI)) → Q (.ref p) H')
theorem idle_gath (l : Prog) : gath (fun i => if isIdle l i = true then some (nD i) else none) l.length = (idleOf l).map nD := by
  unfold gath idleOf
  rw [← List.filterMap_eq_filter, List.map_filterMap]
  congr 1
  funext i
  unfold Option.guard
  show (if isIdle l i = true then some (nD i) else none) = Option.map nD (if isIdle l i = true then some i else none)
  cases isIdle l i <;> rfl
theorem mod_self_fit {l : Prog} {i : Nat} (hi : i < l.length) : ∃ j, firstAt l (unAt l i) = some j := by
  cases h : firstAt l (unAt l i) with
  | some j => exact ⟨j, rfl⟩
  | none =>
    unfold firstAt at h
    rw [List.findIdx?_eq_none_iff] at h
    have := h _ (List.getElem_mem hi)
    rw [unAt_eq hi] at this
    simp at this
theorem ok_idle (T : Txt K mg) : Cal P w K mg base (L2N.CX P w) 6 "idle" ["program"] (spIdle K) := by
  have c_need_program := ok_need_program (P := P) (w := w) (base := base) T
  have c_first_at := ok_first_at (P := P) (w := w) (base := base) T
  refine Cal.mkX T.d_idle T.m_idle sc_idle (fun _ _ _ _ _ _ us hl => match us, hl with | [_], _ => rfl) (fun vs H Q E h => ?_) (fun cdv A outer s H vs Q E hr h => ?_)
  · obtain ⟨v, d, rfl, _⟩ := h
    rfl
  obtain ⟨v, d, rfl, hd, q1, q2⟩ := h
  refine ⟨_, (pss_cons (ps_expr (pe_cal c_need_program (hr.mono (by decide)) (by rfl) (L2N.passes_call (L2N.takes_of rfl rfl rfl rfl) (fun _ _ _ _ h => h)) (pa_cons (pv 0) pa_nil)))
      (pss_one (ps_ret (pe_lc (own := [("place", 1)]) rfl sc_idle.nd (pi_range1 (by rfl) T.b_range (pa_cons (pe_callB (lenS rfl) (by rfl) T.b_len PySem.boot_len (pa_cons (pv 0) pa_nil)) pa_nil)) (blkOk_by (own := [("place", 1)]) (N := ["program", "place"]) (sc := defScope s_idle) (by decide +kernel)) (fun _ _ _ _ _ => (pg_name (i := 1) sc_idle.nd rfl (.inl rfl))) (fun _ _ _ _ _ => (pts_one (pt_cmpR opN_ne (pe_cal c_first_at (hr.mono (by decide)) (by rfl) pass0 (pa_cons (pv 0) (pa_cons (pe_ix (ixT rfl) (pe_ix (ixL rfl) (pv 0) (pv 1) (fun _ _ => rfl)) pe_int (fun _ _ => rfl)) pa_nil))) (pv 1) (nomark _)))) (fun _ _ _ _ _ => (pv 1)))))), ?_⟩
  refine ⟨_, rfl, v, d, rfl, hd, fun hp H1 s1 => ?_, q1⟩
  obtain ⟨l, rfl, hP⟩ := isProgD_is hp
  have q2 := q2 l rfl hP
  obtain ⟨a, xs, rfl, hs, ha, hlen⟩ := prog_at (same_dp s1 hd)
  have hl16 := (isProg_iff.mp hP).1
  refine ⟨_, rfl, a, xs, rfl, .inl hs, xs.length, rfl, by omega, by omega, fun D hD => ?_⟩
  have en : ((xs.length : Nat) : Int).toNat = l.length := by omega
  rw [en]
  refine lc_dp (K := K) walk_nats hD (by omega) (fun _ _ => trivial) (fun i => if isIdle l i = true then some (nD i) else none) ?_ ?_ ?_
  · intro i d e
    split at e
    · cases e
      rfl
    · cases e
  · rintro i x H' H'' A B hi s' ⟨rfl, rfl⟩ hA hB
    obtain ⟨b, hb, hbs⟩ := prog_get (same_dps s' ha) hi
    obtain ⟨j, hj⟩ := mod_self_fit hi
    refine ⟨rfl, _, rfl, _, rfl, _, rfl, a, xs, i, _, rfl, rfl, s'.seq hs, atIn hb, b, _, 1, _, rfl, rfl, hbs, atI1, _, l, (l[i]).2, rfl, same_dp (s1.trans s') hd, isProg_pos hP, fun H3 s3 => ?_⟩
    have hj2 := hj
    rw [unAt_eq hi] at hj2
    rw [hj2]
    refine ⟨_, rfl, j, i, rfl, rfl, _, rfl, ?_⟩
    have ei : isIdle l i = !decide (j = i) := by
      unfold isIdle
      rw [hj]
      congr 1
      simp
    cases hd2 : decide (j = i) with
    | true =>
      rw [hd2] at ei
      exact iteF (hB (by rw [ei]; rfl) H3 s3)
    | false =>
      rw [hd2] at ei
      exact iteT ⟨_, rfl, hA _ _ _ (by rw [ei]; rfl) s3 (.int _)⟩
  · intro H' ys s' hD' hA
    rw [idle_gath] at hA
    rw [dps_nats hA] at hD'
    exact q2 D H' (s1.free hD) (s1.trans s') hD'
/-! ### lean -/
def spLean (K : PySem.W.Frag) : Sp := fun vs H Q E => ∃ (v : V) (d : PyData), vs = [v] ∧ Dp K H v d ∧
  (isProgD d = false → ∀ H', Same H H' → E (.ref (ga K "BadProgram")) none H') ∧
  (∀ l : Prog, d = progD l → isProg l = true → ∀ p H', Same H H' → FD K H H' (.ref p) (progD (leanOf l)) → Q (.ref p) H')
theorem lean_gath (l : Prog) : gath (fun i => l[i]?.bind fun p => if i ∈ idleOf l then none else some (fracD p)) l.length = (leanOf l).map fracD := by
  rw [gath_mapI l fun i p => if i ∈ idleOf l then none else some (fracD p)]
  unfold leanOf
  rw [List.map_filterMap]
  congr 1
  funext p
  by_cases h : p.2 ∈ idleOf l
  · rw [if_pos h, if_pos h]; rfl
  · rw [if_neg h, if_neg h]; rfl
theorem inV_nat (i : Nat) : ∀ ns : List Nat, inV (nI i) (ns.map nI) = decide (i ∈ ns)
  | [] => rfl
  | n :: ns => by
    have ih := inV_nat i ns
    unfold inV at ih ⊢
    rw [List.map_cons, List.any_cons, ih]
    have e : eqV (nI n) (nI i) = decide (n = i) := by
      show ((n : Int) == (i : Int)) = decide (n = i)
      rw [Bool.eq_iff_iff]
      simp
      omega
    rw [e, Bool.eq_iff_iff]
    simp only [Bool.or_eq_true, decide_eq_true_eq, List.mem_cons]
    constructor
    · rintro (h | h)
      · exact .inl h.symm
      · exact .inr h
    · rintro (h | h)
      · exact .inl h.symm
      · exact .inr h
theorem flat_nats : ∀ ns : List Nat, (ns.map nI).all flatV = true
  | [] => rfl
  | n :: ns => by
    rw [List.map_cons, List.all_cons, flat_nats ns]
    rfl
theorem ok_lean (T : Txt K mg) : Cal P w K mg base (L2N.CX P w) 7 "lean" ["program"] (spLean K) := by
  have c_need_program := ok_need_program (P := P) (w := w) (base := base) T
  have c_idle := ok_idle (P := P) (w := w) (base := base) T
  refine Cal.mkX T.d_lean T.m_lean sc_lean (fun _ _ _ _ _ _ us hl => match us, hl with | [_], _ => rfl) (fun vs H Q E h => ?_) (fun cdv A outer s H vs Q E hr h => ?_)
  · obtain ⟨v, d, rfl, _⟩ := h
    rfl
  obtain ⟨v, d, rfl, hd, q1, q2⟩ := h
  refine ⟨_, (pss_cons (ps_expr (pe_cal c_need_program (hr.mono (by decide)) (by rfl) (L2N.passes_call (L2N.takes_of rfl rfl rfl rfl) (fun _ _ _ _ h => h)) (pa_cons (pv 0) pa_nil)))
      (pss_cons (ps_set (i := 1) sc_lean.nd rfl (.inr rfl) (pe_cal c_idle (hr.mono (by decide)) (by rfl) (L2N.passes_call (L2N.takes_of rfl rfl rfl rfl) (fun _ _ _ _ h => h)) (pa_cons (pv 0) pa_nil)))
      (pss_one (ps_ret (pe_lc (own := [("place", 2), ("fraction", 3)]) rfl sc_lean.nd (piE rfl (by rfl) T.b_enumerate (pa_cons (pv 0) pa_nil)) (blkOk_by (own := [("place", 2), ("fraction", 3)]) (N := ["program", "out", "place", "fraction"]) (sc := defScope s_lean) (by decide +kernel)) (fun _ _ _ _ _ => (pgT (n := 2) rfl rfl (pgs_cons (pg_name (i := 2) sc_lean.nd rfl (.inl rfl)) (pgs_cons (pg_name (i := 3) sc_lean.nd rfl (.inl rfl)) pgs_nil)))) (fun _ _ _ _ _ => (pts_one (pt_cmpR (ninS rfl) (pv 2) (pv 1) (by rfl)))) (fun _ _ _ _ _ => (pv 3))))))), ?_⟩
  refine ⟨_, rfl, v, d, rfl, hd, fun hp H1 s1 => ?_, q1⟩
  obtain ⟨l, rfl, hP⟩ := isProgD_is hp
  have q2 := q2 l rfl hP
  refine ⟨_, rfl, v, progD l, rfl, same_dp s1 hd, (fun hn => by rw [hp] at hn; cases hn), fun l' el hP' o H2 no s2 ho => ?_⟩
  have el : l' = l := by
    have z : (l'.map fracD) = l.map fracD := (PyData.list.inj el).symm
    have inj : ∀ x y : Nat × Nat, fracD x = fracD y → x = y := by
      intro x y h
      have h1 := PyData.tuple.inj h
      injection h1 with h2 h3
      injection h3 with h4 h5
      have h6 := PyData.int.inj h2
      have h7 := PyData.int.inj h4
      exact Prod.ext (by omega) (by omega)
    exact (List.map_inj_right inj).mp z
  subst el
  obtain ⟨a, xs, rfl, hs, ha, hlen⟩ := prog_at (same_dp (s1.trans s2) hd)
  have hl16 := (isProg_iff.mp hP).1
  refine ⟨_, rfl, a, xs, rfl, hs, fun D hD => ?_⟩
  refine lc_dp (K := K) walk_enum hD (by omega) (fun H' s' => s'.seq hs) (fun i => l'[i]?.bind fun p => if i ∈ idleOf l' then none else some (fracD p)) ?_ ?_ ?_
  · intro i d e
    obtain ⟨p, _, e⟩ := Option.bind_eq_some_iff.mp e
    split at e
    · cases e
    · cases e
      exact noL_frac p
  · rintro i x H' H'' A B hi s' ⟨T', x1, x2, rfl, nT, rfl, e1, e2⟩ hA hB
    have e1 : x1 = nI i := (Option.some.inj e1).symm
    subst e1
    have sT : Same H' (upd H' T' (.tup [nI i, x2])) := same_new nT
    obtain ⟨hi', b, rfl, hb2, hdp⟩ := prog_item (same_dps (s'.trans sT) ha) e2
    have hg : l'[i]? = some l'[i] := List.getElem?_eq_getElem hi'
    refine ⟨T', _, rfl, SqT.of upd_same, rfl, _, _, rfl, _, _, rfl, rfl, rfl, ?_⟩
    refine ⟨_, rfl, _, rfl, o, _, rfl, .inl (SqL.of ((s'.trans sT) _ _ ho)), rfl, flat_nats _, _, rfl, ?_⟩
    rw [inV_nat]
    by_cases hin : i ∈ idleOf l'
    · rw [decide_eq_true hin]
      exact iteF (hB (by rw [hg]; show (if i ∈ idleOf l' then none else _) = none; rw [if_pos hin]) _ sT)
    · rw [decide_eq_false hin]
      exact iteT ⟨_, rfl, hA _ _ _ (by rw [hg]; show (if i ∈ idleOf l' then none else _) = some (fracD l'[i]); rw [if_neg hin]) sT hdp⟩
  · intro H' ys s' hD' hA
    rw [hlen, lean_gath] at hA
    exact q2 D H' ((s1.trans s2).trans s') (.lst (s1.free (s2.free hD)) hD' hA (noLs_of fun d hd => by obtain ⟨f, _, rfl⟩ := List.mem_map.mp hd; exact noL_frac f))
end
end Fr
namespace Fr
open PySem PySem.Spec PyProof.Rows L2
section
variable {P : Program} {w : World} {K : PySem.W.Frag} {mg : Str → Option Value} {base : Heap}
theorem lay_ints : ∀ ns : List Int, PyData.canLayAll0 (ns.map PyData.int) = true
  | [] => by simp [PyData.canLayAll0]
  | n :: ns => by simp [PyData.canLayAll0, PyData.canLay0, lay_ints ns]
theorem shaped_ints (ns : List Int) : SeqAt.shaped (.list (ns.map PyData.int)) = true := by
  unfold SeqAt.shaped
  simp [PyData.canLay0, PyData.depth, lay_ints, depth_ints]
/-! ### _law_cell -/
def spCellL (K : PySem.W.Frag) : Sp := fun vs H Q _ => ∃ (a : Addr) (k : Nat) (ns : List Int), vs = [.ref a, nI k] ∧ SqL K H a (ns.map V.int) ∧ ns.length ≤ 63 ∧ k ≤ 1000 ∧ ∀ (c : Int) H', Same H H' → Q (.int c) H'
theorem ok__law_cell (T : Txt K mg) : Cal P w K mg base L2.CX0 1 "_law_cell" ["script", "k"] (spCellL K) := by
  refine Cal.mk0 T.d__law_cell T.m__law_cell sc__law_cell (fun _ _ _ _ _ _ us hl => match us, hl with | [_, _], _ => rfl) (fun vs H Q E h => ?_) (fun cdv A outer s H vs Q E hr h => ?_)
  · obtain ⟨a, k, ns, rfl, _⟩ := h
    rfl
  obtain ⟨a, k, ns, rfl, hs, hl, hk, q⟩ := h
  refine ⟨_, (pss_cons (ps_if (pt_cmpR (eqD rfl hr.units) (pv 0) (pe_lst pa_nil) (nomark _)) (pss_one (ps_ret (pe_op opN_mul (pv 1) pe_int))) pss_nil)
      (pss_one (ps_ret (pe_op op_add (pe_ix (ixL rfl) (pv 0) (pe_op opN_mod (pv 1) (pe_callB (lenS rfl) (by rfl) T.b_len PySem.boot_len (pa_cons (pv 0) pa_nil))) (fun _ _ => rfl)) (pe_op opN_mul (pe_op opN_div (pv 1) (pe_callB (lenS rfl) (by rfl) T.b_len PySem.boot_len (pa_cons (pv 0) pa_nil))) pe_int))))), ?_⟩
  have hk2 : k.log2 < 20 := lt_log2 (k := 20) (by omega) (by decide) (by decide)
  refine ⟨_, rfl, Nat.zero_le _, fun p np => ?_⟩
  have s1 : Same H (upd H p (.lst [])) := same_new np
  refine ⟨.list (ns.map PyData.int), .list [], .lst (s1.seq hs) (dps_ints ns), .lst (SqL.of upd_same) .nil, shaped_ints ns, shaped_ints [], _, rfl, ?_⟩
  cases ns with
  | nil =>
    refine iteT ⟨_, rfl, k, 7919, rfl, rfl, ?_, q _ _ s1⟩
    have : (7919 : Nat).log2 < 20 := by decide
    omega
  | cons n ns =>
    have hlen : ((n :: ns).map V.int).length = ns.length + 1 := by simp
    refine iteF ?_
    have hm : k % (ns.length + 1) < ((n :: ns).map V.int).length := by rw [hlen]; exact Nat.mod_lt _ (by omega)
    have hg : ((n :: ns).map V.int)[k % (ns.length + 1)]? = some (.int ((n :: ns)[k % (ns.length + 1)]'(by simpa using hm))) := by
      rw [List.getElem?_map, List.getElem?_eq_getElem (by simpa using hm)]
      rfl
    simp only [List.length_cons] at hl
    have h3 : (k / (ns.length + 1)).log2 < 20 := lt_log2 (k := 20) (Nat.lt_of_le_of_lt (Nat.div_le_self _ _) (by omega)) (by decide) (by decide)
    have h4 : (104729 : Nat).log2 < 20 := by decide
    refine ⟨_, rfl, _, rfl, _, rfl, a, _, rfl, .inl (s1.seq hs), k, ns.length + 1, rfl, by rw [hlen], by omega, a, _, _, _, rfl, rfl, s1.seq hs, atIn hg, ?_⟩
    refine ⟨_, rfl, _, rfl, a, _, rfl, .inl (s1.seq hs), k, ns.length + 1, rfl, by rw [hlen], ⟨by omega, lt_log2 (k := 20) (by omega) (by decide) (by decide)⟩, _, 104729, rfl, rfl, by omega, _, _, rfl, rfl, q _ _ s1⟩
/-! ### _law_drawn -/
def spDrawn : Sp := fun vs H Q _ => ∃ (c : Int) (k : Nat), vs = [.int c, nI k] ∧ k ≤ 100000 ∧ ∀ d : Nat, d < 2 ^ 129 → Q (nI d) H
theorem ok__law_drawn (T : Txt K mg) : Cal P w K mg base L2.CX0 1 "_law_drawn" ["cell", "k"] spDrawn := by
  refine Cal.mk0 T.d__law_drawn T.m__law_drawn sc__law_drawn (fun _ _ _ _ _ _ us hl => match us, hl with | [_, _], _ => rfl) (fun vs H Q E h => ?_) (fun cdv A outer s H vs Q E hr h => ?_)
  · obtain ⟨c, k, rfl, _⟩ := h
    rfl
  obtain ⟨c, k, rfl, hk, q⟩ := h
  refine ⟨_, (pss_cons (ps_set (i := 2) sc__law_drawn.nd rfl (.inl rfl) (pe_op op_mod (pe_op op_add (pe_op op_mul (pv 0) pe_int) (pe_op opN_mul (pe_op opN_add (pv 1) pe_int) pe_int)) pe_int))
      (pss_cons (ps_set (i := 2) sc__law_drawn.nd rfl (.inl rfl) (pe_op opN_mod (pe_op opN_mul (pv 2) (pv 2)) pe_int))
      (pss_cons (ps_set (i := 2) sc__law_drawn.nd rfl (.inl rfl) (pe_op opN_mul (pe_op opN_mul (pe_op opN_add (pe_op opN_mod (pv 2) pe_int) pe_int) (pe_op opN_add (pe_op opN_div (pv 2) pe_int) pe_int)) (pv 2)))
      (pss_one (ps_ret (pe_op opN_mod (pv 2) pe_int)))))), ?_⟩
  have hk2 : (k + 1).log2 < 20 := lt_log2 (k := 20) (by omega) (by decide) (by decide)
  have hc2 : (1442695040888963407 : Nat).log2 < 64 := by decide +kernel
  refine ⟨_, rfl, c, 6364136223846793005, rfl, rfl, .inr ⟨by decide, by decide⟩, _, rfl, k, 1, rfl, rfl, k + 1, 1442695040888963407, rfl, rfl, by omega, _, _, rfl, rfl, _, 340282366920938463463374607431768211507, rfl, rfl, by omega, ?_⟩
  obtain ⟨m, hm, hm2⟩ : ∃ m : Nat, (c * 6364136223846793005 + (((k + 1) * 1442695040888963407 : Nat) : Int)) % 340282366920938463463374607431768211507 = (m : Int) ∧ m < 340282366920938463463374607431768211507 := by
    have h1 := Int.emod_nonneg (c * 6364136223846793005 + (((k + 1) * 1442695040888963407 : Nat) : Int)) (b := 340282366920938463463374607431768211507) (by decide)
    have h2 := Int.emod_lt_of_pos (c * 6364136223846793005 + (((k + 1) * 1442695040888963407 : Nat) : Int)) (b := 340282366920938463463374607431768211507) (by decide)
    generalize (c * 6364136223846793005 + (((k + 1) * 1442695040888963407 : Nat) : Int)) % 340282366920938463463374607431768211507 = z at h1 h2 ⊢
    exact ⟨z.toNat, (Int.toNat_of_nonneg h1).symm, by omega⟩
  have em : V.int ((c * 6364136223846793005 + (((k + 1) * 1442695040888963407 : Nat) : Int)) % 340282366920938463463374607431768211507) = nI m := by rw [hm]
  have l1 : m.log2 < 129 := lt_log2 (k := 129) (Nat.lt_trans hm2 (by decide +kernel)) (by decide) (by decide)
  have h3 : m * m % 340282366920938463463374607431768211297 < 340282366920938463463374607431768211297 := Nat.mod_lt _ (by decide)
  generalize hx : m * m % 340282366920938463463374607431768211297 = x at h3
  have l2 : x.log2 < 129 := lt_log2 (k := 129) (Nat.lt_trans h3 (by decide +kernel)) (by decide) (by decide)
  have h4 : x % 18446744073709551557 + 1 < 2 ^ 65 := by
    have := Nat.mod_lt x (y := 18446744073709551557) (by decide)
    exact Nat.lt_of_lt_of_le (Nat.succ_lt_succ this) (by decide +kernel)
  have h5 : x / 18446744073709551557 + 1 < 2 ^ 65 := by
    have : x / 18446744073709551557 < 2 ^ 64 + 200 := by
      rw [Nat.div_lt_iff_lt_mul (by decide)]
      exact Nat.lt_trans h3 (by decide +kernel)
    exact Nat.lt_of_lt_of_le (Nat.succ_lt_succ this) (by decide +kernel)
  have l4 := lt_log2 (j := 65) h4 (by decide) (by decide)
  have l5 := lt_log2 (j := 65) h5 (by decide) (by decide)
  have l6 : ((x % 18446744073709551557 + 1) * (x / 18446744073709551557 + 1)).log2 < 130 := lt_log2 (k := 130) (by
    have := Nat.mul_lt_mul'' h4 h5
    rw [← Nat.pow_add] at this
    exact this) (by decide) (by decide)
  refine ⟨nI m, congrArg some (congrArg some em), nI m, congrArg some (congrArg some em), m, m, rfl, rfl, by omega, _, 340282366920938463463374607431768211297, rfl, rfl, by omega, ?_⟩
  have ex : V.int ((m * m % 340282366920938463463374607431768211297 : Nat) : Int) = nI x := by rw [hx]
  refine ⟨nI x, congrArg some (congrArg some ex), x, 18446744073709551557, rfl, rfl, by omega, _, 1, rfl, rfl, nI x, congrArg some (congrArg some ex), x, 18446744073709551557, rfl, rfl, ⟨by decide, by decide +kernel⟩, _, 1, rfl, rfl, _, _, rfl, rfl, by omega, nI x, congrArg some (congrArg some ex), _, x, rfl, rfl, by omega, ?_⟩
  refine ⟨_, rfl, _, 340282366920938463463374607431768211507, rfl, rfl, by omega, q _ ?_⟩
  exact Nat.lt_trans (Nat.mod_lt _ (by decide)) (by decide +kernel)
/-! ### _law_primes -/
def spPrimes : Sp := fun vs H Q _ => vs = [] ∧ ∀ p, H p = none → Q (.ref p) (upd H p (.lst (primes.map nI)))
theorem ok__law_primes (T : Txt K mg) : Cal P w K mg base L2.CX0 1 "_law_primes" [] spPrimes := by
  refine Cal.mk0 T.d__law_primes T.m__law_primes sc__law_primes (fun _ _ _ _ _ _ us hl => match us, hl with | [], _ => rfl) (fun vs H Q E h => ?_) (fun cdv A outer s H vs Q E hr h => ?_)
  · obtain ⟨rfl, _⟩ := h
    rfl
  obtain ⟨rfl, q⟩ := h
  refine ⟨_, (pss_one (ps_ret (pe_lst (pa_cons pe_int (pa_cons pe_int (pa_cons pe_int (pa_cons pe_int (pa_cons pe_int (pa_cons pe_int (pa_cons pe_int (pa_cons pe_int (pa_cons pe_int (pa_cons pe_int (pa_cons pe_int (pa_cons pe_int pa_nil))))))))))))))), ?_⟩
  exact ⟨(by show 12 ≤ sizeLine; decide), fun p np => q p np⟩
end
end Fr
namespace Fr
open PySem PySem.Spec PyProof.Rows L2
section
variable {P : Program} {w : World} {K : PySem.W.Frag} {mg : Str → Option Value} {base : Heap}
/-! ### _law_some -/
def spSome : Sp := fun vs H Q _ => ∃ m k b : Nat, vs = [nI m, nI k, nI b] ∧ 1 ≤ k ∧ k ≤ 12 ∧ b ≤ 50 ∧ ∀ n H', SomeN k b n → Same H H' → Q (nI n) H'
theorem ok__law_some (T : Txt K mg) : Cal P w K mg base L2.CX0 2 "_law_some" ["more", "primes", "most"] spSome := by
  have c__law_primes := ok__law_primes (P := P) (w := w) (base := base) T
  have c__law_drawn := ok__law_drawn (P := P) (w := w) (base := base) T
  refine Cal.mk0 T.d__law_some T.m__law_some sc__law_some (fun _ _ _ _ _ _ us hl => match us, hl with | [_, _, _], _ => rfl) (fun vs H Q E h => ?_) (fun cdv A outer s H vs Q E hr h => ?_)
  · obtain ⟨m, k, b, rfl, _⟩ := h
    rfl
  obtain ⟨m, k, b, rfl, hk1, hk2, hb, q⟩ := h
  refine ⟨_, (pss_cons (ps_set (i := 3) sc__law_some.nd rfl (.inl rfl) pe_int)
      (pss_cons (ps_for PassesOwn.never rfl (pi_range1 (by rfl) T.b_range (pa_cons (pe_op opN_mod (pv 0) (pe_op opN_add (pv 2) pe_int)) pa_nil)) (pg_name (i := 4) sc__law_some.nd rfl (.inl rfl)) (pss_one (ps_set (i := 3) sc__law_some.nd rfl (.inl rfl) (pe_op opN_mul (pv 3) (pe_ix (ixL rfl) (pe_cal0 c__law_primes (hr.mono (by decide)) (by rfl) pass0) (pe_op opN_mod (pe_op opN_div (pe_cal c__law_drawn (hr.mono (by decide)) (by rfl) pass0 (pa_cons (pv 0) (pa_cons (pv 4) pa_nil))) pe_int) (pv 1)) (fun _ _ => rfl))))))
      (pss_one (ps_ret (pv 3))))), ?_⟩
  have hmod : m % (b + 1) < b + 1 := Nat.mod_lt _ (by omega)
  refine ⟨_, rfl, _, rfl, b, 1, rfl, rfl, m, b + 1, rfl, rfl, by omega, ((m % (b + 1) : Nat) : Int), rfl, by omega, by omega, ?_⟩
  have en : ((m % (b + 1) : Nat) : Int).toNat = m % (b + 1) := by omega
  rw [en]
  refine for_it walk_nats (fun i σ H3 => (∃ as y, σ = [some (nI m), some (nI k), some (nI b), some (nI (make as)), y] ∧ as.length = 12 ∧ as.sum = i ∧ ∀ j, k ≤ j → j < 12 → as[j]? = some 0) ∧ Same H H3) ?_ (fun _ _ _ _ _ => trivial) ?_ ?_
  · refine ⟨⟨List.replicate 12 0, none, ?_, by decide, by decide, fun j _ hj => ?_⟩, Same.refl H⟩
    · rw [make_zero]
      rfl
    · rw [List.getElem?_replicate, if_pos hj]
  · rintro i x σ H3 H4 hi ⟨⟨as, y, rfl, hl, hsum, hz⟩, sm⟩ ⟨rfl, rfl⟩
    refine ⟨_, rfl, rfl, fun p np => ⟨_, rfl, _, rfl, (m : Int), i, rfl, by omega, fun d _ => ?_⟩⟩
    have hdk : d / 8 % k < k := Nat.mod_lt _ (by omega)
    have h12 : d / 8 % k < 12 := by omega
    refine ⟨d, 8, rfl, rfl, ⟨by decide, by decide⟩, _, rfl, d / 8, k, rfl, rfl, by omega, ?_⟩
    obtain ⟨ix, hix⟩ : ∃ ix, d / 8 % k = ix := ⟨_, rfl⟩
    rw [hix] at hdk h12
    have hp : primes[ix]? = some (primes[ix]'(by exact h12)) := List.getElem?_eq_getElem (by exact h12)
    have hpm : (primes.map nI)[ix]? = some (nI (primes[ix]'(by exact h12))) := by
      rw [List.getElem?_map, hp]
      rfl
    have ha : as[ix]? = some (as[ix]'(by omega)) := List.getElem?_eq_getElem (by omega)
    have hpl : primes[ix]'(by exact h12) < 2 ^ 6 := primes_small _ (List.getElem_mem _)
    have hml : make as < 2 ^ 301 := Nat.lt_of_le_of_lt (make_le as) (Nat.pow_lt_pow_right (by decide) (by omega))
    have l1 := lt_log2 (j := 6) hpl (by decide) (by decide)
    have l2 := lt_log2 (j := 301) hml (by decide) (by decide)
    refine ⟨p, _, ix, _, rfl, congrArg nI hix, SqL.of upd_same, atIn hpm, make as, primes[ix]'(by exact h12), rfl, rfl, by omega, ⟨as.set ix (as[ix]'(by omega) + 1), some (nI i), ?_, by rw [List.length_set]; exact hl, by rw [sum_set1 ha, hsum], fun j hj1 hj2 => ?_⟩, sm.trans (same_new np)⟩
    · rw [make_set hp ha]
      rfl
    · rw [List.getElem?_set_ne (by omega)]
      exact hz j hj1 hj2
  · rintro σ H3 ⟨⟨as, y, rfl, hl, hsum, hz⟩, sm⟩
    exact ⟨_, rfl, q _ H3 ⟨as, hl, rfl, by omega, hz⟩ sm⟩
end
end Fr
namespace Fr
open PySem PySem.Spec PyProof.Rows L2
section
variable {P : Program} {w : World} {K : PySem.W.Frag} {mg : Str → Option Value} {base : Heap}
/-! ### _law_fraction -/
def spFraction : Sp := fun vs H Q _ => ∃ m k : Nat, vs = [nI m, nI k] ∧ 1 ≤ k ∧ k ≤ 12 ∧ ∀ (f : Nat × Nat) (p : Addr) H', FracN k f → H p = none → Same H H' → H' p = some (.tup [nI f.1, nI f.2]) → Q (.ref p) H'
/-- rooms ahead of place i have nothing in common -/
structure Apart (k b c i : Nat) (as bs : List Nat) : Prop where
  la : as.length = 12
  lb : bs.length = 12
  sa : as.sum ≤ b
  sb : bs.sum ≤ c
  za : ∀ j, k ≤ j → j < 12 → as[j]? = some 0
  zb : ∀ j, k ≤ j → j < 12 → bs[j]? = some 0
  ap : ∀ j, j < i → as[j]? = some 0 ∨ bs[j]? = some 0
theorem set_zero {as : List Nat} {i j a : Nat} (h : as[j]? = some 0) (ha : as[i]? = some (a + 1)) : (as.set i a)[j]? = some 0 := by
  by_cases e : j = i
  · subst e
    rw [h] at ha
    cases ha
  · rw [List.getElem?_set_ne (Ne.symm e)]
    exact h
theorem Apart.down {k b c i a d : Nat} {as bs : List Nat} (h : Apart k b c i as bs) (ha : as[i]? = some (a + 1)) (hb : bs[i]? = some (d + 1)) : Apart k b c i (as.set i a) (bs.set i d) where
  la := by rw [List.length_set]; exact h.la
  lb := by rw [List.length_set]; exact h.lb
  sa := by have := sum_dec ha; have := h.sa; omega
  sb := by have := sum_dec hb; have := h.sb; omega
  za := fun j h1 h2 => set_zero (h.za j h1 h2) ha
  zb := fun j h1 h2 => set_zero (h.zb j h1 h2) hb
  ap := fun j hj => (h.ap j hj).elim (fun z => .inl (set_zero z ha)) fun z => .inr (set_zero z hb)
theorem Apart.up {k b c i : Nat} {as bs : List Nat} (h : Apart k b c i as bs) (hz : as[i]? = some 0 ∨ bs[i]? = some 0) : Apart k b c (i + 1) as bs where
  la := h.la
  lb := h.lb
  sa := h.sa
  sb := h.sb
  za := h.za
  zb := h.zb
  ap := fun j hj => by
    by_cases e : j = i
    · subst e
      exact hz
    · exact h.ap j (by omega)
theorem prime_log {p : Nat} (h : p ∈ primes) : p.log2 < 9000 := lt_log2 (k := 6) (primes_small p h) (by decide) (by decide)
theorem ok__law_fraction (T : Txt K mg) : Cal P w K mg base L2.CX0 3 "_law_fraction" ["more", "primes"] spFraction := by
  have c__law_primes := ok__law_primes (P := P) (w := w) (base := base) T
  have c__law_drawn := ok__law_drawn (P := P) (w := w) (base := base) T
  have c__law_some := ok__law_some (P := P) (w := w) (base := base) T
  refine Cal.mk0 T.d__law_fraction T.m__law_fraction sc__law_fraction (fun _ _ _ _ _ _ us hl => match us, hl with | [_, _], _ => rfl) (fun vs H Q E h => ?_) (fun cdv A outer s H vs Q E hr h => ?_)
  · obtain ⟨m, k, rfl, _⟩ := h
    rfl
  obtain ⟨m, k, rfl, hk1, hk2, q⟩ := h
  refine ⟨_, (pss_cons (ps_par (i := 2) (j := 3) (by rfl) sc__law_fraction.nd rfl rfl (by decide) rfl rfl (pa_cons (pe_cal c__law_some (hr.mono (by decide)) (by rfl) pass0 (pa_cons (pe_cal c__law_drawn (hr.mono (by decide)) (by rfl) pass0 (pa_cons (pv 0) (pa_cons pe_int pa_nil))) (pa_cons (pv 1) (pa_cons pe_int pa_nil)))) (pa_cons (pe_cal c__law_some (hr.mono (by decide)) (by rfl) pass0 (pa_cons (pe_cal c__law_drawn (hr.mono (by decide)) (by rfl) pass0 (pa_cons (pv 0) (pa_cons pe_int pa_nil))) (pa_cons (pv 1) (pa_cons pe_int pa_nil)))) pa_nil)) (by rfl))
      (pss_cons (ps_for PassesOwn.never rfl (piL rfl (pe_cal0 c__law_primes (hr.mono (by decide)) (by rfl) pass0)) (pg_name (i := 4) sc__law_fraction.nd rfl (.inl rfl)) (pss_one (ps_while PassesOwn.never (PW.pt (pw_and (pt_cmpR opN_eq (pe_op opN_mod (pv 2) (pv 4)) pe_int (nomark _)) (pw_and1 (pt_cmpR opN_eq (pe_op opN_mod (pv 3) (pv 4)) pe_int (nomark _))))) (pss_one (ps_par (i := 2) (j := 3) (by rfl) sc__law_fraction.nd rfl rfl (by decide) rfl rfl (pa_cons (pe_op opN_div (pv 2) (pv 4)) (pa_cons (pe_op opN_div (pv 3) (pv 4)) pa_nil)) (by rfl))))))
      (pss_one (ps_ret (pe_tup (pa_cons (pv 2) (pa_cons (pv 3) pa_nil))))))), ?_⟩
  refine ⟨_, rfl, m, 1, rfl, by decide, fun d1 _ => ⟨_, rfl, d1, k, 2, rfl, hk1, hk2, by decide, fun t H1 ht s1 => ?_⟩⟩
  refine ⟨_, rfl, m, 2, rfl, by decide, fun d2 _ => ⟨_, rfl, d2, k, 3, rfl, hk1, hk2, by decide, fun u H2 hu s2 => ⟨_, _, rfl, ?_⟩⟩⟩
  obtain ⟨as0, la, rfl, sa, za⟩ := ht
  obtain ⟨bs0, lb, rfl, sb, zb⟩ := hu
  have A0 : Apart k 2 3 0 as0 bs0 := ⟨la, lb, sa, sb, za, zb, fun j hj => absurd hj (by omega)⟩
  refine ⟨rfl, fun o no => ⟨o, rfl, ⟨_, SqL.of upd_same⟩, ?_⟩⟩
  refine for_it (walk_list (xs := primes.map nI)) (fun i σ H3 => (∃ as bs y, σ = [some (nI m), some (nI k), some (nI (make as)), some (nI (make bs)), y] ∧ Apart k 2 3 i as bs) ∧ H3 o = some (.lst (primes.map nI)) ∧ Same H H3) ⟨⟨as0, bs0, none, rfl, A0⟩, upd_same, (s1.trans s2).trans (same_new no)⟩ (fun i σ H3 _ p => SqL.of p.2.1) ?_ ?_
  · rintro i x σ H3 H4 hi ⟨⟨as, bs, y, rfl, hA⟩, ho, sm⟩ ⟨rfl, hx⟩
    rw [List.getElem?_map] at hx
    obtain ⟨p, hp, rfl⟩ := Option.map_eq_some_iff.mp hx
    have hpm : p ∈ primes := List.mem_of_getElem? hp
    have hp2 : 2 ≤ p := primes_two p hpm
    have hi12 : i < 12 := (List.getElem?_eq_some_iff.mp hp).1
    refine ⟨fun μ σ H5 => ∃ as bs, σ = [some (nI m), some (nI k), some (nI (make as)), some (nI (make bs)), some (nI p)] ∧ H5 = H4 ∧ Apart k 2 3 i as bs ∧ μ = as.sum, ⟨_, as, bs, rfl, rfl, hA, rfl⟩, ?_⟩
    rintro μ σ H5 ⟨as, bs, rfl, rfl, hA, rfl⟩
    have ga : as[i]? = some (as[i]'(by rw [hA.la]; exact hi12)) := List.getElem?_eq_getElem _
    have gb : bs[i]? = some (bs[i]'(by rw [hA.lb]; exact hi12)) := List.getElem?_eq_getElem _
    generalize as[i]'(by rw [hA.la]; exact hi12) = a at ga
    generalize bs[i]'(by rw [hA.lb]; exact hi12) = b at gb
    refine ⟨_, rfl, _, rfl, make as, p, rfl, rfl, by omega, _, 0, rfl, rfl, _, rfl, ?_⟩
    have out : (as[i]? = some 0 ∨ bs[i]? = some 0) → ∃ as' bs' y, [some (nI m), some (nI k), some (nI (make as)), some (nI (make bs)), some (nI p)] = [some (nI m), some (nI k), some (nI (make as')), some (nI (make bs')), y] ∧ Apart k 2 3 (i + 1) as' bs' := fun hz => ⟨as, bs, _, rfl, hA.up hz⟩
    by_cases h1 : make as % p = 0
    · rw [decide_eq_true h1]
      refine iteT ⟨_, rfl, _, rfl, make bs, p, rfl, rfl, by omega, _, 0, rfl, rfl, _, rfl, ?_⟩
      by_cases h2 : make bs % p = 0
      · rw [decide_eq_true h2]
        have a0 := (make_mod hA.la hp ga).mp h1
        have b0 := (make_mod hA.lb hp gb).mp h2
        obtain ⟨a', rfl⟩ : ∃ a', a = a' + 1 := ⟨a - 1, by omega⟩
        obtain ⟨b', rfl⟩ : ∃ b', b = b' + 1 := ⟨b - 1, by omega⟩
        refine iteT ⟨fun σ' H' => σ' = [some (nI m), some (nI k), some (nI (make (as.set i a'))), some (nI (make (bs.set i b'))), some (nI p)] ∧ H' = H5, ?_, ?_⟩
        · rintro σ' H' ⟨h3, h4⟩
          exact ⟨_, by have := sum_dec ga; omega, _, _, h3, h4, hA.down ga gb, rfl⟩
        · refine ⟨_, rfl, _, rfl, make as, p, rfl, rfl, ⟨by omega, prime_log hpm⟩, _, rfl, _, rfl, make bs, p, rfl, rfl, ⟨by omega, prime_log hpm⟩, _, _, rfl, ?_⟩
          refine ⟨?_, rfl⟩
          rw [← make_div hp ga, ← make_div hp gb]
          rfl
      · rw [decide_eq_false h2]
        refine iteF ⟨out (.inr ?_), ho, sm⟩
        rcases Nat.eq_zero_or_pos b with z | z
        · rw [gb, z]
        · exact absurd ((make_mod hA.lb hp gb).mpr z) h2
    · rw [decide_eq_false h1]
      refine iteF (iteF ⟨out (.inl ?_), ho, sm⟩)
      rcases Nat.eq_zero_or_pos a with z | z
      · rw [ga, z]
      · exact absurd ((make_mod hA.la hp ga).mpr z) h1
  · rintro σ H3 ⟨⟨as, bs, y, rfl, hA⟩, ho, sm⟩
    refine ⟨_, rfl, _, rfl, (by show 2 ≤ sizeLine; decide), fun p np => ?_⟩
    refine q (make as, make bs) p _ ⟨⟨as, hA.la, rfl, hA.sa, hA.za⟩, ⟨bs, hA.lb, rfl, hA.sb, hA.zb⟩, ?_⟩ (sm.free np) (sm.trans (same_new np)) upd_same
    refine make_cop fun i => ?_
    by_cases hi : i < 12
    · exact (hA.ap i hi).elim .inl fun z => .inr (.inl z)
    · exact .inr (.inr (by omega))
/-! ### _law_program -/
def spProgram (K : PySem.W.Frag) : Sp := fun vs H Q _ => ∃ m k : Nat, vs = [nI m, nI k] ∧ 1 ≤ k ∧ k ≤ 12 ∧ ∀ (l : Prog) (p : Addr) (xs : List V) H', (∀ f ∈ l, FracN k f) → l.length ≤ 6 → H p = none → Same H H' → H' p = some (.lst xs) → DpAll K H' xs (l.map fracD) → Q (.ref p) H'
theorem fracs_of {k : Nat} : ∀ {ds : List PyData}, (∀ d ∈ ds, ∃ f, d = fracD f ∧ FracN k f) → ∃ l : Prog, ds = l.map fracD ∧ ∀ f ∈ l, FracN k f
  | [], _ => ⟨[], rfl, fun f h => (nomatch h)⟩
  | d :: ds, h => by
    obtain ⟨f, rfl, hf⟩ := h d List.mem_cons_self
    obtain ⟨l, rfl, hl⟩ := fracs_of (ds := ds) fun e he => h e (List.mem_cons_of_mem _ he)
    refine ⟨f :: l, rfl, fun g hg => ?_⟩
    rcases List.mem_cons.mp hg with e | e
    · rw [e]
      exact hf
    · exact hl g e
theorem ok__law_program (T : Txt K mg) : Cal P w K mg base L2.CX0 4 "_law_program" ["more", "primes"] (spProgram K) := by
  have c__law_drawn := ok__law_drawn (P := P) (w := w) (base := base) T
  have c__law_fraction := ok__law_fraction (P := P) (w := w) (base := base) T
  refine Cal.mk0 T.d__law_program T.m__law_program sc__law_program (fun _ _ _ _ _ _ us hl => match us, hl with | [_, _], _ => rfl) (fun vs H Q E h => ?_) (fun cdv A outer s H vs Q E hr h => ?_)
  · obtain ⟨m, k, rfl, _⟩ := h
    rfl
  obtain ⟨m, k, rfl, hk1, hk2, q⟩ := h
  refine ⟨_, (pss_cons (ps_setLc (i := 2) (own := [("j", 3)]) rfl sc__law_program.nd rfl rfl (sw_true rfl rfl rfl (by decide +kernel)) (pi_range1 (by rfl) T.b_range (pa_cons (pe_op opN_mod (pv 0) (pe_ix (ixL rfl) (pe_lst (pa_cons pe_int (pa_cons pe_int pa_nil))) (pe_op opN_mod (pe_op opN_div (pv 0) pe_int) pe_int) (fun _ _ => rfl))) pa_nil)) (blkOk_by (own := [("j", 3)]) (N := ["more", "primes", "found", "j", "one"]) (sc := defScope s__law_program) (by decide +kernel)) (fun _ _ _ _ _ => (pg_name (i := 3) sc__law_program.nd rfl (.inl rfl))) (fun _ _ _ _ _ => pts_nil) (fun _ _ _ _ _ => (pe_cal c__law_fraction (hr.mono (by decide)) (by rfl) pass0 (pa_cons (pe_cal c__law_drawn (hr.mono (by decide)) (by rfl) pass0 (pa_cons (pv 0) (pa_cons (pv 3) pa_nil))) (pa_cons (pv 1) pa_nil)))))
      (pss_one (ps_ret (pe_lc (own := [("one", 4)]) rfl sc__law_program.nd (piL rfl (pv 2)) (blkOk_by (own := [("one", 4)]) (N := ["more", "primes", "found", "j", "one"]) (sc := defScope s__law_program) (by decide +kernel)) (fun _ _ _ _ _ => (pg_name (i := 4) sc__law_program.nd rfl (.inl rfl))) (fun _ _ _ _ _ => (pts_one (PW.pt (pw_or (pt_cmpR opN_gt (pe_ix (ixT rfl) (pv 4) pe_int (fun _ _ => rfl)) pe_int (nomark _)) (pw_or1 (pt_cmpR opN_eq (pe_op opN_mod (pe_op opN_div (pv 0) pe_int) pe_int) pe_int (nomark _))))))) (fun _ _ _ _ _ => (pv 4)))))), ?_⟩
  have h8 : (8 : Nat).log2 < 9000 := by decide
  have h64 : (64 : Nat).log2 < 9000 := by decide
  obtain ⟨c, hc, hc0, hc7⟩ : ∃ c : Nat, ([nI 4, nI 7])[m / 8 % 2]? = some (nI c) ∧ 0 < c ∧ c ≤ 7 := by
    have : m / 8 % 2 < 2 := Nat.mod_lt _ (by decide)
    match m / 8 % 2, this with
    | 0, _ => exact ⟨4, rfl, by decide, by decide⟩
    | 1, _ => exact ⟨7, rfl, by decide, by decide⟩
  refine ⟨_, rfl, (by show 2 ≤ sizeLine; decide), fun p4 np4 => ⟨_, rfl, m, 8, rfl, rfl, ⟨by decide, h8⟩, _, 2, rfl, rfl, by omega, p4, _, _, _, rfl, rfl, SqL.of upd_same, atIn hc, m, c, rfl, rfl, hc0, _, rfl, ?_, ?_, ?_⟩⟩
  · omega
  · have := Nat.mod_lt m hc0
    omega
  have s1 : Same H (upd H p4 (.lst [nI 4, nI 7])) := same_new np4
  intro D hD
  have en : (((m % c : Nat) : Int)).toNat = m % c := by omega
  have hmc : m % c ≤ 6 := by have := Nat.mod_lt m hc0; omega
  rw [en]
  refine lc_ex (K := K) walk_nats hD (by omega) (fun _ _ => trivial) (fun d => ∃ f, d = fracD f ∧ FracN k f) (fun d ⟨f, e, _⟩ => by rw [e]; exact noL_frac f) ?_ ?_
  · rintro i x H' H'' A B hi s' ⟨rfl, rfl⟩ hA hB
    refine ⟨rfl, _, rfl, _, rfl, (m : Int), i, rfl, by omega, fun d _ => ⟨_, rfl, d, k, rfl, hk1, hk2, fun f p H4 hf np s4 hp => ?_⟩⟩
    exact hA _ (fracD f) H4 ⟨f, rfl, hf⟩ s4 (.tup (SqT.of hp) (.cons (.int _) (.cons (.int _) .nil)))
  · intro H2 ys ds s2 hD2 hA hS hl
    have s12 := s1.trans s2
    refine ⟨_, rfl, D, rfl, ⟨_, SqL.of hD2⟩, fun D2 nD2 => ?_⟩
    have hyl := dps_len hA
    refine lc_ex (K := K) walk_list nD2 (by omega) (fun H' s' => s'.seq (SqL.of hD2)) (fun d => ∃ f, d = fracD f ∧ FracN k f) (fun d ⟨f, e, _⟩ => by rw [e]; exact noL_frac f) ?_ ?_
    · rintro i x H' H'' A B hi s' ⟨rfl, hx⟩ hA' hB
      obtain ⟨d, hd, hdp⟩ := dps_at2 (same_dps s' hA) hx
      obtain ⟨f, rfl, hf⟩ := hS d (List.mem_of_getElem? hd)
      obtain ⟨b, rfl, hb⟩ := frac_at hdp
      refine ⟨rfl, _, rfl, b, _, 1, _, rfl, rfl, hb, atI1, f.2, 1, rfl, rfl, _, rfl, ?_⟩
      have yes : tVar 4 [some (nI m), some (nI k), some (.ref D), none, some (.ref b)] H'' A := ⟨_, rfl, hA' _ _ _ ⟨f, rfl, hf⟩ (Same.refl _) hdp⟩
      by_cases h1 : 1 < f.2
      · rw [decide_eq_true h1]
        exact iteT (iteT yes)
      · rw [decide_eq_false h1]
        refine iteF ⟨_, rfl, m, 64, rfl, rfl, ⟨by decide, h64⟩, _, 4, rfl, rfl, by omega, _, 0, rfl, rfl, _, rfl, ?_⟩
        exact ite2 (fun _ => yes) (fun _ => hB _ (Same.refl _))
    · intro H3 zs es s3 hD3 hA3 hS3 hl3
      obtain ⟨l, rfl, hlF⟩ := fracs_of hS3
      rw [List.length_map] at hl3
      exact q l D2 zs H3 hlF (by omega) (s12.free nD2) (s12.trans s3) hD3 hA3
/-! ### _law_step -/
def spLawStep (K : PySem.W.Frag) : Sp := fun vs H Q _ => ∃ (v : V) (l : Prog) (n : Nat), vs = [v, nI n] ∧ Dp K H v (progD l) ∧ (∀ p ∈ l, 0 < p.2 ∧ p.1 < 2 ^ 20 ∧ p.2 < 2 ^ 20) ∧ n < 2 ^ 100000 ∧
  (lawStep l n = none → ∀ H', Same H H' → Q .non H') ∧ ∀ i m, lawStep l n = some (i, m) → ∀ p H', H p = none → Same H H' → H' p = some (.tup [nI i, nI m]) → Q (.ref p) H'
theorem lawStep_some {l : Prog} {n i : Nat} (hi : i < l.length) (h : n * (l[i]).1 % (l[i]).2 = 0) (hb : ∀ (j : Nat) (hj : j < l.length), j < i → n * (l[j]).1 % (l[j]).2 ≠ 0) : lawStep l n = some (i, n * (l[i]).1 / (l[i]).2) := by
  unfold lawStep
  have e : (l.findIdx? fun p => decide (n * p.1 % p.2 = 0)) = some i := by
    rw [List.findIdx?_eq_some_iff_getElem]
    refine ⟨hi, by simpa using h, fun j hj => ?_⟩
    have := hb j (by omega) hj
    simpa using this
  rw [e, Option.map_some, unAt_eq hi, upAt_eq hi]
theorem lawStep_none {l : Prog} {n : Nat} (h : ∀ (j : Nat) (hj : j < l.length), n * (l[j]).1 % (l[j]).2 ≠ 0) : lawStep l n = none := by
  unfold lawStep
  have e : (l.findIdx? fun p => decide (n * p.1 % p.2 = 0)) = none := by
    rw [List.findIdx?_eq_none_iff]
    intro p hp
    obtain ⟨j, hj, e⟩ := List.mem_iff_getElem.mp hp
    have := h j hj
    rw [e] at this
    simpa using this
  rw [e]
  rfl
end
end Fr
namespace Fr
open PySem PySem.Spec PyProof.Rows L2 LamX
section
variable {P : Program} {w : World} {K : PySem.W.Frag} {mg : Str → Option Value} {base : Heap}
abbrev words : List Str := []
abbrev lams : List Str := ["law"]
end
end Fr
namespace Fr
open PySem PySem.Spec PyProof.Rows L2
theorem rooms_getD (n i : Nat) (hi : i < 12) : ((rooms n).map nI).getD i .non = nI (rm n i) := by
  unfold rm
  rw [List.getD_eq_getElem?_getD, List.getD_eq_getElem?_getD, List.getElem?_map, List.getElem?_eq_getElem (by rw [rooms_len]; exact hi)]
  rfl
theorem rm_le {n : Nat} (h : isNum n = true) (r : Nat) : rm n r ≤ 400 := by
  unfold rm
  rw [List.getD_eq_getElem?_getD]
  cases e : (rooms n)[r]? with
  | none => exact Nat.zero_le _
  | some a => exact (isNum_iff.mp h).2.2 a (List.mem_of_getElem? e)
theorem row22 {n u i : Nat} (hi : i < 12) : Zn.rowAt i [(rooms n).map nI, (rooms u).map nI] = [nI (rm n i), nI (rm u i)] := by
  show [((rooms n).map nI).getD i .non, ((rooms u).map nI).getD i .non] = _
  rw [rooms_getD n i hi, rooms_getD u i hi]
end Fr
namespace Fr
open PySem PySem.Spec PyProof.Rows L2
/-! ### data that may be held against one another -/
def Shp (k : Nat) (d : PyData) : Prop := d.canLay0 = true ∧ d.depth ≤ k
theorem Shp.mono {k j : Nat} {d : PyData} (h : Shp k d) (hk : k ≤ j) : Shp j d := ⟨h.1, Nat.le_trans h.2 hk⟩
theorem Shp.int {i : Int} {k : Nat} : Shp k (.int i) := ⟨by simp [PyData.canLay0], by simp [PyData.depth]⟩
theorem Shp.bool {i : Bool} {k : Nat} : Shp k (.bool i) := ⟨by simp [PyData.canLay0], by simp [PyData.depth]⟩
theorem Shp.non {k : Nat} : Shp k .none := ⟨by simp [PyData.canLay0], by simp [PyData.depth]⟩
theorem Shp.str {x : Str} {k : Nat} (h : PyData.strOk x = true) : Shp k (.str x) := ⟨by simp [PyData.canLay0, h], by simp [PyData.depth]⟩
theorem shp_all {k : Nat} : ∀ {ds : List PyData}, (∀ d ∈ ds, Shp k d) → PyData.canLayAll0 ds = true ∧ PyData.depthAll ds ≤ k
  | [], _ => ⟨by simp [PyData.canLayAll0], by simp [PyData.depthAll]⟩
  | d :: ds, h => by
    have h1 := h d List.mem_cons_self
    have h2 := shp_all fun e he => h e (List.mem_cons_of_mem _ he)
    refine ⟨?_, ?_⟩
    · simp only [PyData.canLayAll0, h1.1, h2.1, Bool.and_self]
    · simp only [PyData.depthAll]
      exact Nat.max_le.mpr ⟨h1.2, h2.2⟩
theorem Shp.lst {k : Nat} {ds : List PyData} (h : ∀ d ∈ ds, Shp k d) : Shp (k + 1) (.list ds) := by
  have := shp_all h
  exact ⟨by simp only [PyData.canLay0]; exact this.1, by simp only [PyData.depth]; exact Nat.succ_le_succ this.2⟩
theorem Shp.tup {k : Nat} {ds : List PyData} (h : ∀ d ∈ ds, Shp k d) : Shp (k + 1) (.tuple ds) := by
  have := shp_all h
  exact ⟨by simp only [PyData.canLay0]; exact this.1, by simp only [PyData.depth]; exact Nat.succ_le_succ this.2⟩
theorem Shp.ok {k : Nat} {d : PyData} (h : Shp k d) (hk : k ≤ 64) : SeqAt.shaped d = true := by
  unfold SeqAt.shaped
  rw [h.1, decide_eq_true (Nat.le_trans h.2 hk)]
  rfl
theorem Shp.nil {k : Nat} : ∀ d ∈ ([] : List PyData), Shp k d := fun _ h => nomatch h
theorem Shp.cons {k : Nat} {d : PyData} {ds : List PyData} (h : Shp k d) (t : ∀ e ∈ ds, Shp k e) : ∀ e ∈ d :: ds, Shp k e := fun e he => by
  rcases List.mem_cons.mp he with rfl | z
  · exact h
  · exact t e z
theorem Shp.map {α : Type} {k : Nat} {f : α → PyData} {l : List α} (h : ∀ a ∈ l, Shp k (f a)) : ∀ e ∈ l.map f, Shp k e := fun e he => by
  obtain ⟨a, ha, rfl⟩ := List.mem_map.mp he
  exact h a ha
theorem Shp.opt {k : Nat} (o : Option Nat) : Shp k (optD o) := by
  cases o with
  | none => exact .non
  | some a => exact .int
theorem Shp.frac {k : Nat} (f : Nat × Nat) : Shp (k + 1) (fracD f) := .tup (.cons .int (.cons .int .nil))
theorem Shp.prog {k : Nat} (l : Prog) : Shp (k + 2) (progD l) := .lst (.map fun f _ => .frac f)
theorem Shp.nats {k : Nat} (ns : List Nat) : ∀ e ∈ ns.map nD, Shp k e := .map fun _ _ => .int
/-- held against the same -/
def rNeS (K : PySem.W.Frag) : R2 := fun x y H Q => ∃ d, Dp K H x d ∧ Dp K H y d ∧ Shp 60 d ∧ Q (.bl false) H
def rEqS (K : PySem.W.Frag) : R2 := fun x y H Q => ∃ d, Dp K H x d ∧ Dp K H y d ∧ Shp 60 d ∧ Q (.bl true) H
section
variable {X : Cx} {K : PySem.W.Frag}
theorem neS (e : X.K = K) (hu : X.A.units + 64 < cLine) : OpR X (compareOp .NotEq) (rNeS K) := by
  intro pins s σ H x y v u Q I rx ry h
  obtain ⟨d, h1, h2, h3, q⟩ := h
  refine neD e hu pins s σ H x y v u Q I rx ry ⟨d, d, h1, h2, h3.ok (by decide), h3.ok (by decide), ?_⟩
  rw [SeqAt.eqv_refl _ h3.1]
  exact q
theorem eqS (e : X.K = K) (hu : X.A.units + 64 < cLine) : OpR X (compareOp .Eq) (rEqS K) := by
  intro pins s σ H x y v u Q I rx ry h
  obtain ⟨d, h1, h2, h3, q⟩ := h
  refine eqD e hu pins s σ H x y v u Q I rx ry ⟨d, d, h1, h2, h3.ok (by decide), h3.ok (by decide), ?_⟩
  rw [SeqAt.eqv_refl _ h3.1]
  exact q
/-- a list held against the empty one -/
def rNeE (K : PySem.W.Frag) : R2 := fun x y H Q => ∃ ds, Dp K H x (.list ds) ∧ Dp K H y (.list []) ∧ (∀ d ∈ ds, Shp 50 d) ∧ Q (.bl (!ds.isEmpty)) H
theorem neE (e : X.K = K) (hu : X.A.units + 64 < cLine) : OpR X (compareOp .NotEq) (rNeE K) := by
  intro pins s σ H x y v u Q I rx ry h
  obtain ⟨ds, h1, h2, h3, q⟩ := h
  refine neD e hu pins s σ H x y v u Q I rx ry ⟨_, _, h1, h2, (Shp.lst h3).ok (by decide), (Shp.lst (k := 0) Shp.nil).ok (by decide), ?_⟩
  cases ds with
  | nil => exact q
  | cons d ds => exact q
end
theorem row33 {n u v i : Nat} (hi : i < 12) : Zn.rowAt i [(rooms n).map nI, (rooms u).map nI, (rooms v).map nI] = [nI (rm n i), nI (rm u i), nI (rm v i)] := by
  show [((rooms n).map nI).getD i .non, ((rooms u).map nI).getD i .non, ((rooms v).map nI).getD i .non] = _
  rw [rooms_getD n i hi, rooms_getD u i hi, rooms_getD v i hi]
def rEqE (K : PySem.W.Frag) : R2 := fun x y H Q => ∃ ds, Dp K H x (.list ds) ∧ Dp K H y (.list []) ∧ (∀ d ∈ ds, Shp 50 d) ∧ Q (.bl ds.isEmpty) H
theorem eqE {X : Cx} {K : PySem.W.Frag} (e : X.K = K) (hu : X.A.units + 64 < cLine) : OpR X (compareOp .Eq) (rEqE K) := by
  intro pins s σ H x y v u Q I rx ry h
  obtain ⟨ds, h1, h2, h3, q⟩ := h
  refine eqD e hu pins s σ H x y v u Q I rx ry ⟨_, _, h1, h2, (Shp.lst h3).ok (by decide), (Shp.lst (k := 0) Shp.nil).ok (by decide), ?_⟩
  cases ds with
  | nil => exact q
  | cons d ds => exact q
theorem maxN_rm {x : Nat} : 400 < maxN (rooms x) ↔ ∃ r, r < 12 ∧ 400 < rm x r := by
  constructor
  · intro h
    have h1 := maxN_mem (rooms_ne x)
    obtain ⟨r, hr, e⟩ := List.mem_iff_getElem.mp h1
    rw [rooms_len] at hr
    refine ⟨r, hr, ?_⟩
    unfold rm
    rw [List.getD_eq_getElem?_getD, List.getElem?_eq_getElem (by rw [rooms_len]; exact hr), e]
    exact h
  · rintro ⟨r, hr, h⟩
    unfold rm at h
    rw [List.getD_eq_getElem?_getD, List.getElem?_eq_getElem (by rw [rooms_len]; exact hr)] at h
    exact Nat.lt_of_lt_of_le h (maxN_le (List.getElem_mem _))
theorem sum_ints : ∀ ns : List Nat, (ns.map fun (x : Nat) => (x : Int)).sum = ((ns.sum : Nat) : Int)
  | [] => rfl
  | n :: ns => by
    rw [List.map_cons, List.sum_cons, List.sum_cons, sum_ints ns]
    omega
theorem dp_tup {K : PySem.W.Frag} {H : Hp} {v : V} {ds : List PyData} (h : Dp K H v (.tuple ds)) : ∃ (a : Addr) (xs : List V), v = .ref a ∧ SqT K H a xs ∧ DpAll K H xs ds := by
  cases h with
  | @tup a xs _ hs ha => exact ⟨a, xs, rfl, hs, ha⟩
theorem dp_lst {K : PySem.W.Frag} {H : Hp} {v : V} {ds : List PyData} (h : Dp K H v (.list ds)) : ∃ (a : Addr) (xs : List V), v = .ref a ∧ SqL K H a xs ∧ DpAll K H xs ds := by
  cases h with
  | @lst a xs _ hs ha => exact ⟨a, xs, rfl, hs, ha⟩
theorem dp_two {K : PySem.W.Frag} {H : Hp} {v : V} {d e : PyData} (h : Dp K H v (.tuple [d, e])) : ∃ (a : Addr) (x y : V), v = .ref a ∧ SqT K H a [x, y] ∧ Dp K H x d ∧ Dp K H y e := by
  obtain ⟨a, xs, rfl, hs, ha⟩ := dp_tup h
  cases ha with
  | cons h1 h2 => cases h2 with
    | cons h3 h4 => cases h4 with
      | nil => exact ⟨a, _, _, rfl, hs, h1, h3⟩
theorem dp_optV {K : PySem.W.Frag} {H : Hp} {v : V} {o : Option Nat} (h : Dp K H v (optD o)) : v = optV o := by
  cases o with
  | none => cases h; rfl
  | some a => cases h; rfl
theorem rm_one (r : Nat) : rm 1 r = 0 := by
  have := rm_pow (a := 2) (by decide) r 0
  simpa using this
theorem count_yes {m b : Nat} (h : m ≤ b) : isCountD 0 b (nD m) = true := by
  show (decide ((0 : Int) ≤ (m : Int)) && decide ((m : Int) ≤ (b : Int))) = true
  rw [decide_eq_true (by omega), decide_eq_true (by omega)]
  rfl
/-- a written list, new -/
def tDatN (K : PySem.W.Frag) (ds : List PyData) : TE := fun _ H Q => ∀ p vs H', Same H H' → H' p = some (.lst vs) → DpAll K H' vs ds → Q (.ref p) H'
theorem dl_lstN {X : Cx} {K : PySem.W.Frag} {pos : Pos} {es : List Expr} {ds : List PyData} (hl : ds.length ≤ 1000) (h : PA X es (tDats K ds)) : PE X (.List es pos) (tDatN K ds) :=
  PE.imp (pe_lst h) fun σ H Q q vs H1 s1 h1 => ⟨by rw [dps_len h1]; exact Nat.le_trans hl (by decide), fun p np => q p vs _ (s1.trans (same_new np)) upd_same (same_dps (same_new np) h1)⟩
theorem left_1 : left 1 = 1 := by
  have := left_pow (a := 1) (by decide)
  rw [left_def]
  decide +kernel
/-! ### tuples by their data -/
def cutD (ds : List PyData) (lo hi : Option Int) : List PyData := (ds.drop (HT.sIx ds.length 0 lo)).take (HT.sIx ds.length ds.length hi - HT.sIx ds.length 0 lo)
def rSlD (K : PySem.W.Frag) : V → Option Int → Option Int → Hp → VK → Prop := fun x lo hi H Q => ∃ ds, Dp K H x (.tuple ds) ∧ ∀ v H', Same H H' → Dp K H' v (.tuple (cutD ds lo hi)) → Q v H'
theorem slD {X : Cx} {K : PySem.W.Frag} (e : X.K = K) : SlR X (rSlD K) := by
  subst e
  intro pins s σ H x v vl vu lo hi sl Q I rx hs pl pu h
  obtain ⟨ds, hd, q⟩ := h
  obtain ⟨a, xs, rfl, hx, ha⟩ := dp_tup hd
  have hlen := dps_len ha
  refine sl_tupA pins s σ H _ v vl vu lo hi sl Q I rx hs pl pu ⟨a, xs, rfl, hx, fun hw => ?_, fun _ p np => ?_⟩
  · refine q _ H (Same.refl H) ?_
    unfold cutD
    rw [← hlen, hw.1, hw.2, List.drop_zero, Nat.sub_zero, List.take_of_length_le (by omega)]
    exact .tup hx ha
  · refine q _ _ (same_new np) (.tup (SqT.of upd_same) ?_)
    unfold cutV cutD
    rw [← hlen]
    exact dps_take _ (dps_drop _ (same_dps (same_new np) ha))
def rCatD (K : PySem.W.Frag) : R2 := fun x y H Q => ∃ ds es, Dp K H x (.tuple ds) ∧ Dp K H y (.tuple es) ∧ ds.length + es.length ≤ 1000 ∧ ∀ v H', Same H H' → Dp K H' v (.tuple (ds ++ es)) → Q v H'
theorem catD {X : Cx} {K : PySem.W.Frag} (e : X.K = K) : OpR X (binaryOp .Add) (rCatD K) := by
  subst e
  intro pins s σ H x y v u Q I rx ry h
  obtain ⟨ds, es, hd, he, hl, q⟩ := h
  obtain ⟨a, xs, rfl, hx, ha⟩ := dp_tup hd
  obtain ⟨b, ys, rfl, hy, hb⟩ := dp_tup he
  have h1 := dps_len ha
  have h2 := dps_len hb
  refine op_catA pins s σ H _ _ v u Q I rx ry ⟨a, b, xs, ys, rfl, rfl, hx, hy, Nat.le_trans (show xs.length + ys.length ≤ 1000 by omega) (by decide), fun z => ?_, fun _ z => ?_, fun _ _ p np => ?_⟩
  · subst z
    have : ds = [] := List.length_eq_zero_iff.mp (by rw [← h1]; rfl)
    subst this
    exact q _ H (Same.refl H) he
  · subst z
    have : es = [] := List.length_eq_zero_iff.mp (by rw [← h2]; rfl)
    subst this
    rw [List.append_nil] at q
    exact q _ H (Same.refl H) hd
  · exact q _ _ (same_new np) (.tup (SqT.of upd_same) (dps_app (same_dps (same_new np) ha) (same_dps (same_new np) hb)))
theorem cutD_from (ds : List PyData) (i : Nat) : cutD ds (some (i : Int)) none = ds.drop i := by
  unfold cutD
  rw [show HT.sIx ds.length 0 (some (i : Int)) = min i ds.length from HT.sIx_nat ds.length 0 i, HT.sIx_none]
  rcases Nat.le_total i ds.length with h | h
  · rw [Nat.min_eq_left h, List.take_of_length_le (by rw [List.length_drop]; exact Nat.le_refl _)]
  · rw [Nat.min_eq_right h, List.drop_of_length_le h, List.drop_length, List.take_nil]
theorem cutD_to (ds : List PyData) (i : Nat) : cutD ds none (some (i : Int)) = ds.take i := by
  unfold cutD
  rw [show HT.sIx ds.length ds.length (some (i : Int)) = min i ds.length from HT.sIx_nat ds.length ds.length i, HT.sIx_none]
  rw [List.drop_zero, Nat.sub_zero]
  rcases Nat.le_total i ds.length with h | h
  · rw [Nat.min_eq_left h]
  · rw [Nat.min_eq_right h, List.take_of_length_le (Nat.le_refl _), List.take_of_length_le h]
end Fr
namespace Fr
open PySem PySem.Spec PyProof.Rows L2 LamX
/-! ### the world goes on: all but tables stays, the tables are good -/
structure Stp (T : List (Addr × Str)) (H H' : Hp) : Prop where
  e : ExtN H H'
  t : Tabs T H'
theorem Stp.same {T : List (Addr × Str)} {H H' H'' : Hp} (a : Stp T H H') (s : Same H' H'') : Stp T H H'' := ⟨a.e.trans (ext_same s), ext_tabs a.t s⟩
theorem Stp.told {T : List (Addr × Str)} {H H' H'' : Hp} (a : Stp T H H') (e : ExtN H' H'') (t : Tabs T H'') : Stp T H H'' := ⟨a.e.trans e, t⟩
theorem Stp.trans {T : List (Addr × Str)} {H H' H'' : Hp} (a : Stp T H H') (b : Stp T H' H'') : Stp T H H'' := ⟨a.e.trans b.e, b.t⟩
theorem Stp.refl {T : List (Addr × Str)} {H : Hp} (t : Tabs T H) : Stp T H H := ⟨ExtN.refl H, t⟩
theorem ext_lst {H H' : Hp} {a : Addr} {xs : List V} (e : ExtN H H') (h : H a = some (.lst xs)) : H' a = some (.lst xs) := e _ _ h (fun _ z => by cases z)
theorem ext_tup {H H' : Hp} {a : Addr} {xs : List V} (e : ExtN H H') (h : H a = some (.tup xs)) : H' a = some (.tup xs) := e _ _ h (fun _ z => by cases z)
theorem xtold {K : PySem.W.Frag} {n : Str} {Q : VK} {H' : Hp} (hn : n ∈ words) (q : ∀ H'', Same H' H'' → Q (.str n) H'') : Hl.XTold (Nm K words) Q (.ref (ga K n)) none H' := ⟨_, n, rfl, rfl, ⟨hn, rfl⟩, q⟩
/-- the texts of the classes -/
theorem strOk_BN : PyData.strOk "BadNumber" = true := by decide +kernel
theorem strOk_BP : PyData.strOk "BadProgram" = true := by decide +kernel
theorem strOk_TG : PyData.strOk "TooGreat" = true := by decide +kernel
theorem strOk_BM : PyData.strOk "BadMachine" = true := by decide +kernel
theorem strOk_BT : PyData.strOk "BadText" = true := by decide +kernel
theorem strOk_No : PyData.strOk "Nothing" = true := by decide +kernel
theorem pow_small {b : Nat} (h : b ≤ 1000) : ((2 : Nat) ^ b).log2 < 1001 := by
  rw [Nat.log2_two_pow]
  omega
theorem tabs_put {T : List (Addr × Str)} {H : Hp} {p : Addr} {xs : List V} {o : HO} (t : Tabs T H) (h : H p = some (.lst xs)) : Tabs T (upd H p o) := fun q hq => by
  obtain ⟨ps, h1, h2, h3⟩ := t q hq
  refine ⟨ps, by rw [upd_ne (ne_of h1 h (by intro z; cases z))]; exact h1, h2, fun pos cv hc => ?_⟩
  obtain ⟨c, e1, e2⟩ := h3 pos cv hc
  exact ⟨c, e1, by rw [upd_ne (ne_of e2 h (by intro z; cases z))]; exact e2⟩
/-- a list of one's own, that no one else has -/
structure Own (T : List (Addr × Str)) (K : PySem.W.Frag) (H0 : Hp) (p : Addr) (ds : List PyData) (H : Hp) : Prop where
  st : Stp T H0 H
  ap : ∀ o, H0 p = some o → (∀ ps, o ≠ .tbl ps) → False
  lst : ∃ vs, H p = some (.lst vs) ∧ DpAll K H vs ds
  no : noLs ds = true
theorem Own.new {T : List (Addr × Str)} {K : PySem.W.Frag} {H0 H : Hp} {p : Addr} {ds : List PyData} {vs : List V} (a : Stp T H0 H) (np : H p = none) (h : DpAll K H vs ds) (no : noLs ds = true) : Own T K H0 p ds (upd H p (.lst vs)) :=
  ⟨a.same (same_new np), (fun o h1 h2 => by
    have := a.e _ _ h1 h2
    rw [np] at this
    cases this), ⟨vs, upd_same, same_dps (same_new np) h⟩, no⟩
theorem Own.go {T : List (Addr × Str)} {K : PySem.W.Frag} {H0 H H' : Hp} {p : Addr} {ds : List PyData} (a : Own T K H0 p ds H) (e : ExtN H H') (t : Tabs T H') : Own T K H0 p ds H' := by
  obtain ⟨vs, h1, h2⟩ := a.lst
  exact ⟨a.st.told e t, a.ap, ⟨vs, ext_lst e h1, ext_dps e h2⟩, a.no⟩
theorem Own.same {T : List (Addr × Str)} {K : PySem.W.Frag} {H0 H H' : Hp} {p : Addr} {ds : List PyData} (a : Own T K H0 p ds H) (s : Same H H') : Own T K H0 p ds H' := a.go (ext_same s) (ext_tabs a.st.t s)
theorem Own.put {T : List (Addr × Str)} {K : PySem.W.Frag} {H0 H : Hp} {p : Addr} {ds : List PyData} {d : PyData} {y : V} {vs : List V} (a : Own T K H0 p ds H) (h : H p = some (.lst vs)) (hd : Dp K H y d) (no : noL d = true) : Own T K H0 p (ds ++ [d]) (upd H p (.lst (vs ++ [y]))) := by
  obtain ⟨vs', h1, h2⟩ := a.lst
  rw [h] at h1
  cases h1
  refine ⟨⟨fun b o h1 h3 => ?_, tabs_put a.st.t h⟩, a.ap, ⟨_, upd_same, app_dp h h2 a.no hd no⟩, by rw [noLs_app, a.no, noLs, no]; simp [noLs]⟩
  rw [upd_ne fun e => a.ap o (by rw [← e]; exact h1) h3]
  exact a.st.e _ _ h1 h3
theorem Own.dp {T : List (Addr × Str)} {K : PySem.W.Frag} {H0 H : Hp} {p : Addr} {ds : List PyData} (a : Own T K H0 p ds H) : Dp K H (.ref p) (.list ds) := by
  obtain ⟨vs, h1, h2⟩ := a.lst
  exact .lst (SqL.of h1) h2
theorem Own.len {T : List (Addr × Str)} {K : PySem.W.Frag} {H0 H : Hp} {p : Addr} {ds : List PyData} {vs : List V} (a : Own T K H0 p ds H) (h : H p = some (.lst vs)) : vs.length = ds.length := by
  obtain ⟨vs', h1, h2⟩ := a.lst
  rw [h] at h1
  cases h1
  exact dps_len h2
end Fr
namespace Fr
open PySem PySem.Spec PyProof.Rows L2
section
variable {P : Program} {w : World} {K : PySem.W.Frag} {mg : Str → Option Value} {base : Heap}
/-! ### vector -/
def spVector (K : PySem.W.Frag) : Sp := fun vs H Q _ => ∃ (v : V) (f : Nat × Nat), vs = [v] ∧ Dp K H v (fracD f) ∧ 0 < f.1 ∧ 0 < f.2 ∧ ∀ p a b H', Same H H' → H' p = some (.tup [.ref a, .ref b]) → H' a = some (.tup ((rooms f.2).map nI)) → H' b = some (.tup ((rooms f.1).map nI)) → Q (.ref p) H'
theorem ok_vector (T : Txt K mg) : Cal P w K mg base L2.CX0 2 "vector" ["fraction"] (spVector K) := by
  have c_parted := ok_parted (P := P) (w := w) (base := base) T
  refine Cal.mk0 T.d_vector T.m_vector sc_vector (fun _ _ _ _ _ _ us hl => match us, hl with | [_], _ => rfl) (fun vs H Q E h => ?_) (fun cdv A outer s H vs Q E hr h => ?_)
  · obtain ⟨v, f, rfl, _⟩ := h
    rfl
  obtain ⟨v, f, rfl, hd, h1, h2, q⟩ := h
  refine ⟨_, (pss_one (ps_ret (pe_tup (pa_cons (pe_ix (ixT rfl) (pe_cal c_parted (hr.mono (by decide)) (by rfl) pass0 (pa_cons (pe_ix (ixT rfl) (pv 0) pe_int (fun _ _ => rfl)) pa_nil)) pe_int (fun _ _ => rfl)) (pa_cons (pe_ix (ixT rfl) (pe_cal c_parted (hr.mono (by decide)) (by rfl) pass0 (pa_cons (pe_ix (ixT rfl) (pv 0) pe_int (fun _ _ => rfl)) pa_nil)) pe_int (fun _ _ => rfl)) pa_nil))))), ?_⟩
  obtain ⟨b, rfl, hb⟩ := frac_at hd
  refine ⟨_, rfl, b, _, 1, _, rfl, rfl, hb, atI1, f.2, rfl, h2, fun p t H1 s1 ht hp => ?_⟩
  refine ⟨p, _, 0, _, rfl, rfl, SqT.of hp, atI0, _, rfl, b, _, 0, _, rfl, rfl, same_tup s1 hb, atI0, f.1, rfl, h1, fun p2 t2 H2 s2 ht2 hp2 => ?_⟩
  refine ⟨p2, _, 0, _, rfl, rfl, SqT.of hp2, atI0, (by show 2 ≤ sizeLine; decide), fun p3 np3 => ?_⟩
  exact q p3 t t2 _ ((s1.trans s2).trans (same_new np3)) upd_same ((same_new np3) _ _ (s2 _ _ ht)) ((same_new np3) _ _ ht2)
/-! ### fits_from -/
def spFitsFrom (K : PySem.W.Frag) : Sp := fun vs H Q _ => ∃ (a b c d : Addr) (n u v x : Nat), vs = [.ref a, .ref b, .ref c, .ref d] ∧ SqT K H a ((rooms n).map nI) ∧ SqT K H b ((rooms u).map nI) ∧ SqT K H c ((rooms v).map nI) ∧ SqT K H d ((rooms x).map nI) ∧
  (∀ r, rm n r ≤ 1000 ∧ rm u r ≤ 1000 ∧ rm v r ≤ 1000 ∧ rm x r ≤ 1000) ∧ ∀ H', Same H H' → Q (optV (ffOf (rowsOf n u v x))) H'
theorem row4 {n u v x i : Nat} (hi : i < 12) : Zn.rowAt i [(rooms n).map nI, (rooms u).map nI, (rooms v).map nI, (rooms x).map nI] = [nI (rm n i), nI (rm u i), nI (rm v i), nI (rm x i)] := by
  show [((rooms n).map nI).getD i .non, ((rooms u).map nI).getD i .non, ((rooms v).map nI).getD i .non, ((rooms x).map nI).getD i .non] = _
  rw [rooms_getD n i hi, rooms_getD u i hi, rooms_getD v i hi, rooms_getD x i hi]
theorem rowsOf_at {n u v x i : Nat} (hi : i < 12) : (rowsOf n u v x).drop i = ⟨rm n i, rm u i, rm v i, rm x i⟩ :: (rowsOf n u v x).drop (i + 1) := by
  unfold rowsOf
  rw [List.drop_eq_getElem_cons (by simpa using hi)]
  simp
theorem ffUp_cons (q : Row4) (r : List Row4) (f : Nat) : ffUp (q :: r) f = if q.h < q.d then (if q.i ≤ q.o then none else ffUp r (max f ((q.d - q.h + q.i - q.o - 1) / (q.i - q.o)))) else ffUp r f := rfl
theorem ok_fits_from (T : Txt K mg) : Cal P w K mg base L2.CX0 1 "fits_from" ["rooms", "takes", "gives", "need"] (spFitsFrom K) := by
  refine Cal.mk0 T.d_fits_from T.m_fits_from sc_fits_from (fun _ _ _ _ _ _ us hl => match us, hl with | [_, _, _, _], _ => rfl) (fun vs H Q E h => ?_) (fun cdv A outer s H vs Q E hr h => ?_)
  · obtain ⟨a, b, c, d, n, u, v, x, rfl, _⟩ := h
    rfl
  obtain ⟨a, b, c, d, n, u, v, x, rfl, ha, hb, hc, hd, hbd, q⟩ := h
  refine ⟨_, (pss_cons (ps_set (i := 4) sc_fits_from.nd rfl (.inl rfl) pe_int)
      (pss_cons (ps_for PassesOwn.never rfl (Zn.zip4 rfl (by rfl) T.b_zip (pa_cons (pv 0) (pa_cons (pv 1) (pa_cons (pv 2) (pa_cons (pv 3) pa_nil))))) (pgT (n := 4) rfl rfl (pgs_cons (pg_name (i := 5) sc_fits_from.nd rfl (.inl rfl)) (pgs_cons (pg_name (i := 6) sc_fits_from.nd rfl (.inl rfl)) (pgs_cons (pg_name (i := 7) sc_fits_from.nd rfl (.inl rfl)) (pgs_cons (pg_name (i := 8) sc_fits_from.nd rfl (.inl rfl)) pgs_nil))))) (pss_one (ps_if (pt_cmpR opN_lt (pv 5) (pv 8) (nomark _)) (pss_cons (ps_if (pt_cmpR opN_le (pv 7) (pv 6) (nomark _)) (pss_one (ps_ret pe_non)) pss_nil)
      (pss_one (ps_set (i := 4) sc_fits_from.nd rfl (.inl rfl) (pe_callB (max2N rfl) (by rfl) T.b_max boot_max (pa_cons (pv 4) (pa_cons (pe_op opN_div (pe_op opN_sub (pe_op opN_sub (pe_op opN_add (pe_op opN_sub (pv 8) (pv 5)) (pv 7)) (pv 6)) pe_int) (pe_op opN_sub (pv 7) (pv 6))) pa_nil)))))) pss_nil)))
      (pss_cons (ps_for PassesOwn.never rfl (Zn.zip4 rfl (by rfl) T.b_zip (pa_cons (pv 0) (pa_cons (pv 1) (pa_cons (pv 2) (pa_cons (pv 3) pa_nil))))) (pgT (n := 4) rfl rfl (pgs_cons (pg_name (i := 5) sc_fits_from.nd rfl (.inl rfl)) (pgs_cons (pg_name (i := 6) sc_fits_from.nd rfl (.inl rfl)) (pgs_cons (pg_name (i := 7) sc_fits_from.nd rfl (.inl rfl)) (pgs_cons (pg_name (i := 8) sc_fits_from.nd rfl (.inl rfl)) pgs_nil))))) (pss_one (ps_if (pt_cmpR op_lt (pe_op op_add (pv 5) (pe_op op_mul (pv 4) (pe_op op_sub (pv 7) (pv 6)))) (pv 8) (nomark _)) (pss_one (ps_ret pe_non)) pss_nil)))
      (pss_one (ps_ret (pv 4)))))), ?_⟩
  have hlen : ∀ ys ∈ [(rooms n).map nI, (rooms u).map nI, (rooms v).map nI, (rooms x).map nI], 12 ≤ ys.length := by
    intro ys hy
    simp only [List.mem_cons, List.not_mem_nil, or_false] at hy
    rcases hy with rfl | rfl | rfl | rfl <;> rw [List.length_map, rooms_len] <;> exact Nat.le_refl _
  have hmin : ∃ ys ∈ [(rooms n).map nI, (rooms u).map nI, (rooms v).map nI, (rooms x).map nI], ys.length = 12 := ⟨_, List.mem_cons_self, by rw [List.length_map, rooms_len]⟩
  have hall : ∀ H', Same H H' → Zn.SqAll K H' [(false, a), (false, b), (false, c), (false, d)] [(rooms n).map nI, (rooms u).map nI, (rooms v).map nI, (rooms x).map nI] := fun H' s' => ⟨same_tup s' ha, same_tup s' hb, same_tup s' hc, same_tup s' hd, True.intro⟩
  have hex : ∀ H', Same H H' → ∀ q ∈ [((false, a) : Zn.K2), (false, b), (false, c), (false, d)], ∃ xs, Zn.Sq K H' q xs := by
    intro H' s' q hq
    simp only [List.mem_cons, List.not_mem_nil, or_false] at hq
    rcases hq with rfl | rfl | rfl | rfl
    · exact ⟨_, same_tup s' ha⟩
    · exact ⟨_, same_tup s' hb⟩
    · exact ⟨_, same_tup s' hc⟩
    · exact ⟨_, same_tup s' hd⟩
  refine ⟨_, rfl, _, rfl, _, rfl, _, rfl, [(false, a), (false, b), (false, c), (false, d)], rfl, rfl, hex H (Same.refl H), Zn.for_zipN hlen hmin (fun i σ H1 => ∃ (g : Nat) (y5 y6 y7 y8 : Option V), σ = [some (.ref a), some (.ref b), some (.ref c), some (.ref d), some (nI g), y5, y6, y7, y8] ∧ Same H H1 ∧ g ≤ 1000 ∧ ffUp (rowsOf n u v x) 0 = ffUp ((rowsOf n u v x).drop i) g) ?_ ?_ ?_ ?_⟩
  · exact ⟨0, none, none, none, none, rfl, Same.refl H, Nat.zero_le _, rfl⟩
  · rintro i σ H1 ⟨g, y5, y6, y7, y8, rfl, sm, _⟩
    exact hall H1 sm
  · rintro i Tt σ H1 hi ⟨g, y5, y6, y7, y8, rfl, sm, hg, hff⟩ hT
    rw [row4 hi]
    rw [rowsOf_at hi] at hff
    obtain ⟨b1, b2, b3, b4⟩ := hbd i
    generalize rm n i = e1 at *
    generalize rm u i = e2 at *
    generalize rm v i = e3 at *
    generalize rm x i = e4 at *
    refine ⟨Tt, _, rfl, SqT.of upd_same, rfl, _, _, rfl, _, _, rfl, _, _, rfl, _, _, rfl, rfl, ?_⟩
    have sT := sm.trans (same_new (o := .tup [nI e1, nI e2, nI e3, nI e4]) hT)
    rw [ffUp_cons] at hff
    dsimp only at hff
    refine ⟨_, rfl, _, rfl, e1, e4, rfl, rfl, _, rfl, ite2 (fun h => ?_) (fun h => ?_)⟩
    · have h := of_decide_eq_true h
      rw [if_pos h] at hff
      refine ⟨_, rfl, _, rfl, e3, e2, rfl, rfl, _, rfl, ite2 (fun h2 => ?_) (fun h2 => ?_)⟩
      · have h2 := of_decide_eq_true h2
        rw [if_pos h2] at hff
        have := q _ sT
        unfold ffOf at this
        rw [hff] at this
        exact this
      · have h2 : ¬ e3 ≤ e2 := fun z => h2 (decide_eq_true z)
        rw [if_neg h2] at hff
        have hlg : (e3 - e2).log2 < 9000 := lt_log2 (k := 20) (by omega) (by decide) (by decide)
        refine ⟨_, rfl, _, rfl, _, rfl, e4, e1, rfl, rfl, by omega, _, rfl, e4 - e1, e3, rfl, rfl, _, rfl, e4 - e1 + e3, e2, rfl, rfl, by omega, _, 1, rfl, rfl, by omega, _, rfl, _, rfl, e3, e2, rfl, rfl, by omega, _, _, rfl, rfl, ⟨by omega, hlg⟩, g, _, rfl, _, _, _, _, _, rfl, sT, ?_, hff⟩
        have hle : (e4 - e1 + e3 - e2 - 1) / (e3 - e2) ≤ 1000 := by
          have e5 : e4 - e1 + e3 - e2 - 1 = e4 - e1 + (e3 - e2) - 1 := by omega
          rw [e5, ceil_least h (by omega)]
          have : 1000 * 1 ≤ 1000 * (e3 - e2) := Nat.mul_le_mul_left _ (by omega)
          omega
        omega
    · have h : ¬ e1 < e4 := fun z => h (decide_eq_true z)
      rw [if_neg h] at hff
      exact ⟨g, _, _, _, _, rfl, sT, hg, hff⟩
  · rintro σ H1 ⟨g, y5, y6, y7, y8, rfl, sm, hg, hff⟩
    have hup : ffUp (rowsOf n u v x) 0 = some g := by
      rw [hff, List.drop_of_length_le (by unfold rowsOf; simp)]
      rfl
    have hof : ffOf (rowsOf n u v x) = if ∀ q ∈ rowsOf n u v x, okAt q g then some g else none := by
      unfold ffOf
      rw [hup]
    rw [hof] at q
    refine ⟨_, rfl, _, rfl, _, rfl, _, rfl, [(false, a), (false, b), (false, c), (false, d)], rfl, rfl, hex H1 sm, Zn.for_zipN hlen hmin (fun i σ H2 => ∃ (y5 y6 y7 y8 : Option V), σ = [some (.ref a), some (.ref b), some (.ref c), some (.ref d), some (nI g), y5, y6, y7, y8] ∧ Same H H2 ∧ ∀ r, r < i → okAt ⟨rm n r, rm u r, rm v r, rm x r⟩ g) ?_ ?_ ?_ ?_⟩
    · exact ⟨y5, y6, y7, y8, rfl, sm, fun r hr => absurd hr (Nat.not_lt_zero _)⟩
    · rintro i σ H2 ⟨y5, y6, y7, y8, rfl, sm2, _⟩
      exact hall H2 sm2
    · rintro i Tt σ H2 hi ⟨y5, y6, y7, y8, rfl, sm2, hok⟩ hT
      rw [row4 hi]
      have sT := sm2.trans (same_new (o := .tup [nI (rm n i), nI (rm u i), nI (rm v i), nI (rm x i)]) hT)
      refine ⟨Tt, _, rfl, SqT.of upd_same, rfl, _, _, rfl, _, _, rfl, _, _, rfl, _, _, rfl, rfl, ?_⟩
      refine ⟨_, rfl, _, rfl, _, rfl, _, rfl, _, _, rfl, rfl, (g : Int), _, rfl, rfl, .inl ⟨by omega, by omega⟩, _, _, rfl, rfl, _, rfl, _, _, rfl, rfl, _, rfl, ite2 (fun h => ?_) (fun h => ?_)⟩
      · have h := of_decide_eq_true h
        have hno : ¬ ∀ q ∈ rowsOf n u v x, okAt q g := fun z => by
          have := z ⟨rm n i, rm u i, rm v i, rm x i⟩ (List.mem_map.mpr ⟨i, List.mem_range.mpr hi, rfl⟩)
          unfold okAt at this
          dsimp only at this
          omega
        rw [if_neg hno] at q
        exact q _ sT
      · have h' : ¬ ((rm n i : Int) + (g : Int) * ((rm v i : Int) - (rm u i : Int)) < (rm x i : Int)) := fun z => h (decide_eq_true z)
        refine ⟨_, _, _, _, rfl, sT, fun r hr => ?_⟩
        rcases Nat.lt_or_ge r i with z | z
        · exact hok r z
        · obtain rfl : r = i := by omega
          unfold okAt
          dsimp only
          omega
    · rintro σ H2 ⟨y5, y6, y7, y8, rfl, sm2, hok⟩
      have hyes : ∀ q ∈ rowsOf n u v x, okAt q g := fun p hp => by
        obtain ⟨r, hr, rfl⟩ := List.mem_map.mp hp
        exact hok r (List.mem_range.mp hr)
      rw [if_pos hyes] at q
      exact ⟨_, rfl, q H2 sm2⟩
end
end Fr
namespace Fr
open PySem PySem.Spec PyProof.Rows L2
section
variable {P : Program} {w : World} {K : PySem.W.Frag} {mg : Str → Option Value} {base : Heap}
/-! ### times_at -/
def timesOf (l : Prog) (n i : Nat) : Option Nat := (someOf l n i).min?
def spTimes (K : PySem.W.Frag) : Sp := fun vs H Q _ => ∃ (v : V) (l : Prog) (n i : Nat), vs = [v, nI n, nI i] ∧ Dp K H v (progD l) ∧ isProg l = true ∧ isNum n = true ∧ i < l.length ∧ ∀ H', Same H H' → Q (optV (timesOf l n i)) H'
theorem outs_gath (n u : Nat) : gath (fun r => if 0 < rm u r then some (nD (rm n r / rm u r)) else none) 12 = (outsOf n u).map nD := by
  unfold gath outsOf
  rw [List.map_filterMap]
  congr 1
  funext r
  split <;> rfl
theorem ok_times_at (T : Txt K mg) : Cal P w K mg base L2.CX0 3 "times_at" ["program", "number", "place"] (spTimes K) := by
  have c_parted := ok_parted (P := P) (w := w) (base := base) T
  have c_vector := ok_vector (P := P) (w := w) (base := base) T
  have c_fits_from := ok_fits_from (P := P) (w := w) (base := base) T
  refine Cal.mk0 T.d_times_at T.m_times_at sc_times_at (fun _ _ _ _ _ _ us hl => match us, hl with | [_, _, _], _ => rfl) (fun vs H Q E h => ?_) (fun cdv A outer s H vs Q E hr h => ?_)
  · obtain ⟨v, l, n, i, rfl, _⟩ := h
    rfl
  obtain ⟨v, l, n, i, rfl, hd, hP, hN, hi, q⟩ := h
  refine ⟨_, (pss_cons (ps_set (i := 3) sc_times_at.nd rfl (.inl rfl) (pe_ix (ixT rfl) (pe_cal c_parted (hr.mono (by decide)) (by rfl) pass0 (pa_cons (pv 1) pa_nil)) pe_int (fun _ _ => rfl)))
      (pss_cons (ps_asg (pe_cal c_vector (hr.mono (by decide)) (by rfl) pass0 (pa_cons (pe_ix (ixL rfl) (pv 0) (pv 2) (fun _ _ => rfl)) pa_nil)) (pgT (n := 2) rfl rfl (pgs_cons (pg_name (i := 4) sc_times_at.nd rfl (.inl rfl)) (pgs_cons (pg_name (i := 5) sc_times_at.nd rfl (.inl rfl)) pgs_nil))))
      (pss_cons (ps_setLc (i := 6) (own := [("have", 9), ("out", 10)]) rfl sc_times_at.nd rfl rfl (sw_true rfl rfl rfl (by decide +kernel)) (Zn.zip2 rfl (by rfl) T.b_zip (pa_cons (pv 3) (pa_cons (pv 4) pa_nil))) (blkOk_by (own := [("have", 9), ("out", 10)]) (N := ["program", "number", "place", "rooms", "takes", "gives", "some", "fraction", "found", "have", "out"]) (sc := defScope s_times_at) (by decide +kernel)) (fun _ _ _ _ _ => (pgT (n := 2) rfl rfl (pgs_cons (pg_name (i := 9) sc_times_at.nd rfl (.inl rfl)) (pgs_cons (pg_name (i := 10) sc_times_at.nd rfl (.inl rfl)) pgs_nil)))) (fun _ _ _ _ _ => (pts_one (pt_cmpR opN_gt (pv 10) pe_int (nomark _)))) (fun _ _ _ _ _ => (pe_op opN_div (pv 9) (pv 10))))
      (pss_cons (ps_for PassesOwn.never rfl (piL rfl (pe_slice (slL rfl) (pv 0) po_none (po_some (pv 2)))) (pg_name (i := 7) sc_times_at.nd rfl (.inl rfl)) (pss_cons (ps_set (i := 8) sc_times_at.nd rfl (.inl rfl) (pe_cal c_fits_from (hr.mono (by decide)) (by rfl) pass0 (pa_cons (pv 3) (pa_cons (pv 4) (pa_cons (pv 5) (pa_cons (pe_ix (ixT rfl) (pe_cal c_parted (hr.mono (by decide)) (by rfl) pass0 (pa_cons (pe_ix (ixT rfl) (pv 7) pe_int (fun _ _ => rfl)) pa_nil)) pe_int (fun _ _ => rfl)) pa_nil))))))
      (pss_one (ps_if (pt_cmpR op_notN (pv 8) pe_non (nomark _)) (pss_one (ps_expr (bm rfl PySem.F.plainAttrs_list PySem.F.slot_list_append PySem.F.type_list_append mt_append (pv 6) (pa_cons (pv 8) pa_nil)))) pss_nil))))
      (pss_one (ps_ret (pe_ifExp (pt_cmpR (neE rfl hr.units) (pv 6) (pe_lst pa_nil) (nomark _)) (pe_callB (crMin rfl rfl) (by rfl) T.b_min boot_min (pa_cons (pv 6) pa_nil)) pe_non))))))), ?_⟩
  have hn := isNum_pos hN
  obtain ⟨a, xs, rfl, hs, ha, hlen⟩ := prog_at hd
  have hfr : ∀ p ∈ l, isFrac p = true := (isProg_iff.mp hP).2
  have hfi := isFrac_iff.mp (hfr _ (List.getElem_mem hi))
  obtain ⟨b, hb, hbs⟩ := prog_get ha hi
  refine ⟨_, rfl, n, rfl, hn, fun p t H1 s1 ht hp => ⟨p, _, 0, _, rfl, rfl, SqT.of hp, atI0, ?_⟩⟩
  refine ⟨_, rfl, _, rfl, a, xs, i, _, rfl, rfl, s1.seq hs, atIn hb, _, l[i], rfl, .tup (same_tup s1 hbs) (.cons (.int _) (.cons (.int _) .nil)), isNum_pos hfi.1, isNum_pos hfi.2.1, fun p2 ta tb H2 s2 hp2 hta htb => ?_⟩
  refine ⟨p2, _, rfl, SqT.of hp2, rfl, _, _, rfl, _, _, rfl, rfl, ?_⟩
  have ht2 := s2 _ _ ht
  have eu : unAt l i = (l[i]).2 := unAt_eq hi
  have ev : upAt l i = (l[i]).1 := upAt_eq hi
  rw [← eu] at hta
  rw [← ev] at htb
  have bu : ∀ r, rm (unAt l i) r ≤ 400 := by rw [eu]; exact rm_le hfi.2.1
  have bv : ∀ r, rm (upAt l i) r ≤ 400 := by rw [ev]; exact rm_le hfi.1
  refine ⟨_, rfl, _, rfl, [(false, t), (false, ta)], rfl, rfl, ?_, fun D hD => ?_⟩
  · intro q hq
    simp only [List.mem_cons, List.not_mem_nil, or_false] at hq
    rcases hq with rfl | rfl
    · exact ⟨_, SqT.of ht2⟩
    · exact ⟨_, SqT.of hta⟩
  refine lc_dp (K := K) (walk_zipN (yss := [(rooms n).map nI, (rooms (unAt l i)).map nI]) (n := 12) ?_ ?_) hD (by decide) (fun H' s' => ⟨same_tup s' (SqT.of ht2), same_tup s' (SqT.of hta), True.intro⟩) (fun r => if 0 < rm (unAt l i) r then some (nD (rm n r / rm (unAt l i) r)) else none) ?_ ?_ ?_
  · intro ys hy
    simp only [List.mem_cons, List.not_mem_nil, or_false] at hy
    rcases hy with rfl | rfl <;> rw [List.length_map, rooms_len] <;> exact Nat.le_refl _
  · exact ⟨_, List.mem_cons_self, by rw [List.length_map, rooms_len]⟩
  · intro r d e
    by_cases h : 0 < rm (unAt l i) r
    · rw [if_pos h] at e
      cases e
      rfl
    · rw [if_neg h] at e
      cases e
  · rintro r x H' H'' A B hr' s' ⟨Tt, rfl, nT, rfl⟩ hA hB
    rw [row22 hr']
    refine ⟨Tt, _, rfl, SqT.of upd_same, rfl, _, _, rfl, _, _, rfl, rfl, rfl, ?_⟩
    refine ⟨_, rfl, rm (unAt l i) r, 0, rfl, rfl, _, rfl, ite2 (fun h => ?_) (fun h => ?_)⟩
    · have h := of_decide_eq_true h
      refine ⟨_, rfl, _, rfl, rm n r, rm (unAt l i) r, rfl, rfl, ⟨h, lt_log2 (k := 20) (Nat.lt_of_le_of_lt (bu r) (by decide)) (by decide) (by decide)⟩, hA _ _ _ (if_pos h) (same_new nT) (.int _)⟩
    · exact hB (if_neg fun z => h (decide_eq_true z)) _ (same_new nT)
  intro H3 ys s3 hD3 hA3
  rw [outs_gath] at hA3
  have sH3 := (s1.trans s2).trans s3
  refine ⟨_, rfl, _, rfl, i, rfl, a, xs, rfl, sH3.seq hs, fun c nc => ?_⟩
  rw [cut_take]
  have ncD : D ≠ c := ne_of_none hD3 nc
  have scc : Same H3 (upd H3 c (.lst (xs.take i))) := same_new nc
  have hDH : H D = none := (s1.trans s2).free hD
  have hlt : (xs.take i).length = (l.take i).length := by rw [List.length_take, List.length_take, hlen]
  have hDH2 : H2 D = none := hD
  refine ⟨c, rfl, ⟨_, SqL.of upd_same⟩, for_list (xs := xs.take i) (fun j σ H4 => ∃ (y7 y8 : Option V) (ys : List V), σ = [some (.ref a), some (nI n), some (nI i), some (.ref t), some (.ref ta), some (.ref tb), some (.ref D), y7, y8, none, none] ∧ Same H2 H4 ∧ H4 c = some (.lst (xs.take i)) ∧ H4 D = some (.lst ys) ∧ DpAll K H4 ys ((outsOf n (unAt l i) ++ ((l.take i).take j).filterMap fun p => ffOf (rowsOf n (unAt l i) (upAt l i) p.2)).map nD)) ?_ ?_ ?_ ?_⟩
  · exact ⟨none, none, ys, rfl, s3.trans scc, upd_same, scc _ _ hD3, by simpa using same_dps scc hA3⟩
  · rintro j σ H4 _ ⟨y7, y8, ys, rfl, s4, hc, _⟩
    exact SqL.of hc
  · rintro j x σ H4 hx ⟨y7, y8, ys, rfl, s4, hc, hD4, hA4⟩
    have hA5 := dps_take i (same_dps ((s1.trans s2).trans s4) ha)
    rw [← List.map_take] at hA5
    obtain ⟨hj, b', rfl, hb', _⟩ := prog_item hA5 hx
    have hg : (l.take i)[j]? = some (l.take i)[j] := List.getElem?_eq_getElem hj
    have hfj := isFrac_iff.mp (hfr _ (List.mem_of_mem_take (List.getElem_mem hj)))
    rw [take_at hg, List.filterMap_append]
    generalize (l.take i)[j] = f at *
    refine ⟨_, rfl, _, rfl, _, rfl, _, rfl, b', _, 1, _, rfl, rfl, hb', atI1, f.2, rfl, isNum_pos hfj.2.1, fun p5 t5 H5 s5 ht5 hp5 => ?_⟩
    refine ⟨p5, _, 0, _, rfl, rfl, SqT.of hp5, atI0, t, ta, tb, t5, n, unAt l i, upAt l i, f.2, rfl, SqT.of (s5 _ _ (s4 _ _ ht2)), SqT.of (s5 _ _ (s4 _ _ hta)), SqT.of (s5 _ _ (s4 _ _ htb)), SqT.of ht5, fun r => ?_, fun H6 s6 => ?_⟩
    · have h1 := rm_le hN r
      have h2 := bu r
      have h3 := bv r
      have h4 := rm_le hfj.2.1 r
      omega
    · have s46 := s5.trans s6
      cases e : ffOf (rowsOf n (unAt l i) (upAt l i) f.2) with
      | none =>
        refine ⟨_, rfl, rfl, _, rfl, iteF ⟨_, _, ys, rfl, s4.trans s46, s46 _ _ hc, s46 _ _ hD4, ?_⟩⟩
        simpa [e] using same_dps s46 hA4
      | some g =>
        have hD6 := s46 _ _ hD4
        have hl6 : ys.length < 3000 := by
          rw [dps_len hA4, List.length_map, List.length_append]
          have h1 : (outsOf n (unAt l i)).length ≤ 12 := by
            unfold outsOf
            exact Nat.le_trans (List.length_filterMap_le _ _) (by simp)
          have h2 := List.length_filterMap_le (fun p : Nat × Nat => ffOf (rowsOf n (unAt l i) (upAt l i) p.2)) ((l.take i).take j)
          have h3 : ((l.take i).take j).length ≤ l.length := by rw [List.length_take, List.length_take]; omega
          have h4 := (isProg_iff.mp hP).1
          omega
        refine ⟨_, rfl, rfl, _, rfl, iteT ⟨_, rfl, .inl ⟨rfl, _, SqL.of hD6⟩, _, rfl, D, _, _, rfl, rfl, hD6, Nat.lt_of_lt_of_le hl6 (by decide), _, _, _, rfl, same_put (s4.trans s46) hDH2, ?_, upd_same, ?_⟩⟩
        · rw [upd_ne (Ne.symm ncD)]
          exact s46 _ _ hc
        · have := app_dp (y := nI g) (d := nD g) hD6 (same_dps s46 hA4) (noLs_nats _) (.int _) rfl
          show DpAll K (upd H6 D (.lst (ys ++ [nI g]))) (ys ++ [nI g]) _
          simpa [e] using this
  · rintro σ H4 ⟨y7, y8, ys, rfl, s4, hc, hD4, hA4⟩
    rw [hlt, List.take_length] at hA4
    have eS : outsOf n (unAt l i) ++ (l.take i).filterMap (fun p => ffOf (rowsOf n (unAt l i) (upAt l i) p.2)) = someOf l n i := rfl
    rw [eS] at hA4
    have ey := dps_nats hA4
    subst ey
    refine ⟨_, rfl, Nat.zero_le _, fun p6 np6 => ?_⟩
    have s6 : Same H4 (upd H4 p6 (.lst [])) := same_new np6
    refine ⟨(someOf l n i).map nD, .lst (SqL.of (s6 _ _ hD4)) (dps_nats' _), .lst (SqL.of upd_same) .nil, Shp.nats _, _, rfl, ?_⟩
    have sF := ((s1.trans s2).trans s4).trans s6
    have q := q _ sF
    unfold timesOf at q
    cases hS : someOf l n i with
    | nil =>
      rw [hS] at q
      exact iteF q
    | cons x ss =>
      refine iteT ⟨_, rfl, D, (x :: ss).map fun (x : Nat) => (x : Int), rfl, ?_, by simp, fun m hm hle => ?_⟩
      · rw [List.map_map]
        rw [hS] at hD4
        exact SqL.of (s6 _ _ hD4)
      · obtain ⟨k, rfl, hk⟩ := min_int hm hle
        rw [hS, hk] at q
        exact q
/-! ### powered -/
def spPowered (K : PySem.W.Frag) : Sp := fun vs H Q _ => ∃ (v : V) (f : Nat × Nat) (m : Nat), vs = [v, nI m] ∧ Dp K H v (fracD f) ∧ f.1 < 2 ^ 20 ∧ f.2 < 2 ^ 20 ∧ m ≤ 1000 ∧ ∀ p H', Same H H' → H' p = some (.tup [nI (f.1 ^ m), nI (f.2 ^ m)]) → Q (.ref p) H'
theorem pow_log {a m j : Nat} (h : a < 2 ^ 20) (hm : m ≤ j) (hj : 0 < j) : (a ^ m).log2 < 20 * j + 1 := by
  refine log2_lt' (by omega) ?_
  have h1 : a ^ m ≤ (2 ^ 20) ^ m := Nat.pow_le_pow_left (by omega) m
  rw [← Nat.pow_mul] at h1
  exact Nat.lt_of_le_of_lt h1 (Nat.pow_lt_pow_right (by decide) (by have := Nat.mul_le_mul_left 20 hm; omega))
theorem ok_powered (T : Txt K mg) : Cal P w K mg base L2.CX0 1 "powered" ["fraction", "many"] (spPowered K) := by
  refine Cal.mk0 T.d_powered T.m_powered sc_powered (fun _ _ _ _ _ _ us hl => match us, hl with | [_, _], _ => rfl) (fun vs H Q E h => ?_) (fun cdv A outer s H vs Q E hr h => ?_)
  · obtain ⟨v, f, m, rfl, _⟩ := h
    rfl
  obtain ⟨v, f, m, rfl, hd, h1, h2, hm, q⟩ := h
  refine ⟨_, (pss_cons (ps_asg (pe_tup (pa_cons pe_int (pa_cons pe_int pa_nil))) (pgT (n := 2) rfl rfl (pgs_cons (pg_name (i := 2) sc_powered.nd rfl (.inl rfl)) (pgs_cons (pg_name (i := 3) sc_powered.nd rfl (.inl rfl)) pgs_nil))))
      (pss_cons (ps_for PassesOwn.never rfl (pi_range1 (by rfl) T.b_range (pa_cons (pv 1) pa_nil)) (pg_name (i := 4) sc_powered.nd rfl (.inl rfl)) (pss_one (ps_par (i := 2) (j := 3) (by rfl) sc_powered.nd rfl rfl (by decide) rfl rfl (pa_cons (pe_op opN_mul (pv 2) (pe_ix (ixT rfl) (pv 0) pe_int (fun _ _ => rfl))) (pa_cons (pe_op opN_mul (pv 3) (pe_ix (ixT rfl) (pv 0) pe_int (fun _ _ => rfl))) pa_nil)) (by rfl))))
      (pss_one (ps_ret (pe_tup (pa_cons (pv 2) (pa_cons (pv 3) pa_nil))))))), ?_⟩
  obtain ⟨b, rfl, hb⟩ := frac_at hd
  refine ⟨(by show 2 ≤ sizeLine; decide), fun p0 np0 => ⟨p0, _, rfl, SqT.of upd_same, rfl, _, _, rfl, _, _, rfl, rfl, ?_⟩⟩
  have s0 : Same H (upd H p0 (.tup [nI 1, nI 1])) := same_new np0
  refine ⟨_, rfl, (m : Int), rfl, by omega, by omega, ?_⟩
  refine for_range (fun j σ H2 => ∃ y4, σ = [some (.ref b), some (nI m), some (nI (f.1 ^ j)), some (nI (f.2 ^ j)), y4] ∧ Same H H2) ⟨none, rfl, s0⟩ ?_ ?_
  · rintro j σ H2 hj ⟨y4, rfl, s2⟩
    have hb := same_tup s2 hb
    have hj2 : j ≤ 1000 := by
      have : j < m := by simpa using hj
      omega
    have l1 := pow_log (m := j) h1 hj2 (by decide)
    have l2 := pow_log (m := j) h2 hj2 (by decide)
    have l3 := lt_log2 (j := 20) h1 (by decide) (by decide)
    have l4 := lt_log2 (j := 20) h2 (by decide) (by decide)
    refine ⟨_, rfl, _, rfl, b, _, 0, _, rfl, rfl, hb, atI0, f.1 ^ j, f.1, rfl, rfl, by omega, _, rfl, _, rfl, b, _, 1, _, rfl, rfl, hb, atI1, f.2 ^ j, f.2, rfl, rfl, by omega, _, _, rfl, _, rfl, s2⟩
  · rintro σ H2 ⟨y4, rfl, s2⟩
    refine ⟨_, rfl, _, rfl, (by show 2 ≤ sizeLine; decide), fun p np => ?_⟩
    have q := q p _ (s2.trans (same_new np)) upd_same
    simpa using q
end
end Fr
namespace Fr
open PySem PySem.Spec PyProof.Rows L2
/-! ### bounds of times -/
theorem ffUp_le : ∀ (rows : List Row4) (f g : Nat), (∀ q ∈ rows, q.d ≤ 400) → ffUp rows f = some g → g ≤ max f 400
  | [], f, g, _, h => by
    have : f = g := Option.some.inj h
    omega
  | q :: rows, f, g, hd, h => by
    have hq := hd q List.mem_cons_self
    have ht : ∀ q ∈ rows, q.d ≤ 400 := fun p hp => hd p (List.mem_cons_of_mem _ hp)
    rw [ffUp_cons] at h
    split at h
    · rename_i h1
      split at h
      · cases h
      · rename_i h2
        have h3 := ffUp_le rows _ g ht h
        have e5 : q.d - q.h + q.i - q.o - 1 = q.d - q.h + (q.i - q.o) - 1 := by omega
        have hle : (q.d - q.h + q.i - q.o - 1) / (q.i - q.o) ≤ 400 := by
          rw [e5, ceil_least h1 (by omega)]
          have : 400 * 1 ≤ 400 * (q.i - q.o) := Nat.mul_le_mul_left _ (by omega)
          omega
        omega
    · exact ffUp_le rows f g ht h
theorem ffOf_le {n u v x g : Nat} (hx : ∀ r, rm x r ≤ 400) (h : ffOf (rowsOf n u v x) = some g) : g ≤ 400 := by
  unfold ffOf at h
  cases e : ffUp (rowsOf n u v x) 0 with
  | none =>
    rw [e] at h
    cases h
  | some f =>
    rw [e] at h
    dsimp only at h
    split at h
    · cases h
      have := ffUp_le _ _ _ (fun q hq => by
        obtain ⟨r, _, rfl⟩ := List.mem_map.mp hq
        exact hx r) e
      omega
    · cases h
theorem times_mem {l : Prog} {n i m : Nat} (h : timesOf l n i = some m) : m ∈ someOf l n i ∧ ∀ a ∈ someOf l n i, m ≤ a := List.min?_eq_some_iff.mp h
theorem times_le {l : Prog} {n i m : Nat} (hP : isProg l = true) (hN : isNum n = true) (h : timesOf l n i = some m) : m ≤ 400 := by
  obtain ⟨h1, _⟩ := times_mem h
  unfold someOf at h1
  rcases List.mem_append.mp h1 with z | z
  · obtain ⟨r, _, e⟩ := List.mem_filterMap.mp z
    split at e
    · cases e
      exact Nat.le_trans (Nat.div_le_self _ _) (rm_le hN r)
    · cases e
  · obtain ⟨p, hp, e⟩ := List.mem_filterMap.mp z
    exact ffOf_le (rm_le (isFrac_iff.mp ((isProg_iff.mp hP).2 p (List.mem_of_mem_take hp))).2.1) e
/-- the number behind so many turns of the fraction at i -/
def nextN (l : Prog) (n i m : Nat) : Nat := turnN n (unAt l i) (upAt l i) m
def jumpsF (l : Prog) : Nat → Nat → Option (List (Nat × Option Nat) × Option Nat)
  | 0, n => some ([], some n)
  | f + 1, n => match firstAt l n with
    | none => some ([], some n)
    | some i => match timesOf l n i with
      | none => some ([(i, none)], none)
      | some m => if 400 < maxN (rooms (nextN l n i m)) then none else (jumpsF l f (nextN l n i m)).map fun r => ((i, some m) :: r.1, r.2)
def jumpD (p : Nat × Option Nat) : PyData := .tuple [nD p.1, optD p.2]
def jumpsD (r : List (Nat × Option Nat) × Option Nat) : PyData := .tuple [.list (r.1.map jumpD), optD r.2]
theorem noL_jump (p : Nat × Option Nat) : noL (jumpD p) = true := by
  show noLs [nD p.1, optD p.2] = true
  simp [noLs, noL, noL_opt]
theorem noLs_jumps (js : List (Nat × Option Nat)) : noLs (js.map jumpD) = true := noLs_of fun d hd => by
  obtain ⟨p, _, rfl⟩ := List.mem_map.mp hd
  exact noL_jump p
theorem Shp.jump {k : Nat} (p : Nat × Option Nat) : Shp (k + 1) (jumpD p) := .tup (.cons .int (.cons (.opt _) .nil))
theorem Shp.jumps {k : Nat} (r : List (Nat × Option Nat) × Option Nat) : Shp (k + 3) (jumpsD r) := .tup (.cons (.lst (.map fun p _ => .jump p)) (.cons (.opt _) .nil))
/-- what a jump leads to -/
theorem next_good {l : Prog} {n i m : Nat} (hP : isProg l = true) (hN : isNum n = true) (hi : firstAt l n = some i) (hm : timesOf l n i = some m) : 0 < nextN l n i m ∧ left (nextN l n i m) = 1 := by
  obtain ⟨h1, h2⟩ := times_mem hm
  have hn := isNum_iff.mp hN
  obtain ⟨_, _, _, h3⟩ := times_spec hP hn.1 hn.2.1 hi h1 h2
  obtain ⟨a, b, _, _⟩ := turn_rm (frac1 hP (firstAt_lt hi)) hn.1 hn.2.1 (h3 m (Nat.le_refl _))
  exact ⟨a, b⟩
theorem next_num {l : Prog} {n i m : Nat} (hP : isProg l = true) (hN : isNum n = true) (hi : firstAt l n = some i) (hm : timesOf l n i = some m) (hx : ¬ 400 < maxN (rooms (nextN l n i m))) : isNum (nextN l n i m) = true := by
  obtain ⟨a, b⟩ := next_good hP hN hi hm
  exact isNum_iff.mpr ⟨a, b, maxN_bd (by omega)⟩
section
variable {P : Program} {w : World} {K : PySem.W.Frag} {mg : Str → Option Value} {base : Heap}
def spJumpsF (K : PySem.W.Frag) : Sp := fun vs H Q E => ∃ (v u c : V) (d e g : PyData), vs = [v, u, c] ∧ Dp K H v d ∧ Dp K H u e ∧ Dp K H c g ∧
  (isProgD d = false → ∀ H', Same H H' → E (.ref (ga K "BadProgram")) none H') ∧ (isProgD d = true → isNumD e = false → ∀ H', Same H H' → E (.ref (ga K "BadNumber")) none H') ∧
  (isProgD d = true → isNumD e = true → isCountD 0 200 g = false → ∀ H', Same H H' → E (.ref (ga K "BadNumber")) none H') ∧
  (∀ (l : Prog) (n m : Nat), d = progD l → e = nD n → g = nD m → isProg l = true → isNum n = true → m ≤ 200 →
    (∀ r, jumpsF l m n = some r → ∀ x H', Same H H' → FD K H H' x (jumpsD r) → Q x H') ∧ (jumpsF l m n = none → ∀ H', Same H H' → E (.ref (ga K "TooGreat")) none H'))
theorem ok_jumpsF (T : Txt K mg) : Cal P w K mg base (L2N.CX P w) 7 "jumps" ["program", "number", "most"] (spJumpsF K) := by
  have c_look := ok_look (P := P) (w := w) (base := base) T
  have c_need_count := ok_need_count (P := P) (w := w) (base := base) T
  have c_first_at := ok_first_at (P := P) (w := w) (base := base) T
  have c_times_at := ok_times_at (P := P) (w := w) (base := base) T
  have c_powered := ok_powered (P := P) (w := w) (base := base) T
  have c_need_room := ok_need_room (P := P) (w := w) (base := base) T
  refine Cal.mkX T.d_jumps T.m_jumps sc_jumps (fun _ _ _ _ _ _ us hl => match us, hl with | [_, _, _], _ => rfl) (fun vs H Q E h => ?_) (fun cdv A outer s H vs Q E hr h => ?_)
  · obtain ⟨v, u, c, d, e, g, rfl, _⟩ := h
    rfl
  obtain ⟨v, u, c, d, e, g, rfl, hd, he, hg, q1, q2, q3, q4⟩ := h
  refine ⟨_, (pss_cons (ps_expr (pe_cal c_look (hr.mono (by decide)) (by rfl) (L2N.passes_call (L2N.takes_of rfl rfl rfl rfl) (fun _ _ _ _ h => h)) (pa_cons (pv 0) (pa_cons (pv 1) pa_nil))))
      (pss_cons (ps_expr (pe_cal c_need_count (hr.mono (by decide)) (by rfl) (L2N.passes_call (L2N.takes_of rfl rfl rfl rfl) (fun _ _ _ _ h => h)) (pa_cons (pv 2) (pa_cons pe_int (pa_cons (pe_glob (v := .int 200) (by rfl) T.c_MOST_JUMPS.choose_spec ⟨_, rfl⟩) pa_nil)))))
      (pss_cons (ps_set (i := 3) sc_jumps.nd rfl (.inl rfl) (pe_lst pa_nil))
      (pss_cons (ps_set (i := 4) sc_jumps.nd rfl (.inl rfl) (pe_cal c_first_at (hr.mono (by decide)) (by rfl) pass0 (pa_cons (pv 0) (pa_cons (pv 1) pa_nil))))
      (pss_cons (ps_while (passes_of rfl) (PW.pt (pw_and (pt_cmpR op_notN (pv 4) pe_non (nomark _)) (pw_and1 (pt_cmpR opN_lt (pe_callB (lenS rfl) (by rfl) T.b_len PySem.boot_len (pa_cons (pv 3) pa_nil)) (pv 2) (nomark _))))) (pss_cons (ps_set (i := 5) sc_jumps.nd rfl (.inl rfl) (pe_cal c_times_at (hr.mono (by decide)) (by rfl) pass0 (pa_cons (pv 0) (pa_cons (pv 1) (pa_cons (pv 4) pa_nil)))))
      (pss_cons (ps_expr (bm rfl PySem.F.plainAttrs_list PySem.F.slot_list_append PySem.F.type_list_append mt_append (pv 3) (pa_cons (pe_tup (pa_cons (pv 4) (pa_cons (pv 5) pa_nil))) pa_nil)))
      (pss_cons (ps_if (pt_cmpR op_isN (pv 5) pe_non (nomark _)) (pss_one (ps_ret (pe_tup (pa_cons (pv 3) (pa_cons pe_non pa_nil))))) pss_nil)
      (pss_cons (ps_asg (pe_cal c_powered (hr.mono (by decide)) (by rfl) pass0 (pa_cons (pe_ix (ixL rfl) (pv 0) (pv 4) (fun _ _ => rfl)) (pa_cons (pv 5) pa_nil))) (pgT (n := 2) rfl rfl (pgs_cons (pg_name (i := 6) sc_jumps.nd rfl (.inl rfl)) (pgs_cons (pg_name (i := 7) sc_jumps.nd rfl (.inl rfl)) pgs_nil))))
      (pss_cons (ps_set (i := 1) sc_jumps.nd rfl (.inl rfl) (pe_op opN_mul (pe_op opN_div (pv 1) (pv 7)) (pv 6)))
      (pss_cons (ps_expr (pe_cal c_need_room (hr.mono (by decide)) (by rfl) (L2N.passes_call (L2N.takes_of rfl rfl rfl rfl) (fun _ _ _ _ h => h)) (pa_cons (pv 1) pa_nil)))
      (pss_one (ps_set (i := 4) sc_jumps.nd rfl (.inl rfl) (pe_cal c_first_at (hr.mono (by decide)) (by rfl) pass0 (pa_cons (pv 0) (pa_cons (pv 1) pa_nil))))))))))))
      (pss_one (ps_ret (pe_tup (pa_cons (pv 3) (pa_cons (pv 1) pa_nil)))))))))), ?_⟩
  refine ⟨_, rfl, _, rfl, v, u, d, e, rfl, hd, he, fun hp hn H1 s1 => ?_, q1, q2⟩
  refine ⟨_, rfl, c, g, 0, 200, rfl, same_dp s1 hg, fun hc => ?_, fun hc => q3 hp hn hc H1 s1⟩
  obtain ⟨l, rfl, hP⟩ := isProgD_is hp
  obtain ⟨n, rfl, hN⟩ := isNumD_is hn
  obtain ⟨m, rfl, hm⟩ := isCount_is (hi := 200) hc
  cases he
  cases hg
  obtain ⟨q5, q6⟩ := q4 l n m rfl rfl rfl hP hN hm
  refine ⟨(by show 0 ≤ sizeLine; decide), fun o no => ?_⟩
  have s2 := s1.trans (same_new (o := .lst []) no)
  have hoH : H o = none := s1.free no
  refine ⟨_, rfl, _, rfl, v, l, n, rfl, same_dp s2 hd, isProg_pos hP, fun H3 s3 => ?_⟩
  refine ⟨fun j σ H4 => ∃ (js : List (Nat × Option Nat)) (z : Nat) (ys : List V) (y5 y6 y7 : Option V), σ = [some v, some (nI z), some (nI m), some (.ref o), some (optV (firstAt l z)), y5, y6, y7] ∧ Same H H4 ∧ H4 o = some (.lst ys) ∧ DpAll K H4 ys (js.map jumpD) ∧ isNum z = true ∧ js.length + j = m ∧ jumpsF l m n = (jumpsF l j z).map fun r => (js ++ r.1, r.2), ⟨m, [], n, [], none, none, none, rfl, s2.trans s3, s3 _ _ upd_same, .nil, hN, by simp, by simp⟩, ?_⟩
  rintro j σ H4 ⟨js, z, ys, y5, y6, y7, rfl, s4, ho, hA, hz, hj, hrun⟩
  have hlen : ys.length = js.length := by rw [dps_len hA, List.length_map]
  have fin : jumpsF l j z = some ([], some z) → tRet (tTup (tCons (tVar 3) (tCons (tVar 1) tNil))) { nx := fun _ H' => Q .non H', rt := Q } [some v, some (nI z), some (nI m), some (.ref o), some (optV (firstAt l z)), y5, y6, y7] H4 := fun e => by
    refine ⟨_, rfl, _, rfl, (by show 2 ≤ sizeLine; decide), fun p np => q5 (js, some z) (by rw [hrun, e]; simp) _ _ (s4.trans (same_new np)) ?_⟩
    exact FD.pair hoH (SqT.of upd_same) ((same_new np) _ _ ho) (same_dps (same_new np) hA) (noLs_jumps js) (.int _) rfl
  cases hl : firstAt l z with
  | none =>
    rw [hl] at fin
    refine ⟨_, rfl, rfl, _, rfl, iteF (iteF (fin ?_))⟩
    cases j with
    | zero => rfl
    | succ j => unfold jumpsF; rw [hl]
  | some i =>
    rw [hl] at fin
    refine ⟨_, rfl, rfl, _, rfl, iteT ⟨_, rfl, o, _, rfl, .inl (SqL.of ho), _, rfl, js.length, m, by rw [hlen], rfl, _, rfl, ite2 (fun hc => ?_) (fun hc => ?_)⟩⟩
    · have hc := of_decide_eq_true hc
      obtain ⟨j, rfl⟩ : ∃ j', j = j' + 1 := ⟨j - 1, by omega⟩
      have hil := firstAt_lt hl
      refine ⟨fun σ' H' => ∃ (js : List (Nat × Option Nat)) (z : Nat) (ys : List V) (y5 y6 y7 : Option V), σ' = [some v, some (nI z), some (nI m), some (.ref o), some (optV (firstAt l z)), y5, y6, y7] ∧ Same H H' ∧ H' o = some (.lst ys) ∧ DpAll K H' ys (js.map jumpD) ∧ isNum z = true ∧ js.length + j = m ∧ jumpsF l m n = (jumpsF l j z).map fun r => (js ++ r.1, r.2), ?_, ?_⟩
      · rintro σ' H' ⟨js', z', ys', a1, a2, a3, h⟩
        exact ⟨j, Nat.lt_succ_self j, js', z', ys', a1, a2, a3, h⟩
      · refine ⟨_, rfl, _, rfl, _, rfl, v, l, z, i, rfl, same_dp s4 hd, hP, hz, hil, fun H5 s5 => ?_⟩
        have ho5 := s5 _ _ ho
        refine ⟨_, rfl, .inl ⟨rfl, _, SqL.of ho5⟩, _, rfl, _, rfl, (by show 2 ≤ sizeLine; decide), fun p np => ?_⟩
        have s6 : Same H5 (upd H5 p (.tup [optV (some i), optV (timesOf l z i)])) := same_new np
        have ho6 := s6 _ _ ho5
        have hdt : Dp K (upd H5 p (.tup [optV (some i), optV (timesOf l z i)])) (.ref p) (jumpD (i, timesOf l z i)) := .tup (SqT.of upd_same) (.cons (.int _) (.cons (dp_opt _) .nil))
        have hA6 := app_dp ho6 (same_dps (s5.trans s6) hA) (noLs_jumps js) hdt (noL_jump _)
        refine ⟨o, _, _, rfl, rfl, ho6, (by rw [hlen]; exact Nat.lt_of_lt_of_le (show js.length < 3000 by omega) (by decide)), ?_⟩
        have s7 : Same H (upd (upd H5 p (.tup [optV (some i), optV (timesOf l z i)])) o (.lst (ys ++ [.ref p]))) := same_put ((s4.trans s5).trans s6) hoH
        have ho7 : (upd (upd H5 p (.tup [optV (some i), optV (timesOf l z i)])) o (.lst (ys ++ [.ref p]))) o = some (.lst (ys ++ [.ref p])) := upd_same
        have e7 : js.map jumpD ++ [jumpD (i, timesOf l z i)] = (js ++ [(i, timesOf l z i)]).map jumpD := by simp
        rw [e7] at hA6
        generalize upd (upd H5 p (.tup [optV (some i), optV (timesOf l z i)])) o (.lst (ys ++ [.ref p])) = H7 at *
        generalize ys ++ [.ref p] = ys7 at *
        have hstep : jumpsF l (j + 1) z = match timesOf l z i with
            | none => some ([(i, none)], none)
            | some k => if 400 < maxN (rooms (nextN l z i k)) then none else (jumpsF l j (nextN l z i k)).map fun r => ((i, some k) :: r.1, r.2) := by
          conv => lhs; unfold jumpsF
          rw [hl]
        cases ht : timesOf l z i with
        | none =>
          rw [ht] at hstep hA6
          dsimp only at hstep
          refine ⟨_, rfl, rfl, _, rfl, iteT ⟨_, rfl, (by show 2 ≤ sizeLine; decide), fun p8 np8 => ?_⟩⟩
          refine q5 (js ++ [(i, none)], none) (by rw [hrun, hstep]; rfl) _ _ (s7.trans (same_new np8)) ?_
          exact FD.pair hoH (SqT.of upd_same) ((same_new np8) _ _ ho7) (same_dps (same_new np8) hA6) (noLs_jumps _) .non rfl
        | some k =>
          rw [ht] at hstep hA6
          dsimp only at hstep
          have hk := times_le hP hz ht
          obtain ⟨a, xs, rfl, hs, hxa, hxl⟩ := prog_at (same_dp s7 hd)
          obtain ⟨b, hb, hbs⟩ := prog_get hxa hil
          obtain ⟨f1, f2, f3, f4, f5⟩ := isFrac_iff.mp ((isProg_iff.mp hP).2 _ (List.getElem_mem hil))
          refine ⟨_, rfl, rfl, _, rfl, iteF ?_⟩
          refine ⟨_, rfl, _, rfl, a, xs, i, _, rfl, rfl, hs, atIn hb, _, rfl, _, l[i], k, rfl, .tup hbs (.cons (.int _) (.cons (.int _) .nil)), mil_lt f3, mil_lt f4, by omega, fun p8 H8 s8 hp8 => ?_⟩
          refine ⟨p8, _, rfl, SqT.of hp8, rfl, _, _, rfl, _, _, rfl, rfl, ?_⟩
          have lu := pow_log (m := k) (mil_lt f4) hk (by decide)
          have lv := pow_log (m := k) (mil_lt f3) hk (by decide)
          have h1 : z / (l[i]).2 ^ k < 2 ^ 30000 := Nat.lt_of_le_of_lt (Nat.div_le_self _ _) (num_lt hz)
          have h2 := lt_log2 (j := 30000) h1 (by decide) (by decide)
          refine ⟨_, rfl, _, rfl, z, (l[i]).2 ^ k, rfl, rfl, ⟨Nat.pow_pos (isNum_pos f2), by omega⟩, _, rfl, _, (l[i]).1 ^ k, rfl, rfl, by omega, ?_⟩
          have en : z / (l[i]).2 ^ k * (l[i]).1 ^ k = nextN l z i k := by
            unfold nextN turnN
            rw [unAt_eq hil, upAt_eq hil]
          obtain ⟨g1, g2⟩ := next_good hP hz hl ht
          have gn := next_num hP hz hl ht
          show tSeq _ _ _ [_, some (nI (z / (l[i]).2 ^ k * (l[i]).1 ^ k)), _, _, _, _, _, _] H8
          rw [en]
          generalize nextN l z i k = z' at *
          refine ⟨_, rfl, z', rfl, g1, (fun hle H9 s9 => ?_), fun hgt H9 s9 => q6 ?_ H9 ((s7.trans s8).trans s9)⟩
          · have s79 := s8.trans s9
            refine ⟨_, rfl, _, rfl, .ref a, l, z', rfl, same_dp (s7.trans s79) hd, isProg_pos hP, fun H10 s10 => ?_⟩
            have sF := s79.trans s10
            refine ⟨js ++ [(i, some k)], z', ys7, _, _, _, rfl, s7.trans sF, sF _ _ ho7, same_dps sF hA6, gn (by omega), by rw [List.length_append]; show js.length + 1 + j = m; omega, ?_⟩
            rw [hrun, hstep, if_neg (by omega)]
            cases jumpsF l j z' with
            | none => rfl
            | some r => simp
          · rw [hrun, hstep, if_pos hgt]
            rfl
    · refine fin ?_
      have hc : ¬ js.length < m := fun z => hc (decide_eq_true z)
      obtain rfl : j = 0 := by omega
      rfl
def spJumps (K : PySem.W.Frag) : Sp := fun vs H Q E => ∃ (v u c : V) (d e g : PyData), vs = [v, u, c] ∧ Dp K H v d ∧ Dp K H u e ∧ Dp K H c g ∧
  (isProgD d = false → ∀ H', Same H H' → E (.ref (ga K "BadProgram")) none H') ∧ (isProgD d = true → isNumD e = false → ∀ H', Same H H' → E (.ref (ga K "BadNumber")) none H') ∧
  (isProgD d = true → isNumD e = true → isCountD 0 200 g = false → ∀ H', Same H H' → E (.ref (ga K "BadNumber")) none H') ∧
  (∀ (l : Prog) (n m : Nat), d = progD l → e = nD n → g = nD m → isProg l = true → isNum n = true → m ≤ 200 →
    (∀ r, jumpsF l m n = some r → ∀ x H', Same H H' → Dp K H' x (jumpsD r) → Q x H') ∧ (jumpsF l m n = none → ∀ H', Same H H' → E (.ref (ga K "TooGreat")) none H'))
theorem ok_jumps (T : Txt K mg) : Cal P w K mg base (L2N.CX P w) 7 "jumps" ["program", "number", "most"] (spJumps K) := (ok_jumpsF T).weak fun vs H Q E h => by
  obtain ⟨v, u, c, d, e, g, rfl, hd, he, hg, q1, q2, q3, q4⟩ := h
  exact ⟨v, u, c, d, e, g, rfl, hd, he, hg, q1, q2, q3, fun l n m e1 e2 e3 h1 h2 h3 => ⟨fun r hr x H' s hx => (q4 l n m e1 e2 e3 h1 h2 h3).1 r hr x H' s hx.dp, (q4 l n m e1 e2 e3 h1 h2 h3).2⟩⟩
/-! ### many_steps -/
theorem jumpsF_some {l : Prog} : ∀ (f n : Nat) (r : List (Nat × Option Nat) × Option Nat), jumpsF l f n = some r → r.2 ≠ none → ∀ p ∈ r.1, p.2 ≠ none := by
  intro f
  induction f with
  | zero =>
    intro n r h _ p hp
    cases h
    cases hp
  | succ f ih =>
    intro n r h hr p hp
    unfold jumpsF at h
    split at h
    · cases h
      cases hp
    · split at h
      · cases h
        exact absurd rfl hr
      · split at h
        · cases h
        · obtain ⟨r', h', rfl⟩ := Option.map_eq_some_iff.mp h
          rcases List.mem_cons.mp hp with rfl | hp
          · exact fun z => nomatch z
          · exact ih _ r' h' hr p hp
theorem jumpsF_len {l : Prog} : ∀ (f n : Nat) (r : List (Nat × Option Nat) × Option Nat), jumpsF l f n = some r → r.1.length ≤ f := by
  intro f
  induction f with
  | zero =>
    intro n r h
    cases h
    exact Nat.le_refl _
  | succ f ih =>
    intro n r h
    unfold jumpsF at h
    split at h
    · cases h
      exact Nat.zero_le _
    · split at h
      · cases h
        exact Nat.succ_le_succ (Nat.zero_le _)
      · split at h
        · cases h
        · obtain ⟨r', h', rfl⟩ := Option.map_eq_some_iff.mp h
          exact Nat.succ_le_succ (ih _ r' h')
def stepsOf (r : List (Nat × Option Nat) × Option Nat) : Option Nat := r.2.map fun _ => (r.1.map fun p => p.2.getD 0).sum
def spMany (K : PySem.W.Frag) : Sp := fun vs H Q E => ∃ (v u c : V) (d e g : PyData), vs = [v, u, c] ∧ Dp K H v d ∧ Dp K H u e ∧ Dp K H c g ∧
  (isProgD d = false → ∀ H', Same H H' → E (.ref (ga K "BadProgram")) none H') ∧ (isProgD d = true → isNumD e = false → ∀ H', Same H H' → E (.ref (ga K "BadNumber")) none H') ∧
  (isProgD d = true → isNumD e = true → isCountD 0 200 g = false → ∀ H', Same H H' → E (.ref (ga K "BadNumber")) none H') ∧
  (∀ (l : Prog) (n m : Nat), d = progD l → e = nD n → g = nD m → isProg l = true → isNum n = true → m ≤ 200 →
    (∀ r, jumpsF l m n = some r → ∀ H', Same H H' → Q (optV (stepsOf r)) H') ∧ (jumpsF l m n = none → ∀ H', Same H H' → E (.ref (ga K "TooGreat")) none H'))
theorem ok_many_steps (T : Txt K mg) : Cal P w K mg base (L2N.CX P w) 8 "many_steps" ["program", "number", "most"] (spMany K) := by
  have c_jumps := ok_jumps (P := P) (w := w) (base := base) T
  refine Cal.mkX T.d_many_steps T.m_many_steps sc_many_steps (fun _ _ _ _ _ _ us hl => match us, hl with | [_, _, _], _ => rfl) (fun vs H Q E h => ?_) (fun cdv A outer s H vs Q E hr h => ?_)
  · obtain ⟨v, u, c, d, e, g, rfl, _⟩ := h
    rfl
  obtain ⟨v, u, c, d, e, g, rfl, hd, he, hg, q1, q2, q3, q4⟩ := h
  refine ⟨_, (pss_cons (ps_set (i := 3) sc_many_steps.nd rfl (.inl rfl) (pe_cal c_jumps (hr.mono (by decide)) (by rfl) (L2N.passes_call (L2N.takes_of rfl rfl rfl rfl) (fun _ _ _ _ h => h)) (pa_cons (pv 0) (pa_cons (pv 1) (pa_cons (pv 2) pa_nil)))))
      (pss_one (ps_ret (pe_ifExp (pt_cmpR op_isN (pe_ix (ixT rfl) (pv 3) pe_int (fun _ _ => rfl)) pe_non (nomark _)) pe_non (pe_callB (crSum rfl rfl) (by rfl) T.b_sum boot_sum (pa_cons (pe_lc (own := [("place", 4), ("many", 5)]) rfl sc_many_steps.nd (piL rfl (pe_ix (ixT rfl) (pv 3) pe_int (fun _ _ => rfl))) (blkOk_by (own := [("place", 4), ("many", 5)]) (N := ["program", "number", "most", "found", "place", "many"]) (sc := defScope s_many_steps) (by decide +kernel)) (fun _ _ _ _ _ => (pgT (n := 2) rfl rfl (pgs_cons (pg_name (i := 4) sc_many_steps.nd rfl (.inl rfl)) (pgs_cons (pg_name (i := 5) sc_many_steps.nd rfl (.inl rfl)) pgs_nil)))) (fun _ _ _ _ _ => pts_nil) (fun _ _ _ _ _ => (pv 5))) pa_nil)))))), ?_⟩
  refine ⟨_, rfl, _, rfl, _, rfl, v, u, c, d, e, g, rfl, hd, he, hg, q1, q2, q3, fun l n m e1 e2 e3 hP hN hm => ?_⟩
  obtain ⟨q5, q6⟩ := q4 l n m e1 e2 e3 hP hN hm
  refine ⟨fun r hr2 x H1 s1 hx => ?_, q6⟩
  obtain ⟨a, x1, x2, rfl, hs, hx1, hx2⟩ := dp_two hx
  obtain ⟨b, ys, rfl, hbs, hys⟩ := dp_lst hx1
  obtain rfl := dp_optV hx2
  have hlen : ys.length = r.1.length := by rw [dps_len hys, List.length_map]
  have hlr := jumpsF_len m n r hr2
  refine ⟨_, rfl, a, _, 1, _, rfl, rfl, hs, atI1, rfl, _, rfl, ?_⟩
  have q5 := q5 r hr2
  unfold stepsOf at q5
  cases hr3 : r.2 with
  | none =>
    rw [hr3] at q5
    exact iteT (q5 H1 s1)
  | some z =>
    rw [hr3] at q5
    have hsome := jumpsF_some m n r hr2 (by rw [hr3]; exact fun z => nomatch z)
    refine iteF ⟨_, rfl, a, _, 0, _, rfl, rfl, hs, atI0, b, rfl, ⟨_, hbs⟩, fun D hD => ?_⟩
    refine lc_dp (K := K) walk_list hD (by omega) (fun H' s' => s'.seq hbs) (fun i => r.1[i]?.map fun p => nD (p.2.getD 0)) ?_ ?_ ?_
    · intro i d e
      obtain ⟨a, _, rfl⟩ := Option.map_eq_some_iff.mp e
      rfl
    · rintro i x H' H'' A B hi s' ⟨rfl, hx⟩ hA hB
      obtain ⟨d, hd2, hp⟩ := dps_at2 hys hx
      rw [List.getElem?_map] at hd2
      obtain ⟨p, hp1, rfl⟩ := Option.map_eq_some_iff.mp hd2
      obtain ⟨a', z1, z2, rfl, hs', hz1, hz2⟩ := dp_two (same_dp s' hp)
      obtain rfl := dp_optV hz2
      obtain ⟨k, hk⟩ := Option.ne_none_iff_exists'.mp (hsome p (List.mem_of_getElem? hp1))
      refine ⟨a', _, rfl, hs', rfl, _, _, rfl, _, _, rfl, rfl, rfl, _, rfl, hA _ _ _ (by rw [hp1]; rfl) (Same.refl _) ?_⟩
      show Dp K _ _ (nD (p.2.getD 0))
      rw [hk]
      exact .int _
    · intro H2 zs s2 hD2 hA2
      rw [hlen, gath_map] at hA2
      have ez : zs = (r.1.map fun p => p.2.getD 0).map nI := dps_nats (by rw [List.map_map]; exact hA2)
      rw [ez] at hD2
      refine ⟨D, (r.1.map fun p => p.2.getD 0).map fun (x : Nat) => (x : Int), rfl, by rw [List.map_map]; exact SqL.of hD2, ?_⟩
      rw [sum_ints]
      exact q5 H2 (s1.trans s2)
end
end Fr
namespace Fr
open PySem PySem.Spec PyProof.Rows L2
/-! ### what goes on -/
def grows (x y : Nat) : Bool := (List.range 12).all fun c => decide (rm x c ≤ rm y c)
def lacks (a b x u : Nat) : Bool := (List.range 12).any fun c => decide (rm x c < rm u c) && decide (rm b c = rm a c)
def holds (l : Prog) (a b x : Nat) : Bool := (l.take ((firstAt l x).getD 0)).all fun p => lacks a b x p.2
def goesOn (l : Prog) (r : List Nat) (f t : Nat) : Bool := grows (r.getD f 1) (r.getD t 1) && ((r.take t).drop f).all (holds l (r.getD f 1) (r.getD t 1))
theorem cut_both (xs : List V) (i j : Nat) (h : i ≤ j) : cutV xs (some (i : Int)) (some (j : Int)) = (xs.take j).drop i := by
  unfold cutV
  rw [show HT.sIx xs.length 0 (some (i : Int)) = min i xs.length from HT.sIx_nat xs.length 0 i, show HT.sIx xs.length xs.length (some (j : Int)) = min j xs.length from HT.sIx_nat xs.length xs.length j]
  rcases Nat.le_total j xs.length with hj | hj
  · rw [Nat.min_eq_left hj, Nat.min_eq_left (by omega), List.drop_take]
  · rw [Nat.min_eq_right hj, List.take_of_length_le hj]
    rcases Nat.le_total i xs.length with hi | hi
    · rw [Nat.min_eq_left hi, List.take_of_length_le (by rw [List.length_drop]; exact Nat.le_refl _)]
    · rw [Nat.min_eq_right hi, List.drop_of_length_le hi]
      simp
section
variable {P : Program} {w : World} {K : PySem.W.Frag} {mg : Str → Option Value} {base : Heap}
/-! ### walked -/
def spWalked (K : PySem.W.Frag) : Sp := fun vs H Q E => ∃ (v : V) (l : Prog) (n m : Nat), vs = [v, nI n, nI m] ∧ Dp K H v (progD l) ∧ isProg l = true ∧ isNum n = true ∧ m ≤ 2000 ∧
  (∀ r, runF l m n = some r → ∀ p H', Same H H' → H p = none → H' p = some (.lst (r.map nI)) → Q (.ref p) H') ∧ (runF l m n = none → ∀ H', Same H H' → E (.ref (ga K "TooGreat")) none H')
theorem ok_walked (T : Txt K mg) : Cal P w K mg base (L2N.CX P w) 4 "walked" ["program", "number", "many"] (spWalked K) := by
  have c_led := ok_led (P := P) (w := w) (base := base) T
  have c_need_room := ok_need_room (P := P) (w := w) (base := base) T
  refine Cal.mkX T.d_walked T.m_walked sc_walked (fun _ _ _ _ _ _ us hl => match us, hl with | [_, _, _], _ => rfl) (fun vs H Q E h => ?_) (fun cdv A outer s H vs Q E hr h => ?_)
  · obtain ⟨v, l, n, m, rfl, _⟩ := h
    rfl
  obtain ⟨v, l, n, m, rfl, hd, hP, hN, hm, q5, q6⟩ := h
  refine ⟨_, (pss_cons (ps_set (i := 3) sc_walked.nd rfl (.inl rfl) (pe_lst (pa_cons (pv 1) pa_nil)))
      (pss_cons (ps_while (passes_of rfl) (pt_cmpR opN_le (pe_callB (lenS rfl) (by rfl) T.b_len PySem.boot_len (pa_cons (pv 3) pa_nil)) (pv 2) (nomark _)) (pss_cons (ps_set (i := 4) sc_walked.nd rfl (.inl rfl) (pe_cal c_led (hr.mono (by decide)) (by rfl) pass0 (pa_cons (pv 0) (pa_cons (pe_ix (ixL rfl) (pv 3) (pe_un un_neg pe_int) (fun _ _ => rfl)) pa_nil))))
      (pss_cons (ps_if (pt_cmpR op_isN (pv 4) pe_non (nomark _)) (pss_one (ps_ret (pv 3))) pss_nil)
      (pss_cons (ps_expr (pe_cal c_need_room (hr.mono (by decide)) (by rfl) (L2N.passes_call (L2N.takes_of rfl rfl rfl rfl) (fun _ _ _ _ h => h)) (pa_cons (pv 4) pa_nil)))
      (pss_one (ps_expr (bm rfl PySem.F.plainAttrs_list PySem.F.slot_list_append PySem.F.type_list_append mt_append (pv 3) (pa_cons (pv 4) pa_nil))))))))
      (pss_one (ps_ret (pv 3))))), ?_⟩
  refine ⟨_, rfl, (by show 1 ≤ sizeLine; decide), fun o no => ?_⟩
  refine ⟨fun j σ H4 => ∃ (fs : List Nat) (z : Nat) (y4 : Option V), σ = [some v, some (nI n), some (nI m), some (.ref o), y4] ∧ Same H H4 ∧ H4 o = some (.lst ((fs ++ [z]).map nI)) ∧ isNum z = true ∧ fs.length + j = m ∧ runF l m n = (runF l j z).map (fs ++ ·), ⟨m, [], n, none, rfl, same_new no, upd_same, hN, by simp, by simp⟩, ?_⟩
  rintro j σ H4 ⟨fs, z, y4, rfl, s4, ho, hz, hj, hrun⟩
  have fin : ∀ H5, Same H4 H5 → runF l j z = some [z] → Q (.ref o) H5 := fun H5 s5 e => q5 (fs ++ [z]) (by rw [hrun, e]; rfl) o H5 (s4.trans s5) no (s5 _ _ ho)
  have hlen : ((fs ++ [z]).map nI).length = fs.length + 1 := by simp
  refine ⟨_, rfl, o, _, rfl, .inl (SqL.of ho), _, rfl, fs.length + 1, m, by rw [hlen], rfl, _, rfl, ite2 (fun hc => ?_) (fun hc => ?_)⟩
  · have hc := of_decide_eq_true hc
    obtain ⟨j, rfl⟩ : ∃ j', j = j' + 1 := ⟨j - 1, by omega⟩
    refine ⟨fun σ' H' => ∃ (fs : List Nat) (z : Nat) (y4 : Option V), σ' = [some v, some (nI n), some (nI m), some (.ref o), y4] ∧ Same H H' ∧ H' o = some (.lst ((fs ++ [z]).map nI)) ∧ isNum z = true ∧ fs.length + j = m ∧ runF l m n = (runF l j z).map (fs ++ ·), ?_, ?_⟩
    · rintro σ' H' ⟨fs', z', a0, a1, a2, a3, a4, a5, a6⟩
      exact ⟨j, Nat.lt_succ_self j, fs', z', a0, a1, a2, a3, a4, a5, a6⟩
    · refine ⟨_, rfl, _, rfl, 1, rfl, o, _, _, _, rfl, rfl, SqL.of ho, at_last fs z, v, l, z, rfl, same_dp s4 hd, hP, num_lt hz, fun H5 s5 => ?_⟩
      have hzn := isNum_iff.mp hz
      cases hl : led l z with
      | none =>
        refine ⟨_, rfl, rfl, _, rfl, iteT ⟨_, rfl, fin H5 s5 ?_⟩⟩
        unfold runF
        rw [hl]
      | some x =>
        obtain ⟨hx0, hxl⟩ := led_left hP hzn.1 hzn.2.1 hl
        have hrun2 : runF l (j + 1) z = if 400 < maxN (rooms x) then none else (runF l j x).map (z :: ·) := by
          conv => lhs; unfold runF
          rw [hl]
        refine ⟨_, rfl, rfl, _, rfl, iteF ⟨_, rfl, x, rfl, hx0, (fun hle H6 s6 => ?_), fun hgt H6 s6 => q6 ?_ H6 ((s4.trans s5).trans s6)⟩⟩
        · have hxn : isNum x = true := led_num hP hz hl (by omega)
          have ho6 := (s5.trans s6) _ _ ho
          refine ⟨_, rfl, .inl ⟨rfl, _, SqL.of ho6⟩, _, rfl, o, _, _, rfl, rfl, ho6, (by rw [hlen]; exact Nat.lt_of_lt_of_le (show fs.length + 1 < 3000 by omega) (by decide)), ?_⟩
          refine ⟨fs ++ [z], x, _, rfl, same_put ((s4.trans s5).trans s6) no, ?_, hxn, by rw [List.length_append]; show fs.length + 1 + j = m; omega, ?_⟩
          · show upd _ _ _ o = _
            rw [upd_same, List.map_append, List.map_append, List.map_append]
            rfl
          · rw [hrun, hrun2, if_neg (by omega)]
            cases runF l j x with
            | none => rfl
            | some r => simp
        · rw [hrun, hrun2, if_pos hgt]
          rfl
  · refine ⟨_, rfl, fin H4 (Same.refl _) ?_⟩
    have hc : ¬ fs.length + 1 ≤ m := fun z => hc (decide_eq_true z)
    obtain rfl : j = 0 := by omega
    rfl
/-! ### goes_on -/
def spGoesOn (K : PySem.W.Frag) : Sp := fun vs H Q _ => ∃ (v : V) (a : Addr) (l : Prog) (r : List Nat) (f t : Nat), vs = [v, .ref a, nI f, nI t] ∧ Dp K H v (progD l) ∧ isProg l = true ∧ SqL K H a (r.map nI) ∧ f < t ∧ t < r.length ∧ (∀ x ∈ r, isNum x = true) ∧
  (∀ x ∈ (r.take t).drop f, firstAt l x ≠ none) ∧ ∀ H', Same H H' → Q (.bl (goesOn l r f t)) H'
theorem ok_goes_on (T : Txt K mg) : Cal P w K mg base L2.CX0 2 "goes_on" ["program", "row", "first", "last"] (spGoesOn K) := by
  have c_parted := ok_parted (P := P) (w := w) (base := base) T
  have c_first_at := ok_first_at (P := P) (w := w) (base := base) T
  refine Cal.mk0 T.d_goes_on T.m_goes_on sc_goes_on (fun _ _ _ _ _ _ us hl => match us, hl with | [_, _, _, _], _ => rfl) (fun vs H Q E h => ?_) (fun cdv A outer s H vs Q E hr h => ?_)
  · obtain ⟨v, a, l, r, f, t, rfl, _⟩ := h
    rfl
  obtain ⟨v, a, l, r, f, t, rfl, hd, hP, hr', hft, htr, hnum, hfit, q⟩ := h
  refine ⟨_, (pss_cons (ps_par (i := 4) (j := 5) (by rfl) sc_goes_on.nd rfl rfl (by decide) rfl rfl (pa_cons (pe_ix (ixT rfl) (pe_cal c_parted (hr.mono (by decide)) (by rfl) pass0 (pa_cons (pe_ix (ixL rfl) (pv 1) (pv 2) (fun _ _ => rfl)) pa_nil)) pe_int (fun _ _ => rfl)) (pa_cons (pe_ix (ixT rfl) (pe_cal c_parted (hr.mono (by decide)) (by rfl) pass0 (pa_cons (pe_ix (ixL rfl) (pv 1) (pv 3) (fun _ _ => rfl)) pa_nil)) pe_int (fun _ _ => rfl)) pa_nil)) (by rfl))
      (pss_cons (ps_setLc (i := 6) (own := [("have", 11), ("own", 12)]) rfl sc_goes_on.nd rfl rfl (sw_true rfl rfl rfl (by decide +kernel)) (Zn.zip2 rfl (by rfl) T.b_zip (pa_cons (pv 4) (pa_cons (pv 5) pa_nil))) (blkOk_by (own := [("have", 11), ("own", 12)]) (N := ["program", "row", "first", "last", "start", "goal", "more", "number", "rooms", "fraction", "due", "have", "own", "need", "grown"]) (sc := defScope s_goes_on) (by decide +kernel)) (fun _ _ _ _ _ => (pgT (n := 2) rfl rfl (pgs_cons (pg_name (i := 11) sc_goes_on.nd rfl (.inl rfl)) (pgs_cons (pg_name (i := 12) sc_goes_on.nd rfl (.inl rfl)) pgs_nil)))) (fun _ _ _ _ _ => pts_nil) (fun _ _ _ _ _ => (pe_op op_sub (pv 12) (pv 11))))
      (pss_cons (ps_if (pt_cmpR op_lt (pe_callB (crMin rfl rfl) (by rfl) T.b_min boot_min (pa_cons (pv 6) pa_nil)) pe_int (nomark _)) (pss_one (ps_ret pe_bl)) pss_nil)
      (pss_cons (ps_for PassesOwn.never rfl (piL rfl (pe_slice (slL rfl) (pv 1) (po_some (pv 2)) (po_some (pv 3)))) (pg_name (i := 7) sc_goes_on.nd rfl (.inl rfl)) (pss_cons (ps_set (i := 8) sc_goes_on.nd rfl (.inl rfl) (pe_ix (ixT rfl) (pe_cal c_parted (hr.mono (by decide)) (by rfl) pass0 (pa_cons (pv 7) pa_nil)) pe_int (fun _ _ => rfl)))
      (pss_one (ps_for PassesOwn.never rfl (piL rfl (pe_slice (slL rfl) (pv 0) po_none (po_some (pe_cal c_first_at (hr.mono (by decide)) (by rfl) pass0 (pa_cons (pv 0) (pa_cons (pv 7) pa_nil)))))) (pg_name (i := 9) sc_goes_on.nd rfl (.inl rfl)) (pss_cons (ps_set (i := 10) sc_goes_on.nd rfl (.inl rfl) (pe_ix (ixT rfl) (pe_cal c_parted (hr.mono (by decide)) (by rfl) pass0 (pa_cons (pe_ix (ixT rfl) (pv 9) pe_int (fun _ _ => rfl)) pa_nil)) pe_int (fun _ _ => rfl)))
      (pss_one (ps_if (pt_not (pt_val (pe_callB (crAny rfl rfl) (by rfl) T.b_any boot_any (pa_cons (pe_lc (own := [("have", 11), ("need", 13), ("grown", 14)]) rfl sc_goes_on.nd (Zn.zip3 rfl (by rfl) T.b_zip (pa_cons (pv 8) (pa_cons (pv 10) (pa_cons (pv 6) pa_nil)))) (blkOk_by (own := [("have", 11), ("need", 13), ("grown", 14)]) (N := ["program", "row", "first", "last", "start", "goal", "more", "number", "rooms", "fraction", "due", "have", "own", "need", "grown"]) (sc := defScope s_goes_on) (by decide +kernel)) (fun _ _ _ _ _ => (pgT (n := 3) rfl rfl (pgs_cons (pg_name (i := 11) sc_goes_on.nd rfl (.inl rfl)) (pgs_cons (pg_name (i := 13) sc_goes_on.nd rfl (.inl rfl)) (pgs_cons (pg_name (i := 14) sc_goes_on.nd rfl (.inl rfl)) pgs_nil))))) (fun _ _ _ _ _ => pts_nil) (fun _ _ _ _ _ => (pe_and (pe_cmpR opN_lt (pv 11) (pv 13) (nomark _)) (pe_one (pe_cmpR opN_eq (pv 14) pe_int (nomark _)))))) pa_nil)))) (pss_one (ps_ret pe_bl)) pss_nil)))))))
      (pss_one (ps_ret pe_bl)))))), ?_⟩
  have ef : r[f]? = some (r.getD f 1) := by rw [List.getD_eq_getElem?_getD, List.getElem?_eq_getElem (by omega)]; rfl
  have et : r[t]? = some (r.getD t 1) := by rw [List.getD_eq_getElem?_getD, List.getElem?_eq_getElem htr]; rfl
  have nf := hnum _ (List.mem_of_getElem? ef)
  have nt := hnum _ (List.mem_of_getElem? et)
  have ef' : (r.map nI)[f]? = some (nI (r.getD f 1)) := by rw [List.getElem?_map, ef]; rfl
  have et' : (r.map nI)[t]? = some (nI (r.getD t 1)) := by rw [List.getElem?_map, et]; rfl
  unfold goesOn at q
  generalize r.getD f 1 = x at *
  generalize r.getD t 1 = y at *
  refine ⟨_, rfl, _, rfl, a, _, f, _, rfl, rfl, hr', atIn ef', x, rfl, isNum_pos nf, fun p1 t1 H1 s1 ht1 hp1 => ⟨p1, _, 0, _, rfl, rfl, SqT.of hp1, atI0, ?_⟩⟩
  refine ⟨_, rfl, _, rfl, a, _, t, _, rfl, rfl, s1.seq hr', atIn et', y, rfl, isNum_pos nt, fun p2 t2 H2 s2 ht2 hp2 => ⟨p2, _, 0, _, rfl, rfl, SqT.of hp2, atI0, _, _, rfl, ?_⟩⟩
  have ht1 := s2 _ _ ht1
  refine ⟨_, rfl, _, rfl, [(false, t1), (false, t2)], rfl, rfl, ?_, fun D hD => ?_⟩
  · intro q hq
    simp only [List.mem_cons, List.not_mem_nil, or_false] at hq
    rcases hq with rfl | rfl
    · exact ⟨_, SqT.of ht1⟩
    · exact ⟨_, SqT.of ht2⟩
  refine lc_dp (K := K) (walk_zipN (yss := [(rooms x).map nI, (rooms y).map nI]) (n := 12) ?_ ?_) hD (by decide) (fun H' s' => ⟨same_tup s' (SqT.of ht1), same_tup s' (SqT.of ht2), True.intro⟩) (fun c => some (.int ((rm y c : Int) - (rm x c : Int)))) ?_ ?_ ?_
  · intro ys hy
    simp only [List.mem_cons, List.not_mem_nil, or_false] at hy
    rcases hy with rfl | rfl <;> rw [List.length_map, rooms_len] <;> exact Nat.le_refl _
  · exact ⟨_, List.mem_cons_self, by rw [List.length_map, rooms_len]⟩
  · intro c d e
    cases e
    rfl
  · rintro c x' H' H'' A B hc s' ⟨Tt, rfl, nT, rfl⟩ hA hB
    rw [row22 hc]
    refine ⟨Tt, _, rfl, SqT.of upd_same, rfl, _, _, rfl, _, _, rfl, rfl, rfl, ?_⟩
    exact ⟨_, rfl, _, rfl, _, _, rfl, rfl, hA _ _ _ rfl (same_new nT) (.int _)⟩
  intro H3 ys s3 hD3 hA3
  have eg : gath (fun c => some (PyData.int ((rm y c : Int) - (rm x c : Int)))) 12 = ((List.range 12).map fun c => (rm y c : Int) - (rm x c : Int)).map PyData.int := by
    unfold gath
    rw [List.map_map]
    exact congrFun List.filterMap_eq_map' _
  rw [eg] at hA3
  have ey := dps_of_ints hA3
  rw [ey] at hD3
  have s03 := (s1.trans s2).trans s3
  refine ⟨_, rfl, D, _, rfl, SqL.of hD3, by rw [List.length_map]; decide, fun m hm hle => ⟨m, 0, rfl, rfl, _, rfl, ite2 (fun hneg => ?_) (fun hneg => ?_)⟩⟩
  · have hneg := of_decide_eq_true hneg
    obtain ⟨c, hc, rfl⟩ := List.mem_map.mp hm
    have e : grows x y = false := by
      cases e : grows x y with
      | false => rfl
      | true =>
        unfold grows at e
        rw [List.all_eq_true] at e
        have := of_decide_eq_true (e c hc)
        omega
    rw [e, Bool.false_and] at q
    exact q _ s03
  have hneg : ¬ m < 0 := fun z => hneg (decide_eq_true z)
  have hgr : ∀ c, c < 12 → rm x c ≤ rm y c := fun c hc => by
    have := hle _ (List.mem_map.mpr ⟨c, List.mem_range.mpr hc, rfl⟩)
    omega
  have e : grows x y = true := by
    unfold grows
    rw [List.all_eq_true]
    intro c hc
    exact decide_eq_true (hgr c (List.mem_range.mp hc))
  rw [e, Bool.true_and] at q
  have hD3 : H3 D = some (.lst ((List.range 12).map fun c => nI (rm y c - rm x c))) := by
    rw [hD3, List.map_map]
    congr 2
    refine List.map_congr_left fun c hc => ?_
    have := hgr c (List.mem_range.mp hc)
    show V.int ((rm y c : Int) - (rm x c : Int)) = V.int ((rm y c - rm x c : Nat) : Int)
    rw [Int.ofNat_sub this]
  clear ey hA3 hm hle
  have s23 : Same H1 H3 := s2.trans s3
  refine ⟨_, rfl, _, rfl, f, rfl, _, rfl, t, rfl, a, _, rfl, s03.seq hr', fun c nc => ?_⟩
  rw [cut_both _ _ _ (by omega), ← List.map_take, ← List.map_drop]
  have hr2 : ∀ z ∈ (r.take t).drop f, isNum z = true := fun z hz => hnum z (List.mem_of_mem_take (List.mem_of_mem_drop hz))
  generalize (r.take t).drop f = r' at *
  have sc' : Same H3 (upd H3 c (.lst (r'.map nI))) := same_new nc
  refine ⟨c, rfl, ⟨_, SqL.of upd_same⟩, for_list (xs := r'.map nI) (fun i σ H5 => ∃ (y7 y8 y9 y10 : Option V), σ = [some v, some (.ref a), some (nI f), some (nI t), some (.ref t1), some (.ref t2), some (.ref D), y7, y8, y9, y10, none, none, none, none] ∧ Same H3 H5 ∧ H5 c = some (.lst (r'.map nI)) ∧ ∀ z ∈ r'.take i, holds l x y z = true) ⟨none, none, none, none, rfl, sc', upd_same, fun z hz => by simp at hz⟩ ?_ ?_ ?_⟩
  · rintro i σ H5 _ ⟨y7, y8, y9, y10, rfl, s5, hc5, _⟩
    exact SqL.of hc5
  · rintro i x' σ H5 hx ⟨y7, y8, y9, y10, rfl, s5, hc5, hold⟩
    rw [List.getElem?_map] at hx
    obtain ⟨z, hz, rfl⟩ := Option.map_eq_some_iff.mp hx
    have hzm := List.mem_of_getElem? hz
    have hzn := hr2 z hzm
    obtain ⟨g, hg⟩ := Option.ne_none_iff_exists'.mp (hfit z hzm)
    rw [take_at hz]
    refine ⟨_, rfl, z, rfl, isNum_pos hzn, fun p6 t6 H6 s6 ht6 hp6 => ⟨p6, _, 0, _, rfl, rfl, SqT.of hp6, atI0, ?_⟩⟩
    refine ⟨_, rfl, _, rfl, _, rfl, v, l, z, rfl, same_dp ((s03.trans s5).trans s6) hd, isProg_pos hP, fun H7 s7 => ?_⟩
    rw [hg]
    obtain ⟨ap, pxs, rfl, hps, hpd, hpl⟩ := prog_at (same_dp (((s03.trans s5).trans s6).trans s7) hd)
    refine ⟨g, rfl, ap, pxs, rfl, hps, fun c2 nc2 => ?_⟩
    rw [cut_take]
    have s8 : Same H7 (upd H7 c2 (.lst (pxs.take g))) := same_new nc2
    have hA8 := dps_take g (same_dps s8 hpd)
    rw [← List.map_take] at hA8
    have hlt : (pxs.take g).length = (l.take g).length := by rw [List.length_take, List.length_take, hpl]
    have hfr : ∀ p ∈ l.take g, isNum p.2 = true := fun p hp => (isFrac_iff.mp ((isProg_iff.mp hP).2 p (List.mem_of_mem_take hp))).2.1
    have s58 := (s6.trans s7).trans s8
    have ht8 := (s7.trans s8) _ _ ht6
    have hD8 := (s5.trans s58) _ _ hD3
    have hc8 := s58 _ _ hc5
    have hhold : holds l x y z = (l.take g).all fun p => lacks x y z p.2 := by
      unfold holds
      rw [hg]
      rfl
    have hc28 : (upd H7 c2 (.lst (pxs.take g))) c2 = some (.lst (pxs.take g)) := upd_same
    generalize upd H7 c2 (.lst (pxs.take g)) = H8 at *
    refine ⟨c2, rfl, ⟨_, SqL.of hc28⟩, for_list (xs := pxs.take g) (fun j σ H9 => ∃ (y9 y10 : Option V), σ = [some (.ref ap), some (.ref a), some (nI f), some (nI t), some (.ref t1), some (.ref t2), some (.ref D), some (nI z), some (.ref t6), y9, y10, none, none, none, none] ∧ Same H8 H9 ∧ ∀ p ∈ (l.take g).take j, lacks x y z p.2 = true) ⟨y9, y10, rfl, Same.refl _, fun p hp => by simp at hp⟩ ?_ ?_ ?_⟩
    · rintro j σ H9 _ ⟨y9, y10, rfl, s9, _⟩
      exact SqL.of (s9 _ _ hc28)
    · rintro j x9 σ H9 hx9 ⟨y9, y10, rfl, s9, hlk⟩
      obtain ⟨hj, b9, rfl, hb9, _⟩ := prog_item (same_dps s9 hA8) hx9
      have hgj : (l.take g)[j]? = some (l.take g)[j] := List.getElem?_eq_getElem hj
      have hun := hfr _ (List.getElem_mem hj)
      rw [take_at hgj]
      generalize hpe : (l.take g)[j] = pf at *
      refine ⟨_, rfl, b9, _, 1, _, rfl, rfl, hb9, atI1, pf.2, rfl, isNum_pos hun, fun p10 t10 H10 s10 ht10 hp10 => ⟨p10, _, 0, _, rfl, rfl, SqT.of hp10, atI0, ?_⟩⟩
      have s810 := s9.trans s10
      have ht10' := s810 _ _ ht8
      have hD10 := s810 _ _ hD8
      refine ⟨_, rfl, _, rfl, _, rfl, [(false, t6), (false, t10), (true, D)], rfl, rfl, ?_, fun D2 hD2 => ?_⟩
      · intro q hq
        simp only [List.mem_cons, List.not_mem_nil, or_false] at hq
        rcases hq with rfl | rfl | rfl
        · exact ⟨_, SqT.of ht10'⟩
        · exact ⟨_, SqT.of ht10⟩
        · exact ⟨_, SqL.of hD10⟩
      refine lc_dp (K := K) (walk_zipN (yss := [(rooms z).map nI, (rooms pf.2).map nI, (List.range 12).map fun c => nI (rm y c - rm x c)]) (n := 12) ?_ ?_) hD2 (by decide) (fun H' s' => ⟨same_tup s' (SqT.of ht10'), same_tup s' (SqT.of ht10), s'.seq (SqL.of hD10), True.intro⟩) (fun c => some (.bool (decide (rm z c < rm pf.2 c) && decide (rm y c = rm x c)))) ?_ ?_ ?_
      · intro ys hy
        simp only [List.mem_cons, List.not_mem_nil, or_false] at hy
        rcases hy with rfl | rfl | rfl
        · rw [List.length_map, rooms_len]; exact Nat.le_refl _
        · rw [List.length_map, rooms_len]; exact Nat.le_refl _
        · rw [List.length_map, List.length_range]; exact Nat.le_refl _
      · exact ⟨_, List.mem_cons_self, by rw [List.length_map, rooms_len]⟩
      · intro c d e
        cases e
        rfl
      · rintro c x' H' H'' A B hc s' ⟨Tt, rfl, nT, rfl⟩ hA hB
        have er : Zn.rowAt c [(rooms z).map nI, (rooms pf.2).map nI, (List.range 12).map fun c => nI (rm y c - rm x c)] = [nI (rm z c), nI (rm pf.2 c), nI (rm y c - rm x c)] := by
          show [((rooms z).map nI).getD c .non, ((rooms pf.2).map nI).getD c .non, ((List.range 12).map fun c => nI (rm y c - rm x c)).getD c .non] = _
          rw [rooms_getD z c hc, rooms_getD pf.2 c hc, List.getD_eq_getElem?_getD, List.getElem?_map, List.getElem?_range hc]
          rfl
        rw [er]
        have hgc := hgr c hc
        refine ⟨Tt, _, rfl, SqT.of upd_same, rfl, _, _, rfl, _, _, rfl, _, _, rfl, rfl, rfl, ?_⟩
        refine ⟨_, rfl, _, rfl, rm z c, rm pf.2 c, rfl, rfl, _, rfl, ?_⟩
        by_cases h1 : rm z c < rm pf.2 c
        · rw [decide_eq_true h1] at hA ⊢
          refine iteT ⟨_, rfl, rm y c - rm x c, 0, rfl, rfl, hA _ _ _ rfl (same_new nT) ?_⟩
          have e1 : decide (rm y c - rm x c = 0) = decide (rm y c = rm x c) := by
            rw [Bool.eq_iff_iff, decide_eq_true_iff, decide_eq_true_iff]
            omega
          show Dp K _ (.bl (decide (rm y c - rm x c = 0))) _
          rw [e1, Bool.true_and]
          exact .bl _
        · rw [decide_eq_false h1] at hA ⊢
          exact iteF (hA _ _ _ rfl (same_new nT) (.bl _))
      intro H11 zs s11 hD11 hA11
      have eg2 : gath (fun c => some (PyData.bool (decide (rm z c < rm pf.2 c) && decide (rm y c = rm x c)))) 12 = ((List.range 12).map fun c => decide (rm z c < rm pf.2 c) && decide (rm y c = rm x c)).map PyData.bool := by
        unfold gath
        rw [List.map_map]
        exact congrFun List.filterMap_eq_map' _
      rw [eg2] at hA11
      have ez := dps_bools hA11
      rw [ez] at hD11
      refine ⟨D2, _, rfl, SqL.of hD11, _, rfl, ?_⟩
      have ean : (((List.range 12).map fun c => decide (rm z c < rm pf.2 c) && decide (rm y c = rm x c)).any id) = lacks x y z pf.2 := by
        unfold lacks
        rw [List.any_map]
        rfl
      rw [ean]
      cases hlf : lacks x y z pf.2 with
      | false =>
        have e1 : holds l x y z = false := by
          rw [hhold]
          cases e1 : (l.take g).all fun p => lacks x y z p.2 with
          | false => rfl
          | true =>
            rw [List.all_eq_true] at e1
            have := e1 pf (by rw [← hpe]; exact List.getElem_mem hj)
            rw [hlf] at this
            cases this
        have e2 : (r'.all (holds l x y)) = false := by
          cases e2 : r'.all (holds l x y) with
          | false => rfl
          | true =>
            rw [List.all_eq_true] at e2
            rw [e2 z hzm] at e1
            cases e1
        rw [e2] at q
        exact iteT (q _ (((s03.trans s5).trans s58).trans (s810.trans s11)))
      | true =>
        refine iteF ⟨_, _, rfl, s810.trans s11, fun p hp => ?_⟩
        rcases List.mem_append.mp hp with hp | hp
        · exact hlk p hp
        · rw [List.mem_singleton.mp hp]
          exact hlf
    · rintro σ H9 ⟨y9, y10, rfl, s9, hlk⟩
      rw [hlt, List.take_length] at hlk
      refine ⟨_, _, _, _, rfl, (s5.trans s58).trans s9, s9 _ _ hc8, fun z' hz' => ?_⟩
      rcases List.mem_append.mp hz' with hz' | hz'
      · exact hold z' hz'
      · rw [List.mem_singleton.mp hz', hhold, List.all_eq_true]
        exact hlk
  · rintro σ H5 ⟨y7, y8, y9, y10, rfl, s5, hc5, hold⟩
    rw [List.length_map, List.take_length] at hold
    rw [show r'.all (holds l x y) = true from List.all_eq_true.mpr hold] at q
    exact q _ (s03.trans s5)
/-! ### never -/
theorem walk_nats1 {n : Nat} : Walk (Itr 1 n) n (fun _ => True) (YFn fun i => nI (1 + i)) := walk_range.mono (fun _ h => h) fun i H x H' _ _ y => ⟨y.1, y.2.trans (congrArg V.int (by show (1 : Int) + (i : Int) = ((1 + i : Nat) : Int); omega))⟩
theorem runF_fit {l : Prog} : ∀ (m n : Nat) (r : List Nat), runF l m n = some r → ∀ s x, r[s]? = some x → s + 1 < r.length → firstAt l x ≠ none := by
  intro m
  induction m with
  | zero =>
    intro n r h s x _ hs
    cases h
    simp at hs
  | succ m ih =>
    intro n r h s x hx hs
    unfold runF at h
    cases e : led l n with
    | none =>
      rw [e] at h
      cases h
      simp at hs
    | some y =>
      rw [e] at h
      dsimp only at h
      split at h
      · cases h
      · obtain ⟨r', h', rfl⟩ := Option.map_eq_some_iff.mp h
        cases s with
        | zero =>
          have : n = x := Option.some.inj hx
          subst this
          intro z
          unfold led at e
          rw [z] at e
          cases e
        | succ s => exact ih y r' h' s x hx (by simpa using hs)
def IsNever (l : Prog) (r : List Nat) : Option (Nat × Nat) → Prop
  | none => ∀ f t, f < t → t < r.length → goesOn l r f t = false
  | some (f, t) => f < t ∧ t < r.length ∧ goesOn l r f t = true ∧ (∀ f' t', f' < t' → t' < t → goesOn l r f' t' = false) ∧ ∀ f', f' < f → goesOn l r f' t = false
def pairO : Option (Nat × Nat) → PyData
  | none => .none
  | some p => .tuple [nD p.1, nD p.2]
theorem IsNever.uniq {l : Prog} {r : List Nat} {o o' : Option (Nat × Nat)} (h : IsNever l r o) (h' : IsNever l r o') : o = o' := by
  match o, o', h, h' with
  | none, none, _, _ => rfl
  | none, some (f, t), h, ⟨a, b, c, _⟩ => exact absurd c (by rw [h f t a b]; decide)
  | some (f, t), none, ⟨a, b, c, _⟩, h => exact absurd c (by rw [h f t a b]; decide)
  | some (f, t), some (f', t'), ⟨a, b, c, d, e⟩, ⟨a', b', c', d', e'⟩ =>
    have ht : t = t' := by
      rcases Nat.lt_trichotomy t t' with z | z | z
      · rw [d' f t a z] at c
        cases c
      · exact z
      · rw [d f' t' a' z] at c'
        cases c'
    subst ht
    have hf : f = f' := by
      rcases Nat.lt_trichotomy f f' with z | z | z
      · rw [e' f z] at c
        cases c
      · exact z
      · rw [e f' z] at c'
        cases c'
    rw [hf]
def spNever (K : PySem.W.Frag) : Sp := fun vs H Q E => ∃ (v u c : V) (d e g : PyData), vs = [v, u, c] ∧ Dp K H v d ∧ Dp K H u e ∧ Dp K H c g ∧
  (isProgD d = false → ∀ H', Same H H' → E (.ref (ga K "BadProgram")) none H') ∧ (isProgD d = true → isNumD e = false → ∀ H', Same H H' → E (.ref (ga K "BadNumber")) none H') ∧
  (isProgD d = true → isNumD e = true → isCountD 0 200 g = false → ∀ H', Same H H' → E (.ref (ga K "BadNumber")) none H') ∧
  (∀ (l : Prog) (n m : Nat), d = progD l → e = nD n → g = nD m → isProg l = true → isNum n = true → m ≤ 200 →
    (∀ r, runF l m n = some r → ∀ o, IsNever l r o → ∀ x H', Same H H' → Dp K H' x (pairO o) → Q x H') ∧ (runF l m n = none → ∀ H', Same H H' → E (.ref (ga K "TooGreat")) none H'))
theorem run_fit {l : Prog} {m n : Nat} {r : List Nat} (h : runF l m n = some r) {f t : Nat} (ht : t < r.length) : ∀ x ∈ (r.take t).drop f, firstAt l x ≠ none := fun x hx => by
  obtain ⟨s, hs⟩ := List.mem_iff_getElem?.mp (List.mem_of_mem_drop hx)
  have hst : s < t := by
    have := (List.getElem?_eq_some_iff.mp hs).1
    rw [List.length_take] at this
    omega
  rw [List.getElem?_take_of_lt hst] at hs
  exact runF_fit m n r h s x hs (by omega)
theorem ok_never (T : Txt K mg) : Cal P w K mg base (L2N.CX P w) 7 "never" ["program", "number", "most"] (spNever K) := by
  have c_look := ok_look (P := P) (w := w) (base := base) T
  have c_need_count := ok_need_count (P := P) (w := w) (base := base) T
  have c_walked := ok_walked (P := P) (w := w) (base := base) T
  have c_goes_on := ok_goes_on (P := P) (w := w) (base := base) T
  refine Cal.mkX T.d_never T.m_never sc_never (fun _ _ _ _ _ _ us hl => match us, hl with | [_, _, _], _ => rfl) (fun vs H Q E h => ?_) (fun cdv A outer s H vs Q E hr h => ?_)
  · obtain ⟨v, u, c, d, e, g, rfl, _⟩ := h
    rfl
  obtain ⟨v, u, c, d, e, g, rfl, hd, he, hg, q1, q2, q3, q4⟩ := h
  refine ⟨_, (pss_cons (ps_expr (pe_cal c_look (hr.mono (by decide)) (by rfl) (L2N.passes_call (L2N.takes_of rfl rfl rfl rfl) (fun _ _ _ _ h => h)) (pa_cons (pv 0) (pa_cons (pv 1) pa_nil))))
      (pss_cons (ps_expr (pe_cal c_need_count (hr.mono (by decide)) (by rfl) (L2N.passes_call (L2N.takes_of rfl rfl rfl rfl) (fun _ _ _ _ h => h)) (pa_cons (pv 2) (pa_cons pe_int (pa_cons (pe_glob (v := .int 200) (by rfl) T.c_MOST_LOOK.choose_spec ⟨_, rfl⟩) pa_nil)))))
      (pss_cons (ps_set (i := 3) sc_never.nd rfl (.inl rfl) (pe_cal c_walked (hr.mono (by decide)) (by rfl) (L2N.passes_call (L2N.takes_of rfl rfl rfl rfl) (fun _ _ _ _ h => h)) (pa_cons (pv 0) (pa_cons (pv 1) (pa_cons (pv 2) pa_nil)))))
      (pss_cons (ps_for (passes_of rfl) rfl (pi_range2 (by rfl) T.b_range (pa_cons pe_int (pa_cons (pe_callB (lenS rfl) (by rfl) T.b_len PySem.boot_len (pa_cons (pv 3) pa_nil)) pa_nil))) (pg_name (i := 4) sc_never.nd rfl (.inl rfl)) (pss_one (ps_for (passes_of rfl) rfl (pi_range1 (by rfl) T.b_range (pa_cons (pv 4) pa_nil)) (pg_name (i := 5) sc_never.nd rfl (.inl rfl)) (pss_one (ps_if (pt_val (pe_cal c_goes_on (hr.mono (by decide)) (by rfl) pass0 (pa_cons (pv 0) (pa_cons (pv 3) (pa_cons (pv 5) (pa_cons (pv 4) pa_nil)))))) (pss_one (ps_ret (pe_tup (pa_cons (pv 5) (pa_cons (pv 4) pa_nil))))) pss_nil)))))
      (pss_one (ps_ret pe_non)))))), ?_⟩
  refine ⟨_, rfl, _, rfl, v, u, d, e, rfl, hd, he, fun hp hn H1 s1 => ?_, q1, q2⟩
  refine ⟨_, rfl, c, g, 0, 200, rfl, same_dp s1 hg, fun hc => ?_, fun hc => q3 hp hn hc H1 s1⟩
  obtain ⟨l, rfl, hP⟩ := isProgD_is hp
  obtain ⟨n, rfl, hN⟩ := isNumD_is hn
  obtain ⟨m, rfl, hm⟩ := isCount_is (hi := 200) hc
  cases he
  cases hg
  obtain ⟨q5, q6⟩ := q4 l n m rfl rfl rfl hP hN hm
  refine ⟨_, rfl, _, rfl, _, rfl, v, l, n, m, rfl, same_dp s1 hd, hP, hN, by omega, fun r hr' p H2 s2 np hp' => ?_, fun hno H2 s2 => q6 hno H2 (s1.trans s2)⟩
  obtain ⟨h1, h2, h3⟩ := runF_num hP m n r hN hr'
  have q5 := q5 r hr'
  have s12 := s1.trans s2
  refine ⟨_, rfl, p, _, rfl, .inl (SqL.of hp'), 1, (((r.map nI).length : Nat) : Int), rfl, ⟨by omega, by omega, by omega, by rw [List.length_map]; omega⟩, ?_⟩
  have en : ((((r.map nI).length : Nat) : Int) - 1).toNat = r.length - 1 := by rw [List.length_map]; omega
  rw [en]
  refine for_it walk_nats1 (fun i σ H3 => ∃ y4 y5, σ = [some v, some (nI n), some (nI m), some (.ref p), y4, y5] ∧ Same H2 H3 ∧ ∀ f t, f < t → t < 1 + i → goesOn l r f t = false) ⟨none, none, rfl, Same.refl _, fun f t h z => absurd h (by omega)⟩ (fun _ _ _ _ _ => trivial) ?_ ?_
  · rintro i x σ H3 H3' hi ⟨y4, y5, rfl, s3, hno⟩ ⟨rfl, rfl⟩
    refine ⟨_, rfl, ((1 + i : Nat) : Int), rfl, by omega, by omega, ?_⟩
    have en2 : (((1 + i : Nat) : Int)).toNat = 1 + i := by omega
    rw [en2]
    refine for_it walk_nats (fun j σ H4 => ∃ y5, σ = [some v, some (nI n), some (nI m), some (.ref p), some (nI (1 + i)), y5] ∧ Same H2 H4 ∧ ∀ f, f < j → goesOn l r f (1 + i) = false) ⟨y5, rfl, s3, fun f h => absurd h (by omega)⟩ (fun _ _ _ _ _ => trivial) ?_ ?_
    · rintro j x σ H4 H4' hj ⟨y5, rfl, s4, hno2⟩ ⟨rfl, rfl⟩
      refine ⟨_, rfl, _, rfl, _, rfl, _, rfl, v, p, l, r, j, 1 + i, rfl, same_dp (s12.trans s4) hd, hP, SqL.of (s4 _ _ hp'), hj, by omega, h3, run_fit hr' (by omega), fun H5 s5 => ⟨_, rfl, ?_⟩⟩
      cases hgo : goesOn l r j (1 + i) with
      | true =>
        refine iteT ⟨_, rfl, _, rfl, (by show 2 ≤ sizeLine; decide), fun p6 np6 => ?_⟩
        refine q5 (some (j, 1 + i)) ⟨hj, by omega, hgo, hno, hno2⟩ _ _ (((s12.trans s4).trans s5).trans (same_new np6)) ?_
        exact .tup (SqT.of upd_same) (.cons (.int _) (.cons (.int _) .nil))
      | false =>
        refine iteF ⟨_, rfl, s4.trans s5, fun f hf => ?_⟩
        rcases Nat.lt_or_ge f j with z | z
        · exact hno2 f z
        · obtain rfl : f = j := by omega
          exact hgo
    · rintro σ H4 ⟨y5, rfl, s4, hno2⟩
      refine ⟨_, _, rfl, s4, fun f t hft ht => ?_⟩
      rcases Nat.lt_or_ge t (1 + i) with z | z
      · exact hno f t hft z
      · obtain rfl : t = 1 + i := by omega
        exact hno2 f hft
  · rintro σ H3 ⟨y4, y5, rfl, s3, hno⟩
    exact q5 none (fun f t hft ht => hno f t hft (by omega)) _ _ (s12.trans s3) .non
/-! ### shows -/
def pairOk : PyData → Bool
  | .tuple [a, b] => (isCountD 0 200 a && isCountD 0 200 b) && decide (natO a < natO b)
  | _ => false
def spShows (K : PySem.W.Frag) : Sp := fun vs H Q E => ∃ (v u c : V) (d e g : PyData), vs = [v, u, c] ∧ Dp K H v d ∧ Dp K H u e ∧ Dp K H c g ∧
  (isProgD d = false → ∀ H', Same H H' → E (.ref (ga K "BadProgram")) none H') ∧ (isProgD d = true → isNumD e = false → ∀ H', Same H H' → E (.ref (ga K "BadNumber")) none H') ∧
  (isProgD d = true → isNumD e = true → pairOk g = false → ∀ H', Same H H' → Q (.bl false) H') ∧
  (∀ (l : Prog) (n f t : Nat), d = progD l → e = nD n → g = .tuple [nD f, nD t] → isProg l = true → isNum n = true → f < t → t ≤ 200 →
    (∀ r, runF l t n = some r → ∀ H', Same H H' → Q (.bl (decide (r.length = t + 1) && goesOn l r f t)) H') ∧ (runF l t n = none → ∀ H', Same H H' → E (.ref (ga K "TooGreat")) none H'))
theorem ok_shows (T : Txt K mg) : Cal P w K mg base (L2N.CX P w) 7 "shows" ["program", "number", "thing"] (spShows K) := by
  have c_look := ok_look (P := P) (w := w) (base := base) T
  have c_is_count := ok_is_count (P := P) (w := w) (base := base) T
  have c_walked := ok_walked (P := P) (w := w) (base := base) T
  have c_goes_on := ok_goes_on (P := P) (w := w) (base := base) T
  refine Cal.mkX T.d_shows T.m_shows sc_shows (fun _ _ _ _ _ _ us hl => match us, hl with | [_, _, _], _ => rfl) (fun vs H Q E h => ?_) (fun cdv A outer s H vs Q E hr h => ?_)
  · obtain ⟨v, u, c, d, e, g, rfl, _⟩ := h
    rfl
  obtain ⟨v, u, c, d, e, g, rfl, hd, he, hg, q1, q2, q3, q4⟩ := h
  refine ⟨_, (pss_cons (ps_expr (pe_cal c_look (hr.mono (by decide)) (by rfl) (L2N.passes_call (L2N.takes_of rfl rfl rfl rfl) (fun _ _ _ _ h => h)) (pa_cons (pv 0) (pa_cons (pv 1) pa_nil))))
      (C8.pss_cut (ps_set (i := 3) sc_shows.nd rfl (.inl rfl) (pe_and (pe_callB (isTuple rfl) (by rfl) T.b_isinstance boot_isinstance (pa_cons (pv 2) (pa_cons (pe_bltn (v := .ty "tuple") (by rfl) T.b_tuple boot_tuple rfl) pa_nil))) (pe_and (pe_cmpR opN_eq (pe_callB (lenS rfl) (by rfl) T.b_len PySem.boot_len (pa_cons (pv 2) pa_nil)) pe_int (nomark _)) (pe_one (pe_callB (crAll rfl rfl) (by rfl) T.b_all boot_all (pa_cons (pe_lc (own := [("one", 5)]) rfl sc_shows.nd (piT rfl (pv 2)) (blkOk_by (own := [("one", 5)]) (N := ["program", "number", "thing", "good", "row", "one"]) (sc := defScope s_shows) (by decide +kernel)) (fun _ _ _ _ _ => (pg_name (i := 5) sc_shows.nd rfl (.inl rfl))) (fun _ _ _ _ _ => pts_nil) (fun _ _ _ _ _ => (pe_cal c_is_count (hr.mono (by decide)) (by rfl) pass0 (pa_cons (pv 5) (pa_cons pe_int (pa_cons (pe_glob (v := .int 200) (by rfl) T.c_MOST_LOOK.choose_spec ⟨_, rfl⟩) pa_nil)))))) pa_nil))))))
      (pss_cons (ps_if (PW.pt (pw_or (pt_not (pt_val (pv 3))) (pw_or1 (pt_cmpR opN_ge (pe_ix (ixT rfl) (pv 2) pe_int (fun _ _ => rfl)) (pe_ix (ixT rfl) (pv 2) pe_int (fun _ _ => rfl)) (nomark _))))) (pss_one (ps_ret pe_bl)) pss_nil)
      (pss_cons (ps_set (i := 4) sc_shows.nd rfl (.inl rfl) (pe_cal c_walked (hr.mono (by decide)) (by rfl) (L2N.passes_call (L2N.takes_of rfl rfl rfl rfl) (fun _ _ _ _ h => h)) (pa_cons (pv 0) (pa_cons (pv 1) (pa_cons (pe_ix (ixT rfl) (pv 2) pe_int (fun _ _ => rfl)) pa_nil)))))
      (pss_one (ps_ret (pe_and (pe_cmpR opN_eq (pe_callB (lenS rfl) (by rfl) T.b_len PySem.boot_len (pa_cons (pv 4) pa_nil)) (pe_op opN_add (pe_ix (ixT rfl) (pv 2) pe_int (fun _ _ => rfl)) pe_int) (nomark _)) (pe_one (pe_cal c_goes_on (hr.mono (by decide)) (by rfl) pass0 (pa_cons (pv 0) (pa_cons (pv 4) (pa_cons (pe_ix (ixT rfl) (pv 2) pe_int (fun _ _ => rfl)) (pa_cons (pe_ix (ixT rfl) (pv 2) pe_int (fun _ _ => rfl)) pa_nil))))))))))))), ?_⟩
  refine ⟨_, rfl, _, rfl, v, u, d, e, rfl, hd, he, fun hp hn H1 s1 => ?_, q1, q2⟩
  have q3' := q3 hp hn
  refine ⟨fun σ H2 => ∃ b : Bool, σ = [some v, some u, some c, some (.bl b), none, none] ∧ Same H H2 ∧ (b = false → pairOk g = false) ∧ (b = true → ∃ f t : Nat, g = .tuple [nD f, nD t] ∧ f ≤ 200 ∧ t ≤ 200), ?_, ?_⟩
  · refine ⟨_, rfl, _, _, rfl, same_dp s1 hg, _, rfl, ?_⟩
    have no : pairOk g = false → ∃ b : Bool, [some v, some u, some c, some (.bl false), none, none] = [some v, some u, some c, some (.bl b), none, none] ∧ Same H H1 ∧ (b = false → pairOk g = false) ∧ (b = true → ∃ f t : Nat, g = .tuple [nD f, nD t] ∧ f ≤ 200 ∧ t ≤ 200) := fun z => ⟨false, rfl, s1, fun _ => z, fun z => nomatch z⟩
    cases g with
    | tuple ds =>
      obtain ⟨a, xs, rfl, hs, ha⟩ := dp_tup (same_dp s1 hg)
      have hlen := dps_len ha
      refine iteT ⟨_, rfl, a, xs, rfl, .inr hs, xs.length, 2, rfl, rfl, _, rfl, ?_⟩
      by_cases h2 : xs.length = 2
      · rw [decide_eq_true h2]
        refine iteT ⟨_, rfl, a, rfl, ⟨_, hs⟩, fun D hD => ?_⟩
        refine lc_dp (K := K) walk_tup hD (by rw [h2]; decide) (fun H' s' => same_tup s' hs) (fun i => ds[i]?.map fun d => PyData.bool (isCountD 0 200 d)) ?_ ?_ ?_
        · intro i d e
          obtain ⟨a, _, rfl⟩ := Option.map_eq_some_iff.mp e
          rfl
        · rintro i x H' H'' A B hi s' ⟨rfl, hx⟩ hA hB
          obtain ⟨d, hd, hp⟩ := dps_at2 ha hx
          exact ⟨rfl, _, rfl, x, d, 0, 200, rfl, same_dp s' hp, hA _ _ _ (by rw [hd]; rfl) (Same.refl _) (.bl _)⟩
        · intro H' ys s' hD' hA
          rw [hlen, gath_map] at hA
          have e2 : ys = (ds.map (isCountD 0 200)).map V.bl := dps_bools (by rw [List.map_map]; exact hA)
          rw [e2] at hD'
          obtain ⟨x, y, rfl⟩ : ∃ x y, ds = [x, y] := by
            match ds, hlen with
            | [x, y], _ => exact ⟨x, y, rfl⟩
            | [], h => rw [h2] at h; cases h
            | [_], h => rw [h2] at h; cases h
            | _ :: _ :: _ :: _, h => rw [h2] at h; simp at h
          refine ⟨D, [isCountD 0 200 x, isCountD 0 200 y], rfl, SqL.of hD', ?_⟩
          have e3 : ([isCountD 0 200 x, isCountD 0 200 y].all id) = (isCountD 0 200 x && isCountD 0 200 y) := by simp
          rw [e3]
          refine ⟨_, rfl, s1.trans s', fun z => ?_, fun z => ?_⟩
          · show ((isCountD 0 200 x && isCountD 0 200 y) && _) = false
            rw [z, Bool.false_and]
          · obtain ⟨z1, z2⟩ := Bool.and_eq_true_iff.mp z
            obtain ⟨f, rfl, hf⟩ := isCount_is (hi := 200) z1
            obtain ⟨t, rfl, ht⟩ := isCount_is (hi := 200) z2
            exact ⟨f, t, rfl, hf, ht⟩
      · rw [decide_eq_false h2]
        refine iteF (no ?_)
        match ds, hlen with
        | [], _ => rfl
        | [_], _ => rfl
        | [_, _], h => exact absurd h h2
        | _ :: _ :: _ :: _, _ => rfl
    | none => exact iteF (no rfl)
    | bool b => exact iteF (no rfl)
    | int i => exact iteF (no rfl)
    | str x => exact iteF (no rfl)
    | list xs => exact iteF (no rfl)
    | dict xs => exact iteF (no rfl)
  rintro σ H2 ⟨b, rfl, s2, hb1, hb2⟩
  obtain ⟨l, rfl, hP⟩ := isProgD_is hp
  obtain ⟨n, rfl, hN⟩ := isNumD_is hn
  cases he
  refine ⟨_, rfl, _, rfl, ?_⟩
  cases b with
  | false => exact iteT (iteT (q3' (hb1 rfl) H2 s2))
  | true =>
    obtain ⟨f, t, rfl, hf, ht⟩ := hb2 rfl
    obtain ⟨a, x, y, rfl, hs, hx, hy⟩ := dp_two (same_dp s2 hg)
    cases hx
    cases hy
    refine iteF ⟨_, rfl, a, _, 0, _, rfl, rfl, hs, atI0, _, rfl, a, _, 1, _, rfl, rfl, hs, atI1, f, t, rfl, rfl, _, rfl, ?_⟩
    have epo : pairOk (.tuple [nD f, nD t]) = decide (f < t) := by
      show ((isCountD 0 200 (nD f) && isCountD 0 200 (nD t)) && decide ((f : Int).toNat < (t : Int).toNat)) = _
      rw [show isCountD 0 200 (nD f) = true from count_yes (b := 200) hf, show isCountD 0 200 (nD t) = true from count_yes (b := 200) ht, Int.toNat_natCast, Int.toNat_natCast]
      rfl
    by_cases hft : t ≤ f
    · rw [decide_eq_true hft]
      exact iteT (q3' (by rw [epo]; exact decide_eq_false (by omega)) H2 s2)
    · rw [decide_eq_false hft]
      obtain ⟨q5, q6⟩ := q4 l n f t rfl rfl rfl hP hN (by omega) ht
      refine iteF ⟨_, rfl, _, rfl, _, rfl, a, _, 1, _, rfl, rfl, hs, atI1, v, l, n, t, rfl, same_dp s2 hd, hP, hN, by omega, fun r hr' p H3 s3 np hp' => ?_, fun hno H3 s3 => q6 hno H3 (s2.trans s3)⟩
      obtain ⟨h1, h2, h3⟩ := runF_num hP t n r hN hr'
      have q5 := q5 r hr'
      have hs3 := same_tup s3 hs
      refine ⟨_, rfl, p, _, rfl, .inl (SqL.of hp'), _, rfl, a, _, 1, _, rfl, rfl, hs3, atI1, t, 1, rfl, rfl, r.length, t + 1, by rw [List.length_map], rfl, _, rfl, ?_⟩
      by_cases hl : r.length = t + 1
      · rw [decide_eq_true hl, Bool.true_and] at q5
        rw [decide_eq_true hl]
        refine iteT ⟨_, rfl, _, rfl, _, rfl, a, _, 0, _, rfl, rfl, hs3, atI0, _, rfl, a, _, 1, _, rfl, rfl, hs3, atI1, v, p, l, r, f, t, rfl, same_dp (s2.trans s3) hd, hP, SqL.of hp', by omega, by omega, h3, run_fit hr' (by omega), fun H4 s4 => q5 H4 ((s2.trans s3).trans s4)⟩
      · rw [decide_eq_false hl, Bool.false_and] at q5
        rw [decide_eq_false hl]
        exact iteF (q5 H3 (s2.trans s3))
end
end Fr
namespace Fr
open PySem PySem.Spec PyProof.Rows L2 LamX
/-! ### promises at right things, and at wrong ones -/
theorem nD_inj {n m : Nat} (h : nD n = nD m) : n = m := by
  have := PyData.int.inj h
  omega
theorem fracD_inj {x y : Nat × Nat} (h : fracD x = fracD y) : x = y := by
  have h1 := PyData.tuple.inj h
  injection h1 with h2 h3
  injection h3 with h4 h5
  have h6 := PyData.int.inj h2
  have h7 := PyData.int.inj h4
  exact Prod.ext (by omega) (by omega)
theorem progD_inj {l l' : Prog} (h : progD l = progD l') : l = l' := (List.map_inj_right fun _ _ => fracD_inj).mp (PyData.list.inj h)
theorem progD_prog {l : Prog} (h : isProg l = true) : isProgD (progD l) = true := by
  show (decide ((l.map fracD).length ≤ 16) && (l.map fracD).all isFracD) = true
  have h1 := isProg_iff.mp h
  rw [List.length_map, decide_eq_true h1.1, Bool.true_and, List.all_map, List.all_eq_true]
  intro p hp
  have h2 := isFrac_iff.mp (h1.2 p hp)
  show (isNumD (nD p.1) && isNumD (nD p.2) && (decide (max (p.1 : Int).toNat (p.2 : Int).toNat ≤ 1000000) && decide (Nat.gcd (p.1 : Int).toNat (p.2 : Int).toNat = 1))) = true
  rw [isNumD_nat, isNumD_nat, h2.1, h2.2.1, Int.toNat_natCast, Int.toNat_natCast, decide_eq_true (by omega), decide_eq_true h2.2.2.2.2]
  rfl
theorem numD_num {n : Nat} (h : isNum n = true) : isNumD (nD n) = true := by rw [isNumD_nat]; exact h
theorem no_yes {b : Bool} (h : b = false) (h' : b = true) : False := by rw [h] at h'; cases h'
section
variable {K : PySem.W.Frag} {H : Hp} {Q : VK} {E : XK} {v u c : V} {l : Prog} {n m : Nat} {d e g : PyData}
theorem jumps_good (hd : Dp K H v (progD l)) (hP : isProg l = true) (hN : isNum n = true) (hm : m ≤ 200) (q : ∀ r, jumpsF l m n = some r → ∀ x H', Same H H' → Dp K H' x (jumpsD r) → Q x H') (q2 : jumpsF l m n = none → ∀ H', Same H H' → E (.ref (ga K "TooGreat")) none H') : spJumps K [v, nI n, nI m] H Q E :=
  ⟨v, nI n, nI m, progD l, nD n, nD m, rfl, hd, .int _, .int _, fun z => (no_yes z (progD_prog hP)).elim, fun _ z => (no_yes z (numD_num hN)).elim, fun _ _ z => (no_yes z (count_yes hm)).elim, fun l' n' m' el en em _ _ _ => by
    obtain rfl := progD_inj el
    obtain rfl := nD_inj en
    obtain rfl := nD_inj em
    exact ⟨q, q2⟩⟩
theorem jumps_badP (hd : Dp K H v d) (he : Dp K H u e) (hg : Dp K H c g) (hb : isProgD d = false) (q : ∀ H', Same H H' → E (.ref (ga K "BadProgram")) none H') : spJumps K [v, u, c] H Q E :=
  ⟨v, u, c, d, e, g, rfl, hd, he, hg, fun _ => q, fun z => (no_yes hb z).elim, fun z => (no_yes hb z).elim, fun l' n' m' el _ _ hP _ _ => by subst el; exact (no_yes hb (progD_prog hP)).elim⟩
theorem jumps_badC (hd : Dp K H v (progD l)) (hP : isProg l = true) (hN : isNum n = true) (hg : Dp K H c g) (hb : isCountD 0 200 g = false) (q : ∀ H', Same H H' → E (.ref (ga K "BadNumber")) none H') : spJumps K [v, nI n, c] H Q E :=
  ⟨v, nI n, c, progD l, nD n, g, rfl, hd, .int _, hg, fun z => (no_yes z (progD_prog hP)).elim, fun _ z => (no_yes z (numD_num hN)).elim, fun _ _ _ => q, fun l' n' m' _ _ em _ _ hm => by subst em; exact (no_yes hb (count_yes hm)).elim⟩
theorem many_good (hd : Dp K H v (progD l)) (hP : isProg l = true) (hN : isNum n = true) (hm : m ≤ 200) (q : ∀ r, jumpsF l m n = some r → ∀ H', Same H H' → Q (optV (stepsOf r)) H') (q2 : jumpsF l m n = none → ∀ H', Same H H' → E (.ref (ga K "TooGreat")) none H') : spMany K [v, nI n, nI m] H Q E :=
  ⟨v, nI n, nI m, progD l, nD n, nD m, rfl, hd, .int _, .int _, fun z => (no_yes z (progD_prog hP)).elim, fun _ z => (no_yes z (numD_num hN)).elim, fun _ _ z => (no_yes z (count_yes hm)).elim, fun l' n' m' el en em _ _ _ => by
    obtain rfl := progD_inj el
    obtain rfl := nD_inj en
    obtain rfl := nD_inj em
    exact ⟨q, q2⟩⟩
theorem many_badC (hd : Dp K H v (progD l)) (hP : isProg l = true) (hN : isNum n = true) (hg : Dp K H c g) (hb : isCountD 0 200 g = false) (q : ∀ H', Same H H' → E (.ref (ga K "BadNumber")) none H') : spMany K [v, nI n, c] H Q E :=
  ⟨v, nI n, c, progD l, nD n, g, rfl, hd, .int _, hg, fun z => (no_yes z (progD_prog hP)).elim, fun _ z => (no_yes z (numD_num hN)).elim, fun _ _ _ => q, fun l' n' m' _ _ em _ _ hm => by subst em; exact (no_yes hb (count_yes hm)).elim⟩
theorem run_good (hd : Dp K H v (progD l)) (hP : isProg l = true) (hN : isNum n = true) (hm : m ≤ 2000) {r : List Nat} (hr : runF l m n = some r) (q : ∀ p H', Same H H' → H p = none → H' p = some (.lst (r.map nI)) → Q (.ref p) H') : spRun K [v, nI n, nI m] H Q E :=
  ⟨v, nI n, nI m, progD l, nD n, nD m, rfl, hd, .int _, .int _, fun z => (no_yes z (progD_prog hP)).elim, fun _ z => (no_yes z (numD_num hN)).elim, fun _ _ z => (no_yes z (count_yes hm)).elim, fun l' n' m' el en em _ _ _ => by
    obtain rfl := progD_inj el
    obtain rfl := nD_inj en
    obtain rfl := nD_inj em
    exact ⟨fun r' hr' => by rw [hr] at hr'; cases hr'; exact q, fun z => by rw [hr] at z; cases z⟩⟩
theorem run_great (hd : Dp K H v (progD l)) (hP : isProg l = true) (hN : isNum n = true) (hm : m ≤ 2000) (hr : runF l m n = none) (q : ∀ H', Same H H' → E (.ref (ga K "TooGreat")) none H') : spRun K [v, nI n, nI m] H Q E :=
  ⟨v, nI n, nI m, progD l, nD n, nD m, rfl, hd, .int _, .int _, fun z => (no_yes z (progD_prog hP)).elim, fun _ z => (no_yes z (numD_num hN)).elim, fun _ _ z => (no_yes z (count_yes hm)).elim, fun l' n' m' el en em _ _ _ => by
    obtain rfl := progD_inj el
    obtain rfl := nD_inj en
    obtain rfl := nD_inj em
    exact ⟨fun r' hr' => absurd (hr.symm.trans hr') (fun z => nomatch z), fun _ => q⟩⟩
/-- where a run ends -/
def endO (l : Prog) (r : List Nat) : Option Nat := r.getLast?.bind fun z => if led l z = none then some z else none
theorem end_good (hd : Dp K H v (progD l)) (hP : isProg l = true) (hN : isNum n = true) (hm : m ≤ 2000) {r : List Nat} (hr : runF l m n = some r) (q : ∀ H', Same H H' → Q (optV (endO l r)) H') : spEnd K [v, nI n, nI m] H Q E :=
  ⟨v, nI n, nI m, progD l, nD n, nD m, rfl, hd, .int _, .int _, fun z => (no_yes z (progD_prog hP)).elim, fun _ z => (no_yes z (numD_num hN)).elim, fun _ _ z => (no_yes z (count_yes hm)).elim, fun l' n' m' el en em _ _ _ => by
    obtain rfl := progD_inj el
    obtain rfl := nD_inj en
    obtain rfl := nD_inj em
    refine ⟨fun r' z hr' H1 s1 => ?_, fun z => by rw [hr] at z; cases z⟩
    rw [hr] at hr'
    cases hr'
    have := q H1 s1
    unfold endO at this
    rw [List.getLast?_concat, Option.bind_some] at this
    split
    · rename_i h
      rw [if_pos h] at this
      exact this
    · rename_i h
      rw [if_neg h] at this
      exact this⟩
theorem never_good (hd : Dp K H v (progD l)) (hP : isProg l = true) (hN : isNum n = true) (hm : m ≤ 200) {r : List Nat} (hr : runF l m n = some r) (q : ∀ o, IsNever l r o → ∀ x H', Same H H' → Dp K H' x (pairO o) → Q x H') : spNever K [v, nI n, nI m] H Q E :=
  ⟨v, nI n, nI m, progD l, nD n, nD m, rfl, hd, .int _, .int _, fun z => (no_yes z (progD_prog hP)).elim, fun _ z => (no_yes z (numD_num hN)).elim, fun _ _ z => (no_yes z (count_yes hm)).elim, fun l' n' m' el en em _ _ _ => by
    obtain rfl := progD_inj el
    obtain rfl := nD_inj en
    obtain rfl := nD_inj em
    exact ⟨fun r' hr' => by rw [hr] at hr'; cases hr'; exact q, fun z => by rw [hr] at z; cases z⟩⟩
theorem never_badP (hd : Dp K H v d) (he : Dp K H u e) (hg : Dp K H c g) (hb : isProgD d = false) (q : ∀ H', Same H H' → E (.ref (ga K "BadProgram")) none H') : spNever K [v, u, c] H Q E :=
  ⟨v, u, c, d, e, g, rfl, hd, he, hg, fun _ => q, fun z => (no_yes hb z).elim, fun z => (no_yes hb z).elim, fun l' n' m' el _ _ hP _ _ => by subst el; exact (no_yes hb (progD_prog hP)).elim⟩
theorem never_badC (hd : Dp K H v (progD l)) (hP : isProg l = true) (hN : isNum n = true) (hg : Dp K H c g) (hb : isCountD 0 200 g = false) (q : ∀ H', Same H H' → E (.ref (ga K "BadNumber")) none H') : spNever K [v, nI n, c] H Q E :=
  ⟨v, nI n, c, progD l, nD n, g, rfl, hd, .int _, hg, fun z => (no_yes z (progD_prog hP)).elim, fun _ z => (no_yes z (numD_num hN)).elim, fun _ _ _ => q, fun l' n' m' _ _ em _ _ hm => by subst em; exact (no_yes hb (count_yes hm)).elim⟩
theorem shows_good {f t : Nat} (hd : Dp K H v (progD l)) (hP : isProg l = true) (hN : isNum n = true) (hg : Dp K H c (.tuple [nD f, nD t])) (hft : f < t) (ht : t ≤ 200) {r : List Nat} (hr : runF l t n = some r) (q : ∀ H', Same H H' → Q (.bl (decide (r.length = t + 1) && goesOn l r f t)) H') : spShows K [v, nI n, c] H Q E :=
  ⟨v, nI n, c, progD l, nD n, _, rfl, hd, .int _, hg, fun z => (no_yes z (progD_prog hP)).elim, fun _ z => (no_yes z (numD_num hN)).elim, (fun _ _ z => by
    have : pairOk (.tuple [nD f, nD t]) = decide (f < t) := by
      show ((isCountD 0 200 (nD f) && isCountD 0 200 (nD t)) && decide ((f : Int).toNat < (t : Int).toNat)) = _
      rw [show isCountD 0 200 (nD f) = true from count_yes (b := 200) (by omega), show isCountD 0 200 (nD t) = true from count_yes (b := 200) ht, Int.toNat_natCast, Int.toNat_natCast]
      rfl
    rw [this, decide_eq_true hft] at z
    cases z), fun l' n' f' t' el en eg _ _ _ _ => by
    obtain rfl := progD_inj el
    obtain rfl := nD_inj en
    have h1 := PyData.tuple.inj eg
    injection h1 with h2 h3
    injection h3 with h4 h5
    obtain rfl := nD_inj h2
    obtain rfl := nD_inj h4
    exact ⟨fun r' hr' => by rw [hr] at hr'; cases hr'; exact q, fun z => by rw [hr] at z; cases z⟩⟩
theorem shows_no (hd : Dp K H v (progD l)) (hP : isProg l = true) (hN : isNum n = true) (hg : Dp K H c g) (h : pairOk g = false) (q : ∀ H', Same H H' → Q (.bl false) H') : spShows K [v, nI n, c] H Q E :=
  ⟨v, nI n, c, progD l, nD n, g, rfl, hd, .int _, hg, fun z => (no_yes z (progD_prog hP)).elim, fun _ z => (no_yes z (numD_num hN)).elim, fun _ _ _ => q, fun l' n' f t _ _ eg _ _ hft ht => by
    subst eg
    have : pairOk (.tuple [nD f, nD t]) = decide (f < t) := by
      show ((isCountD 0 200 (nD f) && isCountD 0 200 (nD t)) && decide ((f : Int).toNat < (t : Int).toNat)) = _
      rw [show isCountD 0 200 (nD f) = true from count_yes (b := 200) (by omega), show isCountD 0 200 (nD t) = true from count_yes (b := 200) ht, Int.toNat_natCast, Int.toNat_natCast]
      rfl
    rw [this, decide_eq_true hft] at h
    cases h⟩
theorem shows_badP (hd : Dp K H v d) (he : Dp K H u e) (hg : Dp K H c g) (hb : isProgD d = false) (q : ∀ H', Same H H' → E (.ref (ga K "BadProgram")) none H') : spShows K [v, u, c] H Q E :=
  ⟨v, u, c, d, e, g, rfl, hd, he, hg, fun _ => q, fun z => (no_yes hb z).elim, fun z => (no_yes hb z).elim, fun l' n' _ _ el _ _ hP _ _ _ => by subst el; exact (no_yes hb (progD_prog hP)).elim⟩
theorem shows_badN (hd : Dp K H v (progD l)) (hP : isProg l = true) (he : Dp K H u e) (hg : Dp K H c g) (hb : isNumD e = false) (q : ∀ H', Same H H' → E (.ref (ga K "BadNumber")) none H') : spShows K [v, u, c] H Q E :=
  ⟨v, u, c, progD l, e, g, rfl, hd, he, hg, fun z => (no_yes z (progD_prog hP)).elim, fun _ _ => q, fun _ z => (no_yes hb z).elim, fun l' n' _ _ _ en _ _ hN _ _ => by subst en; exact (no_yes hb (numD_num hN)).elim⟩
end
end Fr
namespace Fr
open PySem PySem.Spec PyProof.Rows L2
/-! ### machines -/
inductive Ln where
  | add (c g : Nat) | take (c g h : Nat) | fin
deriving DecidableEq
abbrev Mach := List Ln
def lnD : Ln → PyData
  | .add c g => .tuple [.str "add", nD c, nD g]
  | .take c g h => .tuple [.str "take", nD c, nD g, nD h]
  | .fin => .tuple [.str "end"]
def machD (m : Mach) : PyData := .list (m.map lnD)
def Ln.ok (n : Nat) : Ln → Bool
  | .add c g => decide (c < 3) && decide (g < n)
  | .take c g h => decide (c < 3) && (decide (g < n) && decide (h < n))
  | .fin => true
def isMach (m : Mach) : Bool := (decide (1 ≤ m.length) && decide (m.length ≤ 4)) && m.all (·.ok m.length)
def sizeW (x : Str) : Option Nat := if x = "add" then some 3 else if x = "take" then some 4 else if x = "end" then some 1 else none
theorem sizeW_le {x : Str} {k : Nat} (h : sizeW x = some k) : k ≤ 4 := by
  unfold sizeW at h
  by_cases h1 : x = "add"
  · rw [if_pos h1] at h; cases h; decide
  rw [if_neg h1] at h
  by_cases h2 : x = "take"
  · rw [if_pos h2] at h; cases h; decide
  rw [if_neg h2] at h
  by_cases h3 : x = "end"
  · rw [if_pos h3] at h; cases h; decide
  rw [if_neg h3] at h
  cases h
def isLineD (n : Nat) : PyData → Bool
  | .tuple (.str x :: ds) => match sizeW x with
    | none => false
    | some k => decide (ds.length + 1 = k) && (decide (x = "end") || (isCountD 0 2 (ds.getD 0 .none) && (ds.drop 1).all (isCountD 0 ((n - 1 : Nat) : Int))))
  | _ => false
def WordD : PyData → Prop
  | .tuple (.str x :: _) => x = "add" ∨ x = "take" ∨ x = "end" ∨ x = "stop"
  | _ => True
def KTab (w : World) (K : PySem.W.Frag) : Prop := ∃ es n, KDict K w (ga K "SIZES") es n
section
variable {X : Cx} {K : PySem.W.Frag} {w : World} {d : Addr} {es : Array DictEntry} {n : Nat}
theorem ninKD (e : X.K = K) (ew : X.w = w) (D : KTab w K) : OpR X (compareOp .NotIn) (fun x y H Q => ∃ (z : Str) (r : Option Value), x = .str z ∧ y = .ref (ga K "SIZES") ∧ PySem.W.nsIn K (ga K "SIZES") z = some r ∧ Q (.bl (!r.isSome)) H) := by
  subst e
  subst ew
  obtain ⟨es, n, D⟩ := D
  exact op_notIn_kd D
theorem ixKD (e : X.K = K) (ew : X.w = w) : IxR X (rIxD K w) := by
  subst e
  subst ew
  exact ix_kdict
/-- a tuple held against the empty one -/
def rEqT0 (K : PySem.W.Frag) : R2 := fun x y H Q => ∃ ds, Dp K H x (.tuple ds) ∧ Dp K H y (.tuple []) ∧ (∀ d ∈ ds, Shp 50 d) ∧ Q (.bl ds.isEmpty) H
theorem eqT0 (e : X.K = K) (hu : X.A.units + 64 < cLine) : OpR X (compareOp .Eq) (rEqT0 K) := by
  intro pins s σ H x y v u Q I rx ry h
  obtain ⟨ds, h1, h2, h3, q⟩ := h
  refine eqD e hu pins s σ H x y v u Q I rx ry ⟨_, _, h1, h2, (Shp.tup h3).ok (by decide), (Shp.tup (k := 0) Shp.nil).ok (by decide), ?_⟩
  cases ds with
  | nil => exact q
  | cons d ds => exact q
end
theorem Shp.subs : ∀ {ds : List PyData} {k : Nat}, PyData.canLayAll0 ds = true → PyData.depthAll ds ≤ k → ∀ d ∈ ds, Shp k d
  | [], _, _, _, _, h => nomatch h
  | e :: ds, k, h1, h2, d, h => by
    simp only [PyData.canLayAll0, Bool.and_eq_true] at h1
    simp only [PyData.depthAll] at h2
    have h3 := Nat.max_le.mp h2
    rcases List.mem_cons.mp h with rfl | h
    · exact ⟨h1.1, h3.1⟩
    · exact Shp.subs h1.2 h3.2 d h
theorem Shp.sub {ds : List PyData} {k : Nat} (h : Shp k (.tuple ds)) {d : PyData} (hd : d ∈ ds) : Shp k d := by
  have h1 := h.1
  have h2 := h.2
  simp only [PyData.canLay0] at h1
  simp only [PyData.depth] at h2
  exact Shp.subs h1 (by omega) d hd
theorem Shp.subL {ds : List PyData} {k : Nat} (h : Shp k (.list ds)) {d : PyData} (hd : d ∈ ds) : Shp k d := by
  have h1 := h.1
  have h2 := h.2
  simp only [PyData.canLay0] at h1
  simp only [PyData.depth] at h2
  exact Shp.subs h1 (by omega) d hd
section
variable {P : Program} {w : World} {K : PySem.W.Frag} {mg : Str → Option Value} {base : Heap}
theorem szTab (T : Txt K mg) (D : KTab w K) {x : Str} {k : Nat} (h : sizeW x = some k) : KDct K w (ga K "SIZES") x (nI k) ∧ ∃ u, PySem.W.nsIn K (ga K "SIZES") x = some (some u) := by
  obtain ⟨es, n, D⟩ := D
  have key : ∀ {y : Str} {j : Nat}, (y, He.Dv.int (j : Int)) ∈ [(("add" : Str), He.Dv.int 3), ("take", .int 4), ("end", .int 1)] → KDct K w (ga K "SIZES") y (nI j) ∧ ∃ u, PySem.W.nsIn K (ga K "SIZES") y = some (some u) := by
    intro y j hm
    obtain ⟨u, h1, h2⟩ := He.valsB_ok T.v_SIZES hm
    exact ⟨⟨es, n, u, D.at_, D.lit, h1, h2⟩, u, h1⟩
  unfold sizeW at h
  split at h
  · rename_i e
    cases h
    subst e
    exact key (by simp)
  · split at h
    · rename_i e
      cases h
      subst e
      exact key (by simp)
    · split at h
      · rename_i e
        cases h
        subst e
        exact key (by simp)
      · cases h
def spIsLine (K : PySem.W.Frag) : Sp := fun vs H Q _ => ∃ (v : V) (d : PyData) (n : Nat), vs = [v, nI n] ∧ 1 ≤ n ∧ Dp K H v d ∧ Shp 40 d ∧ WordD d ∧ ∀ H', Same H H' → Q (.bl (isLineD n d)) H'
theorem ok_is_line (T : Txt K mg) (DS : KTab w K) : Cal P w K mg base L2.CX0 2 "is_line" ["thing", "lines"] (spIsLine K) := by
  have c_is_count := ok_is_count (P := P) (w := w) (base := base) T
  refine Cal.mk0 T.d_is_line T.m_is_line sc_is_line (fun _ _ _ _ _ _ us hl => match us, hl with | [_, _], _ => rfl) (fun vs H Q E h => ?_) (fun cdv A outer s H vs Q E hr h => ?_)
  · obtain ⟨v, d, n, rfl, _⟩ := h
    rfl
  obtain ⟨v, d, n, rfl, hn, hd, hS, hW, q⟩ := h
  refine ⟨_, (pss_cons (ps_if (PW.pt (pw_or (pt_not (pt_val (pe_callB (isTuple rfl) (by rfl) T.b_isinstance boot_isinstance (pa_cons (pv 0) (pa_cons (pe_bltn (v := .ty "tuple") (by rfl) T.b_tuple boot_tuple rfl) pa_nil))))) (pw_or (pt_cmpR (eqT0 rfl hr.units) (pv 0) (pe_tup pa_nil) (nomark _)) (pw_or (pt_not (pt_val (pe_callB (isStr rfl) (by rfl) T.b_isinstance boot_isinstance (pa_cons (pe_ix (ixT rfl) (pv 0) pe_int (fun _ _ => rfl)) (pa_cons (pe_bltn (v := .ty "str") (by rfl) T.b_str boot_str rfl) pa_nil))))) (pw_or1 (pt_cmpR (ninKD rfl rfl DS) (pe_ix (ixT rfl) (pv 0) pe_int (fun _ _ => rfl)) (pe_glob (v := .ref (ga K "SIZES")) (by rfl) T.m_SIZES rfl) (by rfl))))))) (pss_one (ps_ret pe_bl)) pss_nil)
      (pss_cons (ps_if (pt_cmpR opN_ne (pe_callB (lenS rfl) (by rfl) T.b_len PySem.boot_len (pa_cons (pv 0) pa_nil)) (pe_ix (ixKD rfl rfl) (pe_glob (v := .ref (ga K "SIZES")) (by rfl) T.m_SIZES rfl) (pe_ix (ixT rfl) (pv 0) pe_int (fun _ _ => rfl)) (fun _ _ => rfl)) (nomark _)) (pss_one (ps_ret pe_bl)) pss_nil)
      (pss_cons (ps_if (pt_cmpR op_eq (pe_ix (ixT rfl) (pv 0) pe_int (fun _ _ => rfl)) pe_str (nomark _)) (pss_one (ps_ret pe_bl)) pss_nil)
      (pss_one (ps_ret (pe_and (pe_cal c_is_count (hr.mono (by decide)) (by rfl) pass0 (pa_cons (pe_ix (ixT rfl) (pv 0) pe_int (fun _ _ => rfl)) (pa_cons pe_int (pa_cons (pe_op opN_sub (pe_glob (v := .int 3) (by rfl) T.c_COUNTERS.choose_spec ⟨_, rfl⟩) pe_int) pa_nil)))) (pe_one (pe_callB (crAll rfl rfl) (by rfl) T.b_all boot_all (pa_cons (pe_lc (own := [("goal", 2)]) rfl sc_is_line.nd (piT rfl (pe_slice (slD rfl) (pv 0) (po_some pe_int) po_none)) (blkOk_by (own := [("goal", 2)]) (N := ["thing", "lines", "goal"]) (sc := defScope s_is_line) (by decide +kernel)) (fun _ _ _ _ _ => (pg_name (i := 2) sc_is_line.nd rfl (.inl rfl))) (fun _ _ _ _ _ => pts_nil) (fun _ _ _ _ _ => (pe_cal c_is_count (hr.mono (by decide)) (by rfl) pass0 (pa_cons (pv 2) (pa_cons pe_int (pa_cons (pe_op opN_sub (pv 1) pe_int) pa_nil)))))) pa_nil))))))))), ?_⟩
  refine ⟨_, rfl, _, _, rfl, hd, _, rfl, ?_⟩
  have q0 := q H (Same.refl H)
  cases d with
  | tuple ds =>
    obtain ⟨a, xs, rfl, hs, ha⟩ := dp_tup hd
    have hS' : ∀ e ∈ ds, Shp 50 e := fun e he => (Shp.sub hS he).mono (by decide)
    have hlen := dps_len ha
    refine iteF ⟨_, rfl, (by show 0 ≤ sizeLine; decide), fun p np => ?_⟩
    have hs1 : SqT K (upd H p (.tup [])) a xs := same_tup (same_new np) hs
    have hn1 : Same H (upd H p (.tup [])) := same_new np
    have ha1 := same_dps hn1 ha
    have hp1 : Dp K (upd H p (.tup [])) (.ref p) (.tuple []) := .tup (SqT.of upd_same) .nil
    generalize upd H p (.tup []) = H1 at *
    refine ⟨ds, .tup hs1 ha1, hp1, hS', _, rfl, ?_⟩
    cases ds with
    | nil => exact iteT (q H1 hn1)
    | cons d0 ds =>
      cases ha1 with
      | @cons x0 _ xs _ hx0 ha2 =>
        refine iteF ⟨_, rfl, a, _, 0, x0, rfl, rfl, hs1, atI0, _, _, rfl, hx0, _, rfl, ?_⟩
        cases d0 with
        | str x =>
          cases hx0
          have hT : isLineD n (.tuple (.str x :: ds)) = match sizeW x with
            | none => false
            | some k => decide (ds.length + 1 = k) && (decide (x = "end") || (isCountD 0 2 (ds.getD 0 .none) && (ds.drop 1).all (isCountD 0 ((n - 1 : Nat) : Int)))) := rfl
          rw [hT] at q
          refine iteF ⟨_, rfl, a, _, 0, .str x, rfl, rfl, hs1, atI0, ?_⟩
          cases hz : sizeW x with
          | none =>
            have hx : x = "stop" := by
              rcases hW with h | h | h | h
              · subst h; exact absurd hz (by decide)
              · subst h; exact absurd hz (by decide)
              · subst h; exact absurd hz (by decide)
              · exact h
            subst hx
            rw [hz] at q
            exact ⟨_, none, rfl, rfl, T.n_SIZES, _, rfl, iteT (q H1 hn1)⟩
          | some k =>
            obtain ⟨hk, u, hu⟩ := szTab (w := w) T DS hz
            rw [hz] at q
            dsimp only at q
            refine ⟨_, some u, rfl, rfl, hu, _, rfl, iteF ?_⟩
            refine ⟨_, rfl, a, _, rfl, .inr hs1, _, rfl, a, _, 0, .str x, rfl, rfl, hs1, atI0, _, x, nI k, rfl, rfl, hk, _, _, rfl, rfl, _, rfl, ?_⟩
            have hl2 := dps_len ha2
            by_cases hl : ds.length + 1 = k
            · rw [decide_eq_true (by rw [List.length_cons, hl2]; exact hl)]
              rw [decide_eq_true hl, Bool.true_and] at q
              refine iteF ⟨_, rfl, a, _, 0, .str x, rfl, rfl, hs1, atI0, rfl, _, rfl, ?_⟩
              by_cases he : x = "end"
              · subst he
                rw [decide_eq_true rfl]
                exact iteT (q H1 hn1)
              · rw [decide_eq_false (fun z => he (V.str.inj z))]
                rw [decide_eq_false he, Bool.false_or] at q
                obtain ⟨d1, ds, rfl⟩ : ∃ d1 ds', ds = d1 :: ds' := by
                  cases ds with
                  | nil =>
                    exfalso
                    subst hl
                    rcases hW with h | h | h | h
                    · subst h; exact absurd hz (by decide)
                    · subst h; exact absurd hz (by decide)
                    · exact he h
                    · subst h; exact absurd hz (by decide)
                  | cons d1 ds => exact ⟨d1, ds, rfl⟩
                cases ha2 with
                | @cons x1 _ xs _ hx1 ha3 =>
                  refine iteF ⟨_, rfl, a, _, 1, x1, rfl, rfl, hs1, atI1, _, _, rfl, rfl, by decide, x1, d1, 0, 2, rfl, hx1, ?_⟩
                  have hT2 : ((d1 :: ds).getD 0 .none) = d1 := rfl
                  rw [hT2] at q
                  refine ⟨_, rfl, ?_⟩
                  cases hc : isCountD 0 2 d1 with
                  | false =>
                    rw [hc, Bool.false_and] at q
                    exact iteF (q H1 hn1)
                  | true =>
                    rw [hc, Bool.true_and] at q
                    refine iteT ⟨_, rfl, 2, rfl, _, .tup hs1 (.cons (.str x) (.cons hx1 ha3)), fun v1 H2 s2 hv1 => ?_⟩
                    rw [show (some (2 : Int)) = some ((2 : Nat) : Int) from rfl, cutD_from] at hv1
                    obtain ⟨b, ys, rfl, hb, hys⟩ := dp_tup hv1
                    have hys : DpAll K H2 ys ds := hys
                    have hlen3 := dps_len hys
                    refine ⟨b, rfl, ⟨_, hb⟩, fun D hD => ?_⟩
                    refine lc_dp (K := K) walk_tup hD (by
                      have h5 : k ≤ 4 := sizeW_le hz
                      have h6 : (d1 :: ds).length = ds.length + 1 := rfl
                      omega) (fun H' s' => same_tup s' hb) (fun i => ds[i]?.map fun d => PyData.bool (isCountD 0 ((n - 1 : Nat) : Int) d)) ?_ ?_ ?_
                    · intro i d e
                      obtain ⟨a, _, rfl⟩ := Option.map_eq_some_iff.mp e
                      rfl
                    · rintro i z H' H'' A B hi s' ⟨rfl, hx⟩ hA hB
                      obtain ⟨d, hd, hp⟩ := dps_at2 hys hx
                      exact ⟨rfl, _, rfl, _, rfl, n, 1, rfl, rfl, hn, z, d, 0, ((n - 1 : Nat) : Int), rfl, same_dp s' hp, hA _ _ _ (by rw [hd]; rfl) (Same.refl _) (.bl _)⟩
                    · intro H' ys' s' hD' hA
                      rw [hlen3, gath_map] at hA
                      have e2 : ys' = (ds.map (isCountD 0 ((n - 1 : Nat) : Int))).map V.bl := dps_bools (by rw [List.map_map]; exact hA)
                      rw [e2] at hD'
                      refine ⟨D, _, rfl, SqL.of hD', ?_⟩
                      have e3 : ((ds.map (isCountD 0 ((n - 1 : Nat) : Int))).all id) = ((d1 :: ds).drop 1).all (isCountD 0 ((n - 1 : Nat) : Int)) := by
                        rw [List.all_map]
                        rfl
                      rw [e3]
                      exact q H' ((hn1.trans s2).trans s')
            · rw [decide_eq_false (by rw [List.length_cons, hl2]; exact hl)]
              rw [decide_eq_false hl, Bool.false_and] at q
              exact iteT (q H1 hn1)
        | int i => exact iteT (q H1 hn1)
        | bool b => exact iteT (q H1 hn1)
        | none => exact iteT (q H1 hn1)
        | list xs => exact iteT (q H1 hn1)
        | tuple xs => exact iteT (q H1 hn1)
        | dict xs => exact iteT (q H1 hn1)
  | int i => exact iteT q0
  | bool b => exact iteT q0
  | none => exact iteT q0
  | str x => exact iteT q0
  | list xs => exact iteT q0
  | dict xs => exact iteT q0
end
end Fr
namespace Fr
open PySem PySem.Spec PyProof.Rows L2
def isMachD : PyData → Bool
  | .list ds => (decide (1 ≤ ds.length) && decide (ds.length ≤ 4)) && ds.all (isLineD ds.length)
  | _ => false
def WordsD : PyData → Prop
  | .list ds => ∀ e ∈ ds, WordD e
  | _ => True
def isCtrD : PyData → Bool
  | .tuple ds => decide (ds.length = 3) && ds.all (isCountD 0 100)
  | _ => false
section
variable {P : Program} {w : World} {K : PySem.W.Frag} {mg : Str → Option Value} {base : Heap}
def spNeedM (K : PySem.W.Frag) : Sp := fun vs H Q E => ∃ (v : V) (d : PyData), vs = [v] ∧ Dp K H v d ∧ Shp 40 d ∧ WordsD d ∧ (isMachD d = true → ∀ H', Same H H' → Q .non H') ∧ (isMachD d = false → ∀ H', Same H H' → E (.ref (ga K "BadMachine")) none H')
theorem ok_need_machine (T : Txt K mg) (DS : KTab w K) : Cal P w K mg base (L2N.CX P w) 3 "need_machine" ["machine"] (spNeedM K) := by
  have c_is_line := ok_is_line (P := P) (w := w) (base := base) T DS
  refine Cal.mkX T.d_need_machine T.m_need_machine sc_need_machine (fun _ _ _ _ _ _ us hl => match us, hl with | [_], _ => rfl) (fun vs H Q E h => ?_) (fun cdv A outer s H vs Q E hr h => ?_)
  · obtain ⟨v, d, rfl, _⟩ := h
    rfl
  obtain ⟨v, d, rfl, hd, hS, hW, q1, q2⟩ := h
  refine ⟨_, (pss_cons (ps_if (PW.pt (pw_or (pt_not (pt_val (pe_callB (isList rfl) (by rfl) T.b_isinstance boot_isinstance (pa_cons (pv 0) (pa_cons (pe_bltn (v := .ty "list") (by rfl) T.b_list boot_list rfl) pa_nil))))) (pw_or1 (pt_not (pt_chain opN_le opN_le pe_int (pe_callB (lenS rfl) (by rfl) T.b_len PySem.boot_len (pa_cons (pv 0) pa_nil)) (pe_glob (v := .int 4) (by rfl) T.c_MOST_LINES.choose_spec ⟨_, rfl⟩)))))) (pss_one (L2N.ps_raise rfl (L2N.takes_of rfl rfl rfl rfl) (L2N.pmk_own PySem.F.excBase_ValueError T.x_BadMachine.1 T.m_BadMachine T.x_BadMachine.2.1 (raises_own T.x_BadMachine.2.2.1 T.x_BadMachine.2.2.2) (by rfl)))) pss_nil)
      (pss_one (ps_if (pt_not (pt_val (pe_callB (crAll rfl rfl) (by rfl) T.b_all boot_all (pa_cons (pe_lc (own := [("line", 1)]) rfl sc_need_machine.nd (piL rfl (pv 0)) (blkOk_by (own := [("line", 1)]) (N := ["machine", "line"]) (sc := defScope s_need_machine) (by decide +kernel)) (fun _ _ _ _ _ => (pg_name (i := 1) sc_need_machine.nd rfl (.inl rfl))) (fun _ _ _ _ _ => pts_nil) (fun _ _ _ _ _ => (pe_cal c_is_line (hr.mono (by decide)) (by rfl) pass0 (pa_cons (pv 1) (pa_cons (pe_callB (lenS rfl) (by rfl) T.b_len PySem.boot_len (pa_cons (pv 0) pa_nil)) pa_nil))))) pa_nil)))) (pss_one (L2N.ps_raise rfl (L2N.takes_of rfl rfl rfl rfl) (L2N.pmk_own PySem.F.excBase_ValueError T.x_BadMachine.1 T.m_BadMachine T.x_BadMachine.2.1 (raises_own T.x_BadMachine.2.2.1 T.x_BadMachine.2.2.2) (by rfl)))) pss_nil))), ?_⟩
  refine ⟨_, rfl, _, _, rfl, hd, _, rfl, ?_⟩
  cases d with
  | list ds =>
    obtain ⟨a, xs, rfl, hs, ha⟩ := dp_lst hd
    have hlen := dps_len ha
    refine iteF ⟨_, rfl, a, xs, rfl, .inl hs, 1, xs.length, rfl, rfl, ?_⟩
    have hT : isMachD (.list ds) = ((decide (1 ≤ ds.length) && decide (ds.length ≤ 4)) && ds.all (isLineD ds.length)) := rfl
    refine ⟨_, rfl, ite2 (fun h1 => ?_) (fun h1 => ?_)⟩
    · have h1 := of_decide_eq_true h1
      refine ⟨_, 4, rfl, rfl, _, rfl, ?_⟩
      by_cases h4 : xs.length ≤ 4
      · rw [decide_eq_true h4]
        rw [decide_eq_true (show 1 ≤ ds.length by omega), decide_eq_true (show ds.length ≤ 4 by omega), Bool.and_self, Bool.true_and] at hT
        refine iteF ⟨_, rfl, a, rfl, ⟨_, hs⟩, fun D hD => ?_⟩
        refine lc_dp (K := K) walk_list hD (by omega) (fun H' s' => s'.seq hs) (fun i => ds[i]?.map fun d => PyData.bool (isLineD ds.length d)) ?_ ?_ ?_
        · intro i d e
          obtain ⟨a, _, rfl⟩ := Option.map_eq_some_iff.mp e
          rfl
        · rintro i x H' H'' A B hi s' ⟨rfl, hx⟩ hA hB
          obtain ⟨d, hd, hp⟩ := dps_at2 ha hx
          have hm : d ∈ ds := List.mem_of_getElem? hd
          exact ⟨rfl, _, rfl, _, rfl, a, xs, rfl, .inl (s'.seq hs), x, d, xs.length, rfl, by omega, same_dp s' hp, Shp.subL hS hm, hW d hm, fun H4 s4 => hA _ _ _ (by rw [hd, hlen]; rfl) s4 (.bl _)⟩
        · intro H' ys s' hD' hA
          rw [hlen, gath_map] at hA
          have e2 : ys = (ds.map (isLineD ds.length)).map V.bl := dps_bools (by rw [List.map_map]; exact hA)
          rw [e2] at hD'
          refine ⟨D, _, rfl, SqL.of hD', _, rfl, ?_⟩
          have e3 : ((ds.map (isLineD ds.length)).all id) = ds.all (isLineD ds.length) := by
            rw [List.all_map]
            rfl
          rw [e3]
          cases hA : ds.all (isLineD ds.length) with
          | true => exact iteF (q1 (hT.trans hA) H' s')
          | false => exact iteT (q2 (hT.trans hA) H' s')
      · rw [decide_eq_false h4]
        exact iteT (q2 (by rw [hT, decide_eq_false (show ¬ ds.length ≤ 4 by omega), Bool.and_false, Bool.false_and]) H (Same.refl H))
    · have h1 : ¬ 1 ≤ xs.length := fun z => h1 (decide_eq_true z)
      refine ⟨_, rfl, iteT (q2 (by rw [hT, decide_eq_false (show ¬ 1 ≤ ds.length by omega), Bool.false_and, Bool.false_and]) H (Same.refl H))⟩
  | int i => exact iteT (q2 rfl H (Same.refl H))
  | bool b => exact iteT (q2 rfl H (Same.refl H))
  | none => exact iteT (q2 rfl H (Same.refl H))
  | str x => exact iteT (q2 rfl H (Same.refl H))
  | tuple xs => exact iteT (q2 rfl H (Same.refl H))
  | dict xs => exact iteT (q2 rfl H (Same.refl H))
end
end Fr
namespace Fr
open PySem PySem.Spec PyProof.Rows L2
section
variable {P : Program} {w : World} {K : PySem.W.Frag} {mg : Str → Option Value} {base : Heap}
def spNeedK (K : PySem.W.Frag) : Sp := fun vs H Q E => ∃ (v : V) (d : PyData), vs = [v] ∧ Dp K H v d ∧ (isCtrD d = true → ∀ H', Same H H' → Q .non H') ∧ (isCtrD d = false → ∀ H', Same H H' → E (.ref (ga K "BadMachine")) none H')
theorem ok_need_counters (T : Txt K mg) : Cal P w K mg base (L2N.CX P w) 3 "need_counters" ["counters"] (spNeedK K) := by
  have c_is_count := ok_is_count (P := P) (w := w) (base := base) T
  refine Cal.mkX T.d_need_counters T.m_need_counters sc_need_counters (fun _ _ _ _ _ _ us hl => match us, hl with | [_], _ => rfl) (fun vs H Q E h => ?_) (fun cdv A outer s H vs Q E hr h => ?_)
  · obtain ⟨v, d, rfl, _⟩ := h
    rfl
  obtain ⟨v, d, rfl, hd, q1, q2⟩ := h
  refine ⟨_, (pss_cons (ps_set (i := 1) sc_need_counters.nd rfl (.inl rfl) (pe_and (pe_callB (isTuple rfl) (by rfl) T.b_isinstance boot_isinstance (pa_cons (pv 0) (pa_cons (pe_bltn (v := .ty "tuple") (by rfl) T.b_tuple boot_tuple rfl) pa_nil))) (pe_one (pe_cmpR opN_eq (pe_callB (lenS rfl) (by rfl) T.b_len PySem.boot_len (pa_cons (pv 0) pa_nil)) (pe_glob (v := .int 3) (by rfl) T.c_COUNTERS.choose_spec ⟨_, rfl⟩) (nomark _)))))
      (pss_one (ps_if (PW.pt (pw_or (pt_not (pt_val (pv 1))) (pw_or1 (pt_not (pt_val (pe_callB (crAll rfl rfl) (by rfl) T.b_all boot_all (pa_cons (pe_lc (own := [("one", 2)]) rfl sc_need_counters.nd (piT rfl (pv 0)) (blkOk_by (own := [("one", 2)]) (N := ["counters", "good", "one"]) (sc := defScope s_need_counters) (by decide +kernel)) (fun _ _ _ _ _ => (pg_name (i := 2) sc_need_counters.nd rfl (.inl rfl))) (fun _ _ _ _ _ => pts_nil) (fun _ _ _ _ _ => (pe_cal c_is_count (hr.mono (by decide)) (by rfl) pass0 (pa_cons (pv 2) (pa_cons pe_int (pa_cons (pe_glob (v := .int 100) (by rfl) T.c_MOST_COUNTER.choose_spec ⟨_, rfl⟩) pa_nil)))))) pa_nil))))))) (pss_one (L2N.ps_raise rfl (L2N.takes_of rfl rfl rfl rfl) (L2N.pmk_own PySem.F.excBase_ValueError T.x_BadMachine.1 T.m_BadMachine T.x_BadMachine.2.1 (raises_own T.x_BadMachine.2.2.1 T.x_BadMachine.2.2.2) (by rfl)))) pss_nil))), ?_⟩
  refine ⟨_, rfl, _, _, rfl, hd, _, rfl, ?_⟩
  cases d with
  | tuple ds =>
    obtain ⟨a, xs, rfl, hs, ha⟩ := dp_tup hd
    have hlen := dps_len ha
    have hT : isCtrD (.tuple ds) = (decide (ds.length = 3) && ds.all (isCountD 0 100)) := rfl
    refine iteT ⟨_, rfl, a, xs, rfl, .inr hs, _, 3, rfl, rfl, _, rfl, _, rfl, ?_⟩
    by_cases h3 : xs.length = 3
    · rw [decide_eq_true h3]
      rw [decide_eq_true (show ds.length = 3 by omega), Bool.true_and] at hT
      refine iteF ⟨_, rfl, a, rfl, ⟨_, hs⟩, fun D hD => ?_⟩
      refine lc_dp (K := K) walk_tup hD (by omega) (fun H' s' => same_tup s' hs) (fun i => ds[i]?.map fun d => PyData.bool (isCountD 0 100 d)) ?_ ?_ ?_
      · intro i d e
        obtain ⟨a, _, rfl⟩ := Option.map_eq_some_iff.mp e
        rfl
      · rintro i x H' H'' A B hi s' ⟨rfl, hx⟩ hA hB
        obtain ⟨d, hd, hp⟩ := dps_at2 ha hx
        exact ⟨rfl, _, rfl, x, d, 0, 100, rfl, same_dp s' hp, hA _ _ _ (by rw [hd]; rfl) (Same.refl _) (.bl _)⟩
      · intro H' ys s' hD' hA
        rw [hlen, gath_map] at hA
        have e2 : ys = (ds.map (isCountD 0 100)).map V.bl := dps_bools (by rw [List.map_map]; exact hA)
        rw [e2] at hD'
        refine ⟨D, _, rfl, SqL.of hD', _, rfl, ?_⟩
        have e3 : ((ds.map (isCountD 0 100)).all id) = ds.all (isCountD 0 100) := by
          rw [List.all_map]
          rfl
        rw [e3]
        cases hA : ds.all (isCountD 0 100) with
        | true => exact iteF (q1 (hT.trans hA) H' s')
        | false => exact iteT (q2 (hT.trans hA) H' s')
    · rw [decide_eq_false h3]
      exact iteT (q2 (by rw [hT, decide_eq_false (show ¬ ds.length = 3 by omega), Bool.false_and]) H (Same.refl H))
  | int i => exact iteF ⟨_, rfl, _, rfl, iteT (q2 rfl H (Same.refl H))⟩
  | bool b => exact iteF ⟨_, rfl, _, rfl, iteT (q2 rfl H (Same.refl H))⟩
  | none => exact iteF ⟨_, rfl, _, rfl, iteT (q2 rfl H (Same.refl H))⟩
  | str x => exact iteF ⟨_, rfl, _, rfl, iteT (q2 rfl H (Same.refl H))⟩
  | list xs => exact iteF ⟨_, rfl, _, rfl, iteT (q2 rfl H (Same.refl H))⟩
  | dict xs => exact iteF ⟨_, rfl, _, rfl, iteT (q2 rfl H (Same.refl H))⟩
/-! ### changed -/
def ctD (cs : List Nat) : PyData := .tuple (cs.map nD)
def spChanged (K : PySem.W.Frag) : Sp := fun vs H Q _ => ∃ (v : V) (cs : List Nat) (c : Nat) (b : Int) (k : Nat), vs = [v, nI c, .int b] ∧ Dp K H v (ctD cs) ∧ c < cs.length ∧ cs.length = 3 ∧ (cs.getD c 0 : Int) + b = (k : Int) ∧ cs.getD c 0 < 2 ^ 40 ∧ -1 ≤ b ∧ b ≤ 1 ∧ ∀ x H', Same H H' → Dp K H' x (ctD (cs.set c k)) → Q x H'
theorem ok_changed (T : Txt K mg) : Cal P w K mg base L2.CX0 1 "changed" ["counters", "place", "by"] (spChanged K) := by
  refine Cal.mk0 T.d_changed T.m_changed sc_changed (fun _ _ _ _ _ _ us hl => match us, hl with | [_, _, _], _ => rfl) (fun vs H Q E h => ?_) (fun cdv A outer s H vs Q E hr h => ?_)
  · obtain ⟨v, cs, c, b, k, rfl, _⟩ := h
    rfl
  obtain ⟨v, cs, c, b, k, rfl, hd, hc, h3, hk, hb, hb1, hb2, q⟩ := h
  refine ⟨_, (pss_one (ps_ret (pe_op (catD rfl) (pe_op (catD rfl) (pe_slice (slD rfl) (pv 0) po_none (po_some (pv 1))) (pe_tup (pa_cons (pe_op op_add (pe_ix (ixT rfl) (pv 0) (pv 1) (fun _ _ => rfl)) (pv 2)) pa_nil))) (pe_slice (slD rfl) (pv 0) (po_some (pe_op opN_add (pv 1) pe_int)) po_none)))), ?_⟩
  refine ⟨_, rfl, _, rfl, _, rfl, _, hd, fun v1 H1 s1 h1 => ?_⟩
  have h1 : Dp K H1 v1 (.tuple ((cs.map nD).take c)) := by rw [← cutD_to]; exact h1
  have hd1 := same_dp s1 hd
  obtain ⟨a, xs, rfl, hs, ha⟩ := dp_tup hd1
  have exs : xs = cs.map nI := dps_nats ha
  subst exs
  have hget : (cs.map nI)[c]? = some (nI (cs.getD c 0)) := by
    rw [List.getElem?_map, List.getElem?_eq_getElem hc]
    simp [List.getD_eq_getElem?_getD, List.getElem?_eq_getElem hc]
  refine ⟨_, rfl, _, rfl, a, _, (c : Int), nI (cs.getD c 0), rfl, rfl, hs, atIn hget, _, rfl, _, b, rfl, rfl, ?_⟩
  refine ⟨(by show 1 ≤ sizeLine; decide), fun p np => ?_⟩
  have s2 : Same H1 (upd H1 p (.tup [.int ((cs.getD c 0 : Nat) + b)])) := same_new np
  have hp2 : Dp K (upd H1 p (.tup [.int ((cs.getD c 0 : Nat) + b)])) (.ref p) (.tuple [nD k]) := by
    refine .tup (SqT.of upd_same) (.cons ?_ .nil)
    rw [hk]
    exact .int _
  generalize upd H1 p (.tup [.int ((cs.getD c 0 : Nat) + b)]) = H2 at *
  refine ⟨_, _, same_dp s2 h1, hp2, by simp; omega, fun v3 H3 s3 h3' => ?_⟩
  refine ⟨_, rfl, _, rfl, c, 1, rfl, rfl, _, rfl, _, same_dp (s2.trans s3) hd1, fun v4 H4 s4 h4 => ?_⟩
  have h4 : Dp K H4 v4 (.tuple ((cs.map nD).drop (c + 1))) := by rw [← cutD_from]; exact h4
  refine ⟨_, _, same_dp s4 h3', h4, by simp; omega, fun v5 H5 s5 h5 => ?_⟩
  refine q v5 H5 ((((s1.trans s2).trans s3).trans s4).trans s5) ?_
  have e : (cs.set c k).map nD = (cs.map nD).take c ++ [nD k] ++ (cs.map nD).drop (c + 1) := by
    rw [List.map_set, List.set_eq_take_append_cons_drop, if_pos (by rw [List.length_map]; exact hc)]
    simp
  unfold ctD
  rw [e]
  exact h5
end
end Fr
namespace Fr
open PySem PySem.Spec PyProof.Rows L2
abbrev St2 := Nat × List Nat
def stD (s : St2) : PyData := .tuple [nD s.1, ctD s.2]
def wentM (m : Mach) (s : St2) : Option St2 := match m[s.1]? with
  | some (.add c g) => some (g, s.2.set c (s.2.getD c 0 + 1))
  | some (.take c g h) => if 0 < s.2.getD c 0 then some (g, s.2.set c (s.2.getD c 0 - 1)) else some (h, s.2)
  | _ => none
def stO : Option St2 → PyData
  | none => .none
  | some s => stD s
/-- a state of a machine; no counter beyond b -/
def OkSt (m : Mach) (b : Nat) (s : St2) : Prop := s.1 < m.length ∧ s.2.length = 3 ∧ ∀ x ∈ s.2, x ≤ b
theorem mach_ok {m : Mach} (h : isMach m = true) {l : Ln} (hl : l ∈ m) : l.ok m.length = true := by
  unfold isMach at h
  rw [Bool.and_eq_true] at h
  exact List.all_eq_true.mp h.2 l hl
theorem mach_len {m : Mach} (h : isMach m = true) : 1 ≤ m.length ∧ m.length ≤ 4 := by
  unfold isMach at h
  rw [Bool.and_eq_true, Bool.and_eq_true] at h
  exact ⟨of_decide_eq_true h.1.1, of_decide_eq_true h.1.2⟩
theorem ok_add {n c g : Nat} (h : (Ln.add c g).ok n = true) : c < 3 ∧ g < n := by
  simpa [Ln.ok] using h
theorem ok_take {n c g h : Nat} (hk : (Ln.take c g h).ok n = true) : c < 3 ∧ g < n ∧ h < n := by
  simpa [Ln.ok] using hk
theorem getD_mem {cs : List Nat} {c : Nat} (h : c < cs.length) : cs.getD c 0 ∈ cs := by
  rw [List.getD_eq_getElem?_getD, List.getElem?_eq_getElem h]
  exact List.getElem_mem h
theorem set_le {cs : List Nat} {c k b : Nat} (h : ∀ x ∈ cs, x ≤ b) (hk : k ≤ b) : ∀ x ∈ cs.set c k, x ≤ b := fun x hx => by
  rcases List.mem_or_eq_of_mem_set hx with h1 | h1
  · exact h x h1
  · omega
theorem went_ok {m : Mach} {b : Nat} {s t : St2} (hm : isMach m = true) (hs : OkSt m b s) (h : wentM m s = some t) : OkSt m (b + 1) t := by
  obtain ⟨h1, h2, h3⟩ := hs
  have hle : ∀ x ∈ s.2, x ≤ b + 1 := fun x hx => Nat.le_succ_of_le (h3 x hx)
  unfold wentM at h
  rw [List.getElem?_eq_getElem h1] at h
  have ho := mach_ok hm (List.getElem_mem h1)
  cases hl : m[s.1] with
  | add c g =>
    rw [hl] at h ho
    have ho := ok_add ho
    cases h
    exact ⟨ho.2, by rw [List.length_set]; exact h2, set_le hle (Nat.succ_le_succ (h3 _ (getD_mem (by omega))))⟩
  | take c g k =>
    rw [hl] at h ho
    have ho := ok_take ho
    dsimp only at h
    split at h
    · cases h
      have := h3 _ (getD_mem (cs := s.2) (c := c) (by omega))
      exact ⟨ho.2.1, by rw [List.length_set]; exact h2, set_le hle (by omega)⟩
    · cases h
      exact ⟨ho.2.2, h2, hle⟩
  | fin =>
    rw [hl] at h
    cases h
theorem dp_add {K : PySem.W.Frag} {H : Hp} {v : V} {c g : Nat} (h : Dp K H v (lnD (.add c g))) : ∃ b, v = .ref b ∧ SqT K H b [.str "add", nI c, nI g] := by
  obtain ⟨b, ys, rfl, hb, hys⟩ := dp_tup h
  cases hys with
  | cons h1 t => cases h1; cases t with
    | cons h2 t => cases h2; cases t with
      | cons h3 t => cases h3; cases t; exact ⟨b, rfl, hb⟩
theorem dp_take {K : PySem.W.Frag} {H : Hp} {v : V} {c g k : Nat} (h : Dp K H v (lnD (.take c g k))) : ∃ b, v = .ref b ∧ SqT K H b [.str "take", nI c, nI g, nI k] := by
  obtain ⟨b, ys, rfl, hb, hys⟩ := dp_tup h
  cases hys with
  | cons h1 t => cases h1; cases t with
    | cons h2 t => cases h2; cases t with
      | cons h3 t => cases h3; cases t with
        | cons h4 t => cases h4; cases t; exact ⟨b, rfl, hb⟩
theorem dp_fin {K : PySem.W.Frag} {H : Hp} {v : V} (h : Dp K H v (lnD .fin)) : ∃ b, v = .ref b ∧ SqT K H b [.str "end"] := by
  obtain ⟨b, ys, rfl, hb, hys⟩ := dp_tup h
  cases hys with
  | cons h1 t => cases h1; cases t; exact ⟨b, rfl, hb⟩
theorem dp_ct {K : PySem.W.Frag} {H : Hp} {v : V} {cs : List Nat} (h : Dp K H v (ctD cs)) : ∃ b, v = .ref b ∧ SqT K H b (cs.map nI) := by
  obtain ⟨b, ys, rfl, hb, hys⟩ := dp_tup h
  rw [dps_nats hys] at hb
  exact ⟨b, rfl, hb⟩
theorem atI2 {x y z : V} {xs : List V} : atI (x :: y :: z :: xs) 2 = some z := atI_nat (j := 2) rfl
theorem atI3 {x y z u : V} {xs : List V} : atI (x :: y :: z :: u :: xs) 3 = some u := atI_nat (j := 3) rfl
theorem getD_nI {cs : List Nat} {c : Nat} (hc : c < cs.length) : (cs.map nI)[c]? = some (nI (cs.getD c 0)) := by
  rw [List.getElem?_map, List.getElem?_eq_getElem hc]
  simp [List.getD_eq_getElem?_getD, List.getElem?_eq_getElem hc]
section
variable {P : Program} {w : World} {K : PySem.W.Frag} {mg : Str → Option Value} {base : Heap}
def spWent (K : PySem.W.Frag) : Sp := fun vs H Q _ => ∃ (v u : V) (m : Mach) (s : St2), vs = [v, u] ∧ Dp K H v (machD m) ∧ isMach m = true ∧ Dp K H u (stD s) ∧ OkSt m 2000 s ∧ ∀ x H', Same H H' → Dp K H' x (stO (wentM m s)) → Q x H'
theorem ok_went (T : Txt K mg) : Cal P w K mg base L2.CX0 2 "went" ["machine", "state"] (spWent K) := by
  have c_changed := ok_changed (P := P) (w := w) (base := base) T
  refine Cal.mk0 T.d_went T.m_went sc_went (fun _ _ _ _ _ _ us hl => match us, hl with | [_, _], _ => rfl) (fun vs H Q E h => ?_) (fun cdv A outer s H vs Q E hr h => ?_)
  · obtain ⟨v, u, m, s, rfl, _⟩ := h
    rfl
  obtain ⟨v, u, m, ⟨i, cs⟩, rfl, hd, hm, hu, ⟨hi, hl, hb⟩, q⟩ := h
  have hi : i < m.length := hi
  have hl : cs.length = 3 := hl
  have hb : ∀ x ∈ cs, x ≤ 2000 := hb
  refine ⟨_, (pss_cons (ps_asg (pv 1) (pgT (n := 2) rfl rfl (pgs_cons (pg_name (i := 2) sc_went.nd rfl (.inl rfl)) (pgs_cons (pg_name (i := 3) sc_went.nd rfl (.inl rfl)) pgs_nil))))
      (pss_cons (ps_set (i := 4) sc_went.nd rfl (.inl rfl) (pe_ix (ixL rfl) (pv 0) (pv 2) (fun _ _ => rfl)))
      (pss_cons (ps_if (pt_cmpR op_eq (pe_ix (ixT rfl) (pv 4) pe_int (fun _ _ => rfl)) pe_str (nomark _)) (pss_one (ps_ret (pe_tup (pa_cons (pe_ix (ixT rfl) (pv 4) pe_int (fun _ _ => rfl)) (pa_cons (pe_cal c_changed (hr.mono (by decide)) (by rfl) pass0 (pa_cons (pv 3) (pa_cons (pe_ix (ixT rfl) (pv 4) pe_int (fun _ _ => rfl)) (pa_cons pe_int pa_nil)))) pa_nil))))) pss_nil)
      (pss_cons (ps_if (PW.pt (pw_and (pt_cmpR op_eq (pe_ix (ixT rfl) (pv 4) pe_int (fun _ _ => rfl)) pe_str (nomark _)) (pw_and1 (pt_cmpR opN_gt (pe_ix (ixT rfl) (pv 3) (pe_ix (ixT rfl) (pv 4) pe_int (fun _ _ => rfl)) (fun _ _ => rfl)) pe_int (nomark _))))) (pss_one (ps_ret (pe_tup (pa_cons (pe_ix (ixT rfl) (pv 4) pe_int (fun _ _ => rfl)) (pa_cons (pe_cal c_changed (hr.mono (by decide)) (by rfl) pass0 (pa_cons (pv 3) (pa_cons (pe_ix (ixT rfl) (pv 4) pe_int (fun _ _ => rfl)) (pa_cons (pe_un un_neg pe_int) pa_nil)))) pa_nil))))) pss_nil)
      (pss_one (ps_ret (pe_ifExp (pt_cmpR op_eq (pe_ix (ixT rfl) (pv 4) pe_int (fun _ _ => rfl)) pe_str (nomark _)) (pe_tup (pa_cons (pe_ix (ixT rfl) (pv 4) pe_int (fun _ _ => rfl)) (pa_cons (pv 3) pa_nil))) pe_non))))))), ?_⟩
  obtain ⟨a, x, y, rfl, ha, hx, hy⟩ := dp_two hu
  cases hx
  obtain ⟨p, xs, rfl, hp, hxs⟩ := dp_lst hd
  have hlen := dps_len hxs
  have hmi : m[i]? = some m[i] := List.getElem?_eq_getElem hi
  obtain ⟨lv, hlv⟩ : ∃ lv, xs[i]? = some lv := ⟨_, List.getElem?_eq_getElem (by rw [hlen, List.length_map]; exact hi)⟩
  have hlD : Dp K H lv (lnD m[i]) := by
    obtain ⟨d, hd', hdp⟩ := dps_at2 hxs hlv
    rw [List.getElem?_map, hmi] at hd'
    cases hd'
    exact hdp
  have ho := mach_ok hm (List.getElem_mem hi)
  refine ⟨_, rfl, a, _, rfl, ha, rfl, _, _, rfl, _, _, rfl, rfl, ?_⟩
  refine ⟨_, rfl, _, rfl, p, xs, (i : Int), lv, rfl, rfl, hp, atIn hlv, _, rfl, ?_⟩
  have hw : wentM m (i, cs) = match m[i] with
    | .add c g => some (g, cs.set c (cs.getD c 0 + 1))
    | .take c g h => if 0 < cs.getD c 0 then some (g, cs.set c (cs.getD c 0 - 1)) else some (h, cs)
    | .fin => none := by
    unfold wentM
    show (match m[i]? with | some (.add c g) => _ | some (.take c g h) => _ | _ => _) = _
    rw [hmi]
    cases m[i] <;> rfl
  rw [hw] at q
  cases hl' : m[i] with
  | add c g =>
    rw [hl'] at hlD ho q
    obtain ⟨b, rfl, hb'⟩ := dp_add hlD
    have ho := ok_add ho
    have hv := hb _ (getD_mem (cs := cs) (c := c) (by omega))
    refine ⟨b, _, 0, _, rfl, rfl, hb', atI0, rfl, _, rfl, iteT ?_⟩
    refine ⟨_, rfl, b, _, 2, _, rfl, rfl, hb', atI2, _, rfl, _, rfl, b, _, 1, _, rfl, rfl, hb', atI1, ?_⟩
    refine ⟨y, cs, c, 1, cs.getD c 0 + 1, rfl, hy, by omega, hl, by omega, by omega, by omega, by omega, fun x H1 s1 hx => ⟨(by show 2 ≤ sizeLine; decide), fun p1 np => ?_⟩⟩
    exact q _ _ (s1.trans (same_new np)) (.tup (SqT.of upd_same) (.cons (.int _) (.cons (same_dp (same_new np) hx) .nil)))
  | take c g k =>
    rw [hl'] at hlD ho q
    obtain ⟨b, rfl, hb'⟩ := dp_take hlD
    have ho := ok_take ho
    have hv := hb _ (getD_mem (cs := cs) (c := c) (by omega))
    obtain ⟨yb, rfl, hyb⟩ := dp_ct hy
    refine ⟨b, _, 0, _, rfl, rfl, hb', atI0, rfl, _, rfl, iteF ?_⟩
    refine ⟨_, rfl, b, _, 0, _, rfl, rfl, hb', atI0, rfl, _, rfl, iteT ?_⟩
    refine ⟨_, rfl, _, rfl, b, _, 1, _, rfl, rfl, hb', atI1, yb, _, (c : Int), _, rfl, rfl, hyb, atIn (getD_nI (by omega)), _, 0, rfl, rfl, _, rfl, ?_⟩
    by_cases h0 : 0 < cs.getD c 0
    · rw [decide_eq_true h0]
      dsimp only at q
      rw [if_pos h0] at q
      refine iteT ?_
      refine ⟨_, rfl, b, _, 2, _, rfl, rfl, hb', atI2, _, rfl, _, rfl, b, _, 1, _, rfl, rfl, hb', atI1, ?_⟩
      refine ⟨_, rfl, _, cs, c, -1, cs.getD c 0 - 1, rfl, hy, by omega, hl, by omega, by omega, by omega, by omega, fun x H1 s1 hx => ⟨(by show 2 ≤ sizeLine; decide), fun p1 np => ?_⟩⟩
      exact q _ _ (s1.trans (same_new np)) (.tup (SqT.of upd_same) (.cons (.int _) (.cons (same_dp (same_new np) hx) .nil)))
    · rw [decide_eq_false h0]
      dsimp only at q
      rw [if_neg h0] at q
      refine iteF ?_
      refine ⟨_, rfl, b, _, 0, _, rfl, rfl, hb', atI0, rfl, _, rfl, iteT ?_⟩
      refine ⟨_, rfl, b, _, 3, _, rfl, rfl, hb', atI3, _, rfl, (by show 2 ≤ sizeLine; decide), fun p1 np => ?_⟩
      exact q _ _ (same_new np) (.tup (SqT.of upd_same) (.cons (.int _) (.cons (same_dp (same_new np) hy) .nil)))
  | fin =>
    rw [hl'] at hlD q
    obtain ⟨b, rfl, hb'⟩ := dp_fin hlD
    refine ⟨b, _, 0, _, rfl, rfl, hb', atI0, rfl, _, rfl, iteF ?_⟩
    refine ⟨_, rfl, b, _, 0, _, rfl, rfl, hb', atI0, rfl, _, rfl, iteF ?_⟩
    refine iteF ?_
    refine ⟨_, rfl, b, _, 0, _, rfl, rfl, hb', atI0, rfl, _, rfl, iteF ?_⟩
    exact q _ _ (Same.refl H) .non
end
end Fr
namespace Fr
open PySem PySem.Spec PyProof.Rows L2
def mrunF (m : Mach) : Nat → St2 → List St2
  | 0, s => [s]
  | k + 1, s => match wentM m s with
    | none => [s]
    | some t => s :: mrunF m k t
theorem line_is {n : Nat} {e : PyData} (hn : 1 ≤ n) (h : isLineD n e = true) : ∃ l : Ln, e = lnD l ∧ l.ok n = true := by
  cases e with
  | tuple ds =>
    cases ds with
    | nil => cases h
    | cons d0 ds =>
      cases d0 with
      | str x =>
        have hT : isLineD n (.tuple (.str x :: ds)) = match sizeW x with
          | none => false
          | some k => decide (ds.length + 1 = k) && (decide (x = "end") || (isCountD 0 2 (ds.getD 0 .none) && (ds.drop 1).all (isCountD 0 ((n - 1 : Nat) : Int)))) := rfl
        rw [hT] at h
        by_cases h1 : x = "add"
        · subst h1
          have h : (decide (ds.length + 1 = 3) && (decide (("add" : Str) = "end") || (isCountD 0 2 (ds.getD 0 .none) && (ds.drop 1).all (isCountD 0 ((n - 1 : Nat) : Int))))) = true := h
          rw [Bool.and_eq_true, show decide (("add" : Str) = "end") = false by decide, Bool.false_or, Bool.and_eq_true] at h
          obtain ⟨h1, h2, h3⟩ := h
          have h1 := of_decide_eq_true h1
          match ds, h1, h2, h3 with
          | [a, b], _, h2, h3 =>
            obtain ⟨c, hc, hc2⟩ := isCount_is (hi := 2) h2
            have hc : a = nD c := hc
            have h4 := List.all_eq_true.mp h3 b (by simp)
            obtain ⟨g, rfl, hg⟩ := isCount_is h4
            subst hc
            exact ⟨.add c g, rfl, by simp [Ln.ok]; omega⟩
        · by_cases h2 : x = "take"
          · subst h2
            have h : (decide (ds.length + 1 = 4) && (decide (("take" : Str) = "end") || (isCountD 0 2 (ds.getD 0 .none) && (ds.drop 1).all (isCountD 0 ((n - 1 : Nat) : Int))))) = true := h
            rw [Bool.and_eq_true, show decide (("take" : Str) = "end") = false by decide, Bool.false_or, Bool.and_eq_true] at h
            obtain ⟨h1, h2, h3⟩ := h
            have h1 := of_decide_eq_true h1
            match ds, h1, h2, h3 with
            | [a, b, b2], _, h2, h3 =>
              obtain ⟨c, hc, hc2⟩ := isCount_is (hi := 2) h2
              have hc : a = nD c := hc
              have h4 := List.all_eq_true.mp h3 b (by simp)
              have h5 := List.all_eq_true.mp h3 b2 (by simp)
              obtain ⟨g, rfl, hg⟩ := isCount_is h4
              obtain ⟨k, rfl, hk⟩ := isCount_is h5
              subst hc
              exact ⟨.take c g k, rfl, by simp [Ln.ok]; omega⟩
          · by_cases h3 : x = "end"
            · subst h3
              have h : (decide (ds.length + 1 = 1) && (decide (("end" : Str) = "end") || (isCountD 0 2 (ds.getD 0 .none) && (ds.drop 1).all (isCountD 0 ((n - 1 : Nat) : Int))))) = true := h
              rw [Bool.and_eq_true] at h
              have h1 := of_decide_eq_true h.1
              have h2 : ds = [] := List.length_eq_zero_iff.mp (by omega)
              subst h2
              exact ⟨.fin, rfl, rfl⟩
            · have e : sizeW x = none := by
                unfold sizeW
                rw [if_neg h1, if_neg h2, if_neg h3]
              rw [e] at h
              cases h
      | _ => cases h
  | _ => cases h
theorem lines_is {n : Nat} (hn : 1 ≤ n) : ∀ {ds : List PyData}, (∀ e ∈ ds, isLineD n e = true) → ∃ m : Mach, ds = m.map lnD ∧ m.all (·.ok n) = true
  | [], _ => ⟨[], rfl, rfl⟩
  | d :: ds, h => by
    obtain ⟨l, rfl, hl⟩ := line_is hn (h d List.mem_cons_self)
    obtain ⟨m, rfl, hm⟩ := lines_is hn fun e he => h e (List.mem_cons_of_mem _ he)
    exact ⟨l :: m, rfl, by rw [List.all_cons, hl, hm]; rfl⟩
theorem isMachD_is {d : PyData} (h : isMachD d = true) : ∃ m : Mach, d = machD m ∧ isMach m = true := by
  cases d with
  | list ds =>
    have h : ((decide (1 ≤ ds.length) && decide (ds.length ≤ 4)) && ds.all (isLineD ds.length)) = true := h
    obtain ⟨h1, h2⟩ := Bool.and_eq_true_iff.mp h
    obtain ⟨m, hm, ho⟩ := lines_is (n := ds.length) (of_decide_eq_true (Bool.and_eq_true_iff.mp h1).1) (List.all_eq_true.mp h2)
    have hl : ds.length = m.length := by rw [hm, List.length_map]
    refine ⟨m, by rw [hm]; rfl, ?_⟩
    unfold isMach
    rw [hl] at h1 ho
    rw [h1, ho]
    rfl
  | _ => cases h
theorem ctrs_is : ∀ {ds : List PyData}, (∀ e ∈ ds, isCountD 0 100 e = true) → ∃ cs : List Nat, ds = cs.map nD ∧ ∀ x ∈ cs, x ≤ 100
  | [], _ => ⟨[], rfl, fun _ h => nomatch h⟩
  | d :: ds, h => by
    obtain ⟨c, rfl, hc⟩ := isCount_is (hi := 100) (h d List.mem_cons_self)
    obtain ⟨cs, rfl, hcs⟩ := ctrs_is fun e he => h e (List.mem_cons_of_mem _ he)
    exact ⟨c :: cs, rfl, fun x hx => by
      rcases List.mem_cons.mp hx with rfl | hx
      · exact hc
      · exact hcs x hx⟩
theorem isCtrD_is {d : PyData} (h : isCtrD d = true) : ∃ cs : List Nat, d = ctD cs ∧ cs.length = 3 ∧ ∀ x ∈ cs, x ≤ 100 := by
  cases d with
  | tuple ds =>
    have h : (decide (ds.length = 3) && ds.all (isCountD 0 100)) = true := h
    obtain ⟨h1, h2⟩ := Bool.and_eq_true_iff.mp h
    obtain ⟨cs, hcs, hb⟩ := ctrs_is (List.all_eq_true.mp h2)
    have h1 := of_decide_eq_true h1
    exact ⟨cs, by rw [hcs]; rfl, by rw [hcs, List.length_map] at h1; exact h1, hb⟩
  | _ => cases h
theorem noL_st (s : St2) : noL (stD s) = true := by
  show noLs [nD s.1, .tuple (s.2.map nD)] = true
  simp [noLs, noL, noLs_nats]
theorem noL_sts (l : List St2) : noLs (l.map stD) = true := noLs_of fun d hd => by
  obtain ⟨c, _, rfl⟩ := List.mem_map.mp hd
  exact noL_st c
section
variable {P : Program} {w : World} {K : PySem.W.Frag} {mg : Str → Option Value} {base : Heap}
def spMRun (K : PySem.W.Frag) : Sp := fun vs H Q E => ∃ (v u c : V) (d e g : PyData), vs = [v, u, c] ∧ Dp K H v d ∧ Dp K H u e ∧ Dp K H c g ∧ Shp 40 d ∧ WordsD d ∧
  (isMachD d = false → ∀ H', Same H H' → E (.ref (ga K "BadMachine")) none H') ∧ (isMachD d = true → isCtrD e = false → ∀ H', Same H H' → E (.ref (ga K "BadMachine")) none H') ∧
  (isMachD d = true → isCtrD e = true → isCountD 0 500 g = false → ∀ H', Same H H' → E (.ref (ga K "BadNumber")) none H') ∧
  (∀ (m : Mach) (cs : List Nat) (k : Nat), d = machD m → e = ctD cs → g = nD k → isMach m = true → cs.length = 3 → (∀ x ∈ cs, x ≤ 100) → k ≤ 500 →
    ∀ x H', Same H H' → FD K H H' x (.list ((mrunF m k (0, cs)).map stD)) → Q x H')
theorem ok_machine_run (T : Txt K mg) (DS : KTab w K) : Cal P w K mg base (L2N.CX P w) 4 "machine_run" ["machine", "counters", "most"] (spMRun K) := by
  have c_need_machine := ok_need_machine (P := P) (w := w) (base := base) T DS
  have c_need_counters := ok_need_counters (P := P) (w := w) (base := base) T
  have c_need_count := ok_need_count (P := P) (w := w) (base := base) T
  have c_went := ok_went (P := P) (w := w) (base := base) T
  refine Cal.mkX T.d_machine_run T.m_machine_run sc_machine_run (fun _ _ _ _ _ _ us hl => match us, hl with | [_, _, _], _ => rfl) (fun vs H Q E h => ?_) (fun cdv A outer s H vs Q E hr h => ?_)
  · obtain ⟨v, u, c, d, e, g, rfl, _⟩ := h
    rfl
  obtain ⟨v, u, c, d, e, g, rfl, hd, he, hg, hS, hW, q1, q2, q3, q4⟩ := h
  refine ⟨_, (pss_cons (ps_expr (pe_cal c_need_machine (hr.mono (by decide)) (by rfl) (L2N.passes_call (L2N.takes_of rfl rfl rfl rfl) (fun _ _ _ _ h => h)) (pa_cons (pv 0) pa_nil)))
      (pss_cons (ps_expr (pe_cal c_need_counters (hr.mono (by decide)) (by rfl) (L2N.passes_call (L2N.takes_of rfl rfl rfl rfl) (fun _ _ _ _ h => h)) (pa_cons (pv 1) pa_nil)))
      (pss_cons (ps_expr (pe_cal c_need_count (hr.mono (by decide)) (by rfl) (L2N.passes_call (L2N.takes_of rfl rfl rfl rfl) (fun _ _ _ _ h => h)) (pa_cons (pv 2) (pa_cons pe_int (pa_cons (pe_glob (v := .int 500) (by rfl) T.c_MOST_STEPS_machines.choose_spec ⟨_, rfl⟩) pa_nil)))))
      (pss_cons (ps_set (i := 3) sc_machine_run.nd rfl (.inl rfl) (pe_lst (pa_cons (pe_tup (pa_cons pe_int (pa_cons (pv 1) pa_nil))) pa_nil)))
      (pss_cons (ps_set (i := 4) sc_machine_run.nd rfl (.inl rfl) (pe_cal c_went (hr.mono (by decide)) (by rfl) pass0 (pa_cons (pv 0) (pa_cons (pe_ix (ixL rfl) (pv 3) (pe_un un_neg pe_int) (fun _ _ => rfl)) pa_nil))))
      (pss_cons (ps_while (passes_of rfl) (PW.pt (pw_and (pt_cmpR op_notN (pv 4) pe_non (nomark _)) (pw_and1 (pt_cmpR opN_le (pe_callB (lenS rfl) (by rfl) T.b_len PySem.boot_len (pa_cons (pv 3) pa_nil)) (pv 2) (nomark _))))) (pss_cons (ps_expr (bm rfl PySem.F.plainAttrs_list PySem.F.slot_list_append PySem.F.type_list_append mt_append (pv 3) (pa_cons (pv 4) pa_nil)))
      (pss_one (ps_set (i := 4) sc_machine_run.nd rfl (.inl rfl) (pe_cal c_went (hr.mono (by decide)) (by rfl) pass0 (pa_cons (pv 0) (pa_cons (pv 4) pa_nil)))))))
      (pss_one (ps_ret (pv 3))))))))), ?_⟩
  refine ⟨_, rfl, v, d, rfl, hd, hS, hW, fun hM H1 s1 => ?_, q1⟩
  refine ⟨_, rfl, u, e, rfl, same_dp s1 he, fun hC H2 s2 => ?_, fun hC H2 s2 => q2 hM hC H2 (s1.trans s2)⟩
  have s12 := s1.trans s2
  refine ⟨_, rfl, c, g, 0, 500, rfl, same_dp s12 hg, fun hc => ?_, fun hc => q3 hM hC hc H2 s12⟩
  obtain ⟨m, rfl, hm⟩ := isMachD_is hM
  obtain ⟨cs, rfl, hcl, hcb⟩ := isCtrD_is hC
  obtain ⟨k, rfl, hk⟩ := isCount_is (hi := 500) hc
  cases hg
  have q5 := q4 m cs k rfl rfl rfl hm hcl hcb hk
  refine ⟨_, rfl, (by show 2 ≤ sizeLine; decide), fun p np => ⟨(by show 1 ≤ sizeLine; decide), fun o no => ?_⟩⟩
  have s3 : Same H2 (upd H2 p (.tup [nI 0, u])) := same_new np
  have hp3 : Dp K (upd H2 p (.tup [nI 0, u])) (.ref p) (stD (0, cs)) := .tup (SqT.of upd_same) (.cons (.int _) (.cons (same_dp (s12.trans s3) he) .nil))
  have hoH : H o = none := (s12.trans s3).free no
  generalize upd H2 p (.tup [nI 0, u]) = H3 at *
  have s4 : Same H3 (upd H3 o (.lst [.ref p])) := same_new no
  have ho4 : (upd H3 o (.lst [.ref p])) o = some (.lst [.ref p]) := upd_same
  have hp4 := same_dp s4 hp3
  generalize upd H3 o (.lst [.ref p]) = H4 at *
  have s14 := (s12.trans s3).trans s4
  have hml := (mach_len hm).1
  refine ⟨_, rfl, _, rfl, 1, rfl, o, [.ref p], -1, _, rfl, rfl, SqL.of ho4, rfl, v, _, m, (0, cs), rfl, same_dp s14 hd, hm, hp4, ⟨hml, hcl, fun x hx => Nat.le_trans (hcb x hx) (by decide)⟩, fun lv H5 s5 hlv => ?_⟩
  refine ⟨fun j σ H6 => ∃ (fs : List St2) (z : St2) (ys : List V) (lv : V), σ = [some v, some u, some (nI k), some (.ref o), some lv] ∧ Same H H6 ∧ H6 o = some (.lst ys) ∧ DpAll K H6 ys ((fs ++ [z]).map stD) ∧ Dp K H6 lv (stO (wentM m z)) ∧ OkSt m (100 + fs.length) z ∧ fs.length + j = k ∧ mrunF m k (0, cs) = fs ++ mrunF m j z, ⟨k, [], (0, cs), _, lv, rfl, s14.trans s5, s5 _ _ ho4, .cons (same_dp s5 hp4) .nil, hlv, ⟨hml, hcl, fun x hx => hcb x hx⟩, by simp, by simp⟩, ?_⟩
  rintro j σ H6 ⟨fs, z, ys, lv, rfl, s6, ho, hys, hlv, hz, hj, hrun⟩
  have fin : mrunF m j z = [z] → Q (.ref o) H6 := fun e => q5 _ H6 s6 (.lst hoH ho (by rw [hrun, e]; exact hys) (noL_sts _))
  have hlen : ys.length = fs.length + 1 := by
    rw [dps_len hys]
    simp
  cases hl : wentM m z with
  | none =>
    rw [hl] at hlv
    cases hlv
    refine ⟨_, rfl, rfl, _, rfl, iteF (iteF ⟨_, rfl, fin ?_⟩)⟩
    cases j with
    | zero => rfl
    | succ j => unfold mrunF; rw [hl]
  | some t =>
    rw [hl] at hlv
    obtain ⟨la, lx, ly, rfl, hla, _, _⟩ := dp_two hlv
    have ht := went_ok hm hz hl
    refine ⟨_, rfl, rfl, _, rfl, iteT ⟨_, rfl, o, _, rfl, .inl (SqL.of ho), _, rfl, fs.length + 1, k, by rw [hlen], rfl, _, rfl, ite2 (fun hc => ?_) (fun hc => ?_)⟩⟩
    · have hc := of_decide_eq_true hc
      obtain ⟨j, rfl⟩ : ∃ j', j = j' + 1 := ⟨j - 1, by omega⟩
      have hrun2 : mrunF m (j + 1) z = z :: mrunF m j t := by
        conv => lhs; unfold mrunF
        rw [hl]
      refine ⟨fun σ' H' => ∃ (fs : List St2) (z : St2) (ys : List V) (lv : V), σ' = [some v, some u, some (nI k), some (.ref o), some lv] ∧ Same H H' ∧ H' o = some (.lst ys) ∧ DpAll K H' ys ((fs ++ [z]).map stD) ∧ Dp K H' lv (stO (wentM m z)) ∧ OkSt m (100 + fs.length) z ∧ fs.length + j = k ∧ mrunF m k (0, cs) = fs ++ mrunF m j z, ?_, ?_⟩
      · rintro σ' H' ⟨fs', z', ys', lv', a1, a2⟩
        exact ⟨j, Nat.lt_succ_self j, fs', z', ys', lv', a1, a2⟩
      · refine ⟨_, rfl, .inl ⟨rfl, _, SqL.of ho⟩, _, rfl, o, _, _, rfl, rfl, ho, (by rw [hlen]; exact Nat.lt_of_lt_of_le (show fs.length + 1 < 3000 by omega) (by decide)), ?_⟩
        have s7 : Same H (upd H6 o (.lst (ys ++ [.ref la]))) := same_put s6 hoH
        have hA : DpAll K (upd H6 o (.lst (ys ++ [.ref la]))) (ys ++ [.ref la]) (((fs ++ [z]) ++ [t]).map stD) := by
          rw [List.map_append]
          exact dps_app (dps_upd ho (noL_sts _) hys) (.cons (dp_upd ho (noL_st t) hlv) .nil)
        have hlt : Dp K (upd H6 o (.lst (ys ++ [.ref la]))) (.ref la) (stD t) := dp_upd ho (noL_st t) hlv
        have ho7 : (upd H6 o (.lst (ys ++ [.ref la]))) o = some (.lst (ys ++ [.ref la])) := upd_same
        generalize upd H6 o (.lst (ys ++ [.ref la])) = H7 at *
        have hfl : (fs ++ [z]).length = fs.length + 1 := by simp
        refine ⟨_, rfl, _, rfl, v, _, m, t, rfl, same_dp s7 hd, hm, hlt, ⟨ht.1, ht.2.1, fun x hx => Nat.le_trans (ht.2.2 x hx) (by omega)⟩, fun lv' H8 s8 hlv' => ?_⟩
        refine ⟨fs ++ [z], t, _, lv', rfl, s7.trans s8, s8 _ _ ho7, same_dps s8 hA, hlv', ?_, by rw [hfl]; omega, by rw [hrun, hrun2]; simp⟩
        rw [hfl]
        exact ht
    · refine ⟨_, rfl, fin ?_⟩
      have hc : ¬ fs.length + 1 ≤ k := fun z => hc (decide_eq_true z)
      obtain rfl : j = 0 := by omega
      rfl
end
end Fr
namespace Fr
open PySem PySem.Spec PyProof.Rows L2
def pr (c : Nat) : Nat := primes.getD c 0
def ownP (k : Nat) : Nat := pr (3 + 2 * k)
def comP (k : Nat) : Nat := pr (3 + 2 * k + 1)
section
variable {P : Program} {w : World} {K : PySem.W.Frag} {mg : Str → Option Value} {base : Heap}
def spAtLine (K : PySem.W.Frag) : Sp := fun vs H Q _ => ∃ k : Nat, vs = [nI k] ∧ k < 4 ∧ ∀ a H', Same H H' → H' a = some (.tup [nI (ownP k), nI (comP k)]) → Q (.ref a) H'
theorem ok_at_line (T : Txt K mg) : Cal P w K mg base L2.CX0 1 "at_line" ["place"] (spAtLine K) := by
  refine Cal.mk0 T.d_at_line T.m_at_line sc_at_line (fun _ _ _ _ _ _ us hl => match us, hl with | [_], _ => rfl) (fun vs H Q E h => ?_) (fun cdv A outer s H vs Q E hr h => ?_)
  · obtain ⟨k, rfl, _⟩ := h
    rfl
  obtain ⟨k, rfl, hk, q⟩ := h
  refine ⟨_, (pss_one (ps_ret (pe_tup (pa_cons (pe_ix (ixT rfl) (pe_glob (v := .ref (ga K "PRIMES")) (by rfl) T.m_PRIMES rfl) (pe_op opN_add (pe_glob (v := .int 3) (by rfl) T.c_COUNTERS.choose_spec ⟨_, rfl⟩) (pe_op opN_mul pe_int (pv 0))) (fun _ _ => rfl)) (pa_cons (pe_ix (ixT rfl) (pe_glob (v := .ref (ga K "PRIMES")) (by rfl) T.m_PRIMES rfl) (pe_op opN_add (pe_op opN_add (pe_glob (v := .int 3) (by rfl) T.c_COUNTERS.choose_spec ⟨_, rfl⟩) (pe_op opN_mul pe_int (pv 0))) pe_int) (fun _ _ => rfl)) pa_nil))))), ?_⟩
  have key : ∀ c : Nat, c < 12 → atI (primes.map nI) (c : Int) = some (nI (pr c)) := fun c hc => atIn (getD_nI hc)
  have hlog : Nat.log2 2 + k.log2 < 1000000 := by
    have : k = 0 ∨ k = 1 ∨ k = 2 ∨ k = 3 := by omega
    rcases this with rfl | rfl | rfl | rfl <;> decide
  refine ⟨_, rfl, 2, k, rfl, rfl, hlog, 3, 2 * k, rfl, rfl, _, _, ((3 + 2 * k : Nat) : Int), _, rfl, rfl, T.t_PRIMES _, key _ (by omega), ?_⟩
  refine ⟨_, rfl, 2, k, rfl, rfl, hlog, 3, 2 * k, rfl, rfl, 3 + 2 * k, 1, rfl, rfl, _, _, ((3 + 2 * k + 1 : Nat) : Int), _, rfl, rfl, T.t_PRIMES _, key _ (by omega), (by show 2 ≤ sizeLine; decide), fun p np => ?_⟩
  exact q p _ (same_new np) upd_same
/-! ### the program of a machine -/
def lineP (i : Nat) : Ln → Prog
  | .add c g => [(comP g * pr c, ownP i)]
  | .take c g h => [(comP g, ownP i * pr c), (comP h, ownP i)]
  | .fin => [(1, ownP i)]
def lineO (k : Nat) : Nat × Nat := (ownP k, comP k)
def linesP : Nat → Mach → Prog
  | _, [] => []
  | i, l :: m => lineP i l ++ linesP (i + 1) m
theorem linesP_app (m : Mach) (l : Ln) : ∀ i, linesP i (m ++ [l]) = linesP i m ++ lineP (i + m.length) l := by
  induction m with
  | nil => intro i; simp [linesP]
  | cons a m ih =>
    intro i
    show lineP i a ++ linesP (i + 1) (m ++ [l]) = (lineP i a ++ linesP (i + 1) m) ++ lineP (i + (m.length + 1)) l
    rw [ih, List.append_assoc]
    congr 3
    omega
theorem linesP_len (m : Mach) : ∀ i, (linesP i m).length ≤ 2 * m.length := by
  induction m with
  | nil => intro i; simp [linesP]
  | cons a m ih =>
    intro i
    show (lineP i a ++ linesP (i + 1) m).length ≤ 2 * (m.length + 1)
    rw [List.length_append]
    have h1 := ih (i + 1)
    have h2 : (lineP i a).length ≤ 2 := by cases a <;> simp [lineP]
    omega
theorem pr_lt (c : Nat) : pr c < 64 := by
  unfold pr
  by_cases h : c < primes.length
  · rw [List.getD_eq_getElem?_getD, List.getElem?_eq_getElem h]
    exact primes_small _ (List.getElem_mem h)
  · rw [List.getD_eq_getElem?_getD, List.getElem?_eq_none (by omega)]
    decide
theorem pr_log (c d : Nat) : (pr c).log2 + (pr d).log2 < 1000000 := by
  have h1 : (pr c).log2 < 7 := lt_log2 (k := 7) (Nat.lt_trans (pr_lt c) (by decide)) (by decide) (by decide)
  have h2 : (pr d).log2 < 7 := lt_log2 (k := 7) (Nat.lt_trans (pr_lt d) (by decide)) (by decide) (by decide)
  omega
def progOf (m : Mach) : Prog := (List.range m.length).map lineO ++ linesP 0 m
def spProgOf (K : PySem.W.Frag) : Sp := fun vs H Q E => ∃ (v : V) (d : PyData), vs = [v] ∧ Dp K H v d ∧ Shp 40 d ∧ WordsD d ∧ (isMachD d = false → ∀ H', Same H H' → E (.ref (ga K "BadMachine")) none H') ∧
  (∀ m : Mach, d = machD m → isMach m = true → ∀ x H', Same H H' → FD K H H' x (progD (progOf m)) → Q x H')
theorem ok_program_of (T : Txt K mg) (DS : KTab w K) : Cal P w K mg base (L2N.CX P w) 4 "program_of" ["machine"] (spProgOf K) := by
  have c_need_machine := ok_need_machine (P := P) (w := w) (base := base) T DS
  have c_at_line := ok_at_line (P := P) (w := w) (base := base) T
  refine Cal.mkX T.d_program_of T.m_program_of sc_program_of (fun _ _ _ _ _ _ us hl => match us, hl with | [_], _ => rfl) (fun vs H Q E h => ?_) (fun cdv A outer s H vs Q E hr h => ?_)
  · obtain ⟨v, d, rfl, _⟩ := h
    rfl
  obtain ⟨v, d, rfl, hd, hS, hW, q1, q2⟩ := h
  refine ⟨_, (pss_cons (ps_expr (pe_cal c_need_machine (hr.mono (by decide)) (by rfl) (L2N.passes_call (L2N.takes_of rfl rfl rfl rfl) (fun _ _ _ _ h => h)) (pa_cons (pv 0) pa_nil)))
      (pss_cons (ps_setLc (i := 1) (own := [("place", 2)]) rfl sc_program_of.nd rfl rfl (sw_true rfl rfl rfl (by decide +kernel)) (pi_range1 (by rfl) T.b_range (pa_cons (pe_callB (lenS rfl) (by rfl) T.b_len PySem.boot_len (pa_cons (pv 0) pa_nil)) pa_nil)) (blkOk_by (own := [("place", 2)]) (N := ["machine", "found", "place", "line", "own"]) (sc := defScope s_program_of) (by decide +kernel)) (fun _ _ _ _ _ => (pg_name (i := 2) sc_program_of.nd rfl (.inl rfl))) (fun _ _ _ _ _ => pts_nil) (fun _ _ _ _ _ => (pe_cal c_at_line (hr.mono (by decide)) (by rfl) pass0 (pa_cons (pv 2) pa_nil))))
      (pss_cons (ps_for (passes_of rfl) rfl (piE rfl (by rfl) T.b_enumerate (pa_cons (pv 0) pa_nil)) (pgT (n := 2) rfl rfl (pgs_cons (pg_name (i := 2) sc_program_of.nd rfl (.inl rfl)) (pgs_cons (pg_name (i := 3) sc_program_of.nd rfl (.inl rfl)) pgs_nil))) (pss_cons (ps_set (i := 4) sc_program_of.nd rfl (.inl rfl) (pe_ix (ixT rfl) (pe_cal c_at_line (hr.mono (by decide)) (by rfl) pass0 (pa_cons (pv 2) pa_nil)) pe_int (fun _ _ => rfl)))
      (pss_one (ps_if (pt_cmpR op_eq (pe_ix (ixT rfl) (pv 3) pe_int (fun _ _ => rfl)) pe_str (nomark _)) (pss_one (ps_expr (bm rfl PySem.F.plainAttrs_list PySem.F.slot_list_append PySem.F.type_list_append mt_append (pv 1) (pa_cons (pe_tup (pa_cons (pe_op opN_mul (pe_ix (ixT rfl) (pe_cal c_at_line (hr.mono (by decide)) (by rfl) pass0 (pa_cons (pe_ix (ixT rfl) (pv 3) pe_int (fun _ _ => rfl)) pa_nil)) pe_int (fun _ _ => rfl)) (pe_ix (ixT rfl) (pe_glob (v := .ref (ga K "PRIMES")) (by rfl) T.m_PRIMES rfl) (pe_ix (ixT rfl) (pv 3) pe_int (fun _ _ => rfl)) (fun _ _ => rfl))) (pa_cons (pv 4) pa_nil))) pa_nil)))) (pss_one (ps_if (pt_cmpR op_eq (pe_ix (ixT rfl) (pv 3) pe_int (fun _ _ => rfl)) pe_str (nomark _)) (pss_cons (ps_expr (bm rfl PySem.F.plainAttrs_list PySem.F.slot_list_append PySem.F.type_list_append mt_append (pv 1) (pa_cons (pe_tup (pa_cons (pe_ix (ixT rfl) (pe_cal c_at_line (hr.mono (by decide)) (by rfl) pass0 (pa_cons (pe_ix (ixT rfl) (pv 3) pe_int (fun _ _ => rfl)) pa_nil)) pe_int (fun _ _ => rfl)) (pa_cons (pe_op opN_mul (pv 4) (pe_ix (ixT rfl) (pe_glob (v := .ref (ga K "PRIMES")) (by rfl) T.m_PRIMES rfl) (pe_ix (ixT rfl) (pv 3) pe_int (fun _ _ => rfl)) (fun _ _ => rfl))) pa_nil))) pa_nil)))
      (pss_one (ps_expr (bm rfl PySem.F.plainAttrs_list PySem.F.slot_list_append PySem.F.type_list_append mt_append (pv 1) (pa_cons (pe_tup (pa_cons (pe_ix (ixT rfl) (pe_cal c_at_line (hr.mono (by decide)) (by rfl) pass0 (pa_cons (pe_ix (ixT rfl) (pv 3) pe_int (fun _ _ => rfl)) pa_nil)) pe_int (fun _ _ => rfl)) (pa_cons (pv 4) pa_nil))) pa_nil))))) (pss_one (ps_expr (bm rfl PySem.F.plainAttrs_list PySem.F.slot_list_append PySem.F.type_list_append mt_append (pv 1) (pa_cons (pe_tup (pa_cons pe_int (pa_cons (pv 4) pa_nil))) pa_nil))))))))))
      (pss_one (ps_ret (pv 1)))))), ?_⟩
  refine ⟨_, rfl, v, d, rfl, hd, hS, hW, fun hM H1 s1 => ?_, q1⟩
  obtain ⟨m, rfl, hm⟩ := isMachD_is hM
  have q := q2 m rfl hm
  obtain ⟨hl1, hl4⟩ := mach_len hm
  obtain ⟨a, xs, rfl, ha, hxs⟩ := dp_lst hd
  have hlen : xs.length = m.length := by rw [dps_len hxs, List.length_map]
  have ha1 := s1.seq ha
  refine ⟨_, rfl, a, xs, rfl, .inl ha1, xs.length, rfl, by omega, by omega, fun D hD => ?_⟩
  have en : ((xs.length : Nat) : Int).toNat = m.length := by omega
  rw [en]
  refine lc_dp (K := K) walk_nats hD (by omega) (fun _ _ => trivial) (fun i => some (fracD (lineO i))) ?_ ?_ ?_
  · intro i d e
    cases e
    exact noL_frac _
  · rintro i x H' H'' A B hi s' ⟨rfl, rfl⟩ hA hB
    refine ⟨rfl, _, rfl, i, rfl, by omega, fun b H3 s3 hb => hA _ _ _ rfl s3 (.tup (SqT.of hb) (.cons (.int _) (.cons (.int _) .nil)))⟩
  · intro H2 ys s2 hD2 hA
    have hD0 : H D = none := s1.free hD
    have hys : DpAll K H2 ys ((((List.range m.length).map lineO) ++ linesP 0 (m.take 0)).map fracD) := by
      have e : gath (fun i => some (fracD (lineO i))) m.length = (List.range m.length).map fun i => fracD (lineO i) := by
        rw [gath_range, ← List.filterMap_eq_map]
        rfl
      rw [e] at hA
      have e2 : (((List.range m.length).map lineO) ++ linesP 0 (m.take 0)).map fracD = (List.range m.length).map fun i => fracD (lineO i) := by
        rw [List.take_zero]
        show ((List.range m.length).map lineO ++ []).map fracD = _
        rw [List.append_nil, List.map_map]
        rfl
      rw [e2]
      exact hA
    have s12 := s1.trans s2
    refine ⟨_, rfl, a, xs, rfl, s2.seq ha1, for_it walk_enum (fun i σ H3 => ∃ ys y2 y3 y4, σ = [some (.ref a), some (.ref D), y2, y3, y4] ∧ Same H H3 ∧ H3 D = some (.lst ys) ∧ DpAll K H3 ys ((((List.range m.length).map lineO) ++ linesP 0 (m.take i)).map fracD)) ⟨ys, _, _, _, rfl, s12, hD2, hys⟩ (fun i σ H3 _ ⟨_, _, _, _, _, p, _⟩ => p.seq ha) ?_ ?_⟩
    · rintro i x σ H3 H4 hi ⟨ys, y2, y3, y4, rfl, s3, hD3, hA3⟩ ⟨T', x1, x2, rfl, nT, rfl, e1, e2⟩
      have e1 : x1 = nI i := (Option.some.inj e1).symm
      subst e1
      have sT : Same H3 (upd H3 T' (.tup [nI i, x2])) := same_new nT
      have hT4 : SqT K (upd H3 T' (.tup [nI i, x2])) T' [nI i, x2] := SqT.of upd_same
      have hD4 := sT _ _ hD3
      have hA4 := same_dps sT hA3
      have s4 := s3.trans sT
      generalize upd H3 T' (.tup [nI i, x2]) = H4 at *
      have hi' : i < m.length := by omega
      have hx2 : Dp K H4 x2 (lnD m[i]) := by
        obtain ⟨d, hd', hdp⟩ := dps_at2 (same_dps s4 hxs) e2
        rw [List.getElem?_map, List.getElem?_eq_getElem hi'] at hd'
        cases hd'
        exact hdp
      have ho := mach_ok hm (List.getElem_mem hi')
      have hlt : ys.length ≤ 40 := by
        rw [dps_len hA4, List.length_map, List.length_append, List.length_map, List.length_range]
        have := linesP_len (m.take i) 0
        rw [List.length_take] at this
        omega
      have htk : linesP 0 (m.take (i + 1)) = linesP 0 (m.take i) ++ lineP i m[i] := by
        rw [List.take_succ_eq_append_getElem hi', linesP_app, Nat.zero_add, List.length_take, Nat.min_eq_left (by omega)]
      refine ⟨T', _, rfl, hT4, rfl, _, _, rfl, _, _, rfl, rfl, ?_⟩
      refine ⟨_, rfl, i, rfl, by omega, fun b H5 s5 hb => ⟨b, _, 0, _, rfl, rfl, SqT.of hb, atI0, _, rfl, ?_⟩⟩
      have s45 := s4.trans s5
      have key : ∀ c : Nat, c < 12 → atI (primes.map nI) (c : Int) = some (nI (pr c)) := fun c hc => atIn (getD_nI hc)
      have put : ∀ (Hx Hy : Hp) (l0 : Prog) (zs : List V) (pa : Addr) (n1 n2 : Nat), Same H Hx → Hx D = some (.lst zs) → DpAll K Hx zs (l0.map fracD) → Hx pa = none → Hy = upd Hx pa (.tup [nI n1, nI n2]) →
          Same H (upd Hy D (.lst (zs ++ [.ref pa]))) ∧ Hy D = some (.lst zs) ∧ (upd Hy D (.lst (zs ++ [.ref pa]))) D = some (.lst (zs ++ [.ref pa])) ∧ DpAll K (upd Hy D (.lst (zs ++ [.ref pa]))) (zs ++ [.ref pa]) ((l0 ++ [(n1, n2)]).map fracD) := by
        intro Hx Hy l0 zs pa n1 n2 sx hz hA np e
        subst e
        have sy : Same Hx (upd Hx pa (.tup [nI n1, nI n2])) := same_new np
        have hp : Dp K (upd Hx pa (.tup [nI n1, nI n2])) (.ref pa) (fracD (n1, n2)) := .tup (SqT.of upd_same) (.cons (.int _) (.cons (.int _) .nil))
        refine ⟨same_put (sx.trans sy) hD0, sy _ _ hz, upd_same, ?_⟩
        rw [List.map_append]
        exact dps_app (dps_upd (sy _ _ hz) (noLs_of fun d hd => by obtain ⟨f, _, rfl⟩ := List.mem_map.mp hd; exact noL_frac f) (same_dps sy hA)) (.cons (dp_upd (sy _ _ hz) (noL_frac _) hp) .nil)
      have hx5 := same_dp s5 hx2
      have hD5 := s5 _ _ hD4
      have hA5 := same_dps s5 hA4
      cases hl' : m[i] with
      | add c g =>
        rw [hl'] at hx5 ho htk
        have ho := ok_add ho
        obtain ⟨b2, rfl, hb2⟩ := dp_add hx5
        refine ⟨b2, _, 0, _, rfl, rfl, hb2, atI0, rfl, _, rfl, iteT ?_⟩
        refine ⟨_, rfl, .inl ⟨rfl, _, SqL.of hD5⟩, _, rfl, b2, _, 2, _, rfl, rfl, hb2, atI2, g, rfl, by omega, fun b3 H6 s6 hb3 => ?_⟩
        refine ⟨b3, _, 1, _, rfl, rfl, SqT.of hb3, atI1, _, rfl, b2, _, 1, _, rfl, rfl, same_tup s6 hb2, atI1, _, _, (c : Int), _, rfl, rfl, T.t_PRIMES _, key c (by omega), _, _, rfl, rfl, pr_log _ _, ?_⟩
        refine ⟨_, rfl, (by show 2 ≤ sizeLine; decide), fun p np => ?_⟩
        obtain ⟨t1, t2, t3, t4⟩ := put H6 _ _ ys p (comP g * pr c) (ownP i) (s45.trans s6) (s6 _ _ hD5) (same_dps s6 hA5) np rfl
        refine ⟨D, ys, _, rfl, rfl, t2, Nat.lt_of_le_of_lt hlt (by decide), _, _, _, _, rfl, t1, t3, ?_⟩
        rw [htk, ← List.append_assoc]
        exact t4
      | take c g k =>
        rw [hl'] at hx5 ho htk
        have ho := ok_take ho
        obtain ⟨b2, rfl, hb2⟩ := dp_take hx5
        refine ⟨b2, _, 0, _, rfl, rfl, hb2, atI0, rfl, _, rfl, iteF ⟨_, rfl, b2, _, 0, _, rfl, rfl, hb2, atI0, rfl, _, rfl, iteT ?_⟩⟩
        refine ⟨_, rfl, .inl ⟨rfl, _, SqL.of hD5⟩, _, rfl, b2, _, 2, _, rfl, rfl, hb2, atI2, g, rfl, by omega, fun b3 H6 s6 hb3 => ?_⟩
        refine ⟨b3, _, 1, _, rfl, rfl, SqT.of hb3, atI1, _, rfl, _, rfl, b2, _, 1, _, rfl, rfl, same_tup s6 hb2, atI1, _, _, (c : Int), _, rfl, rfl, T.t_PRIMES _, key c (by omega), _, _, rfl, rfl, pr_log _ _, ?_⟩
        refine ⟨(by show 2 ≤ sizeLine; decide), fun p np => ?_⟩
        obtain ⟨t1, t2, t3, t4⟩ := put H6 _ _ ys p (comP g) (ownP i * pr c) (s45.trans s6) (s6 _ _ hD5) (same_dps s6 hA5) np rfl
        refine ⟨D, ys, _, rfl, rfl, t2, Nat.lt_of_le_of_lt hlt (by decide), ?_⟩
        have hb7 : SqT K (upd (upd H6 p (.tup [nI (comP g), nI (ownP i * pr c)])) D (.lst (ys ++ [.ref p]))) b2 [.str "take", nI c, nI g, nI k] := sqt_upd t2 (same_tup (s6.trans (same_new np)) hb2)
        generalize upd (upd H6 p (.tup [nI (comP g), nI (ownP i * pr c)])) D (.lst (ys ++ [.ref p])) = H7 at *
        refine ⟨_, rfl, .inl ⟨rfl, _, SqL.of t3⟩, _, rfl, b2, _, 3, _, rfl, rfl, hb7, atI3, k, rfl, by omega, fun b4 H8 s8 hb4 => ?_⟩
        refine ⟨b4, _, 1, _, rfl, rfl, SqT.of hb4, atI1, _, rfl, (by show 2 ≤ sizeLine; decide), fun p' np' => ?_⟩
        obtain ⟨u1, u2, u3, u4⟩ := put H8 _ _ _ p' (comP k) (ownP i) (t1.trans s8) (s8 _ _ t3) (same_dps s8 t4) np' rfl
        refine ⟨D, _, _, rfl, rfl, u2, Nat.lt_of_le_of_lt (show (ys ++ [V.ref p]).length ≤ 50 by simp; omega) (by decide), _, _, _, _, rfl, u1, u3, ?_⟩
        rw [htk]
        have e : ∀ A B : Prog, A ++ (B ++ lineP i (.take c g k)) = ((A ++ B) ++ [(comP g, ownP i * pr c)]) ++ [(comP k, ownP i)] := fun A B => by simp [lineP]
        rw [e]
        exact u4
      | fin =>
        rw [hl'] at hx5 htk
        obtain ⟨b2, rfl, hb2⟩ := dp_fin hx5
        refine ⟨b2, _, 0, _, rfl, rfl, hb2, atI0, rfl, _, rfl, iteF ⟨_, rfl, b2, _, 0, _, rfl, rfl, hb2, atI0, rfl, _, rfl, iteF ?_⟩⟩
        refine ⟨_, rfl, .inl ⟨rfl, _, SqL.of hD5⟩, _, rfl, (by show 2 ≤ sizeLine; decide), fun p np => ?_⟩
        obtain ⟨t1, t2, t3, t4⟩ := put H5 _ _ ys p 1 (ownP i) s45 hD5 hA5 np rfl
        refine ⟨D, ys, _, rfl, rfl, t2, Nat.lt_of_le_of_lt hlt (by decide), _, _, _, _, rfl, t1, t3, ?_⟩
        rw [htk, ← List.append_assoc]
        exact t4
    · rintro σ H3 ⟨ys, y2, y3, y4, rfl, s3, hD3, hA3⟩
      refine ⟨_, rfl, q _ H3 s3 (.lst hD0 hD3 ?_ (noLs_of fun d hd => by obtain ⟨f, _, rfl⟩ := List.mem_map.mp hd; exact noL_frac f))⟩
      have e : m.take xs.length = m := by rw [hlen, List.take_length]
      rw [e] at hA3
      exact hA3
end
end Fr
namespace Fr
open PySem PySem.Spec PyProof.Rows L2 LamX
def shpB (d : PyData) : Bool := d.canLay0 && decide (d.depth ≤ 40)
theorem shpB_ok {d : PyData} (h : shpB d = true) : Shp 40 d := by
  obtain ⟨a, b⟩ := Bool.and_eq_true_iff.mp h
  exact ⟨a, of_decide_eq_true b⟩
def wordB : PyData → Bool
  | .tuple (.str x :: _) => decide (x = "add") || (decide (x = "take") || (decide (x = "end") || decide (x = "stop")))
  | _ => true
def wordsB : PyData → Bool
  | .list ds => ds.all wordB
  | _ => true
theorem wordB_ok {d : PyData} (h : wordB d = true) : WordD d := by
  unfold WordD
  unfold wordB at h
  split
  · simpa using h
  · trivial
theorem wordsB_ok {d : PyData} (h : wordsB d = true) : WordsD d := by
  unfold WordsD
  unfold wordsB at h
  split
  · rename_i ds
    exact fun e he => wordB_ok (List.all_eq_true.mp h e he)
  · trivial
theorem strOk_add : PyData.strOk "add" = true := by decide +kernel
theorem strOk_take : PyData.strOk "take" = true := by decide +kernel
theorem strOk_end : PyData.strOk "end" = true := by decide +kernel
theorem shp_ln {k : Nat} (l : Ln) : Shp (k + 1) (lnD l) := by
  cases l with
  | add c g => exact .tup (.cons (.str strOk_add) (.cons .int (.cons .int .nil)))
  | take c g h => exact .tup (.cons (.str strOk_take) (.cons .int (.cons .int (.cons .int .nil))))
  | fin => exact .tup (.cons (.str strOk_end) .nil)
theorem shp_lns {k : Nat} (m : Mach) : ∀ e ∈ m.map lnD, Shp (k + 1) e := .map fun l _ => shp_ln l
theorem shp_mach (m : Mach) : Shp 40 (machD m) := .lst (k := 39) (shp_lns m)
theorem words_mach (m : Mach) : WordsD (machD m) := fun e he => by
  obtain ⟨l, _, rfl⟩ := List.mem_map.mp he
  cases l with
  | add c g => exact .inl rfl
  | take c g h => exact .inr (.inl rfl)
  | fin => exact .inr (.inr (.inl rfl))
theorem shp_ct {k : Nat} (cs : List Nat) : Shp (k + 1) (ctD cs) := .tup (.nats cs)
theorem shp_st {k : Nat} (s : St2) : Shp (k + 2) (stD s) := .tup (.cons .int (.cons (shp_ct _) .nil))
theorem isCount_nat {k b : Nat} (h : k ≤ b) : isCountD 0 (b : Int) (nD k) = true := count_yes h
theorem lineD_ok {n : Nat} (hn : 1 ≤ n) {l : Ln} (h : l.ok n = true) : isLineD n (lnD l) = true := by
  cases l with
  | add c g =>
    have ho := ok_add h
    show (decide (([nD c, nD g] : List PyData).length + 1 = 3) && (decide (("add" : Str) = "end") || (isCountD 0 2 (nD c) && ([nD g] : List PyData).all (isCountD 0 ((n - 1 : Nat) : Int))))) = true
    rw [show isCountD 0 2 (nD c) = true from isCount_nat (b := 2) (by omega)]
    simp only [List.all_cons, List.all_nil]
    rw [isCount_nat (by omega)]
    rfl
  | take c g k =>
    have ho := ok_take h
    show (decide (([nD c, nD g, nD k] : List PyData).length + 1 = 4) && (decide (("take" : Str) = "end") || (isCountD 0 2 (nD c) && ([nD g, nD k] : List PyData).all (isCountD 0 ((n - 1 : Nat) : Int))))) = true
    rw [show isCountD 0 2 (nD c) = true from isCount_nat (b := 2) (by omega)]
    simp only [List.all_cons, List.all_nil]
    rw [isCount_nat (by omega), isCount_nat (by omega)]
    rfl
  | fin => rfl
theorem machD_mach {m : Mach} (h : isMach m = true) : isMachD (machD m) = true := by
  have hl := mach_len h
  show ((decide (1 ≤ (m.map lnD).length) && decide ((m.map lnD).length ≤ 4)) && (m.map lnD).all (isLineD (m.map lnD).length)) = true
  rw [List.length_map, decide_eq_true hl.1, decide_eq_true hl.2, List.all_map]
  show (m.all (isLineD m.length ∘ lnD)) = true
  rw [List.all_eq_true]
  intro l hl'
  exact lineD_ok hl.1 (mach_ok h hl')
theorem ctrD_ctr {cs : List Nat} (h : cs.length = 3) (hb : ∀ x ∈ cs, x ≤ 100) : isCtrD (ctD cs) = true := by
  show (decide ((cs.map nD).length = 3) && (cs.map nD).all (isCountD 0 100)) = true
  rw [List.length_map, decide_eq_true h, List.all_map, Bool.true_and, List.all_eq_true]
  exact fun x hx => isCount_nat (hb x hx)
theorem lnD_inj {a b : Ln} (h : lnD a = lnD b) : a = b := by
  cases a <;> cases b <;> simp [lnD] at h <;> first | rfl | (obtain ⟨h1, h2, h3⟩ := h; congr 1 <;> omega) | (obtain ⟨h1, h2⟩ := h; congr 1 <;> omega)
theorem machD_inj {m m' : Mach} (h : machD m = machD m') : m = m' := (List.map_inj_right fun _ _ => lnD_inj).mp (PyData.list.inj h)
theorem ctD_inj {m m' : List Nat} (h : ctD m = ctD m') : m = m' := (List.map_inj_right fun _ _ => nD_inj).mp (PyData.tuple.inj h)
end Fr
namespace Fr
open PySem PySem.Spec PyProof.Rows L2
/-! ### texts as lists of signs -/
abbrev figs : List Nat := [48, 49, 50, 51, 52, 53, 54, 55, 56, 57]
def wordL (f : Nat × Nat) : List Nat := TL.numL f.1 ++ (47 :: TL.numL f.2)
def textL (l : Prog) : List Nat := TL.joinL [32] (l.map wordL)
def numIn (w : List Nat) : Option Nat := if (1 ≤ w.length ∧ w.length ≤ 7) ∧ (w.all fun c => decide (c ∈ figs)) = true then some (NumText.digitsVal w) else none
def fracIn (w : List Nat) : Option (Nat × Nat) := match TL.par [47] [] w with
  | some (p, q) => (numIn p).bind fun a => (numIn q).map fun b => (a, b)
  | none => none
def foundL : List (List Nat) → Option Prog
  | [] => some []
  | w :: ws => (fracIn w).bind fun f => (foundL ws).map fun r => f :: r
def readL (t : List Nat) : Option Prog := (if t = [] then some [] else foundL (TL.spl [32] 0 [] t)).bind fun l => if isProg l = true ∧ textL l = t then some l else none
theorem fig_iff {c : Nat} : c ∈ figs ↔ 48 ≤ c ∧ c ≤ 57 := by
  simp only [figs, List.mem_cons, List.not_mem_nil, or_false]
  omega
theorem numIn_num {n : Nat} (h : n ≤ 1000000) : numIn (TL.numL n) = some n := by
  unfold numIn
  rw [if_pos, TL.numL_val]
  refine ⟨⟨?_, ?_⟩, ?_⟩
  · exact List.length_pos_iff.mpr (TL.numL_ne n)
  · exact TL.numL_len (by decide) (Nat.lt_of_le_of_lt h (by decide))
  · rw [List.all_eq_true]
    intro c hc
    have := TL.numL_digits n c hc
    exact decide_eq_true (fig_iff.mpr this)
theorem fold_lt : ∀ (l : List Nat) (a : Nat), (∀ c ∈ l, c ∈ figs) → l.foldl (fun acc c => acc * 10 + (c - 48)) a < (a + 1) * 10 ^ l.length
  | [], a, _ => by simp
  | c :: l, a, h => by
    have hc := fig_iff.mp (h c List.mem_cons_self)
    have ih := fold_lt l (a * 10 + (c - 48)) fun d hd => h d (List.mem_cons_of_mem _ hd)
    rw [List.foldl_cons, List.length_cons, Nat.pow_succ]
    refine Nat.lt_of_lt_of_le ih ?_
    have e : (a * 10 + (c - 48) + 1) ≤ (a + 1) * 10 := by omega
    calc (a * 10 + (c - 48) + 1) * 10 ^ l.length ≤ (a + 1) * 10 * 10 ^ l.length := Nat.mul_le_mul_right _ e
      _ = (a + 1) * (10 ^ l.length * 10) := by rw [Nat.mul_assoc, Nat.mul_comm 10]
theorem numIn_lt {w : List Nat} {n : Nat} (h : numIn w = some n) : n < 10 ^ 7 := by
  unfold numIn at h
  split at h
  · rename_i hc
    cases h
    have hd : ∀ c ∈ w, c ∈ figs := fun c hcw => of_decide_eq_true (List.all_eq_true.mp hc.2 c hcw)
    have h1 := fold_lt w 0 hd
    have h2 : NumText.digitsVal w < 10 ^ w.length := by
      have : NumText.digitsVal w < (0 + 1) * 10 ^ w.length := h1
      omega
    exact Nat.lt_of_lt_of_le h2 (Nat.pow_le_pow_right (by decide) hc.1.2)
  · cases h
theorem fracIn_word {f : Nat × Nat} (h1 : f.1 ≤ 1000000) (h2 : f.2 ≤ 1000000) : fracIn (wordL f) = some f := by
  have e : TL.par [47] [] (wordL f) = some (TL.numL f.1, TL.numL f.2) := SX.par_head (c := 47) (sep := []) (TL.numL f.2) (TL.numL_free (by omega))
  unfold fracIn
  rw [e]
  show (numIn (TL.numL f.1)).bind _ = _
  rw [numIn_num h1, Option.bind_some, numIn_num h2]
  rfl
theorem foundL_words : ∀ {l : Prog}, (∀ f ∈ l, f.1 ≤ 1000000 ∧ f.2 ≤ 1000000) → foundL (l.map wordL) = some l
  | [], _ => rfl
  | f :: l, h => by
    obtain ⟨h1, h2⟩ := h f List.mem_cons_self
    rw [List.map_cons]
    unfold foundL
    rw [fracIn_word h1 h2, foundL_words fun g hg => h g (List.mem_cons_of_mem _ hg)]
    rfl
theorem wordL_free (f : Nat × Nat) : 32 ∉ wordL f := fun h => by
  unfold wordL at h
  rcases List.mem_append.mp h with h | h
  · exact TL.numL_free (by omega) h
  · rcases List.mem_cons.mp h with h | h
    · cases h
    · exact TL.numL_free (by omega) h
theorem wordL_ne (f : Nat × Nat) : wordL f ≠ [] := by
  unfold wordL
  simp
theorem textL_ne {l : Prog} (h : l ≠ []) : textL l ≠ [] := fun z => by
  cases l with
  | nil => exact h rfl
  | cons f l =>
    have e := SX.spl_join (c := 32) (sep := []) (parts := (f :: l).map wordL) (by simp) (fun p hp => by
      obtain ⟨g, _, rfl⟩ := List.mem_map.mp hp
      exact wordL_free g)
    unfold textL at z
    rw [z] at e
    have e2 : TL.spl [32] 0 [] [] = [[]] := by decide
    rw [e2] at e
    have := (List.cons.inj e).1
    exact wordL_ne f this.symm
theorem readL_text {l : Prog} (hP : isProg l = true) : readL (textL l) = some l := by
  unfold readL
  have h6 : ∀ f ∈ l, f.1 ≤ 1000000 ∧ f.2 ≤ 1000000 := fun f hf => by
    obtain ⟨_, _, h3, h4, _⟩ := isFrac_iff.mp ((isProg_iff.mp hP).2 f hf)
    exact ⟨h3, h4⟩
  have e : (if textL l = [] then some [] else foundL (TL.spl [32] 0 [] (textL l))) = some l := by
    by_cases hl : l = []
    · subst hl
      exact if_pos rfl
    · rw [if_neg (textL_ne hl)]
      have e := SX.spl_join (c := 32) (sep := []) (parts := l.map wordL) (by simpa using hl) (fun p hp => by
        obtain ⟨g, _, rfl⟩ := List.mem_map.mp hp
        exact wordL_free g)
      unfold textL
      rw [e]
      exact foundL_words h6
  rw [e, Option.bind_some, if_pos ⟨hP, rfl⟩]
theorem readL_is {t : List Nat} {l : Prog} (h : readL t = some l) : isProg l = true ∧ textL l = t := by
  unfold readL at h
  obtain ⟨l', _, h⟩ := Option.bind_eq_some_iff.mp h
  split at h
  · cases h
    assumption
  · cases h
end Fr
namespace Fr
open PySem PySem.Spec PyProof.Rows L2 LamX
theorem dps_strs {K : PySem.W.Frag} {H : Hp} : ∀ {ys : List Str} {vs : List V}, DpAll K H vs (ys.map PyData.str) → vs = ys.map V.str
  | [], _, .nil => rfl
  | y :: ys, _, .cons a b => by
    cases a
    rw [dps_strs b]
    rfl
theorem s_num (n : Nat) : Str.ofString (toString ((n : Nat) : Int)) = SX.S (TL.numL n) := TL.ext_tl (TL.tl_num n)
theorem s_one {w : List Nat} : (SX.S w).length = w.length := SX.S_len w
theorem s_sl : (Str.ofString "/") = SX.S [47] := by decide +kernel
theorem s_sp : (Str.ofString " ") = SX.S [32] := by decide +kernel
theorem s_fig : (Str.ofString "0123456789").cps.toList = figs := by decide +kernel
section
variable {P : Program} {w : World} {K : PySem.W.Frag} {mg : Str → Option Value} {base : Heap}
/-! ### need -/
def spNeedT (K : PySem.W.Frag) : Sp := fun vs H Q E => ∃ b : Bool, vs = [.bl b] ∧ (b = true → Q .non H) ∧ (b = false → E (.ref (ga K "BadText")) none H)
theorem ok_need (T : Txt K mg) : Cal P w K mg base (L2N.CX P w) 1 "need" ["good"] (spNeedT K) := by
  refine Cal.mkX T.d_need T.m_need sc_need (fun _ _ _ _ _ _ us hl => match us, hl with | [_], _ => rfl) (fun vs H Q E h => ?_) (fun cdv A outer s H vs Q E hr h => ?_)
  · obtain ⟨b, rfl, _⟩ := h
    rfl
  obtain ⟨b, rfl, q1, q2⟩ := h
  refine ⟨_, (pss_one (ps_if (pt_not (pt_val (pv 0))) (pss_one (L2N.ps_raise rfl (L2N.takes_of rfl rfl rfl rfl) (L2N.pmk_own PySem.F.excBase_ValueError T.x_BadText.1 T.m_BadText T.x_BadText.2.1 (raises_own T.x_BadText.2.2.1 T.x_BadText.2.2.2) (by rfl)))) pss_nil)), ?_⟩
  cases b with
  | true => exact ⟨_, rfl, _, rfl, iteF (q1 rfl)⟩
  | false => exact ⟨_, rfl, _, rfl, iteT (q2 rfl)⟩
/-! ### number_in -/
def spNumIn (K : PySem.W.Frag) : Sp := fun vs H Q E => ∃ w : List Nat, vs = [.str (SX.S w)] ∧ w.length ≤ 100000 ∧ (numIn w = none → ∀ H', Same H H' → E (.ref (ga K "BadText")) none H') ∧ (∀ n, numIn w = some n → ∀ H', Same H H' → Q (nI n) H')
theorem ok_number_in (T : Txt K mg) : Cal P w K mg base (L2N.CX P w) 2 "number_in" ["word"] (spNumIn K) := by
  have c_need := ok_need (P := P) (w := w) (base := base) T
  refine Cal.mkX T.d_number_in T.m_number_in sc_number_in (fun _ _ _ _ _ _ us hl => match us, hl with | [_], _ => rfl) (fun vs H Q E h => ?_) (fun cdv A outer s H vs Q E hr h => ?_)
  · obtain ⟨x, rfl, _⟩ := h
    rfl
  obtain ⟨x, rfl, hl, q1, q2⟩ := h
  refine ⟨_, (pss_cons (ps_expr (pe_cal c_need (hr.mono (by decide)) (by rfl) (L2N.passes_call (L2N.takes_of rfl rfl rfl rfl) (fun _ _ _ _ h => h)) (pa_cons (pe_and (pe_chain opN_le opN_le pe_int (pe_callB call_len_str (by rfl) T.b_len PySem.boot_len (pa_cons (pv 0) pa_nil)) (pe_glob (v := .int 7) (by rfl) T.c_MOST_FIGURES.choose_spec ⟨_, rfl⟩)) (pe_one (pe_callB (crAll rfl rfl) (by rfl) T.b_all boot_all (pa_cons (pe_lc (own := [("sign", 1)]) rfl sc_number_in.nd (pi_str (pv 0)) (blkOk_by (own := [("sign", 1)]) (N := ["word", "sign"]) (sc := defScope s_number_in) (by decide +kernel)) (fun _ _ _ _ _ => (pg_name (i := 1) sc_number_in.nd rfl (.inl rfl))) (fun _ _ _ _ _ => pts_nil) (fun _ _ _ _ _ => (pe_cmpR op_in_sign (pv 1) (pe_glob (v := .str "0123456789") (by rfl) T.c_FIGURES.choose_spec ⟨_, rfl⟩) (by rfl)))) pa_nil)))) pa_nil)))
      (pss_one (ps_ret (pe_callTy call_int_str (by rfl) T.b_int boot_int (pa_cons (pv 0) pa_nil))))), ?_⟩
  have hsz : (SX.S x).length ≤ sizeLine := by rw [SX.S_len]; exact Nat.le_trans hl (by decide)
  have hcs : (SX.S x).cps.size = x.length := by simp [SX.S]
  have no : ¬ ((1 ≤ x.length ∧ x.length ≤ 7) ∧ (x.all fun c => decide (c ∈ figs)) = true) → numIn x = none := fun h => by unfold numIn; exact if_neg h
  refine ⟨_, rfl, _, rfl, hsz, 1, (SX.S x).length, rfl, rfl, _, rfl, ?_⟩
  rw [SX.S_len]
  by_cases h1 : 1 ≤ x.length
  · rw [decide_eq_true h1]
    refine iteT ⟨x.length, 7, rfl, rfl, _, rfl, ?_⟩
    by_cases h7 : x.length ≤ 7
    · rw [decide_eq_true h7]
      refine iteT ⟨_, rfl, _, rfl, fun D hD => ?_⟩
      refine lc_dp (K := K) walk_str hD (by rw [hcs]; exact hl) (fun _ _ => trivial) (fun i => (x[i]?).map fun c => PyData.bool (decide (c ∈ figs))) ?_ ?_ ?_
      · intro i d e
        obtain ⟨a, _, rfl⟩ := Option.map_eq_some_iff.mp e
        rfl
      · rintro i v H' H'' A B hi s' ⟨rfl, c, hc, rfl⟩ hA hB
        have hc : x[i]? = some c := by
          have : (SX.S x).cps[i]? = some c := hc
          simpa [SX.S] using this
        refine ⟨rfl, _, rfl, c, _, rfl, rfl, ?_⟩
        rw [s_fig]
        exact hA _ _ _ (by rw [hc]; rfl) (Same.refl _) (.bl _)
      · intro H' ys s' hD' hA
        rw [hcs, gath_map] at hA
        have e2 : ys = (x.map fun c => decide (c ∈ figs)).map V.bl := dps_bools (by rw [List.map_map]; exact hA)
        rw [e2] at hD'
        refine ⟨D, _, rfl, SqL.of hD', ?_⟩
        have e3 : ((x.map fun c => decide (c ∈ figs)).all id) = (x.all fun c => decide (c ∈ figs)) := by rw [List.all_map]; rfl
        rw [e3]
        refine ⟨_, rfl, fun ha => ?_, fun ha => q1 (no fun z => by rw [ha] at z; cases z.2) H' s'⟩
        have e4 : numIn x = some (NumText.digitsVal x) := by unfold numIn; exact if_pos ⟨⟨h1, h7⟩, ha⟩
        refine ⟨_, rfl, _, _, rfl, SX.int_S ?_ (fun z => by rw [z] at h1; exact absurd h1 (by decide)) (by omega), by rw [SX.S_len]; omega, q2 _ e4 H' s'⟩
        rw [List.all_eq_true] at ha ⊢
        intro c hc
        have := fig_iff.mp (of_decide_eq_true (ha c hc))
        rw [decide_eq_true this.1, decide_eq_true this.2]
        rfl
    · rw [decide_eq_false h7]
      exact iteF ⟨_, rfl, fun z => (nomatch z), fun _ => q1 (no fun z => h7 z.1.2) H (Same.refl H)⟩
  · rw [decide_eq_false h1]
    exact iteF ⟨_, rfl, iteF ⟨_, rfl, fun z => (nomatch z), fun _ => q1 (no fun z => h1 z.1.1) H (Same.refl H)⟩⟩
/-! ### fraction_in -/
def spFracIn (K : PySem.W.Frag) : Sp := fun vs H Q E => ∃ w : List Nat, vs = [.str (SX.S w)] ∧ w.length ≤ 100000 ∧ (fracIn w = none → ∀ H', Same H H' → E (.ref (ga K "BadText")) none H') ∧ (∀ f, fracIn w = some f → ∀ p H', Same H H' → H' p = some (.tup [nI f.1, nI f.2]) → Q (.ref p) H')
theorem par_lens : ∀ {w acc p q : List Nat}, TL.par [47] acc w = some (p, q) → p.length ≤ acc.length + w.length ∧ q.length ≤ w.length
  | [], _, _, _, h => (nomatch h)
  | c :: r, acc, p, q, h => by
    have h : (if TL.pre [47] (c :: r) = true then some (acc, (c :: r).drop 1) else TL.par [47] (acc ++ [c]) r) = some (p, q) := h
    split at h
    · cases h
      simp
    · have ih := par_lens h
      simp only [List.length_append, List.length_cons, List.length_nil] at ih ⊢
      omega
theorem par_len {w p q : List Nat} (h : TL.par [47] [] w = some (p, q)) : p.length ≤ w.length ∧ q.length ≤ w.length := by
  have := par_lens h
  simpa using this
theorem spl_lens : ∀ {t acc : List Nat}, (TL.spl [32] 0 acc t).length ≤ t.length + 1 ∧ ∀ w ∈ TL.spl [32] 0 acc t, w.length ≤ acc.length + t.length
  | [], acc => by
    rw [TL.spl_nil]
    simp
  | c :: r, acc => by
    have e : TL.spl [32] 0 acc (c :: r) = if TL.pre [32] (c :: r) = true then acc :: TL.spl [32] 0 [] r else TL.spl [32] 0 (acc ++ [c]) r := rfl
    rw [e]
    split
    · have ih := spl_lens (t := r) (acc := [])
      refine ⟨by simpa using ih.1, fun w hw => ?_⟩
      rcases List.mem_cons.mp hw with rfl | hw
      · exact Nat.le_add_right _ _
      · have := ih.2 w hw
        simp only [List.length_nil, List.length_cons] at this ⊢
        omega
    · have ih := spl_lens (t := r) (acc := acc ++ [c])
      refine ⟨by have := ih.1; simp only [List.length_cons]; omega, fun w hw => ?_⟩
      have := ih.2 w hw
      simp only [List.length_append, List.length_nil, List.length_cons] at this ⊢
      omega
theorem ok_fraction_in (T : Txt K mg) : Cal P w K mg base (L2N.CX P w) 3 "fraction_in" ["word"] (spFracIn K) := by
  have c_number_in := ok_number_in (P := P) (w := w) (base := base) T
  refine Cal.mkX T.d_fraction_in T.m_fraction_in sc_fraction_in (fun _ _ _ _ _ _ us hl => match us, hl with | [_], _ => rfl) (fun vs H Q E h => ?_) (fun cdv A outer s H vs Q E hr h => ?_)
  · obtain ⟨x, rfl, _⟩ := h
    rfl
  obtain ⟨x, rfl, hl, q1, q2⟩ := h
  refine ⟨_, (pss_cons (ps_asg (bm rfl PySem.F.plainAttrs_str PySem.F.slot_str_partition PySem.F.type_str_partition mt_partition (pv 0) (pa_cons pe_str pa_nil)) (pgT (n := 3) rfl rfl (pgs_cons (pg_name (i := 1) sc_fraction_in.nd rfl (.inl rfl)) (pgs_cons (pg_name (i := 2) sc_fraction_in.nd rfl (.inl rfl)) (pgs_cons (pg_name (i := 3) sc_fraction_in.nd rfl (.inl rfl)) pgs_nil)))))
      (pss_one (ps_ret (pe_tup (pa_cons (pe_cal c_number_in (hr.mono (by decide)) (by rfl) (L2N.passes_call (L2N.takes_of rfl rfl rfl rfl) (fun _ _ _ _ h => h)) (pa_cons (pv 1) pa_nil)) (pa_cons (pe_cal c_number_in (hr.mono (by decide)) (by rfl) (L2N.passes_call (L2N.takes_of rfl rfl rfl rfl) (fun _ _ _ _ h => h)) (pa_cons (pv 3) pa_nil)) pa_nil)))))), ?_⟩
  have hsz : (SX.S x).length ≤ sizeLine := by rw [SX.S_len]; exact Nat.le_trans hl (by decide)
  refine ⟨_, rfl, rfl, SX.S x, _, rfl, rfl, by decide +kernel, hsz, fun p np => ?_⟩
  rw [s_sl]
  have s1 := fun (o : HO) => same_new (o := o) np
  cases hp : TL.par [47] [] x with
  | none =>
    have en : fracIn x = none := by unfold fracIn; rw [hp]
    rw [SX.partition_none (by simp) hp]
    refine ⟨p, _, rfl, SqT.of upd_same, rfl, _, _, rfl, _, _, rfl, _, _, rfl, rfl, ?_⟩
    refine ⟨_, rfl, x, rfl, hl, fun _ H' s' => q1 en H' ((s1 _).trans s'), fun n _ H' s' => ?_⟩
    exact ⟨_, rfl, [], rfl, Nat.zero_le _, fun _ H'' s'' => q1 en H'' (((s1 _).trans s').trans s''), fun n z => (nomatch z)⟩
  | some r =>
    obtain ⟨a, b⟩ := r
    obtain ⟨la, lb⟩ := par_len hp
    rw [SX.partition_some (by simp) hp]
    refine ⟨p, _, rfl, SqT.of upd_same, rfl, _, _, rfl, _, _, rfl, _, _, rfl, rfl, ?_⟩
    refine ⟨_, rfl, a, rfl, by omega, fun z H' s' => q1 (by unfold fracIn; rw [hp]; show (numIn a).bind _ = none; rw [z]; rfl) H' ((s1 _).trans s'), fun n hn H' s' => ?_⟩
    refine ⟨_, rfl, b, rfl, by omega, fun z H'' s'' => q1 (by unfold fracIn; rw [hp]; show (numIn a).bind _ = none; rw [hn, Option.bind_some, z]; rfl) H'' (((s1 _).trans s').trans s''), fun m hm H'' s'' => ?_⟩
    refine ⟨(by show 2 ≤ sizeLine; decide), fun t nt => ?_⟩
    exact q2 (n, m) (by unfold fracIn; rw [hp]; show (numIn a).bind _ = _; rw [hn, Option.bind_some, hm]; rfl) t _ ((((s1 _).trans s').trans s'').trans (same_new nt)) upd_same
end
end Fr
namespace Fr
open PySem PySem.Spec PyProof.Rows L2 LamX
theorem sum_le15 : ∀ {ys : List (List Nat)}, (∀ y ∈ ys, y.length ≤ 15) → ((ys.map SX.S).map (·.length)).sum ≤ 15 * ys.length
  | [], _ => Nat.le_refl _
  | y :: ys, h => by
    have h1 := h y List.mem_cons_self
    have h2 := sum_le15 (ys := ys) fun z hz => h z (List.mem_cons_of_mem _ hz)
    rw [List.map_cons, List.map_cons, List.sum_cons, SX.S_len, List.length_cons]
    omega
theorem wordL_len {f : Nat × Nat} (h1 : f.1 < 10 ^ 7) (h2 : f.2 < 10 ^ 7) : (wordL f).length ≤ 15 := by
  unfold wordL
  have e1 := TL.numL_len (k := 7) (by decide) h1
  have e2 := TL.numL_len (k := 7) (by decide) h2
  rw [List.length_append, List.length_cons]
  omega
def smallP (l : Prog) : Prop := l.length ≤ 16 ∧ ∀ f ∈ l, f.1 < 10 ^ 7 ∧ f.2 < 10 ^ 7
theorem smallP_of {l : Prog} (h : isProg l = true) : smallP l := ⟨(isProg_iff.mp h).1, fun f hf => by
  obtain ⟨_, _, h3, h4, _⟩ := isFrac_iff.mp ((isProg_iff.mp h).2 f hf)
  exact ⟨Nat.lt_of_le_of_lt h3 (by decide), Nat.lt_of_le_of_lt h4 (by decide)⟩⟩
theorem foundL_small : ∀ {ws : List (List Nat)} {l : Prog}, foundL ws = some l → ∀ f ∈ l, f.1 < 10 ^ 7 ∧ f.2 < 10 ^ 7
  | [], l, h, f, hf => by
    cases h
    cases hf
  | w :: ws, l, h, f, hf => by
    have h : ((fracIn w).bind fun f => (foundL ws).map fun r => f :: r) = some l := h
    obtain ⟨g, hg, h⟩ := Option.bind_eq_some_iff.mp h
    obtain ⟨r, hr, rfl⟩ := Option.map_eq_some_iff.mp h
    rcases List.mem_cons.mp hf with rfl | hf
    · unfold fracIn at hg
      split at hg
      · obtain ⟨a, ha, hg⟩ := Option.bind_eq_some_iff.mp hg
        obtain ⟨b, hb, rfl⟩ := Option.map_eq_some_iff.mp hg
        exact ⟨numIn_lt ha, numIn_lt hb⟩
      · cases hg
    · exact foundL_small hr f hf
section
variable {P : Program} {w : World} {K : PySem.W.Frag} {mg : Str → Option Value} {base : Heap}
/-! ### program_text -/
def spPText (K : PySem.W.Frag) : Sp := fun vs H Q _ => ∃ (v : V) (l : Prog), vs = [v] ∧ Dp K H v (progD l) ∧ smallP l ∧ ∀ H', Same H H' → Q (.str (SX.S (textL l))) H'
theorem ok_program_text (T : Txt K mg) : Cal P w K mg base L2.CX0 1 "program_text" ["program"] (spPText K) := by
  refine Cal.mk0 T.d_program_text T.m_program_text sc_program_text (fun _ _ _ _ _ _ us hl => match us, hl with | [_], _ => rfl) (fun vs H Q E h => ?_) (fun cdv A outer s H vs Q E hr h => ?_)
  · obtain ⟨v, l, rfl, _⟩ := h
    rfl
  obtain ⟨v, l, rfl, hd, hl, q⟩ := h
  refine ⟨_, (pss_one (ps_ret (bm rfl PySem.F.plainAttrs_str PySem.F.slot_str_join PySem.F.type_str_join mt_join pe_str (pa_cons (pe_lc (own := [("top", 1), ("under", 2)]) rfl sc_program_text.nd (piL rfl (pv 0)) (blkOk_by (own := [("top", 1), ("under", 2)]) (N := ["program", "top", "under"]) (sc := defScope s_program_text) (by decide +kernel)) (fun _ _ _ _ _ => (pgT (n := 2) rfl rfl (pgs_cons (pg_name (i := 1) sc_program_text.nd rfl (.inl rfl)) (pgs_cons (pg_name (i := 2) sc_program_text.nd rfl (.inl rfl)) pgs_nil)))) (fun _ _ _ _ _ => pts_nil) (fun _ _ _ _ _ => (pe_op op_add_str (pe_op op_add_str (pe_callTy call_str_int (by rfl) T.b_str boot_str (pa_cons (pv 1) pa_nil)) pe_str) (pe_callTy call_str_int (by rfl) T.b_str boot_str (pa_cons (pv 2) pa_nil))))) pa_nil)))), ?_⟩
  obtain ⟨a, xs, rfl, hs, hxs⟩ := dp_lst hd
  have hxl : xs.length = l.length := by rw [dps_len hxs, List.length_map]
  have hl16 := hl.1
  refine ⟨rfl, _, rfl, a, rfl, ⟨_, hs⟩, fun D hD => ?_⟩
  refine lc_dp (K := K) walk_list hD (by omega) (fun H' s' => s'.seq hs) (fun i => l[i]?.map fun f => PyData.str (SX.S (wordL f))) ?_ ?_ ?_
  · intro i d e
    obtain ⟨x, _, rfl⟩ := Option.map_eq_some_iff.mp e
    rfl
  · rintro i x H' H'' A' B' hi s' ⟨rfl, hx⟩ hA hB
    obtain ⟨hi2, b, rfl, hb, _⟩ := prog_item (same_dps s' hxs) hx
    obtain ⟨f1, f2⟩ := hl.2 l[i] (List.getElem_mem hi2)
    have e1 := TL.numL_len (k := 7) (by decide) f1
    have e2 := TL.numL_len (k := 7) (by decide) f2
    have lg : ∀ n : Nat, n < 10 ^ 7 → ((n : Int).natAbs).log2 < 1920 := fun n hn => by
      rw [Int.natAbs_natCast]
      by_cases h0 : n = 0
      · subst h0
        decide
      · exact Nat.lt_of_lt_of_le ((Nat.log2_lt h0).mpr (Nat.lt_of_lt_of_le hn (show 10 ^ 7 ≤ 2 ^ 24 by decide))) (by decide)
    refine ⟨b, _, rfl, hb, rfl, _, _, rfl, _, _, rfl, rfl, rfl, _, rfl, (l[i].1 : Int), rfl, lg _ f1, ?_⟩
    rw [s_num, s_sl]
    refine ⟨_, _, rfl, rfl, by rw [SX.S_len, SX.S_len]; exact Nat.le_trans (show (TL.numL l[i].1).length + 1 ≤ 8 by omega) (by decide), ?_⟩
    rw [SX.S_cat]
    refine ⟨_, rfl, (l[i].2 : Int), rfl, lg _ f2, ?_⟩
    rw [s_num]
    refine ⟨_, _, rfl, rfl, by rw [SX.S_len, SX.S_len, List.length_append]; exact Nat.le_trans (show (TL.numL l[i].1).length + 1 + (TL.numL l[i].2).length ≤ 15 by omega) (by decide), ?_⟩
    rw [SX.S_cat, List.append_assoc]
    exact hA _ _ _ (by rw [List.getElem?_eq_getElem hi2]; rfl) (Same.refl _) (.str _)
  intro H1 zs s1 hD1 hA1
  rw [hxl, gath_map] at hA1
  have ez : zs = (l.map fun f => SX.S (wordL f)).map V.str := dps_strs (by rw [List.map_map]; exact hA1)
  subst ez
  have em : (l.map fun f => SX.S (wordL f)) = (l.map wordL).map SX.S := by rw [List.map_map]; rfl
  rw [em] at hD1
  have hsum := sum_le15 (ys := l.map wordL) fun y hy => by
    obtain ⟨f, hf, rfl⟩ := List.mem_map.mp hy
    exact wordL_len (hl.2 f hf).1 (hl.2 f hf).2
  refine ⟨_, D, _, rfl, rfl, .inl (SqL.of hD1), ?_, ?_⟩
  · rw [s_sp, SX.S_len, List.length_map]
    rw [List.length_map] at hsum ⊢
    show _ + l.length * 1 ≤ _
    omega
  · rw [s_sp, SX.join_S]
    exact q H1 s1
/-! ### written -/
def spWritten (K : PySem.W.Frag) : Sp := fun vs H Q E => ∃ (v : V) (d : PyData), vs = [v] ∧ Dp K H v d ∧ (isProgD d = false → ∀ H', Same H H' → E (.ref (ga K "BadProgram")) none H') ∧ (∀ l, d = progD l → isProg l = true → ∀ H', Same H H' → Q (.str (SX.S (textL l))) H')
theorem ok_written (T : Txt K mg) : Cal P w K mg base (L2N.CX P w) 6 "written" ["program"] (spWritten K) := by
  have c_need_program := ok_need_program (P := P) (w := w) (base := base) T
  have c_program_text := ok_program_text (P := P) (w := w) (base := base) T
  refine Cal.mkX T.d_written T.m_written sc_written (fun _ _ _ _ _ _ us hl => match us, hl with | [_], _ => rfl) (fun vs H Q E h => ?_) (fun cdv A outer s H vs Q E hr h => ?_)
  · obtain ⟨v, d, rfl, _⟩ := h
    rfl
  obtain ⟨v, d, rfl, hd, q1, q2⟩ := h
  refine ⟨_, (pss_cons (ps_expr (pe_cal c_need_program (hr.mono (by decide)) (by rfl) (L2N.passes_call (L2N.takes_of rfl rfl rfl rfl) (fun _ _ _ _ h => h)) (pa_cons (pv 0) pa_nil)))
      (pss_one (ps_ret (pe_cal c_program_text (hr.mono (by decide)) (by rfl) pass0 (pa_cons (pv 0) pa_nil))))), ?_⟩
  refine ⟨_, rfl, v, d, rfl, hd, fun hP H1 s1 => ?_, q1⟩
  obtain ⟨l, rfl, hl⟩ := isProgD_is hP
  exact ⟨_, rfl, v, l, rfl, same_dp s1 hd, smallP_of hl, fun H2 s2 => q2 l rfl hl H2 (s1.trans s2)⟩
/-! ### read -/
def readD : PyData → Option Prog
  | .str x => readL x.cps.toList
  | _ => none
def strLen : PyData → Nat
  | .str x => x.length
  | _ => 0
def spRead (K : PySem.W.Frag) : Sp := fun vs H Q E => ∃ (v : V) (d : PyData), vs = [v] ∧ Dp K H v d ∧ strLen d ≤ 10000 ∧ (readD d = none → ∀ H', Same H H' → E (.ref (ga K "BadText")) none H') ∧
  (∀ l, readD d = some l → ∀ a xs H', Same H H' → H a = none → H' a = some (.lst xs) → DpAll K H' xs (l.map fracD) → Q (.ref a) H')
theorem ok_read (T : Txt K mg) : Cal P w K mg base (L2N.CX P w) 5 "read" ["text"] (spRead K) := by
  have c_need := ok_need (P := P) (w := w) (base := base) T
  have c_fraction_in := ok_fraction_in (P := P) (w := w) (base := base) T
  have c_is_program := ok_is_program (P := P) (w := w) (base := base) T
  have c_program_text := ok_program_text (P := P) (w := w) (base := base) T
  refine Cal.mkX T.d_read T.m_read sc_read (fun _ _ _ _ _ _ us hl => match us, hl with | [_], _ => rfl) (fun vs H Q E h => ?_) (fun cdv A outer s H vs Q E hr h => ?_)
  · obtain ⟨v, d, rfl, _⟩ := h
    rfl
  obtain ⟨v, d, rfl, hd, hsl, q1, q2⟩ := h
  refine ⟨_, (pss_cons (ps_expr (pe_cal c_need (hr.mono (by decide)) (by rfl) (L2N.passes_call (L2N.takes_of rfl rfl rfl rfl) (fun _ _ _ _ h => h)) (pa_cons (pe_callB (isStr rfl) (by rfl) T.b_isinstance boot_isinstance (pa_cons (pv 0) (pa_cons (pe_bltn (v := .ty "str") (by rfl) T.b_str boot_str rfl) pa_nil))) pa_nil)))
      (C8.pss_cut (ps_set (i := 1) sc_read.nd rfl (.inl rfl) (pe_ifExp (pt_cmpR op_ne (pv 0) pe_str (nomark _)) (pe_lcX (Ex := E) (L2N.takes_of rfl rfl rfl rfl) (fun _ _ _ _ h => h) rfl rfl (own := [("word", 2)]) rfl sc_read.nd (piL rfl (bm rfl PySem.F.plainAttrs_str PySem.F.slot_str_split PySem.F.type_str_split mt_split (pv 0) (pa_cons pe_str pa_nil))) (blkOk_by (own := [("word", 2)]) (N := ["text", "found", "word"]) (sc := defScope s_read) (by decide +kernel)) (fun _ _ _ _ _ => (pg_name (i := 2) sc_read.nd rfl (.inl rfl))) (fun _ _ _ _ _ => pts_nil) (fun _ _ _ _ _ => (pe_cal c_fraction_in (hr.mono (by decide)) (by rfl) bxe_passes (pa_cons (pv 2) pa_nil)))) (pe_lst pa_nil)))
      (pss_cons (ps_expr (pe_cal c_need (hr.mono (by decide)) (by rfl) (L2N.passes_call (L2N.takes_of rfl rfl rfl rfl) (fun _ _ _ _ h => h)) (pa_cons (pe_and (pe_cal c_is_program (hr.mono (by decide)) (by rfl) pass0 (pa_cons (pv 1) pa_nil)) (pe_one (pe_cmpR op_eq (pe_cal c_program_text (hr.mono (by decide)) (by rfl) pass0 (pa_cons (pv 1) pa_nil)) (pv 0) (nomark _)))) pa_nil)))
      (pss_one (ps_ret (pv 1)))))), ?_⟩
  have bad : isStrD d = false → readD d = none := fun h => by
    cases d with
    | str x => cases h
    | _ => rfl
  refine ⟨_, rfl, _, _, rfl, hd, _, rfl, fun hs => ?_, fun hs => q1 (bad hs) H (Same.refl H)⟩
  cases d with
  | str x =>
    cases hd
    obtain ⟨t, rfl⟩ : ∃ t, x = SX.S t := ⟨x.cps.toList, (SX.S_tl x).symm⟩
    have hlt : t.length ≤ 10000 := by
      have : (SX.S t).length ≤ 10000 := hsl
      rwa [SX.S_len] at this
    have eR : readD (.str (SX.S t)) = readL t := by
      show readL (SX.S t).cps.toList = _
      simp [SX.S]
    rw [eR] at q1 q2
    refine ⟨fun σ H1 => ∃ a xs l, σ = [some (.str (SX.S t)), some (.ref a), none] ∧ Same H H1 ∧ H a = none ∧ H1 a = some (.lst xs) ∧ DpAll K H1 xs (l.map fracD) ∧ (if t = [] then some [] else foundL (TL.spl [32] 0 [] t)) = some l, ?_, ?_⟩
    · refine ⟨_, rfl, rfl, _, rfl, ?_⟩
      by_cases ht : t = []
      · subst ht
        refine iteF ⟨Nat.zero_le _, fun a na => ⟨a, [], [], rfl, same_new na, na, upd_same, .nil, rfl⟩⟩
      · have hne : (!decide (V.str (SX.S t) = V.str "")) = true := by
          have : ¬ V.str (SX.S t) = V.str "" := fun z => ht (by
            have z : SX.S t = Str.ofString "" := V.str.inj z
            have := congrArg (fun y : Str => y.cps.toList) z
            have e0 : (Str.ofString "").cps.toList = [] := by decide +kernel
            rw [e0] at this
            simpa [SX.S] using this)
          rw [decide_eq_false this]
          rfl
        rw [hne, if_neg ht]
        have hws := spl_lens (t := t) (acc := [])
        refine iteT ⟨_, rfl, rfl, _, _, rfl, rfl, by decide +kernel, by rw [SX.S_len]; exact Nat.le_trans (show t.length + 2 ≤ 10002 by omega) (by decide), fun wa nwa => ?_⟩
        rw [s_sp, SX.split_S (by simp) (by decide)]
        generalize hws0 : TL.spl [32] 0 [] t = ws at *
        have sw := same_new (o := .lst ((ws.map SX.S).map V.str)) nwa
        have hwa : (upd H wa (.lst ((ws.map SX.S).map V.str))) wa = some (.lst ((ws.map SX.S).map V.str)) := upd_same
        generalize upd H wa (.lst ((ws.map SX.S).map V.str)) = Hw at *
        have hwl : ((ws.map SX.S).map V.str).length = ws.length := by rw [List.length_map, List.length_map]
        refine ⟨wa, rfl, ⟨_, SqL.of hwa⟩, fun D hD => ?_⟩
        have hD0 := sw.free hD
        refine lc_it walk_list (fun i H' => Same Hw H' ∧ ∃ (fs : Prog) (ys : List V), H' D = some (.lst ys) ∧ DpAll K H' ys (fs.map fracD) ∧ fs.length ≤ i ∧ foundL ws = (foundL (ws.drop i)).map fun r => fs ++ r) ⟨same_new hD, [], [], upd_same, .nil, Nat.le_refl _, ?_⟩ (fun i H' _ p => SqL.of (p.1 _ _ hwa)) ?_ ?_
        · rw [List.drop_zero]
          cases foundL ws <;> rfl
        · rintro i x H' H'' hi ⟨sm, fs, ys, hy, hys, hfl, hf⟩ ⟨rfl, hx⟩
          rw [List.getElem?_map, List.getElem?_map] at hx
          rw [hwl] at hi
          have hwi : ws[i]? = some ws[i] := List.getElem?_eq_getElem hi
          rw [hwi] at hx
          cases hx
          have hdr : ws.drop i = ws[i] :: ws.drop (i + 1) := List.drop_eq_getElem_cons hi
          have hw1 := hws.2 ws[i] (List.getElem_mem hi)
          have hws1 := hws.1
          have en : fracIn ws[i] = none → readL t = none := fun z => by
            unfold readL
            rw [if_neg ht, hws0, hf, hdr]
            show (((fracIn ws[i]).bind fun f => (foundL (ws.drop (i + 1))).map fun r => f :: r).map _).bind _ = none
            rw [z]
            rfl
          refine ⟨rfl, _, rfl, ws[i], rfl, by simp only [List.length_nil] at hw1; omega, fun z H4 s4 => q1 (en z) H4 (sw.trans (sm.trans s4)), fun f hf1 p H4 s4 hp => ?_⟩
          refine ⟨ys, s4 _ _ hy, ?_, same_put (sm.trans s4) hD, fs ++ [f], ys ++ [.ref p], upd_same, ?_, ?_, ?_⟩
          · rw [dps_len hys, List.length_map]
            exact Nat.lt_of_le_of_lt (show fs.length ≤ 10001 by omega) (by decide)
          · rw [List.map_append]
            have nl : noLs (fs.map fracD) = true := noLs_of fun d hd => by
              obtain ⟨g, _, rfl⟩ := List.mem_map.mp hd
              exact noL_frac g
            exact dps_app (dps_upd (s4 _ _ hy) nl (same_dps s4 hys)) (.cons (dp_upd (s4 _ _ hy) (noL_frac f) (.tup (SqT.of hp) (.cons (.int _) (.cons (.int _) .nil)))) .nil)
          · rw [List.length_append]
            exact Nat.succ_le_succ hfl
          · rw [hf, hdr]
            show ((fracIn ws[i]).bind fun f => (foundL (ws.drop (i + 1))).map fun r => f :: r).map _ = _
            rw [hf1, Option.bind_some, Option.map_map]
            cases foundL (ws.drop (i + 1)) with
            | none => rfl
            | some r => simp
        · rintro H' ⟨sm, fs, ys, hy, hys, hfl, hf⟩
          rw [hwl, List.drop_length] at hf
          exact ⟨D, ys, fs, rfl, sw.trans sm, hD0, hy, hys, by rw [hf]; simp [foundL]⟩
    rintro σ H1 ⟨a, xs, l, rfl, s1, na, ha, hxs, hfo⟩
    have hsm : ∀ f ∈ l, f.1 < 10 ^ 7 ∧ f.2 < 10 ^ 7 := by
      by_cases ht : t = []
      · rw [if_pos ht] at hfo
        cases hfo
        exact fun f hf => nomatch hf
      · rw [if_neg ht] at hfo
        exact foundL_small hfo
    have hdl : Dp K H1 (.ref a) (progD l) := .lst (SqL.of ha) hxs
    have eL : readL t = if isProg l = true ∧ textL l = t then some l else none := by
      unfold readL
      rw [hfo, Option.bind_some]
    refine ⟨_, rfl, _, _, rfl, hdl, fun H2 s2 => ⟨_, rfl, ?_⟩⟩
    rw [isProgD_prog]
    cases hP : isProg l with
    | false => exact iteF ⟨_, rfl, fun z => (nomatch z), fun _ => q1 (by rw [eL, if_neg (by rw [hP]; simp)]) H2 (s1.trans s2)⟩
    | true =>
      refine iteT ⟨_, rfl, _, l, rfl, same_dp s2 hdl, smallP_of hP, fun H3 s3 => ⟨_, rfl, rfl, _, rfl, fun hb => ?_, fun hb => ?_⟩⟩
      · have ht : textL l = t := SX.S_inj (V.str.inj (of_decide_eq_true hb))
        have s23 := s2.trans s3
        exact ⟨_, rfl, q2 l (by rw [eL, if_pos ⟨hP, ht⟩]) a xs H3 (s1.trans s23) na (s23 _ _ ha) (same_dps s23 hxs)⟩
      · have ht : textL l ≠ t := fun z => by
          rw [z] at hb
          simp at hb
        exact q1 (by rw [eL, if_neg (fun z => ht z.2)]) H3 (s1.trans (s2.trans s3))
  | _ => cases hs
end
end Fr
namespace Fr
open PySem PySem.Spec PyProof.Rows L2 LamX
/-- the most that some take of a room -/
def needR (fs : Prog) (r : Nat) : Nat := fs.foldl (fun a f => max a (rm f.2 r)) 0
theorem needR_snoc (fs : Prog) (f : Nat × Nat) (r : Nat) : needR (fs ++ [f]) r = max (needR fs r) (rm f.2 r) := by
  unfold needR
  rw [List.foldl_append]
  rfl
def needL (fs : Prog) : List Nat := (List.range 12).map (needR fs)
section
variable {P : Program} {w : World} {K : PySem.W.Frag} {mg : Str → Option Value} {base : Heap}
/-! ### needs -/
def spNeeds (K : PySem.W.Frag) : Sp := fun vs H Q _ => ∃ (v : V) (l m : Prog), vs = [v] ∧ Dp K H v (.list [progD l, progD m]) ∧ isProg l = true ∧ isProg m = true ∧ ∀ p H', Same H H' → H p = none → H' p = some (.lst ((needL (l ++ m)).map nI)) → Q (.ref p) H'
theorem ok_needs (T : Txt K mg) : Cal P w K mg base L2.CX0 2 "needs" ["programs"] (spNeeds K) := by
  have c_parted := ok_parted (P := P) (w := w) (base := base) T
  refine Cal.mk0 T.d_needs T.m_needs sc_needs (fun _ _ _ _ _ _ us hl => match us, hl with | [_], _ => rfl) (fun vs H Q E h => ?_) (fun cdv A outer s H vs Q E hr h => ?_)
  · obtain ⟨v, l, m, rfl, _⟩ := h
    rfl
  obtain ⟨v, l, m, rfl, hd, hl, hm, q⟩ := h
  refine ⟨_, (pss_cons (ps_set (i := 1) sc_needs.nd rfl (.inl rfl) (pe_op op_rep (pe_lst (pa_cons pe_int pa_nil)) (pe_callB (lenS rfl) (by rfl) T.b_len PySem.boot_len (pa_cons (pe_glob (v := .ref (ga K "PRIMES")) (by rfl) T.m_PRIMES rfl) pa_nil))))
      (pss_cons (ps_for PassesOwn.never rfl (piL rfl (pv 0)) (pg_name (i := 2) sc_needs.nd rfl (.inl rfl)) (pss_one (ps_for PassesOwn.never rfl (piL rfl (pv 2)) (pg_name (i := 3) sc_needs.nd rfl (.inl rfl)) (pss_one (ps_setLc (i := 1) (own := [("have", 4), ("due", 5)]) rfl sc_needs.nd rfl rfl (sw_true rfl rfl rfl (by decide +kernel)) (Zn.zip2 rfl (by rfl) T.b_zip (pa_cons (pv 1) (pa_cons (pe_ix (ixT rfl) (pe_cal c_parted (hr.mono (by decide)) (by rfl) pass0 (pa_cons (pe_ix (ixT rfl) (pv 3) pe_int (fun _ _ => rfl)) pa_nil)) pe_int (fun _ _ => rfl)) pa_nil))) (blkOk_by (own := [("have", 4), ("due", 5)]) (N := ["programs", "found", "program", "fraction", "have", "due"]) (sc := defScope s_needs) (by decide +kernel)) (fun _ _ _ _ _ => (pgT (n := 2) rfl rfl (pgs_cons (pg_name (i := 4) sc_needs.nd rfl (.inl rfl)) (pgs_cons (pg_name (i := 5) sc_needs.nd rfl (.inl rfl)) pgs_nil)))) (fun _ _ _ _ _ => pts_nil) (fun _ _ _ _ _ => (pe_callB (max2N rfl) (by rfl) T.b_max boot_max (pa_cons (pv 4) (pa_cons (pv 5) pa_nil)))))))))
      (pss_one (ps_ret (pv 1))))), ?_⟩
  obtain ⟨a, xs, rfl, hs, hxs⟩ := dp_lst hd
  cases hxs with
  | @cons x1 _ xs1 _ d1 hxs =>
  cases hxs with
  | @cons x2 _ xs2 _ d2 hxs =>
  cases hxs
  refine ⟨(by show 1 ≤ sizeLine; decide), fun p0 np0 => ⟨_, _, rfl, .inr (T.t_PRIMES _), p0, 12, _, rfl, rfl, upd_same, by decide, by decide, (by show 1 * 12 ≤ sizeLine; decide), fun p1 np1 => ?_⟩⟩
  have s0 := same_new (o := .lst [.int 0]) np0
  have s1 := s0.trans (same_new (o := .lst (List.replicate (12 : Int).toNat [V.int 0]).flatten) np1)
  have n1 := s0.free np1
  have h1 : (upd (upd H p0 (.lst [.int 0])) p1 (.lst (List.replicate (12 : Int).toNat [V.int 0]).flatten)) p1 = some (.lst ((needL []).map nI)) := upd_same
  generalize upd (upd H p0 (.lst [.int 0])) p1 (.lst (List.replicate (12 : Int).toNat [V.int 0]).flatten) = H1 at *
  refine ⟨_, rfl, a, rfl, ⟨_, s1.seq hs⟩, for_list (xs := [x1, x2]) (fun i σ H2 => ∃ (pf : Addr) (y2 y3 : Option V), σ = [some (.ref a), some (.ref pf), y2, y3, none, none] ∧ Same H H2 ∧ H pf = none ∧ H2 pf = some (.lst ((needL (([l, m].take i).flatten)).map nI))) ⟨p1, none, none, rfl, s1, n1, h1⟩ ?_ ?_ ?_⟩
  · rintro i σ H2 _ ⟨pf, y2, y3, rfl, s2, _, _⟩
    exact s2.seq hs
  · rintro i x σ H2 hx ⟨pf, y2, y3, rfl, s2, n2, h2⟩
    have hi : i < 2 := (List.getElem?_eq_some_iff.mp hx).choose
    obtain ⟨g, hg, hdg, hPg, eg⟩ : ∃ g : Prog, [l, m][i]? = some g ∧ Dp K H x (progD g) ∧ isProg g = true ∧ (([l, m].take (i + 1)).flatten) = (([l, m].take i).flatten) ++ g := by
      match i, hi with
      | 0, _ =>
        cases hx
        exact ⟨l, rfl, d1, hl, by simp⟩
      | 1, _ =>
        cases hx
        exact ⟨m, rfl, d2, hm, by simp⟩
    rw [eg]
    generalize ([l, m].take i).flatten = fs at *
    obtain ⟨b, ys, rfl, hb, hys⟩ := dp_lst hdg
    have hyl : ys.length = g.length := by rw [dps_len hys, List.length_map]
    refine ⟨_, rfl, b, rfl, ⟨_, s2.seq hb⟩, for_list (xs := ys) (fun j σ H3 => ∃ (pf : Addr) (y3 : Option V), σ = [some (.ref a), some (.ref pf), some (.ref b), y3, none, none] ∧ Same H H3 ∧ H pf = none ∧ H3 pf = some (.lst ((needL (fs ++ g.take j)).map nI))) ⟨pf, y3, rfl, s2, n2, by rw [List.take_zero, List.append_nil]; exact h2⟩ ?_ ?_ ?_⟩
    · rintro j σ H3 _ ⟨pf, y3, rfl, s3, _, _⟩
      exact s3.seq hb
    · rintro j x σ H3 hx ⟨pf, y3, rfl, s3, n3, h3⟩
      obtain ⟨hj, c, rfl, hc, _⟩ := prog_item (same_dps s3 hys) hx
      have hpos := isProg_pos hPg g[j] (List.getElem_mem hj)
      refine ⟨_, rfl, _, rfl, c, _, 1, _, rfl, rfl, hc, atI1, g[j].2, rfl, hpos, fun p t H4 s4 ht hp => ?_⟩
      have h4 := s4 _ _ h3
      refine ⟨p, _, 0, _, rfl, rfl, SqT.of hp, atI0, [(true, pf), (false, t)], rfl, rfl, ?_, fun D hD => ?_⟩
      · intro r hr
        rcases List.mem_cons.mp hr with rfl | hr
        · exact ⟨_, SqL.of h4⟩
        · rcases List.mem_cons.mp hr with rfl | hr
          · exact ⟨_, SqT.of ht⟩
          · cases hr
      have hnl : ((needL (fs ++ g.take j)).map nI).length = 12 := by rw [List.length_map]; simp [needL]
      refine lc_dp (K := K) (walk_zipN (yss := [(needL (fs ++ g.take j)).map nI, (rooms g[j].2).map nI]) (n := 12) ?_ ?_) hD (by decide) (fun H' s' => ⟨s'.seq (SqL.of h4), same_tup s' (SqT.of ht), True.intro⟩) (fun c => some (nD (max (needR (fs ++ g.take j) c) (rm g[j].2 c)))) ?_ ?_ ?_
      · intro ys hy
        rcases List.mem_cons.mp hy with rfl | hy
        · rw [hnl]
          exact Nat.le_refl _
        · rcases List.mem_cons.mp hy with rfl | hy
          · rw [List.length_map, rooms_len]
            exact Nat.le_refl _
          · cases hy
      · exact ⟨_, List.mem_cons_self, hnl⟩
      · intro c d e
        cases e
        rfl
      · rintro c x' H' H'' A B hc s' ⟨Tt, rfl, nT, rfl⟩ hA hB
        have er : Zn.rowAt c [(needL (fs ++ g.take j)).map nI, (rooms g[j].2).map nI] = [nI (needR (fs ++ g.take j) c), nI (rm g[j].2 c)] := by
          show [((needL (fs ++ g.take j)).map nI).getD c .non, ((rooms g[j].2).map nI).getD c .non] = _
          rw [rooms_getD _ c hc]
          unfold needL
          rw [List.getD_eq_getElem?_getD, List.getElem?_map, List.getElem?_map, List.getElem?_range hc]
          rfl
        rw [er]
        refine ⟨Tt, _, rfl, SqT.of upd_same, rfl, _, _, rfl, _, _, rfl, rfl, rfl, ?_⟩
        exact ⟨_, rfl, _, rfl, _, _, rfl, hA _ _ _ rfl (same_new nT) (.int _)⟩
      · intro H5 zs s5 hD5 hA5
        have ez : zs = ((needL (fs ++ g.take (j + 1))).map nI) := by
          refine dps_nats (K := K) (H := H5) ?_
          have eg : gath (fun c => some (nD (max (needR (fs ++ g.take j) c) (rm g[j].2 c)))) 12 = (needL (fs ++ g.take (j + 1))).map nD := by
            rw [gath_range]
            unfold needL
            rw [List.map_map, ← List.filterMap_eq_map]
            congr 1
            funext c
            show some _ = some _
            rw [List.take_add_one, List.getElem?_eq_getElem hj]
            show some (nD _) = some (nD (needR (fs ++ (g.take j ++ [g[j]])) c))
            rw [← List.append_assoc, needR_snoc]
          rw [← eg]
          exact hA5
        subst ez
        exact ⟨D, _, rfl, s3.trans (s4.trans s5), (s3.trans s4).free hD, hD5⟩
    · rintro σ H3 ⟨pf, y3, rfl, s3, n3, h3⟩
      rw [hyl, List.take_length] at h3
      exact ⟨pf, _, _, rfl, s3, n3, h3⟩
  · rintro σ H2 ⟨pf, y2, y3, rfl, s2, n2, h2⟩
    exact ⟨_, rfl, q pf H2 s2 n2 (by simpa using h2)⟩
end
end Fr
namespace Fr
open PySem PySem.Spec PyProof.Rows L2 LamX
/-- a row of numbers, each with no more than so many of one prime more -/
def ntStep (fs : List Nat) (p m : Nat) : List Nat := (List.range (m + 1)).flatMap fun k => fs.map fun x => x * p ^ k
def ntF (ms : List Nat) : Nat → List Nat
  | 0 => [1]
  | i + 1 => ntStep (ntF ms i) (primes.getD i 1) (ms.getD i 0)
theorem ntStep_len (fs : List Nat) (p m : Nat) : (ntStep fs p m).length = fs.length * (m + 1) := by
  unfold ntStep
  rw [List.length_flatMap]
  simp only [List.length_map]
  rw [List.map_const', List.length_range, List.sum_replicate_nat, Nat.mul_comm]
def manyF (ms : List Nat) (i : Nat) : Nat := ((ms.take i).map (· + 1)).foldl (· * ·) 1
theorem ntStep_add (fs : List Nat) (p m : Nat) : ntStep fs p (m + 1) = ntStep fs p m ++ fs.map fun x => x * p ^ (m + 1) := by
  unfold ntStep
  rw [List.range_succ (n := m + 1), List.flatMap_append]
  simp
theorem prime_lt (i : Nat) : primes.getD i 1 < 2 ^ 6 := by
  rw [List.getD_eq_getElem?_getD]
  cases h : primes[i]? with
  | none => decide
  | some p =>
    have : ∀ p ∈ primes, p < 2 ^ 6 := by decide
    exact this p (List.mem_of_getElem? h)
theorem pow_le6 {p k : Nat} (h : p < 2 ^ 6) (hk : k ≤ 20) : p ^ k ≤ 2 ^ 120 := by
  calc p ^ k ≤ (2 ^ 6) ^ k := Nat.pow_le_pow_left (Nat.le_of_lt h) k
    _ = 2 ^ (6 * k) := by rw [← Nat.pow_mul]
    _ ≤ 2 ^ 120 := Nat.pow_le_pow_right (by decide) (by omega)
theorem nt_lt {ms : List Nat} (hb : ∀ m ∈ ms, m ≤ 20) : ∀ (i : Nat), ∀ x ∈ ntF ms i, x < 2 ^ (121 * i + 1)
  | 0, x, hx => by
    rw [List.mem_singleton.mp hx]
    decide
  | i + 1, x, hx => by
    have hm : ms.getD i 0 ≤ 20 := by
      rw [List.getD_eq_getElem?_getD]
      cases h : ms[i]? with
      | none => exact Nat.zero_le _
      | some m => exact hb m (List.mem_of_getElem? h)
    have hx : x ∈ ntStep (ntF ms i) (primes.getD i 1) (ms.getD i 0) := hx
    unfold ntStep at hx
    obtain ⟨k, hk, hx⟩ := List.mem_flatMap.mp hx
    obtain ⟨y, hy, rfl⟩ := List.mem_map.mp hx
    have ih := nt_lt hb i y hy
    have hp := pow_le6 (prime_lt i) (show k ≤ 20 by have := List.mem_range.mp hk; omega)
    calc y * primes.getD i 1 ^ k ≤ y * 2 ^ 120 := Nat.mul_le_mul_left _ hp
      _ < 2 ^ (121 * i + 1) * 2 ^ 120 := Nat.mul_lt_mul_of_pos_right ih (by decide)
      _ = 2 ^ (121 * i + 121) := by rw [← Nat.pow_add]
      _ ≤ 2 ^ (121 * (i + 1) + 1) := Nat.pow_le_pow_right (by decide) (by omega)
theorem log_lt {x k : Nat} (h : x < 2 ^ k) (hk : 0 < k) : x.log2 < k := by
  by_cases h0 : x = 0
  · subst h0
    simpa using hk
  · exact (Nat.log2_lt h0).mpr h
section
variable {P : Program} {w : World} {K : PySem.W.Frag} {mg : Str → Option Value} {base : Heap}
/-! ### numbers_to -/
def spNto (K : PySem.W.Frag) : Sp := fun vs H Q _ => ∃ (a : Addr) (ms : List Nat), vs = [.ref a] ∧ SqL K H a (ms.map nI) ∧ ms.length = 12 ∧ (∀ m ∈ ms, m ≤ 20) ∧ (∀ i, i ≤ 12 → (ntF ms i).length ≤ 5000) ∧ ∀ p H', Same H H' → H p = none → H' p = some (.lst ((ntF ms 12).map nI)) → Q (.ref p) H'
theorem ok_numbers_to (T : Txt K mg) : Cal P w K mg base L2.CX0 1 "numbers_to" ["most"] (spNto K) := by
  refine Cal.mk0 T.d_numbers_to T.m_numbers_to sc_numbers_to (fun _ _ _ _ _ _ us hl => match us, hl with | [_], _ => rfl) (fun vs H Q E h => ?_) (fun cdv A outer s H vs Q E hr h => ?_)
  · obtain ⟨a, ms, rfl, _⟩ := h
    rfl
  obtain ⟨a, ms, rfl, hs, hl, hb, hn, q⟩ := h
  refine ⟨_, (pss_cons (ps_set (i := 1) sc_numbers_to.nd rfl (.inl rfl) (pe_lst (pa_cons pe_int pa_nil)))
      (pss_cons (ps_for PassesOwn.never rfl (Zn.zip2 rfl (by rfl) T.b_zip (pa_cons (pe_glob (v := .ref (ga K "PRIMES")) (by rfl) T.m_PRIMES rfl) (pa_cons (pv 0) pa_nil))) (pgT (n := 2) rfl rfl (pgs_cons (pg_name (i := 2) sc_numbers_to.nd rfl (.inr rfl)) (pgs_cons (pg_name (i := 3) sc_numbers_to.nd rfl (.inl rfl)) pgs_nil))) (pss_cons (ps_set (i := 4) sc_numbers_to.nd rfl (.inl rfl) (pe_callTy (listOf rfl) (by rfl) T.b_list boot_list (pa_cons (pv 1) pa_nil)))
      (pss_cons (ps_set (i := 5) sc_numbers_to.nd rfl (.inl rfl) (pv 1))
      (pss_cons (ps_for PassesOwn.never rfl (pi_range1 (by rfl) T.b_range (pa_cons (pv 3) pa_nil)) (pg_name (i := 6) sc_numbers_to.nd rfl (.inl rfl)) (pss_cons (ps_setLc (i := 5) (own := [("number", 7)]) rfl sc_numbers_to.nd rfl rfl (sw_true rfl rfl rfl (by decide +kernel)) (piL rfl (pv 5)) (blkOk_by (own := [("number", 7)]) (N := ["most", "found", "prime", "many", "longer", "row", "turn", "number"]) (sc := defScope s_numbers_to) (by decide +kernel)) (fun _ _ _ _ _ => (pg_name (i := 7) sc_numbers_to.nd rfl (.inl rfl))) (fun _ _ _ _ _ => pts_nil) (fun _ _ _ _ _ => (pe_op opN_mul (pv 7) (pv 2))))
      (pss_one (ps_expr (bm rfl PySem.F.plainAttrs_list PySem.F.slot_list_extend PySem.F.type_list_extend mt_extend (pv 4) (pa_cons (pv 5) pa_nil))))))
      (pss_one (ps_set (i := 1) sc_numbers_to.nd rfl (.inl rfl) (pv 4)))))))
      (pss_one (ps_ret (pv 1))))), ?_⟩
  refine ⟨(by show 1 ≤ sizeLine; decide), fun p0 np0 => ?_⟩
  have s0 := same_new (o := .lst [.int 1]) np0
  have h0 : (upd H p0 (.lst [.int 1])) p0 = some (.lst ((ntF ms 0).map nI)) := upd_same
  generalize upd H p0 (.lst [.int 1]) = H0 at *
  have hml : (ms.map nI).length = 12 := by rw [List.length_map]; exact hl
  have hpl : (primes.map nI).length = 12 := rfl
  refine ⟨_, rfl, [(false, ga K "PRIMES"), (true, a)], rfl, rfl, ?_, Zn.for_zipN (n := 12) (yss := [primes.map nI, ms.map nI]) ?_ ?_ (fun i σ H1 => ∃ (pf : Addr) (y2 y3 y4 y5 y6 : Option V), σ = [some (.ref a), some (.ref pf), y2, y3, y4, y5, y6, none] ∧ Same H H1 ∧ H pf = none ∧ H1 pf = some (.lst ((ntF ms i).map nI))) ⟨p0, _, _, _, _, _, rfl, s0, np0, h0⟩ ?_ ?_ ?_⟩
  · intro r hr
    rcases List.mem_cons.mp hr with rfl | hr
    · exact ⟨_, T.t_PRIMES _⟩
    · rcases List.mem_cons.mp hr with rfl | hr
      · exact ⟨_, s0.seq hs⟩
      · cases hr
  · intro ys hy
    rcases List.mem_cons.mp hy with rfl | hy
    · exact Nat.le_refl _
    · rcases List.mem_cons.mp hy with rfl | hy
      · rw [hml]
        exact Nat.le_refl _
      · cases hy
  · exact ⟨_, List.mem_cons_self, hpl⟩
  · rintro i σ H1 ⟨pf, y2, y3, y4, y5, y6, rfl, s1, _, _⟩
    exact ⟨T.t_PRIMES _, s1.seq hs, True.intro⟩
  · rintro i Tt σ H1 hi ⟨pf, y2, y3, y4, y5, y6, rfl, s1, n1, h1⟩ hT
    have er : Zn.rowAt i [primes.map nI, ms.map nI] = [nI (primes.getD i 1), nI (ms.getD i 0)] := by
      show [(primes.map nI).getD i .non, (ms.map nI).getD i .non] = _
      have hp : primes[i]? = some (primes.getD i 1) := by rw [List.getD_eq_getElem?_getD, List.getElem?_eq_getElem (show i < primes.length from hi)]; rfl
      have hm : ms[i]? = some (ms.getD i 0) := by rw [List.getD_eq_getElem?_getD, List.getElem?_eq_getElem (by omega)]; rfl
      rw [List.getD_eq_getElem?_getD, List.getD_eq_getElem?_getD, List.getElem?_map, List.getElem?_map, hp, hm]
      rfl
    rw [er]
    have eN : ntF ms (i + 1) = ntStep (ntF ms i) (primes.getD i 1) (ms.getD i 0) := rfl
    rw [eN]
    have hlen := hn (i + 1) (by omega)
    rw [eN] at hlen
    have hfl := nt_lt hb i
    have hpr := prime_lt i
    have hm20 : ms.getD i 0 ≤ 20 := by
      rw [List.getD_eq_getElem?_getD, List.getElem?_eq_getElem (by omega)]
      exact hb _ (List.getElem_mem _)
    generalize ntF ms i = fs at *
    generalize primes.getD i 1 = pp at *
    generalize ms.getD i 0 = mm at *
    have sT := same_new (o := .tup [nI pp, nI mm]) hT
    refine ⟨Tt, _, rfl, SqT.of upd_same, rfl, _, _, rfl, _, _, rfl, rfl, ?_⟩
    have h2 := sT _ _ h1
    have s2 := s1.trans sT
    generalize upd H1 Tt (.tup [nI pp, nI mm]) = H2 at *
    refine ⟨_, rfl, pf, _, rfl, .inl (SqL.of h2), fun pl npl => ?_⟩
    have s3 := same_new (o := .lst (fs.map nI)) npl
    have h3 := s3 _ _ h2
    have hl3 : (upd H2 pl (.lst (fs.map nI))) pl = some (.lst (fs.map nI)) := upd_same
    have nl : H pl = none := s2.free npl
    have hfl' : pl ≠ pf := fun z => by rw [z, h2] at npl; cases npl
    have s23 := s2.trans s3
    generalize upd H2 pl (.lst (fs.map nI)) = H3 at *
    have e0 : fs.map (fun x => x * pp ^ 0) = fs := by simp
    have e1 : ntStep fs pp 0 = fs := by simp [ntStep]
    refine ⟨_, rfl, _, rfl, _, rfl, by omega, by omega, for_it walk_nats (fun t σ H4 => ∃ (pr : Addr) (y6 : Option V), σ = [some (.ref a), some (.ref pf), some (nI pp), some (nI mm), some (.ref pl), some (.ref pr), y6, none] ∧ Same H H4 ∧ H4 pl = some (.lst ((ntStep fs pp t).map nI)) ∧ H4 pr = some (.lst ((fs.map fun x => x * pp ^ t).map nI)) ∧ pl ≠ pr) ⟨pf, _, rfl, s23, by rw [e1]; exact hl3, by rw [e0]; exact h3, hfl'⟩ (fun _ _ _ _ _ => trivial) ?_ ?_⟩
    · rintro t x σ Ha H4 ht ⟨pr, y6, rfl, s4, hl4, hr4, hne⟩ ⟨rfl, rfl⟩
      have htm : t < mm := by omega
      have hfs : fs.length * (mm + 1) ≤ 5000 := by rw [← ntStep_len fs pp mm]; exact hlen
      have hf5 : fs.length ≤ 5000 := Nat.le_trans (Nat.le_mul_of_pos_right _ (by omega)) hfs
      have hrl : ((fs.map fun x => x * pp ^ t).map nI).length = fs.length := by rw [List.length_map, List.length_map]
      refine ⟨_, rfl, pr, rfl, ⟨_, SqL.of hr4⟩, fun D hD => ?_⟩
      refine lc_dp (K := K) walk_list hD (by rw [hrl]; omega) (fun H' s' => SqL.of (s' _ _ hr4)) (fun j => fs[j]?.map fun x => nD (x * pp ^ (t + 1))) ?_ ?_ ?_
      · intro j d e
        obtain ⟨x, _, rfl⟩ := Option.map_eq_some_iff.mp e
        rfl
      · rintro j x H' H'' A' B' hj s' ⟨rfl, hx⟩ hA hB
        rw [hrl] at hj
        rw [List.getElem?_map, List.getElem?_map, List.getElem?_eq_getElem hj] at hx
        cases hx
        have hxl := hfl fs[j] (List.getElem_mem hj)
        have hpt := pow_le6 hpr (show t ≤ 20 by omega)
        have hlg : (fs[j] * pp ^ t).log2 < 2000 := Nat.lt_of_lt_of_le (log_lt (k := 121 * i + 1 + 120) (by
          rw [Nat.pow_add]
          exact Nat.lt_of_le_of_lt (Nat.mul_le_mul_left _ hpt) (Nat.mul_lt_mul_of_pos_right hxl (by decide))) (by omega)) (by omega)
        have hlp : pp.log2 < 6 := log_lt hpr (by decide)
        refine ⟨rfl, _, rfl, _, rfl, fs[j] * pp ^ t, pp, rfl, rfl, by omega, ?_⟩
        exact hA _ _ _ (by rw [List.getElem?_eq_getElem hj]; rfl) (Same.refl _) (by show Dp K _ (nI (fs[j] * pp ^ t * pp)) (nD (fs[j] * pp ^ (t + 1))); rw [Nat.mul_assoc, ← Nat.pow_succ]; exact .int _)
      intro H5 zs s5 hD5 hA5
      rw [hrl, gath_map] at hA5
      have ez : zs = (fs.map fun x => x * pp ^ (t + 1)).map nI := dps_nats (K := K) (H := H5) (by rw [List.map_map]; exact hA5)
      subst ez
      have hl5 := s5 _ _ hl4
      have hDl : pl ≠ D := fun z => by rw [← z, hl4] at hD; cases hD
      have hll : ((ntStep fs pp t).map nI).length + ((fs.map fun x => x * pp ^ (t + 1)).map nI).length ≤ 5000 := by
        rw [List.length_map, List.length_map, List.length_map, ntStep_len, ← Nat.mul_succ]
        exact Nat.le_trans (Nat.mul_le_mul_left _ (by omega)) hfs
      refine ⟨_, rfl, .inl ⟨rfl, _, SqL.of hl5⟩, _, rfl, pl, D, _, _, rfl, rfl, hl5, hD5, Nat.le_trans hll (by decide), ?_⟩
      refine ⟨D, _, rfl, same_put (s4.trans s5) nl, ?_, (upd_ne hDl.symm).trans hD5, hDl⟩
      rw [upd_same, ntStep_add, List.map_append]
    · rintro σ H4 ⟨pr, y6, rfl, s4, hl4, _, _⟩
      have em : ((mm : Nat) : Int).toNat = mm := by omega
      rw [em] at hl4
      exact ⟨_, rfl, pl, _, _, _, _, _, rfl, s4, nl, hl4⟩
  · rintro σ H1 ⟨pf, y2, y3, y4, y5, y6, rfl, s1, n1, h1⟩
    exact ⟨_, rfl, q pf H1 s1 n1 h1⟩
end
end Fr
namespace Fr
open PySem PySem.Spec PyProof.Rows L2 LamX
theorem ntF_len (ms : List Nat) (i : Nat) : (ntF ms (i + 1)).length = (ntF ms i).length * (ms.getD i 0 + 1) := ntStep_len _ _ _
def partsL (l m : Prog) : List Nat := (ntF (needL (l ++ m)) 12).filter fun x => !decide (led l x = led m x)
def partF (l m : Prog) : Option Nat := (partsL l m).min?
theorem optV_inj {a b : Option Nat} : optV a = optV b ↔ a = b := by
  constructor
  · intro h
    cases a <;> cases b
    · rfl
    · cases h
    · cases h
    · have : (_ : Int) = _ := V.int.inj h
      congr 1
      omega
  · rintro rfl
    rfl
theorem gath_filtN (ns : List Nat) (p : Nat → Bool) : gath (fun j => ns[j]?.bind fun x => if p x = true then some (nD x) else none) ns.length = (ns.filter p).map nD := by
  rw [gath_mapI ns fun j x => if p x = true then some (nD x) else none]
  have e1 : ns.zipIdx.filterMap (fun q => (fun x => if p x = true then some (nD x) else none) q.1) = ns.filterMap (fun x => if p x = true then some (nD x) else none) := by
    conv => rhs; rw [← List.zipIdx_map_fst 0 ns, List.filterMap_map]
    rfl
  refine e1.trans ?_
  clear e1
  induction ns with
  | nil => rfl
  | cons x ns ih =>
    rw [List.filterMap_cons, List.filter_cons]
    by_cases h : p x = true
    · rw [if_pos h, if_pos h, List.map_cons, ih]
    · rw [if_neg h, if_neg h, ih]
theorem needL_len (fs : Prog) : (needL fs).length = 12 := by simp [needL]
section
variable {P : Program} {w : World} {K : PySem.W.Frag} {mg : Str → Option Value} {base : Heap}
/-! ### parting -/
def spParting (K : PySem.W.Frag) : Sp := fun vs H Q _ => ∃ (v u : V) (l m : Prog), vs = [v, u] ∧ Dp K H v (progD l) ∧ Dp K H u (progD m) ∧ isProg l = true ∧ isProg m = true ∧ (∀ r ∈ needL (l ++ m), r ≤ 20) ∧ (∀ i, i ≤ 12 → (ntF (needL (l ++ m)) i).length ≤ 5000) ∧ ∀ H', Same H H' → Q (optV (partF l m)) H'
theorem ok_parting (T : Txt K mg) : Cal P w K mg base (L2N.CX P w) 6 "parting" ["one", "other"] (spParting K) := by
  have c_need_program := ok_need_program (P := P) (w := w) (base := base) T
  have c_needs := ok_needs (P := P) (w := w) (base := base) T
  have c_numbers_to := ok_numbers_to (P := P) (w := w) (base := base) T
  have c_led := ok_led (P := P) (w := w) (base := base) T
  refine Cal.mkX T.d_parting T.m_parting sc_parting (fun _ _ _ _ _ _ us hl => match us, hl with | [_, _], _ => rfl) (fun vs H Q E h => ?_) (fun cdv A outer s H vs Q E hr h => ?_)
  · obtain ⟨v, u, l, m, rfl, _⟩ := h
    rfl
  obtain ⟨v, u, l, m, rfl, hd, he, hl, hm, hb, hn, q⟩ := h
  refine ⟨_, (pss_cons (ps_expr (pe_cal c_need_program (hr.mono (by decide)) (by rfl) (L2N.passes_call (L2N.takes_of rfl rfl rfl rfl) (fun _ _ _ _ h => h)) (pa_cons (pv 0) pa_nil)))
      (pss_cons (ps_expr (pe_cal c_need_program (hr.mono (by decide)) (by rfl) (L2N.passes_call (L2N.takes_of rfl rfl rfl rfl) (fun _ _ _ _ h => h)) (pa_cons (pv 1) pa_nil)))
      (C8.pss_cut (ps_set (i := 2) sc_parting.nd rfl (.inl rfl) (pe_cal c_needs (hr.mono (by decide)) (by rfl) pass0 (pa_cons (pe_lst (pa_cons (pv 0) (pa_cons (pv 1) pa_nil))) pa_nil)))
      (pss_cons (ps_set (i := 3) sc_parting.nd rfl (.inl rfl) pe_int)
      (C8.pss_cut (ps_for (passes_of rfl) rfl (piL rfl (pv 2)) (pg_name (i := 4) sc_parting.nd rfl (.inl rfl)) (pss_one (ps_set (i := 3) sc_parting.nd rfl (.inl rfl) (pe_op opN_mul (pv 3) (pe_op opN_add (pv 4) pe_int)))))
      (pss_cons (ps_if (pt_cmpR opN_gt (pv 3) (pe_glob (v := .int 5000) (by rfl) T.c_MOST_LOOKED.choose_spec ⟨_, rfl⟩) (nomark _)) (pss_one (L2N.ps_raise rfl (L2N.takes_of rfl rfl rfl rfl) (L2N.pmk_own PySem.F.excBase_ValueError T.x_TooGreat.1 T.m_TooGreat T.x_TooGreat.2.1 (raises_own T.x_TooGreat.2.2.1 T.x_TooGreat.2.2.2) (by rfl)))) pss_nil)
      (pss_cons (ps_setLc (i := 5) (own := [("number", 6)]) rfl sc_parting.nd rfl rfl (sw_true rfl rfl rfl (by decide +kernel)) (piL rfl (pe_cal c_numbers_to (hr.mono (by decide)) (by rfl) pass0 (pa_cons (pv 2) pa_nil))) (blkOk_by (own := [("number", 6)]) (N := ["one", "other", "most", "many", "own", "some", "number"]) (sc := defScope s_parting) (by decide +kernel)) (fun _ _ _ _ _ => (pg_name (i := 6) sc_parting.nd rfl (.inl rfl))) (fun _ _ _ _ _ => (pts_one (pt_cmpR op_ne (pe_cal c_led (hr.mono (by decide)) (by rfl) pass0 (pa_cons (pv 0) (pa_cons (pv 6) pa_nil))) (pe_cal c_led (hr.mono (by decide)) (by rfl) pass0 (pa_cons (pv 1) (pa_cons (pv 6) pa_nil))) (nomark _)))) (fun _ _ _ _ _ => (pv 6)))
      (pss_one (ps_ret (pe_ifExp (pt_cmpR (neE rfl hr.units) (pv 5) (pe_lst pa_nil) (nomark _)) (pe_callB (crMin rfl rfl) (by rfl) T.b_min boot_min (pa_cons (pv 5) pa_nil)) pe_non)))))))))), ?_⟩
  refine ⟨_, rfl, v, progD l, rfl, hd, fun _ H1 s1 => ?_, fun z => (no_yes z (by rw [isProgD_prog]; exact hl)).elim⟩
  refine ⟨_, rfl, u, progD m, rfl, same_dp s1 he, fun _ H2 s2 => ?_, fun z => (no_yes z (by rw [isProgD_prog]; exact hm)).elim⟩
  have s12 := s1.trans s2
  have hd2 := same_dp s12 hd
  have he2 := same_dp s12 he
  refine ⟨fun σ H3 => ∃ pm, σ = [some v, some u, some (.ref pm), none, none, none, none] ∧ Same H2 H3 ∧ H3 pm = some (.lst ((needL (l ++ m)).map nI)), ?_, ?_⟩
  · refine ⟨_, rfl, _, rfl, (by show 2 ≤ sizeLine; decide), fun p0 np0 => ?_⟩
    have s3 := same_new (o := .lst [v, u]) np0
    exact ⟨_, l, m, rfl, .lst (SqL.of upd_same) (.cons (same_dp s3 hd2) (.cons (same_dp s3 he2) .nil)), hl, hm, fun p H4 s4 _ hp => ⟨p, rfl, s3.trans s4, hp⟩⟩
  rintro σ H3 ⟨pm, rfl, s3, hpm⟩
  have hd3 := same_dp s3 hd2
  have he3 := same_dp s3 he2
  have hnl := needL_len (l ++ m)
  generalize hms : needL (l ++ m) = ms at *
  have hml : (ms.map nI).length = 12 := by rw [List.length_map]; exact hnl
  -- how many
  refine ⟨fun σ H4 => ∃ y4, σ = [some v, some u, some (.ref pm), some (nI (ntF ms 12).length), y4, none, none] ∧ H4 = H3, ?_, ?_⟩
  · refine ⟨_, rfl, pm, rfl, ⟨_, SqL.of hpm⟩, for_list (xs := ms.map nI) (fun i σ H4 => ∃ y4, σ = [some v, some u, some (.ref pm), some (nI (ntF ms i).length), y4, none, none] ∧ H4 = H3) ⟨_, rfl, rfl⟩ ?_ ?_ ?_⟩
    · rintro i σ H4 _ ⟨y4, rfl, rfl⟩
      exact SqL.of hpm
    · rintro i x σ H4 hx ⟨y4, rfl, rfl⟩
      rw [List.getElem?_map] at hx
      obtain ⟨r, hr', rfl⟩ := Option.map_eq_some_iff.mp hx
      have hi : i < 12 := by
        have := (List.getElem?_eq_some_iff.mp hr').choose
        omega
      have er : ms.getD i 0 = r := by rw [List.getD_eq_getElem?_getD, hr']; rfl
      have h1 := hn i (by omega)
      have h2 := hb r (List.mem_of_getElem? hr')
      have lg : ∀ x : Nat, x ≤ 5000 → x.log2 < 13 := fun x hx => log_lt (Nat.lt_of_le_of_lt hx (by decide)) (by decide)
      have g1 := lg _ h1
      have g2 := lg (r + 1) (by omega)
      refine ⟨_, rfl, _, rfl, r, 1, rfl, rfl, (ntF ms i).length, r + 1, rfl, rfl, by omega, ⟨some (nI r), ?_, rfl⟩⟩
      rw [ntF_len, er]
      rfl
    · rintro σ H4 ⟨y4, rfl, rfl⟩
      rw [hml]
      exact ⟨_, rfl, rfl⟩
  rintro σ H4 ⟨y4, rfl, e4⟩
  rw [e4]
  clear e4 H4
  have h12 := hn 12 (by decide)
  refine ⟨_, rfl, (ntF ms 12).length, 5000, rfl, rfl, _, rfl, ?_⟩
  rw [decide_eq_false (show ¬ 5000 < (ntF ms 12).length by omega)]
  refine iteF ?_
  -- those that part
  refine ⟨_, rfl, pm, ms, rfl, SqL.of hpm, hnl, hb, hn, fun pn H5 s5 npn hpn => ?_⟩
  have s35 := s3.trans s5
  have hd5 := same_dp s5 hd3
  have he5 := same_dp s5 he3
  have hlt := nt_lt hb 12
  have hpl : ((ntF ms 12).map nI).length = (ntF ms 12).length := List.length_map _
  have ep : partsL l m = (ntF ms 12).filter fun x => !decide (led l x = led m x) := by unfold partsL; rw [hms]
  unfold partF at q
  rw [ep] at q
  generalize ntF ms 12 = ns at *
  refine ⟨pn, rfl, ⟨_, SqL.of hpn⟩, fun D hD => ?_⟩
  refine lc_dp (K := K) walk_list hD (by rw [hpl]; omega) (fun H' s' => SqL.of (s' _ _ hpn)) (fun j => ns[j]?.bind fun x => if (!decide (led l x = led m x)) = true then some (nD x) else none) ?_ ?_ ?_
  · intro j d e
    obtain ⟨x, _, e⟩ := Option.bind_eq_some_iff.mp e
    split at e
    · cases e
      rfl
    · cases e
  · rintro j x H' H'' A' B' hj s' ⟨rfl, hx⟩ hA hB
    rw [hpl] at hj
    rw [List.getElem?_map, List.getElem?_eq_getElem hj] at hx
    cases hx
    have hxl : ns[j] < 2 ^ 30000 := Nat.lt_of_lt_of_le (hlt _ (List.getElem_mem hj)) (Nat.pow_le_pow_right (by decide) (by decide))
    have en : ns[j]? = some ns[j] := List.getElem?_eq_getElem hj
    refine ⟨rfl, _, rfl, _, rfl, v, l, ns[j], rfl, same_dp s' hd5, hl, hxl, fun H6 s6 => ⟨_, rfl, _, rfl, u, m, ns[j], rfl, same_dp (s'.trans s6) he5, hm, hxl, fun H7 s7 => ⟨?_, _, rfl, ?_⟩⟩⟩
    · cases led l ns[j] <;> cases led m ns[j] <;> rfl
    · have ed : decide (optV (led l ns[j]) = optV (led m ns[j])) = decide (led l ns[j] = led m ns[j]) := by simp only [optV_inj]
      rw [ed]
      refine ite2 (fun hc => ?_) (fun hc => ?_)
      · exact ⟨_, rfl, hA _ (nD ns[j]) _ (by rw [en, Option.bind_some]; exact if_pos hc) (s6.trans s7) (.int _)⟩
      · exact hB (by rw [en, Option.bind_some]; exact if_neg hc) _ (s6.trans s7)
  intro H6 zs s6 hD6 hA6
  have eg : gath (fun j => ns[j]?.bind fun x => if (!decide (led l x = led m x)) = true then some (nD x) else none) ns.length = (ns.filter fun x => !decide (led l x = led m x)).map nD := gath_filtN ns fun x => !decide (led l x = led m x)
  rw [hpl, eg] at hA6
  have ez := dps_nats hA6
  subst ez
  generalize (ns.filter fun x => !decide (led l x = led m x)) = ps at *
  have s06 := s12.trans (s35.trans s6)
  refine ⟨_, rfl, Nat.zero_le _, fun e ne => ?_⟩
  have s7 := same_new (o := .lst []) ne
  refine ⟨ps.map nD, .lst (SqL.of (s7 _ _ hD6)) (same_dps s7 hA6), .lst (SqL.of upd_same) .nil, .map fun _ _ => .int, _, rfl, ?_⟩
  cases ps with
  | nil => exact iteF (q _ (s06.trans s7))
  | cons a ps =>
    refine iteT ⟨_, rfl, D, (a :: ps).map fun (x : Nat) => (x : Int), rfl, (by rw [List.map_map]; exact SqL.of (s7 _ _ hD6)), (by simp), fun mn hmn hle => ?_⟩
    obtain ⟨k, rfl, hk⟩ := min_int hmn hle
    rw [hk] at q
    exact q _ (s06.trans s7)
end
end Fr
namespace Fr
open PySem PySem.Spec PyProof.Rows L2 LamX
/-! ### what is never reached -/
theorem pe_never {X : Cx} {e : Expr} : PE X e (fun _ _ _ => False) := ⟨fun _ _ _ _ _ _ h => h.elim⟩
/-! ### isinstance: dict, list or tuple -/
theorem isK_dict : (["NoneType", "bool", "int", "str", "list", "tuple"].all fun t => (kitB t "dict").isSome) = true := by decide +kernel
theorem isD_dict {K : PySem.W.Frag} {H : Hp} {v : V} {d : PyData} (h : Dp K H v d) : isD "dict" d = false := by
  cases h <;> (simp only [isD, tyD]; decide +kernel)
theorem isDict {X : Cx} {K : PySem.W.Frag} (e : X.K = K) : CallR X (.builtin "isinstance") (rIs K "dict" fun _ => false) := by
  subst e
  exact call_is isK_dict isD_dict
def rIsLT (K : PySem.W.Frag) : List V → Hp → VK → Prop := fun xs H Q => ∃ (v : V) (tp : Addr) (d : PyData), xs = [v, .ref tp] ∧ H tp = some (.tup [.ty "list", .ty "tuple"]) ∧ Dp K H v d ∧ Q (.bl (isListD d || isTupleD d)) H
theorem isLT {X : Cx} {K : PySem.W.Frag} (e : X.K = K) : CallR X (.builtin "isinstance") (rIsLT K) := by
  subst e
  intro pins s σ H xs us Q I r h
  obtain ⟨v, tp, d, rfl, ht, hd, q⟩ := h
  have nd : ∀ z, d ≠ .dict z := fun z e => by rw [e] at hd; cases hd
  have k1 := kit_isD isK_list d nd
  have k2 := kit_isD isK_tuple d nd
  rw [isD_list hd] at k1
  rw [isD_tuple hd] at k2
  refine call_isiT pins s σ H _ us Q I r ⟨v, tp, _, _, [.type "list", .type "tuple"], isListD d || isTupleD d, rfl, ht, .cons (.ty _) (.cons (.ty _) .nil), ty_of hd, ?_, q⟩
  refine kitAny_cons (kit_ty k1) (fun h1 => kitAny_cons (kit_ty k2) (fun h2 => ?_) (fun h2 => by rw [h2, Bool.or_true])) (fun h1 => by rw [h1, Bool.true_or])
  rw [h1, h2]
  rfl
/-! ### new things -/
/-- what H' knows and H does not -/
noncomputable def New (H H' : Hp) : Hp := fun a => open Classical in if H a = none then H' a else none
theorem New.in {H H' : Hp} {a : Addr} (h : H a = none) : New H H' a = H' a := if_pos h
theorem New.out {H H' : Hp} {a : Addr} (h : H a ≠ none) : New H H' a = none := if_neg h
theorem New.some {H H' : Hp} {a : Addr} {o : HO} (h : New H H' a = some o) : H a = none ∧ H' a = some o := by
  by_cases ha : H a = none
  · rw [New.in ha] at h
    exact ⟨ha, h⟩
  · rw [New.out ha] at h
    cases h
theorem New.same (H H' : Hp) : Same (New H H') H' := fun a o h => (New.some h).2
/-- more of the same -/
theorem New.grow {H H1 H' H'' : Hp} (s : ∀ a, H1 a = none → H a = none) (t : Same H' H'') : Same (New H1 H') (New H H'') := fun a o h => by
  obtain ⟨h1, h2⟩ := New.some h
  rw [New.in (s a h1)]
  exact t a o h2
/-- what is put at a place that was there -/
theorem New.put {H H' : Hp} {a : Addr} {o : HO} (h : H a ≠ none) : Same (New H H') (New H (upd H' a o)) := fun b u e => by
  obtain ⟨h1, h2⟩ := New.some e
  rw [New.in h1, upd_ne fun z => h (by rw [← z]; exact h1)]
  exact h2
/-! ### how deep data is -/
mutual
def dep : PyData → Nat
  | .list ds => deps ds + 1
  | .tuple ds => deps ds + 1
  | _ => 0
def deps : List PyData → Nat
  | [] => 0
  | d :: ds => max (dep d) (deps ds)
end
theorem dep_mem {d : PyData} : ∀ {ds : List PyData}, d ∈ ds → dep d ≤ deps ds
  | [], h => (nomatch h)
  | e :: ds, h => by
    rw [deps]
    rcases List.mem_cons.mp h with rfl | h
    · exact Nat.le_max_left _ _
    · exact Nat.le_trans (dep_mem h) (Nat.le_max_right _ _)
mutual
/-- rows that are not too long -/
def wid : PyData → Bool
  | .list ds => decide (ds.length ≤ 1000) && wids ds
  | .tuple ds => decide (ds.length ≤ 1000) && wids ds
  | _ => true
def wids : List PyData → Bool
  | [] => true
  | d :: ds => wid d && wids ds
end
theorem wid_mem {d : PyData} : ∀ {ds : List PyData}, wids ds = true → d ∈ ds → wid d = true
  | [], _, h => (nomatch h)
  | e :: ds, hw, h => by
    have hw : (wid e && wids ds) = true := hw
    obtain ⟨h1, h2⟩ := Bool.and_eq_true_iff.mp hw
    rcases List.mem_cons.mp h with rfl | h
    · exact h1
    · exact wid_mem h2 h
end Fr
namespace Fr
open PySem PySem.Spec PyProof.Rows L2 LamX
section
variable {P : Program} {w : World} {K : PySem.W.Frag} {mg : Str → Option Value} {base : Heap}
/-! ### _law_copy -/
def spCopy (K : PySem.W.Frag) (n : Nat) : Sp := fun vs H Q _ => ∃ (v : V) (d : PyData), vs = [v] ∧ Dp K H v d ∧ dep d < n ∧ wid d = true ∧ ∀ v' H', Same H H' → Dp K (New H H') v' d → Q v' H'
theorem copy_step (T : Txt K mg) (n : Nat) (ih : Cal P w K mg base L2.CX0 n "_law_copy" ["thing"] (spCopy K n)) : Cal P w K mg base L2.CX0 (n + 1) "_law_copy" ["thing"] (spCopy K (n + 1)) := by
  refine Cal.mk0 T.d__law_copy T.m__law_copy sc__law_copy (fun _ _ _ _ _ _ us hl => match us, hl with | [_], _ => rfl) (fun vs H Q E h => ?_) (fun cdv A outer s H vs Q E hr h => ?_)
  · obtain ⟨v, d, rfl, _⟩ := h
    rfl
  obtain ⟨v, d, rfl, hd, hn, hw, q⟩ := h
  refine ⟨_, (pss_cons (ps_if (pt_val (pe_callB (isList rfl) (by rfl) T.b_isinstance boot_isinstance (pa_cons (pv 0) (pa_cons (pe_bltn (v := .ty "list") (by rfl) T.b_list boot_list rfl) pa_nil)))) (pss_one (ps_ret (pe_lc (own := [("one", 1)]) rfl sc__law_copy.nd (piL rfl (pv 0)) (blkOk_by (own := [("one", 1)]) (N := ["thing", "one", "name"]) (sc := defScope s__law_copy) (by decide +kernel)) (fun _ _ _ _ _ => (pg_name (i := 1) sc__law_copy.nd rfl (.inl rfl))) (fun _ _ _ _ _ => pts_nil) (fun _ _ _ _ _ => (pe_cal ih hr (by rfl) pass0 (pa_cons (pv 1) pa_nil)))))) pss_nil)
      (pss_cons (ps_if (pt_val (pe_callB (isTuple rfl) (by rfl) T.b_isinstance boot_isinstance (pa_cons (pv 0) (pa_cons (pe_bltn (v := .ty "tuple") (by rfl) T.b_tuple boot_tuple rfl) pa_nil)))) (pss_one (ps_ret (pe_callTy (tupleOf rfl) (by rfl) T.b_tuple boot_tuple (pa_cons (pe_lc (own := [("one", 1)]) rfl sc__law_copy.nd (piT rfl (pv 0)) (blkOk_by (own := [("one", 1)]) (N := ["thing", "one", "name"]) (sc := defScope s__law_copy) (by decide +kernel)) (fun _ _ _ _ _ => (pg_name (i := 1) sc__law_copy.nd rfl (.inl rfl))) (fun _ _ _ _ _ => pts_nil) (fun _ _ _ _ _ => (pe_cal ih hr (by rfl) pass0 (pa_cons (pv 1) pa_nil)))) pa_nil)))) pss_nil)
      (pss_cons (ps_if (pt_val (pe_callB (isDict rfl) (by rfl) T.b_isinstance boot_isinstance (pa_cons (pv 0) (pa_cons (pe_bltn (v := .ty "dict") (by rfl) T.b_dict boot_dict rfl) pa_nil)))) (pss_one (ps_ret pe_never)) pss_nil)
      (pss_one (ps_ret (pv 0)))))), ?_⟩
  -- the things of a row, one by one
  have step : ∀ (ds : List PyData) (D : Addr), H D = none → deps ds < n → wids ds = true → ∀ (i : Nat) (x : V) (H' : Hp) (R : V → Hp → Prop), Same H H' → (∃ ys, H' D = some (.lst ys) ∧ ys.length = i ∧ DpAll K (New (upd H D (.lst [])) H') ys (ds.take i)) → (∀ d, ds[i]? = some d → Dp K H' x d) → i < ds.length → i < 1000 →
      (∀ v' H4 ys, H4 D = some (.lst ys) → ys.length = i → Same H (upd H4 D (.lst (ys ++ [v']))) → DpAll K (New (upd H D (.lst [])) (upd H4 D (.lst (ys ++ [v'])))) (ys ++ [v']) (ds.take (i + 1)) → R v' H4) → spCopy K n [x] H' R E0 := by
    intro ds D hD hdp hwd i x H' R sm ⟨ys, hy, hyl, hys⟩ hx hi h1000 k
    have hdi : ds[i]? = some ds[i] := List.getElem?_eq_getElem hi
    refine ⟨x, ds[i], rfl, hx _ hdi, Nat.lt_of_le_of_lt (dep_mem (List.getElem_mem hi)) hdp, wid_mem hwd (List.getElem_mem hi), fun v' H4 s4 hv' => ?_⟩
    have hD2 : (upd H D (.lst [])) D ≠ none := by rw [upd_same]; simp
    have fr : ∀ b, H' b = none → (upd H D (.lst [])) b = none := fun b hb => by
      have hbD : b ≠ D := fun z => by rw [z, hy] at hb; cases hb
      rw [upd_ne hbD]
      exact sm.free hb
    refine k v' H4 ys (s4 _ _ hy) hyl (same_put (sm.trans s4) hD) ?_
    rw [List.take_add_one, hdi]
    exact dps_app (same_dps ((New.grow (fun _ z => z) s4).trans (New.put hD2)) hys) (.cons (same_dp ((New.grow fr (Same.refl H4)).trans (New.put hD2)) hv') .nil)
  have fr0 : ∀ D, ∀ b, (upd H D (.lst [])) b = none → H b = none := fun D b hb => by
    by_cases hbD : b = D
    · rw [hbD, upd_same] at hb
      cases hb
    · rw [upd_ne hbD] at hb
      exact hb
  refine ⟨_, rfl, _, _, rfl, hd, _, rfl, ?_⟩
  cases d with
  | list ds =>
    obtain ⟨a, xs, rfl, hs, hxs⟩ := dp_lst hd
    have hxl := dps_len hxs
    have hw : (decide (ds.length ≤ 1000) && wids ds) = true := hw
    obtain ⟨w1, w2⟩ := Bool.and_eq_true_iff.mp hw
    have w1 := of_decide_eq_true w1
    have hn : deps ds < n := by
      have : deps ds + 1 < n + 1 := by rw [dep] at hn; exact hn
      omega
    refine iteT ⟨_, rfl, a, rfl, ⟨_, hs⟩, fun D hD => ?_⟩
    refine lc_it walk_list (fun i H' => Same H H' ∧ ∃ ys, H' D = some (.lst ys) ∧ ys.length = i ∧ DpAll K (New (upd H D (.lst [])) H') ys (ds.take i)) ⟨same_new hD, [], upd_same, rfl, .nil⟩ (fun i H' _ p => p.1.seq hs) ?_ ?_
    · rintro i x H' H'' hi ⟨sm, hP⟩ ⟨rfl, hx⟩
      rw [hxl] at hi
      refine ⟨rfl, _, rfl, step ds D hD hn w2 i x H'' _ sm hP (fun d hd' => ?_) hi (by omega) fun v' H4 ys hy hyl s4 hys => ⟨ys, hy, ?_, s4, ys ++ [v'], upd_same, by rw [List.length_append, hyl]; rfl, hys⟩⟩
      · obtain ⟨d', e1, e2⟩ := dps_at2 (same_dps sm hxs) hx
        rw [hd'] at e1
        cases e1
        exact e2
      · rw [hyl]
        exact Nat.lt_of_lt_of_le (show i < 1000 by omega) (by decide)
    · rintro H' ⟨sm, ys, hy, hyl, hys⟩
      rw [hxl, List.take_length] at hys
      exact q _ H' sm (.lst (SqL.of (by rw [New.in hD]; exact hy)) (same_dps (New.grow (fr0 D) (Same.refl H')) hys))
  | tuple ds =>
    obtain ⟨a, xs, rfl, hs, hxs⟩ := dp_tup hd
    have hxl := dps_len hxs
    have hw : (decide (ds.length ≤ 1000) && wids ds) = true := hw
    obtain ⟨w1, w2⟩ := Bool.and_eq_true_iff.mp hw
    have w1 := of_decide_eq_true w1
    have hn : deps ds < n := by
      have : deps ds + 1 < n + 1 := by rw [dep] at hn; exact hn
      omega
    refine iteF ⟨_, rfl, _, _, rfl, hd, _, rfl, iteT ⟨_, rfl, a, rfl, ⟨_, hs⟩, fun D hD => ?_⟩⟩
    refine lc_it walk_tup (fun i H' => Same H H' ∧ ∃ ys, H' D = some (.lst ys) ∧ ys.length = i ∧ DpAll K (New (upd H D (.lst [])) H') ys (ds.take i)) ⟨same_new hD, [], upd_same, rfl, .nil⟩ (fun i H' _ p => same_tup p.1 hs) ?_ ?_
    · rintro i x H' H'' hi ⟨sm, hP⟩ ⟨rfl, hx⟩
      rw [hxl] at hi
      refine ⟨rfl, _, rfl, step ds D hD hn w2 i x H'' _ sm hP (fun d hd' => ?_) hi (by omega) fun v' H4 ys hy hyl s4 hys => ⟨ys, hy, ?_, s4, ys ++ [v'], upd_same, by rw [List.length_append, hyl]; rfl, hys⟩⟩
      · obtain ⟨d', e1, e2⟩ := dps_at2 (same_dps sm hxs) hx
        rw [hd'] at e1
        cases e1
        exact e2
      · rw [hyl]
        exact Nat.lt_of_lt_of_le (show i < 1000 by omega) (by decide)
    · rintro H' ⟨sm, ys, hy, hyl, hys⟩
      rw [hxl, List.take_length] at hys
      refine ⟨D, ys, rfl, .inl ⟨SqL.of hy, fun t nt => ?_⟩⟩
      have st := same_new (o := .tup ys) nt
      exact q _ _ (sm.trans st) (.tup (SqT.of (by rw [New.in (sm.free nt)]; exact upd_same)) (same_dps (New.grow (fr0 D) st) hys))
  | none => cases hd; exact iteF ⟨_, rfl, _, _, rfl, .non, _, rfl, iteF ⟨_, rfl, _, _, rfl, .non, _, rfl, iteF ⟨_, rfl, q _ H (Same.refl H) .non⟩⟩⟩
  | bool b => cases hd; exact iteF ⟨_, rfl, _, _, rfl, .bl b, _, rfl, iteF ⟨_, rfl, _, _, rfl, .bl b, _, rfl, iteF ⟨_, rfl, q _ H (Same.refl H) (.bl b)⟩⟩⟩
  | int b => cases hd; exact iteF ⟨_, rfl, _, _, rfl, .int b, _, rfl, iteF ⟨_, rfl, _, _, rfl, .int b, _, rfl, iteF ⟨_, rfl, q _ H (Same.refl H) (.int b)⟩⟩⟩
  | str b => cases hd; exact iteF ⟨_, rfl, _, _, rfl, .str b, _, rfl, iteF ⟨_, rfl, _, _, rfl, .str b, _, rfl, iteF ⟨_, rfl, q _ H (Same.refl H) (.str b)⟩⟩⟩
  | dict b => cases hd
theorem ok__law_copy (T : Txt K mg) : ∀ n, Cal P w K mg base L2.CX0 n "_law_copy" ["thing"] (spCopy K n)
  | 0 => by
    have no : ∀ vs H Q E, ¬ spCopy K 0 vs H Q E := fun vs H Q E ⟨v, d, _, _, h, _⟩ => absurd h (Nat.not_lt_zero _)
    exact ⟨⟨fun vs H Q E h => (no vs H Q E h).elim, fun A outer s H args us vs Q E _ _ _ _ h => (no vs H Q E h).elim⟩, T.m__law_copy, T.d__law_copy.kp, T.d__law_copy.bindsN (fun _ _ _ _ _ _ us hl => match us, hl with | [_], _ => rfl)⟩
  | n + 1 => copy_step T n (ok__law_copy T n)
end
end Fr
namespace Fr
open PySem PySem.Spec PyProof.Rows L2 LamX
theorem ps_never {X : Cx} {st : Stmt} : PS X st (fun _ _ _ => False) := ⟨fun _ _ _ _ _ _ h => h.elim⟩
theorem pi_or {X : Cx} {tg it : Expr} {w1 w2 : TI} (h1 : PI X tg it w1) (h2 : PI X tg it w2) : PI X tg it (fun σ H R => w1 σ H R ∨ w2 σ H R) :=
  ⟨fun pins s σ H R I h => h.elim (fun z => h1.run pins s σ H R I z) (fun z => h2.run pins s σ H R I z)⟩
section
variable {P : Program} {w : World} {K : PySem.W.Frag} {mg : Str → Option Value} {base : Heap}
/-! ### _law_spoil -/
def spSpoil (K : PySem.W.Frag) (n : Nat) : Sp := fun vs H Q _ => ∃ (v : V) (d : PyData), vs = [v] ∧ Dp K H v d ∧ dep d < n ∧ wid d = true ∧
  ((noL d = true ∧ ∀ H', Same H H' → Q .non H') ∨
   (∃ ds a xs, d = .list ds ∧ noLs ds = true ∧ v = .ref a ∧ H a = some (.lst xs) ∧ DpAll K H xs ds ∧ ∀ H', Same H H' → Q .non (upd H' a (.lst (xs ++ [.str "spoilt"])))) ∨
   (∃ ds e a xs b u, d = .tuple [.list ds, e] ∧ noLs ds = true ∧ noL e = true ∧ v = .ref b ∧ SqT K H b [.ref a, u] ∧ H a = some (.lst xs) ∧ DpAll K H xs ds ∧ Dp K H u e ∧ ∀ H1 H', Same H H1 → Same (upd H1 a (.lst (xs ++ [.str "spoilt"]))) H' → Q .non H'))
theorem spoil_step (T : Txt K mg) (n : Nat) (ih : Cal P w K mg base L2.CX0 n "_law_spoil" ["thing"] (spSpoil K n)) : Cal P w K mg base L2.CX0 (n + 1) "_law_spoil" ["thing"] (spSpoil K (n + 1)) := by
  refine Cal.mk0 T.d__law_spoil T.m__law_spoil sc__law_spoil (fun _ _ _ _ _ _ us hl => match us, hl with | [_], _ => rfl) (fun vs H Q E h => ?_) (fun cdv A outer s H vs Q E hr h => ?_)
  · obtain ⟨v, d, rfl, _⟩ := h
    rfl
  obtain ⟨v, d, rfl, hd, hn, hw, hc⟩ := h
  refine ⟨_, (C8.pss_cut (ps_if (pt_val (pe_callB (isLT rfl) (by rfl) T.b_isinstance boot_isinstance (pa_cons (pv 0) (pa_cons (pe_tup (pa_cons (pe_bltn (v := .ty "list") (by rfl) T.b_list boot_list rfl) (pa_cons (pe_bltn (v := .ty "tuple") (by rfl) T.b_tuple boot_tuple rfl) pa_nil))) pa_nil)))) (pss_one (ps_for PassesOwn.never rfl (pi_or (piL rfl (pv 0)) (piT rfl (pv 0))) (pg_name (i := 1) sc__law_spoil.nd rfl (.inl rfl)) (pss_one (ps_expr (pe_cal ih hr (by rfl) pass0 (pa_cons (pv 1) pa_nil)))))) pss_nil)
      (pss_cons (ps_if (pt_val (pe_callB (isList rfl) (by rfl) T.b_isinstance boot_isinstance (pa_cons (pv 0) (pa_cons (pe_bltn (v := .ty "list") (by rfl) T.b_list boot_list rfl) pa_nil)))) (pss_one (ps_expr (bm rfl PySem.F.plainAttrs_list PySem.F.slot_list_append PySem.F.type_list_append mt_append (pv 0) (pa_cons pe_str pa_nil)))) pss_nil)
      (pss_one (ps_if (pt_val (pe_callB (isDict rfl) (by rfl) T.b_isinstance boot_isinstance (pa_cons (pv 0) (pa_cons (pe_bltn (v := .ty "dict") (by rfl) T.b_dict boot_dict rfl) pa_nil)))) (pss_one ps_never) pss_nil)))), ?_⟩
  have mem : ∀ {ds : List PyData} {e : PyData}, noLs ds = true → e ∈ ds → noL e = true := by
    intro ds
    induction ds with
    | nil => intro e _ h; cases h
    | cons c ds ih2 =>
      intro e h he
      have h : (noL c && noLs ds) = true := h
      obtain ⟨h1, h2⟩ := Bool.and_eq_true_iff.mp h
      rcases List.mem_cons.mp he with rfl | he
      · exact h1
      · exact ih2 h2 he
  rcases hc with ⟨hno, q⟩ | ⟨ds, a, xs, rfl, hno, rfl, ha, hxs, q⟩ | ⟨ds, e, a, xs, b, u, rfl, hno, hne, rfl, hb, ha, hxs, hu, q⟩
  · -- no list at all
    refine ⟨fun σ H1 => ∃ y, σ = [some v, y] ∧ Same H H1, ?_, ?_⟩
    · refine ⟨_, rfl, (by show 2 ≤ sizeLine; decide), fun tp ntp => ?_⟩
      have s1 := same_new (o := .tup [.ty "list", .ty "tuple"]) ntp
      refine ⟨_, tp, d, rfl, upd_same, same_dp s1 hd, _, rfl, ?_⟩
      cases d with
      | list ds => simp [noL] at hno
      | tuple ds =>
        obtain ⟨b, xs, rfl, hs, hxs⟩ := dp_tup hd
        have hw : (decide (ds.length ≤ 1000) && wids ds) = true := hw
        obtain ⟨w1, w2⟩ := Bool.and_eq_true_iff.mp hw
        have hn : deps ds < n := by
          have : deps ds + 1 < n + 1 := by rw [dep] at hn; exact hn
          omega
        have hno : noLs ds = true := hno
        refine iteT (.inr ⟨_, rfl, b, rfl, ⟨_, same_tup s1 hs⟩, for_it walk_tup (fun i σ H2 => ∃ y, σ = [some (.ref b), y] ∧ Same H H2) ⟨_, rfl, s1⟩ (fun i σ H2 _ p => same_tup p.choose_spec.2 hs) ?_ (fun σ H2 h => h)⟩)
        rintro i x σ Ha H2 hi ⟨y, rfl, s2⟩ ⟨rfl, hx⟩
        obtain ⟨d', e1, e2⟩ := dps_at2 (same_dps s2 hxs) hx
        have hm := List.mem_of_getElem? e1
        exact ⟨_, rfl, x, d', rfl, e2, Nat.lt_of_le_of_lt (dep_mem hm) hn, wid_mem w2 hm, .inl ⟨mem hno hm, fun H3 s3 => ⟨_, rfl, s2.trans s3⟩⟩⟩
      | none => exact iteF ⟨_, rfl, s1⟩
      | bool b => exact iteF ⟨_, rfl, s1⟩
      | int b => exact iteF ⟨_, rfl, s1⟩
      | str b => exact iteF ⟨_, rfl, s1⟩
      | dict b => cases hd
    rintro σ H1 ⟨y, rfl, s1⟩
    have hd1 := same_dp s1 hd
    refine ⟨_, rfl, _, _, rfl, hd1, _, rfl, ?_⟩
    have hl : isListD d = false := by
      cases d with
      | list ds => simp [noL] at hno
      | _ => rfl
    rw [hl]
    exact iteF ⟨_, rfl, _, _, rfl, hd1, _, rfl, iteF (q H1 s1)⟩
  · -- a list
    have hw : (decide (ds.length ≤ 1000) && wids ds) = true := hw
    obtain ⟨w1, w2⟩ := Bool.and_eq_true_iff.mp hw
    have w1 := of_decide_eq_true w1
    have hn : deps ds < n := by
      have : deps ds + 1 < n + 1 := by rw [dep] at hn; exact hn
      omega
    refine ⟨fun σ H1 => ∃ y, σ = [some (.ref a), y] ∧ Same H H1, ?_, ?_⟩
    · refine ⟨_, rfl, (by show 2 ≤ sizeLine; decide), fun tp ntp => ?_⟩
      have s1 := same_new (o := .tup [.ty "list", .ty "tuple"]) ntp
      refine ⟨_, tp, _, rfl, upd_same, same_dp s1 hd, _, rfl, ?_⟩
      refine iteT (.inl ⟨_, rfl, a, rfl, ⟨_, SqL.of (s1 _ _ ha)⟩, for_it walk_list (fun i σ H2 => ∃ y, σ = [some (.ref a), y] ∧ Same H H2) ⟨_, rfl, s1⟩ (fun i σ H2 _ p => SqL.of (p.choose_spec.2 _ _ ha)) ?_ (fun σ H2 h => h)⟩)
      rintro i x σ Ha H2 hi ⟨y, rfl, s2⟩ ⟨rfl, hx⟩
      obtain ⟨d', e1, e2⟩ := dps_at2 (same_dps s2 hxs) hx
      have hm := List.mem_of_getElem? e1
      exact ⟨_, rfl, x, d', rfl, e2, Nat.lt_of_le_of_lt (dep_mem hm) hn, wid_mem w2 hm, .inl ⟨mem hno hm, fun H3 s3 => ⟨_, rfl, s2.trans s3⟩⟩⟩
    rintro σ H1 ⟨y, rfl, s1⟩
    have ha1 := s1 _ _ ha
    have hxl := dps_len hxs
    refine ⟨_, rfl, _, _, rfl, same_dp s1 hd, _, rfl, iteT ?_⟩
    refine ⟨_, rfl, .inl ⟨rfl, _, SqL.of ha1⟩, a, xs, _, rfl, rfl, ha1, Nat.lt_of_le_of_lt (show xs.length ≤ 1000 by omega) (by decide), ?_⟩
    refine ⟨_, rfl, _, .list (ds ++ [.str "spoilt"]), rfl, .lst (SqL.of upd_same) (dps_app (dps_upd ha1 hno (same_dps s1 hxs)) (.cons (.str _) .nil)), _, rfl, iteF (q H1 s1)⟩
  · -- a list in a pair
    have hw : (decide (2 ≤ 1000) && wids [.list ds, e]) = true := hw
    obtain ⟨_, w2⟩ := Bool.and_eq_true_iff.mp hw
    have hn : deps [.list ds, e] < n := by
      have : deps [.list ds, e] + 1 < n + 1 := by rw [dep] at hn; exact hn
      omega
    have tup : ∀ {H1 : Hp} {o : HO} {xs' : List V} {ys : List V} {c : Addr}, H1 c = some (.lst xs') → SqT K H1 b ys → SqT K (upd H1 c o) b ys := by
      intro H1 o xs' ys c hc h
      rcases h with (h | ⟨o', h⟩) | h
      · exact .inl (.inl ((upd_ne (ne_of h hc (by intro z; cases z))).trans h))
      · exact .inl (.inr ⟨o', (upd_ne (ne_of h hc (by intro z; cases z))).trans h⟩)
      · exact .inr h
    refine ⟨fun σ H1 => ∃ y, σ = [some (.ref b), y] ∧ ∃ H0, Same H H0 ∧ Same (upd H0 a (.lst (xs ++ [.str "spoilt"]))) H1, ?_, ?_⟩
    · refine ⟨_, rfl, (by show 2 ≤ sizeLine; decide), fun tp ntp => ?_⟩
      have s1 := same_new (o := .tup [.ty "list", .ty "tuple"]) ntp
      refine ⟨_, tp, _, rfl, upd_same, same_dp s1 hd, _, rfl, ?_⟩
      refine iteT (.inr ⟨_, rfl, b, rfl, ⟨_, same_tup s1 hb⟩, for_it (walk_tup (xs := [.ref a, u])) (fun i σ H2 => ∃ y, σ = [some (.ref b), y] ∧ ((i = 0 ∧ Same H H2) ∨ (0 < i ∧ ∃ H0, Same H H0 ∧ Same (upd H0 a (.lst (xs ++ [.str "spoilt"]))) H2))) ⟨_, rfl, .inl ⟨rfl, s1⟩⟩ ?_ ?_ ?_⟩)
      · rintro i σ H2 _ ⟨y, rfl, ⟨_, s2⟩ | ⟨_, H0, s0, s2⟩⟩
        · exact same_tup s2 hb
        · exact same_tup s2 (tup (s0 _ _ ha) (same_tup s0 hb))
      · rintro i x σ Ha H2 hi ⟨y, rfl, hP⟩ ⟨rfl, hx⟩
        have hi : i < 2 := hi
        match i, hi, hP with
        | 0, _, .inl ⟨_, s2⟩ =>
          cases hx
          have ha2 := s2 _ _ ha
          refine ⟨_, rfl, .ref a, .list ds, rfl, .lst (SqL.of ha2) (same_dps s2 hxs), Nat.lt_of_le_of_lt (dep_mem (by simp)) hn, wid_mem w2 (by simp), .inr (.inl ⟨ds, a, xs, rfl, hno, rfl, ha2, same_dps s2 hxs, fun H3 s3 => ⟨_, rfl, .inr ⟨Nat.succ_pos _, H3, s2.trans s3, Same.refl _⟩⟩⟩)⟩
        | 1, _, .inr ⟨_, H0, s0, s2⟩ =>
          cases hx
          refine ⟨_, rfl, u, e, rfl, same_dp s2 (dp_upd (s0 _ _ ha) hne (same_dp s0 hu)), Nat.lt_of_le_of_lt (dep_mem (by simp)) hn, wid_mem w2 (by simp), .inl ⟨hne, fun H3 s3 => ⟨_, rfl, .inr ⟨Nat.succ_pos _, H0, s0, s2.trans s3⟩⟩⟩⟩
      · rintro σ H2 ⟨y, rfl, ⟨h0, _⟩ | ⟨_, h⟩⟩
        · exact absurd h0 (Nat.succ_ne_zero _)
        · exact ⟨_, rfl, h⟩
    rintro σ H1 ⟨y, rfl, H0, s0, s1⟩
    have hd1 : Dp K H1 (.ref b) (.tuple [.list (ds ++ [.str "spoilt"]), e]) := .tup (same_tup s1 (tup (s0 _ _ ha) (same_tup s0 hb))) (.cons (same_dp s1 (.lst (SqL.of upd_same) (dps_app (dps_upd (s0 _ _ ha) hno (same_dps s0 hxs)) (.cons (.str _) .nil)))) (.cons (same_dp s1 (dp_upd (s0 _ _ ha) hne (same_dp s0 hu))) .nil))
    exact ⟨_, rfl, _, _, rfl, hd1, _, rfl, iteF ⟨_, rfl, _, _, rfl, hd1, _, rfl, iteF (q H0 H1 s0 s1)⟩⟩
theorem ok__law_spoil (T : Txt K mg) : ∀ n, Cal P w K mg base L2.CX0 n "_law_spoil" ["thing"] (spSpoil K n)
  | 0 => by
    have no : ∀ vs H Q E, ¬ spSpoil K 0 vs H Q E := fun vs H Q E ⟨v, d, _, _, h, _⟩ => absurd h (Nat.not_lt_zero _)
    exact ⟨⟨fun vs H Q E h => (no vs H Q E h).elim, fun A outer s H args us vs Q E _ _ _ _ h => (no vs H Q E h).elim⟩, T.m__law_spoil, T.d__law_spoil.kp, T.d__law_spoil.bindsN (fun _ _ _ _ _ _ us hl => match us, hl with | [_], _ => rfl)⟩
  | n + 1 => spoil_step T n (ok__law_spoil T n)
end
end Fr
namespace L2
open PySem PySem.Spec PyProof.Rows
theorem tuple_mul1 (l : Addr) (items : Array Value) (n : Nat) (dd : Option Addr) (sl : Array (Option Value)) (u : Tok) :
    Meets (Builtin.«tuple.__mul__» ⟨[.ref l, .int 1 u], []⟩) (fun _ R s => s.heap.get? l = some { cls := .type "tuple", dict := dd, data := .seq items n, slots := sl } ∧ R (.ok (.ret (Value.ref l))) s) :=
  .of_wp fun prog w A R s h => by
    obtain ⟨hp, g, d, tk, os⟩ := s
    obtain ⟨hl, h⟩ := h
    have f1 := AutoSeq1.idx_int
    wp_walk using wpAny_loadPart' hl
    repeat (first
      | (refine wpAny_ite_false (decide_eq_false (by decide)) ?_; wp_walk using wpAny_loadPart' hl)
      | (refine wpAny_ite_true (decide_eq_true (by simp)) ?_; wp_walk using wpAny_loadPart' hl))
    exact ⟨_, rfl, h⟩
theorem tuple_mul0 (l : Addr) (items : Array Value) (n : Nat) (dd : Option Addr) (sl : Array (Option Value)) (u : Tok) (hi : items.isEmpty = false) :
    Meets (Builtin.«tuple.__mul__» ⟨[.ref l, .int 0 u], []⟩) (fun _ R s => s.heap.get? l = some { cls := .type "tuple", dict := dd, data := .seq items n, slots := sl } ∧
      R (.ok (.ret (Value.ref s.heap.objs.size))) { s with heap := s.heap.push { cls := Value.type "tuple", data := Data.seq #[] }, toks := s.toks }) :=
  .of_wp fun prog w A R s h => by
    obtain ⟨hp, g, d, tk, os⟩ := s
    obtain ⟨hl, h⟩ := h
    have f1 := AutoSeq1.idx_int
    have c1 : (items.isEmpty || (0 : Int) == 1) = false := by rw [hi]; rfl
    wp_walk using wpAny_loadPart' hl
    repeat (first
      | (refine wpAny_ite_false (decide_eq_false (by rw [c1]; exact Bool.false_ne_true)) ?_; wp_walk using wpAny_loadPart' hl)
      | (refine wpAny_ite_false (decide_eq_false (by decide)) ?_; wp_walk using wpAny_loadPart' hl)
      | (refine wpAny_ite_true (decide_eq_true (by simp)) ?_; wp_walk using wpAny_loadPart' hl))
    exact ⟨_, rfl, h⟩
/-- t * 1 is t, t * 0 the empty one -/
def rRepB (K : PySem.W.Frag) : R2 := fun x y H Q => ∃ l xs, x = .ref l ∧ SqT K H l xs ∧ xs ≠ [] ∧ ((y = .int 1 ∧ Q (.ref l) H) ∨ (y = .int 0 ∧ ∀ p, H p = none → Q (.ref p) (upd H p (.tup []))))
theorem op_repB {X : Cx} : OpR X (binaryOp .Mult) (rRepB X.K) := by
  intro pins s σ H x y v u Q I rx ry h
  obtain ⟨l, xs, rfl, hT, hne, h⟩ := h
  cases rx
  obtain ⟨its, r, ⟨⟨cls, dd, data, sl⟩, ho, hc, n, hd⟩, hs⟩ := I.tuple hT
  simp only at hc hd
  subst hc hd
  have hle : its.length = xs.length := r.length.symm
  have hn : its ≠ [] := fun e => hne (by
    rw [e] at hle
    exact List.eq_nil_of_length_eq_zero hle.symm)
  have hi : its.toArray.isEmpty = false := by
    cases its with
    | nil => exact absurd rfl hn
    | cons a b => rfl
  rcases h with ⟨rfl, q⟩ | ⟨rfl, q⟩
  · obtain ⟨t, rfl⟩ := ry
    exact wpAny_binaryOp_repeat_ref (T := "tuple") (U := "int") (by decide) ⟨_, ho, rfl⟩ (fun s' => typeIs_int s' 1 t) noFill_tuple_mul F.fills_int_mul F.slot_int_rmul repeat_tuple F.slot_int_index.lookup
      (call_meets F.slot_int_rmul (typeIs_int s 1 t) F.entry_int_rmul (F.args_int_rmul_2 _ _) (int_rmul_tuple 1 t l its.toArray n dd sl)
        ⟨ho, rfl, ⟨_, ho, rfl⟩, call_meets F.slot_tuple_mul ⟨_, ho, rfl⟩ F.entry_tuple_mul (F.args_tuple_mul_2 _ _) (tuple_mul1 l its.toArray n dd sl t) ⟨ho, .ref l, H, I, rfl, q⟩⟩)
  · obtain ⟨t, rfl⟩ := ry
    refine wpAny_binaryOp_repeat_ref (T := "tuple") (U := "int") (by decide) ⟨_, ho, rfl⟩ (fun s' => typeIs_int s' 0 t) noFill_tuple_mul F.fills_int_mul F.slot_int_rmul repeat_tuple F.slot_int_index.lookup
      (call_meets F.slot_int_rmul (typeIs_int s 0 t) F.entry_int_rmul (F.args_int_rmul_2 _ _) (int_rmul_tuple 0 t l its.toArray n dd sl)
        ⟨ho, rfl, ⟨_, ho, rfl⟩, call_meets F.slot_tuple_mul ⟨_, ho, rfl⟩ F.entry_tuple_mul (F.args_tuple_mul_2 _ _) (tuple_mul0 l its.toArray n dd sl t hi) ⟨ho, ?_⟩⟩)
    refine ⟨.ref s.heap.objs.size, _, I.laid (t' := s.toks) (o := .tup []) (fun b ob q => Heap.get?_push_of_some _ q) (Nat.le_refl _) ?_, rfl, q _ (I.hok.fresh (Nat.le_refl _))⟩
    exact ⟨Nat.zero_le _, _, .nil, IsTup.new _ _⟩
end L2
namespace Fr
open PySem PySem.Spec PyProof.Rows L2
theorem repB {X : Cx} {K : PySem.W.Frag} (e : X.K = K) : OpR X (binaryOp .Mult) (rRepB K) := by
  subst e
  exact op_repB
end Fr
namespace Fr
open PySem PySem.Spec PyProof.Rows L2
section
variable {P : Program} {w : World} {K : PySem.W.Frag} {mg : Str → Option Value} {base : Heap}
/-! ### _law_machine -/
def spLawMach (K : PySem.W.Frag) : Sp := fun vs H Q _ => ∃ n : Nat, vs = [nI n] ∧ ∀ m : Mach, isMach m = true → ∀ x H', Same H H' → Dp K H' x (machD m) → Q x H'
theorem noL_ln (l : Ln) : noL (lnD l) = true := by
  cases l <;> simp [lnD, noL, noLs]
theorem noL_lns (m : List Ln) : noLs (m.map lnD) = true := noLs_of fun d hd => by
  obtain ⟨c, _, rfl⟩ := List.mem_map.mp hd
  exact noL_ln c
theorem ok__law_machine (T : Txt K mg) : Cal P w K mg base L2.CX0 2 "_law_machine" ["more"] (spLawMach K) := by
  have c__law_drawn := ok__law_drawn (P := P) (w := w) (base := base) T
  refine Cal.mk0 T.d__law_machine T.m__law_machine sc__law_machine (fun _ _ _ _ _ _ us hl => match us, hl with | [_], _ => rfl) (fun vs H Q E h => ?_) (fun cdv A outer s H vs Q E hr h => ?_)
  · obtain ⟨n, rfl, _⟩ := h
    rfl
  obtain ⟨n, rfl, q⟩ := h
  refine ⟨_, (pss_cons (ps_set (i := 1) sc__law_machine.nd rfl (.inl rfl) (pe_op opN_add pe_int (pe_op opN_mod (pv 0) pe_int)))
      (pss_cons (ps_set (i := 2) sc__law_machine.nd rfl (.inl rfl) (pe_lst pa_nil))
      (pss_cons (ps_for PassesOwn.never rfl (pi_range1 (by rfl) T.b_range (pa_cons (pv 1) pa_nil)) (pg_name (i := 3) sc__law_machine.nd rfl (.inl rfl)) (pss_cons (ps_set (i := 4) sc__law_machine.nd rfl (.inl rfl) (pe_cal c__law_drawn (hr.mono (by decide)) (by rfl) pass0 (pa_cons (pv 0) (pa_cons (pv 3) pa_nil))))
      (pss_cons (ps_par (i := 5) (j := 6) (by rfl) sc__law_machine.nd rfl rfl (by decide) rfl rfl (pa_cons (pe_op opN_mod (pe_op opN_div (pv 4) pe_int) (pv 1)) (pa_cons (pe_op opN_mod (pe_op opN_div (pv 4) pe_int) (pv 1)) pa_nil)) (by rfl))
      (pss_cons (ps_set (i := 7) sc__law_machine.nd rfl (.inl rfl) (pe_ix (ixL rfl) (pe_lst (pa_cons pe_str (pa_cons pe_str (pa_cons pe_str (pa_cons pe_str (pa_cons pe_str pa_nil)))))) (pe_op opN_mod (pv 4) pe_int) (fun _ _ => rfl)))
      (pss_one (ps_if (pt_cmpR op_eq (pv 7) pe_str (nomark _)) (pss_one (ps_expr (bm rfl PySem.F.plainAttrs_list PySem.F.slot_list_append PySem.F.type_list_append mt_append (pv 2) (pa_cons (pe_tup (pa_cons pe_str pa_nil)) pa_nil)))) (pss_one (ps_expr (bm rfl PySem.F.plainAttrs_list PySem.F.slot_list_append PySem.F.type_list_append mt_append (pv 2) (pa_cons (pe_op (catD rfl) (pe_tup (pa_cons (pv 7) (pa_cons (pe_op opN_mod (pe_op opN_div (pv 4) pe_int) pe_int) (pa_cons (pv 5) pa_nil)))) (pe_op (repB rfl) (pe_tup (pa_cons (pv 6) pa_nil)) (pe_callTy call_int1 (by rfl) T.b_int boot_int (pa_cons (pe_cmpR op_eq (pv 7) pe_str (nomark _)) pa_nil)))) pa_nil))))))))))
      (pss_one (ps_ret (pv 2)))))), ?_⟩
  have hn4 : n % 4 < 4 := Nat.mod_lt _ (by decide)
  refine ⟨_, rfl, n, 4, rfl, rfl, by omega, 1, n % 4, rfl, rfl, Nat.zero_le _, fun o no => ?_⟩
  refine ⟨_, rfl, ((1 + n % 4 : Nat) : Int), rfl, by omega, by omega, ?_⟩
  have e0 : ((1 + n % 4 : Nat) : Int).toNat = 1 + n % 4 := by omega
  rw [e0]
  generalize hL : 1 + n % 4 = L at *
  have hL1 : 1 ≤ L := by omega
  have hL4 : L ≤ 4 := by omega
  refine for_it walk_nats (fun i σ H3 => ∃ (ls : List Ln) (ys : List V) (y3 y4 y5 y6 y7 : Option V), σ = [some (nI n), some (nI L), some (.ref o), y3, y4, y5, y6, y7] ∧ Same H H3 ∧ H3 o = some (.lst ys) ∧ DpAll K H3 ys (ls.map lnD) ∧ ls.length = i ∧ ls.all (·.ok L) = true) ⟨[], [], none, none, none, none, none, (by rw [← hL]; rfl), same_new no, upd_same, .nil, rfl, rfl⟩ (fun _ _ _ _ _ => trivial) ?_ ?_
  · rintro i x σ H3 H4 hi ⟨ls, ys, y3, y4, y5, y6, y7, rfl, s3, ho, hys, hli, hok⟩ ⟨rfl, rfl⟩
    have hylen : ys.length = i := by rw [dps_len hys, List.length_map, hli]
    refine ⟨_, rfl, _, rfl, (n : Int), i, rfl, by omega, fun z _ => ?_⟩
    refine ⟨_, rfl, z, 64, rfl, rfl, ⟨by decide, by decide⟩, _, rfl, z / 64, L, rfl, rfl, by omega, _, rfl, z, 512, rfl, rfl, ⟨by decide, by decide⟩, _, rfl, z / 512, L, rfl, rfl, by omega, _, _, rfl, ?_⟩
    refine ⟨(by show 5 ≤ sizeLine; decide), fun pw npw => ?_⟩
    have sw := same_new (o := .lst [.str "add", .str "take", .str "take", .str "take", .str "end"]) npw
    have hw : SqL K (upd H4 pw (.lst [.str "add", .str "take", .str "take", .str "take", .str "end"])) pw [.str "add", .str "take", .str "take", .str "take", .str "end"] := SqL.of upd_same
    have ho1 := sw _ _ ho
    have hys1 := same_dps sw hys
    have s4 := s3.trans sw
    generalize upd H4 pw (.lst [.str "add", .str "take", .str "take", .str "take", .str "end"]) = H5 at *
    have hg : z / 64 % L < L := Nat.mod_lt _ (by omega)
    have hk : z / 512 % L < L := Nat.mod_lt _ (by omega)
    have hc : z / 8 % 3 < 3 := Nat.mod_lt _ (by decide)
    have h5 : z % 5 < 5 := Nat.mod_lt _ (by decide)
    -- what is put behind
    have put : ∀ (Hx : Hp) (l : Ln) (y : V), Same H5 Hx → l.ok L = true → Dp K Hx y (lnD l) → ∃ (ls : List Ln) (ys' : List V), Same H (upd Hx o (.lst (ys ++ [y]))) ∧ (upd Hx o (.lst (ys ++ [y]))) o = some (.lst ys') ∧ DpAll K (upd Hx o (.lst (ys ++ [y]))) ys' (ls.map lnD) ∧ ls.length = i + 1 ∧ ls.all (·.ok L) = true := by
      intro Hx l y sx hl hy
      refine ⟨ls ++ [l], _, same_put (s4.trans sx) no, upd_same, ?_, by simp [hli], by rw [List.all_append, hok]; simp [hl]⟩
      rw [List.map_append]
      exact app_dp (sx _ _ ho1) (same_dps sx hys1) (noL_lns ls) hy (noL_ln l)
    obtain ⟨wd, hwd, hget⟩ : ∃ wd : Str, (wd = "add" ∨ wd = "take" ∨ wd = "end") ∧ [V.str "add", .str "take", .str "take", .str "take", .str "end"][z % 5]? = some (.str wd) := by
      rcases (show z % 5 = 0 ∨ z % 5 = 1 ∨ z % 5 = 2 ∨ z % 5 = 3 ∨ z % 5 = 4 by omega) with e | e | e | e | e
      · exact ⟨"add", .inl rfl, by rw [e]; rfl⟩
      · exact ⟨"take", .inr (.inl rfl), by rw [e]; rfl⟩
      · exact ⟨"take", .inr (.inl rfl), by rw [e]; rfl⟩
      · exact ⟨"take", .inr (.inl rfl), by rw [e]; rfl⟩
      · exact ⟨"end", .inr (.inr rfl), by rw [e]; rfl⟩
    refine ⟨_, rfl, z, 5, rfl, rfl, by omega, pw, _, ((z % 5 : Nat) : Int), .str wd, rfl, rfl, hw, atIn hget, ?_⟩
    rcases hwd with rfl | rfl | rfl
    · refine ⟨_, rfl, rfl, _, rfl, iteF ?_⟩
      refine ⟨_, rfl, .inl ⟨rfl, _, SqL.of ho1⟩, _, rfl, _, rfl, z, 8, rfl, rfl, ⟨by decide, by decide⟩, z / 8, 3, rfl, rfl, by omega, _, rfl, (by show 3 ≤ sizeLine; decide), fun p1 np1 => ?_⟩
      have s1 := same_new (o := .tup [.str "add", nI (z / 8 % 3), nI (z / 64 % L)]) np1
      have hp1 : Dp K (upd H5 p1 (.tup [.str "add", nI (z / 8 % 3), nI (z / 64 % L)])) (.ref p1) (.tuple [.str "add", nD (z / 8 % 3), nD (z / 64 % L)]) := .tup (SqT.of upd_same) (.cons (.str _) (.cons (.int _) (.cons (.int _) .nil)))
      generalize upd H5 p1 (.tup [.str "add", nI (z / 8 % 3), nI (z / 64 % L)]) = H6 at *
      refine ⟨_, rfl, (by show 1 ≤ sizeLine; decide), fun p2 np2 => ?_⟩
      have s2 := same_new (o := .tup [nI (z / 512 % L)]) np2
      have hp2 : SqT K (upd H6 p2 (.tup [nI (z / 512 % L)])) p2 [nI (z / 512 % L)] := SqT.of upd_same
      generalize upd H6 p2 (.tup [nI (z / 512 % L)]) = H7 at *
      refine ⟨_, rfl, rfl, .inr ⟨_, rfl, ?_⟩⟩
      refine ⟨p2, _, rfl, hp2, by simp, .inr ⟨rfl, fun p3 np3 => ?_⟩⟩
      have s3' := same_new (o := .tup []) np3
      refine ⟨_, _, same_dp (s2.trans s3') hp1, .tup (SqT.of upd_same) .nil, by simp, fun v8 H8 s8 h8 => ?_⟩
      refine ⟨o, ys, _, rfl, rfl, (s1.trans (s2.trans (s3'.trans s8))) _ _ ho1, (by rw [hylen]; exact Nat.lt_of_lt_of_le (show i < 100 by omega) (by decide)), ?_⟩
      obtain ⟨ls', ys', a1, a2, a3, a4, a5⟩ := put _ (.add (z / 8 % 3) (z / 64 % L)) _ (s1.trans (s2.trans (s3'.trans s8))) (by simp [Ln.ok, hc, hg, hk]) h8
      exact ⟨ls', ys', _, _, _, _, _, rfl, a1, a2, a3, a4, a5⟩
    · refine ⟨_, rfl, rfl, _, rfl, iteF ?_⟩
      refine ⟨_, rfl, .inl ⟨rfl, _, SqL.of ho1⟩, _, rfl, _, rfl, z, 8, rfl, rfl, ⟨by decide, by decide⟩, z / 8, 3, rfl, rfl, by omega, _, rfl, (by show 3 ≤ sizeLine; decide), fun p1 np1 => ?_⟩
      have s1 := same_new (o := .tup [.str "take", nI (z / 8 % 3), nI (z / 64 % L)]) np1
      have hp1 : Dp K (upd H5 p1 (.tup [.str "take", nI (z / 8 % 3), nI (z / 64 % L)])) (.ref p1) (.tuple [.str "take", nD (z / 8 % 3), nD (z / 64 % L)]) := .tup (SqT.of upd_same) (.cons (.str _) (.cons (.int _) (.cons (.int _) .nil)))
      generalize upd H5 p1 (.tup [.str "take", nI (z / 8 % 3), nI (z / 64 % L)]) = H6 at *
      refine ⟨_, rfl, (by show 1 ≤ sizeLine; decide), fun p2 np2 => ?_⟩
      have s2 := same_new (o := .tup [nI (z / 512 % L)]) np2
      have hp2 : SqT K (upd H6 p2 (.tup [nI (z / 512 % L)])) p2 [nI (z / 512 % L)] := SqT.of upd_same
      generalize upd H6 p2 (.tup [nI (z / 512 % L)]) = H7 at *
      refine ⟨_, rfl, rfl, .inr ⟨_, rfl, ?_⟩⟩
      refine ⟨p2, _, rfl, hp2, by simp, .inl ⟨rfl, ?_⟩⟩
      refine ⟨_, _, same_dp s2 hp1, .tup hp2 (.cons (.int _) .nil), by simp, fun v8 H8 s8 h8 => ?_⟩
      refine ⟨o, ys, _, rfl, rfl, (s1.trans (s2.trans s8)) _ _ ho1, (by rw [hylen]; exact Nat.lt_of_lt_of_le (show i < 100 by omega) (by decide)), ?_⟩
      obtain ⟨ls', ys', a1, a2, a3, a4, a5⟩ := put _ (.take (z / 8 % 3) (z / 64 % L) (z / 512 % L)) _ (s1.trans (s2.trans s8)) (by simp [Ln.ok, hc, hg, hk]) h8
      exact ⟨ls', ys', _, _, _, _, _, rfl, a1, a2, a3, a4, a5⟩
    · refine ⟨_, rfl, rfl, _, rfl, iteT ?_⟩
      refine ⟨_, rfl, .inl ⟨rfl, _, SqL.of ho1⟩, (by show 1 ≤ sizeLine; decide), fun p1 np1 => ?_⟩
      have s1 := same_new (o := .tup [.str "end"]) np1
      refine ⟨o, ys, _, rfl, rfl, s1 _ _ ho1, (by rw [hylen]; exact Nat.lt_of_lt_of_le (show i < 100 by omega) (by decide)), ?_⟩
      obtain ⟨ls', ys', a1, a2, a3, a4, a5⟩ := put _ .fin (.ref p1) s1 rfl (.tup (SqT.of upd_same) (.cons (.str _) .nil))
      exact ⟨ls', ys', _, _, _, _, _, rfl, a1, a2, a3, a4, a5⟩
  · rintro σ H3 ⟨ls, ys, y3, y4, y5, y6, y7, rfl, s3, ho, hys, hli, hok⟩
    refine ⟨_, rfl, q ls ?_ _ H3 s3 (.lst (SqL.of ho) hys)⟩
    unfold isMach
    rw [hli, decide_eq_true hL1, decide_eq_true hL4, hok]
    rfl
end
end Fr
namespace Fr
/-! ### a run as a sequence -/
def seqX (l : Prog) (n : Nat) : Nat → Nat
  | 0 => n
  | s + 1 => (led l (seqX l n s)).getD 1
theorem seqX_next {l : Prog} {n y : Nat} (h : led l n = some y) : ∀ s, seqX l n (s + 1) = seqX l y s
  | 0 => by show (led l n).getD 1 = y; rw [h]; rfl
  | s + 1 => by
    show (led l (seqX l n (s + 1))).getD 1 = (led l (seqX l y s)).getD 1
    rw [seqX_next h s]
theorem run_seq {l : Prog} : ∀ (m n : Nat) (r : List Nat), runF l m n = some r → ∀ s, s < r.length → r[s]? = some (seqX l n s) := by
  intro m
  induction m with
  | zero =>
    intro n r h s hs
    cases h
    have : s = 0 := by simpa using hs
    subst this
    rfl
  | succ m ih =>
    intro n r h s hs
    unfold runF at h
    cases e : led l n with
    | none =>
      rw [e] at h
      cases h
      have : s = 0 := by simpa using hs
      subst this
      rfl
    | some y =>
      rw [e] at h
      dsimp only at h
      split at h
      · cases h
      · obtain ⟨r', h', rfl⟩ := Option.map_eq_some_iff.mp h
        cases s with
        | zero => rfl
        | succ s =>
          rw [seqX_next e]
          exact ih y r' h' s (by simpa using hs)
theorem seq_good {l : Prog} {n : Nat} (hP : isProg l = true) (hn : 0 < n) (hl : left n = 1) : ∀ s, 0 < seqX l n s ∧ left (seqX l n s) = 1
  | 0 => ⟨hn, hl⟩
  | s + 1 => by
    obtain ⟨a, b⟩ := seq_good hP hn hl s
    show 0 < (led l (seqX l n s)).getD 1 ∧ left ((led l (seqX l n s)).getD 1) = 1
    cases e : led l (seqX l n s) with
    | none => exact ⟨by decide, left_1⟩
    | some y => exact led_left hP a b e
theorem led_first {l : Prog} {x i : Nat} (h : firstAt l x = some i) : led l x = some (x / unAt l i * upAt l i) := by
  unfold led
  rw [h]
  rfl
/-- rooms behind a step -/
theorem rm_step {l : Prog} {x i : Nat} (hP : isProg l = true) (hx : 0 < x) (h : firstAt l x = some i) (c : Nat) : rm (x / unAt l i * upAt l i) c = rm x c - rm (unAt l i) c + rm (upAt l i) c := by
  obtain ⟨hi, h0, _⟩ := firstAt_is h
  have F := frac1 hP hi
  rw [← unAt_eq hi] at h0
  have hq : 0 < x / unAt l i := Nat.div_pos (Nat.le_of_dvd hx (Nat.dvd_of_mod_eq_zero h0)) F.u0
  rw [rm_mul hq F.v0, div_rm F.u0 hx h0]
theorem first_of {l : Prog} {x y i : Nat} (hP : isProg l = true) (hx : 0 < x) (hlx : left x = 1) (hy : 0 < y) (hly : left y = 1) (h : firstAt l x = some i) (hup : ∀ c, c < 12 → rm x c ≤ rm y c) (hno : ∀ p ∈ l.take i, ∃ c, c < 12 ∧ rm y c < rm p.2 c) : firstAt l y = some i := by
  obtain ⟨hi, h0, _⟩ := firstAt_is h
  have hfr : ∀ p ∈ l, 0 < p.2 ∧ left p.2 = 1 := fun p hp => by
    have := isNum_iff.mp (isFrac_iff.mp ((isProg_iff.mp hP).2 p hp)).2.1
    exact ⟨this.1, this.2.1⟩
  have hf := hfr _ (List.getElem_mem hi)
  refine firstAt_some hi ?_ fun j hj hji => ?_
  · rw [dvd_rm hf.1 hy hf.2 hly]
    intro r hr
    exact Nat.le_trans ((dvd_rm hf.1 hx hf.2 hlx).mp h0 r hr) (hup r hr)
  · obtain ⟨c, hc, hlt⟩ := hno l[j] (by
      rw [List.mem_iff_getElem?]
      exact ⟨j, by rw [List.getElem?_take_of_lt hji, List.getElem?_eq_getElem hj]⟩)
    have hg := hfr _ (List.getElem_mem hj)
    intro z
    have := (dvd_rm hg.1 hy hg.2 hly).mp z c hc
    omega
theorem lacks_iff {a b x u : Nat} : lacks a b x u = true ↔ ∃ c, c < 12 ∧ rm x c < rm u c ∧ rm b c = rm a c := by
  unfold lacks
  rw [List.any_eq_true]
  constructor
  · rintro ⟨c, hc, h⟩
    rw [Bool.and_eq_true] at h
    exact ⟨c, List.mem_range.mp hc, of_decide_eq_true h.1, of_decide_eq_true h.2⟩
  · rintro ⟨c, hc, h1, h2⟩
    exact ⟨c, List.mem_range.mpr hc, by rw [decide_eq_true h1, decide_eq_true h2]; rfl⟩
theorem grows_iff {x y : Nat} : grows x y = true ↔ ∀ c, c < 12 → rm x c ≤ rm y c := by
  unfold grows
  rw [List.all_eq_true]
  exact ⟨fun h c hc => of_decide_eq_true (h c (List.mem_range.mpr hc)), fun h c hc => decide_eq_true (h c (List.mem_range.mp hc))⟩
/-- what goes on, goes on for ever -/
theorem on_and_on {l : Prog} {n f t : Nat} (hP : isProg l = true) (hn : 0 < n) (hl : left n = 1) (hft : f < t) (hfit : ∀ s, s < t → firstAt l (seqX l n s) ≠ none) (hg : ∀ c, c < 12 → rm (seqX l n f) c ≤ rm (seqX l n t) c)
    (hh : ∀ s, f ≤ s → s < t → holds l (seqX l n f) (seqX l n t) (seqX l n s) = true) : ∀ s, f ≤ s → firstAt l (seqX l n s) ≠ none ∧ holds l (seqX l n f) (seqX l n t) (seqX l n s) = true ∧ (∀ c, c < 12 → rm (seqX l n (s + (t - f))) c = rm (seqX l n s) c + (rm (seqX l n t) c - rm (seqX l n f) c)) := by
  have stepA : ∀ s, firstAt l (seqX l n s) ≠ none → holds l (seqX l n f) (seqX l n t) (seqX l n s) = true → (∀ c, c < 12 → rm (seqX l n (s + (t - f))) c = rm (seqX l n s) c + (rm (seqX l n t) c - rm (seqX l n f) c)) →
      firstAt l (seqX l n (s + (t - f))) = firstAt l (seqX l n s) ∧ (∀ c, c < 12 → rm (seqX l n (s + 1 + (t - f))) c = rm (seqX l n (s + 1)) c + (rm (seqX l n t) c - rm (seqX l n f) c)) ∧ holds l (seqX l n f) (seqX l n t) (seqX l n (s + (t - f))) = true := by
    intro s h1 h2 h3
    obtain ⟨i, hi⟩ := Option.ne_none_iff_exists'.mp h1
    obtain ⟨ga, gb⟩ := seq_good hP hn hl s
    obtain ⟨gc, gd⟩ := seq_good hP hn hl (s + (t - f))
    have hold : ∀ p ∈ l.take i, ∃ c, c < 12 ∧ rm (seqX l n s) c < rm p.2 c ∧ rm (seqX l n t) c = rm (seqX l n f) c := by
      intro p hp
      unfold holds at h2
      rw [hi, List.all_eq_true] at h2
      exact lacks_iff.mp (h2 p hp)
    have hfi : firstAt l (seqX l n (s + (t - f))) = some i := by
      refine first_of hP ga gb gc gd hi (fun c hc => by rw [h3 c hc]; omega) fun p hp => ?_
      obtain ⟨c, hc, hlt, he⟩ := hold p hp
      exact ⟨c, hc, by rw [h3 c hc]; omega⟩
    refine ⟨by rw [hfi, hi], fun c hc => ?_, ?_⟩
    · have e1 : s + 1 + (t - f) = (s + (t - f)) + 1 := by omega
      rw [e1]
      show rm ((led l (seqX l n (s + (t - f)))).getD 1) c = rm ((led l (seqX l n s)).getD 1) c + _
      rw [led_first hfi, led_first hi]
      show rm (seqX l n (s + (t - f)) / unAt l i * upAt l i) c = rm (seqX l n s / unAt l i * upAt l i) c + _
      rw [rm_step hP gc hfi, rm_step hP ga hi, h3 c hc]
      obtain ⟨hlt, h0, _⟩ := firstAt_is hi
      have F := frac1 hP hlt
      rw [← unAt_eq hlt] at h0
      have := (dvd_rm F.u0 ga F.lu gb).mp h0 c hc
      omega
    · unfold holds
      rw [hfi, List.all_eq_true]
      intro p hp
      obtain ⟨c, hc, hlt, he⟩ := hold p hp
      exact lacks_iff.mpr ⟨c, hc, by rw [h3 c hc]; omega, he⟩
  intro s
  induction s using Nat.strongRecOn with
  | ind s ih =>
    intro hs
    have hrel : ∀ c, c < 12 → rm (seqX l n (s + (t - f))) c = rm (seqX l n s) c + (rm (seqX l n t) c - rm (seqX l n f) c) := by
      rcases Nat.eq_or_lt_of_le hs with e | e
      · subst e
        intro c hc
        have e1 : f + (t - f) = t := by omega
        rw [e1]
        have := hg c hc
        omega
      · obtain ⟨a, b, c⟩ := ih (s - 1) (by omega) (by omega)
        have := (stepA (s - 1) a b c).2.1
        have e1 : s - 1 + 1 = s := by omega
        rw [e1] at this
        exact this
    rcases Nat.lt_or_ge s t with z | z
    · exact ⟨hfit s z, hh s hs z, hrel⟩
    · obtain ⟨a, b, c⟩ := ih (s - (t - f)) (by omega) (by omega)
      obtain ⟨d, _, e⟩ := stepA _ a b c
      have e1 : s - (t - f) + (t - f) = s := by omega
      rw [e1] at d e
      exact ⟨by rw [d]; exact a, e, hrel⟩
theorem on_same {l : Prog} {n f t : Nat} (hP : isProg l = true) (hn : 0 < n) (hl : left n = 1) (hft : f < t) (hfit : ∀ s, s < t → firstAt l (seqX l n s) ≠ none) (hg : ∀ c, c < 12 → rm (seqX l n f) c ≤ rm (seqX l n t) c)
    (hh : ∀ s, f ≤ s → s < t → holds l (seqX l n f) (seqX l n t) (seqX l n s) = true) (s : Nat) (hs : f ≤ s) : firstAt l (seqX l n (s + (t - f))) = firstAt l (seqX l n s) := by
  obtain ⟨h1, h2, h3⟩ := on_and_on hP hn hl hft hfit hg hh s hs
  obtain ⟨i, hi⟩ := Option.ne_none_iff_exists'.mp h1
  obtain ⟨ga, gb⟩ := seq_good hP hn hl s
  obtain ⟨gc, gd⟩ := seq_good hP hn hl (s + (t - f))
  rw [hi]
  refine first_of hP ga gb gc gd hi (fun c hc => by rw [h3 c hc]; omega) fun p hp => ?_
  unfold holds at h2
  rw [hi, List.all_eq_true] at h2
  obtain ⟨c, hc, hlt, he⟩ := lacks_iff.mp (h2 p hp)
  exact ⟨c, hc, by rw [h3 c hc]; omega⟩
/-! ### how rooms grow -/
theorem seq_grow {l : Prog} {n b : Nat} (hP : isProg l = true) (hn : 0 < n) (hl : left n = 1) (ht : ∀ p ∈ l, ∀ c, rm p.1 c ≤ 2) (hb : ∀ c, rm n c ≤ b) : ∀ s c, rm (seqX l n s) c ≤ b + 2 * s
  | 0, c => hb c
  | s + 1, c => by
    have ih := seq_grow hP hn hl ht hb s c
    show rm ((led l (seqX l n s)).getD 1) c ≤ _
    cases e : firstAt l (seqX l n s) with
    | none =>
      have e2 : led l (seqX l n s) = none := by unfold led; rw [e]; rfl
      rw [e2]
      show rm 1 c ≤ _
      rw [rm_one]
      omega
    | some i =>
      rw [led_first e]
      show rm (seqX l n s / unAt l i * upAt l i) c ≤ _
      rw [rm_step hP (seq_good hP hn hl s).1 e]
      have hi := firstAt_lt e
      have := ht _ (List.getElem_mem hi) c
      rw [← upAt_eq hi] at this
      omega
theorem run_some {l : Prog} : ∀ (m n : Nat), (∀ s, s ≤ m → ¬ 400 < maxN (rooms (seqX l n s))) → ∃ r, runF l m n = some r := by
  intro m
  induction m with
  | zero => intro n _; exact ⟨_, rfl⟩
  | succ m ih =>
    intro n h
    unfold runF
    cases e : led l n with
    | none => exact ⟨_, rfl⟩
    | some y =>
      have h1 := h 1 (by omega)
      rw [show seqX l n 1 = y by show (led l n).getD 1 = y; rw [e]; rfl] at h1
      dsimp only
      rw [if_neg h1]
      obtain ⟨r, hr⟩ := ih y fun s hs => by
        have := h (s + 1) (by omega)
        rw [seqX_next e] at this
        exact this
      exact ⟨n :: r, by rw [hr]; rfl⟩
/-! ### parts of a run -/
theorem run_part {l : Prog} : ∀ (m n : Nat) (r : List Nat) (t : Nat), runF l m n = some r → t < r.length → runF l t n = some (r.take (t + 1)) := by
  intro m
  induction m with
  | zero =>
    intro n r t h ht
    cases h
    have : t = 0 := by simpa using ht
    subst this
    rfl
  | succ m ih =>
    intro n r t h ht
    unfold runF at h
    cases e : led l n with
    | none =>
      rw [e] at h
      cases h
      have : t = 0 := by simpa using ht
      subst this
      rfl
    | some y =>
      rw [e] at h
      dsimp only at h
      split at h
      · cases h
      · rename_i hg
        obtain ⟨r', h', rfl⟩ := Option.map_eq_some_iff.mp h
        cases t with
        | zero => rfl
        | succ t =>
          have := ih y r' t h' (by simpa using ht)
          unfold runF
          rw [e]
          dsimp only
          rw [if_neg hg, this]
          rfl
theorem run_ended {l : Prog} : ∀ (m n : Nat) (r : List Nat) (m' : Nat), runF l m n = some r → r.length ≤ m → r.length ≤ m' → runF l m' n = some r := by
  intro m
  induction m with
  | zero =>
    intro n r m' h hr _
    cases h
    simp at hr
  | succ m ih =>
    intro n r m' h hr hm'
    unfold runF at h
    cases e : led l n with
    | none =>
      rw [e] at h
      cases h
      cases m' with
      | zero => rfl
      | succ m' => unfold runF; rw [e]
    | some y =>
      rw [e] at h
      dsimp only at h
      split at h
      · cases h
      · rename_i hg
        obtain ⟨r', h', rfl⟩ := Option.map_eq_some_iff.mp h
        have h1 : r'.length + 1 ≤ m + 1 := by simpa using hr
        have h2 : r'.length + 1 ≤ m' := by simpa using hm'
        obtain ⟨m2, rfl⟩ : ∃ m2, m' = m2 + 1 := ⟨m' - 1, by omega⟩
        have := ih y r' m2 h' (by omega) (by omega)
        unfold runF
        rw [e]
        dsimp only
        rw [if_neg hg, this]
        rfl
theorem goes_part {l : Prog} {r : List Nat} {f t : Nat} (hft : f < t) (ht : t < r.length) : goesOn l (r.take (t + 1)) f t = goesOn l r f t := by
  unfold goesOn
  have e1 : (r.take (t + 1)).getD f 1 = r.getD f 1 := by rw [List.getD_eq_getElem?_getD, List.getD_eq_getElem?_getD, List.getElem?_take_of_lt (by omega)]
  have e2 : (r.take (t + 1)).getD t 1 = r.getD t 1 := by rw [List.getD_eq_getElem?_getD, List.getD_eq_getElem?_getD, List.getElem?_take_of_lt (by omega)]
  rw [e1, e2, List.take_take, Nat.min_eq_left (by omega)]
/-! ### places -/
theorem run_full {l : Prog} : ∀ (m n : Nat) (r : List Nat), runF l m n = some r → (∀ s, s < m → firstAt l (seqX l n s) ≠ none) → r.length = m + 1 := by
  intro m
  induction m with
  | zero =>
    intro n r h _
    cases h
    rfl
  | succ m ih =>
    intro n r h hf
    unfold runF at h
    obtain ⟨i, hi⟩ := Option.ne_none_iff_exists'.mp (hf 0 (by omega))
    have hi : firstAt l n = some i := hi
    have e := led_first hi
    rw [e] at h
    dsimp only at h
    split at h
    · cases h
    · obtain ⟨r', h', rfl⟩ := Option.map_eq_some_iff.mp h
      have := ih _ r' h' fun s hs => by
        have := hf (s + 1) (by omega)
        rw [seqX_next e] at this
        exact this
      simp [this]
end Fr
namespace Fr
/-! ### orders of the rooms -/
structure IsOrder (o : List Nat) : Prop where
  len : o.length = 12
  nod : o.Nodup
  lt : ∀ x ∈ o, x < 12
theorem IsOrder.all {o : List Nat} (h : IsOrder o) {r : Nat} (hr : r < 12) : r ∈ o := by
  by_cases z : r ∈ o
  · exact z
  · have := len_sub (l := r :: o) (m := List.range 12) (List.nodup_cons.mpr ⟨z, h.nod⟩) fun x hx => by
      rcases List.mem_cons.mp hx with rfl | hx
      · exact List.mem_range.mpr hr
      · exact List.mem_range.mpr (h.lt x hx)
    rw [List.length_cons, h.len, List.length_range] at this
    omega
def oAt (o : List Nat) (i : Nat) : Nat := o.getD i 0
theorem oAt_get {o : List Nat} {i : Nat} (h : i < o.length) : o[i]? = some (oAt o i) := by
  unfold oAt
  rw [List.getD_eq_getElem?_getD, List.getElem?_eq_getElem h]
  rfl
theorem IsOrder.at_lt {o : List Nat} (h : IsOrder o) {i : Nat} (hi : i < 12) : oAt o i < 12 := h.lt _ (List.mem_of_getElem? (oAt_get (by rw [h.len]; exact hi)))
theorem IsOrder.inj {o : List Nat} (h : IsOrder o) {i j : Nat} (hi : i < 12) (hj : j < 12) (e : oAt o i = oAt o j) : i = j := by
  have h1 := oAt_get (o := o) (i := i) (by rw [h.len]; exact hi)
  have h2 := oAt_get (o := o) (i := j) (by rw [h.len]; exact hj)
  rw [← e] at h2
  have e1 := (List.getElem?_eq_some_iff.mp h1).2
  have e2 := (List.getElem?_eq_some_iff.mp h2).2
  have hp := List.pairwise_iff_getElem.mp h.nod
  rcases Nat.lt_trichotomy i j with z | z | z
  · exact absurd (e1.trans e2.symm) (hp i j (by rw [h.len]; exact hi) (by rw [h.len]; exact hj) z)
  · exact z
  · exact absurd (e2.trans e1.symm) (hp j i (by rw [h.len]; exact hj) (by rw [h.len]; exact hi) z)
theorem IsOrder.sur {o : List Nat} (h : IsOrder o) {r : Nat} (hr : r < 12) : ∃ i, i < 12 ∧ oAt o i = r := by
  obtain ⟨i, hi, e⟩ := List.mem_iff_getElem.mp (h.all hr)
  refine ⟨i, by rw [← h.len]; exact hi, ?_⟩
  have := oAt_get hi
  rw [List.getElem?_eq_getElem hi, e] at this
  exact (Option.some.inj this).symm
/-- rooms moved, as far as k -/
def movT (o as : List Nat) : Nat → List Nat
  | 0 => List.replicate 12 0
  | k + 1 => (movT o as k).set (oAt o k) (as.getD k 0)
theorem movT_len (o as : List Nat) : ∀ k, (movT o as k).length = 12
  | 0 => by simp [movT]
  | k + 1 => by show ((movT o as k).set _ _).length = 12; rw [List.length_set]; exact movT_len o as k
theorem movT_at {o as : List Nat} (h : IsOrder o) : ∀ k, k ≤ 12 → ∀ i, i < 12 → (movT o as k)[oAt o i]? = some (if i < k then as.getD i 0 else 0) := by
  intro k
  induction k with
  | zero =>
    intro _ i hi
    show (List.replicate 12 0)[oAt o i]? = _
    rw [List.getElem?_replicate, if_pos (h.at_lt hi), if_neg (by omega)]
  | succ k ih =>
    intro hk i hi
    show ((movT o as k).set (oAt o k) (as.getD k 0))[oAt o i]? = _
    by_cases e : i = k
    · subst e
      rw [List.getElem?_set_self (by rw [movT_len]; exact h.at_lt hi), if_pos (by omega)]
    · rw [List.getElem?_set_ne (fun z => e (h.inj hi (by omega) z.symm)), ih (by omega) i hi]
      by_cases z : i < k
      · rw [if_pos z, if_pos (by omega)]
      · rw [if_neg z, if_neg (by omega)]
theorem sum_put : ∀ {as : List Nat} {i v : Nat}, as[i]? = some 0 → (as.set i v).sum = as.sum + v
  | [], i, v, h => by simp at h
  | a :: as, 0, v, h => by
    have : a = 0 := by simpa using h
    subst this
    show v + as.sum = 0 + as.sum + v
    omega
  | a :: as, i + 1, v, h => by
    show a + (as.set i v).sum = a + as.sum + v
    rw [sum_put (i := i) (by simpa using h)]
    omega
theorem movT_sum {o as : List Nat} (h : IsOrder o) (hl : as.length = 12) : ∀ k, k ≤ 12 → (movT o as k).sum = (as.take k).sum := by
  intro k
  induction k with
  | zero => intro _; show (List.replicate 12 0).sum = _; simp
  | succ k ih =>
    intro hk
    have h1 := movT_at (as := as) h k (by omega) k (by omega)
    rw [if_neg (by omega)] at h1
    show ((movT o as k).set (oAt o k) (as.getD k 0)).sum = _
    rw [sum_put h1, ih (by omega)]
    have h2 : as[k]? = some (as.getD k 0) := by rw [List.getD_eq_getElem?_getD, List.getElem?_eq_getElem (by omega)]; rfl
    rw [take_at h2, List.sum_append]
    simp
def mov (o as : List Nat) : List Nat := movT o as 12
/-- the number with its rooms moved -/
@[irreducible] def mapN (o : List Nat) (n : Nat) : Nat := make (mov o (rooms n))
theorem mapN_def (o : List Nat) (n : Nat) : mapN o n = make (mov o (rooms n)) := by unfold mapN; rfl
theorem mov_len (o as : List Nat) : (mov o as).length = 12 := movT_len o as 12
theorem map_pos (o : List Nat) (n : Nat) : 0 < mapN o n := by rw [mapN_def]; exact make_pos' _
theorem map_left (o : List Nat) (n : Nat) : left (mapN o n) = 1 := by rw [mapN_def]; exact left_make (mov_len _ _)
theorem map_rooms (o : List Nat) (n : Nat) : rooms (mapN o n) = mov o (rooms n) := by rw [mapN_def]; exact rooms_make (mov_len _ _)
theorem map_rm {o : List Nat} (h : IsOrder o) (n : Nat) {i : Nat} (hi : i < 12) : rm (mapN o n) (oAt o i) = rm n i := by
  unfold rm
  rw [map_rooms]
  have := movT_at (as := rooms n) h 12 (Nat.le_refl _) i hi
  rw [if_pos hi] at this
  rw [List.getD_eq_getElem?_getD, show (mov o (rooms n))[oAt o i]? = _ from this]
  rfl
theorem all_map {o : List Nat} (h : IsOrder o) {P : Nat → Prop} : (∀ r, r < 12 → P r) ↔ ∀ i, i < 12 → P (oAt o i) :=
  ⟨fun z i hi => z _ (h.at_lt hi), fun z r hr => by
    obtain ⟨i, hi, rfl⟩ := h.sur hr
    exact z i hi⟩
theorem ex_map {o : List Nat} (h : IsOrder o) {P : Nat → Prop} : (∃ r, r < 12 ∧ P r) ↔ ∃ i, i < 12 ∧ P (oAt o i) :=
  ⟨fun ⟨r, hr, z⟩ => by
    obtain ⟨i, hi, rfl⟩ := h.sur hr
    exact ⟨i, hi, z⟩, fun ⟨i, hi, z⟩ => ⟨_, h.at_lt hi, z⟩⟩
def Gd (n : Nat) : Prop := 0 < n ∧ left n = 1
theorem Gd.of {n : Nat} (h : isNum n = true) : Gd n := ⟨(isNum_iff.mp h).1, (isNum_iff.mp h).2.1⟩
theorem map_gd (o : List Nat) (n : Nat) : Gd (mapN o n) := ⟨map_pos o n, map_left o n⟩
theorem map_dvd {o : List Nat} (h : IsOrder o) {n u : Nat} (hn : Gd n) (hu : Gd u) : mapN o n % mapN o u = 0 ↔ n % u = 0 := by
  rw [dvd_rm (map_pos o u) (map_pos o n) (map_left o u) (map_left o n), dvd_rm hu.1 hn.1 hu.2 hn.2, all_map h]
  refine forall_congr' fun i => forall_congr' fun hi => ?_
  rw [map_rm h n hi, map_rm h u hi]
theorem map_mul {o : List Nat} (h : IsOrder o) {a b : Nat} (ha : 0 < a) (hb : 0 < b) : mapN o (a * b) = mapN o a * mapN o b := by
  refine num_ext (map_pos _ _) (Nat.mul_pos (map_pos _ _) (map_pos _ _)) (map_left _ _) (by rw [left_mul (map_pos _ _) (map_pos _ _), map_left, map_left]) ?_
  rw [all_map h]
  intro i hi
  rw [rm_mul (map_pos _ _) (map_pos _ _), map_rm h _ hi, map_rm h _ hi, map_rm h _ hi, rm_mul ha hb]
theorem map_div {o : List Nat} (h : IsOrder o) {n u : Nat} (hn : 0 < n) (hu : 0 < u) (hd : n % u = 0) : mapN o (n / u) = mapN o n / mapN o u := by
  have hq : 0 < n / u := Nat.div_pos (Nat.le_of_dvd hn (Nat.dvd_of_mod_eq_zero hd)) hu
  have e := map_mul h hq hu
  rw [Nat.div_mul_cancel (Nat.dvd_of_mod_eq_zero hd)] at e
  rw [e, Nat.mul_div_cancel _ (map_pos _ _)]
theorem map_one {o : List Nat} (h : IsOrder o) : mapN o 1 = 1 := by
  refine num_ext (map_pos _ _) (by decide) (map_left _ _) left_1 ?_
  rw [all_map h]
  intro i hi
  rw [map_rm h _ hi, rm_one, rm_one]
theorem map_pow {o : List Nat} (h : IsOrder o) {a : Nat} (ha : 0 < a) : ∀ t, mapN o (a ^ t) = mapN o a ^ t
  | 0 => by rw [Nat.pow_zero, Nat.pow_zero]; exact map_one h
  | t + 1 => by rw [Nat.pow_succ, Nat.pow_succ, map_mul h (Nat.pow_pos ha) ha, map_pow h ha t]
theorem map_great {o : List Nat} (h : IsOrder o) (n : Nat) : 400 < maxN (rooms (mapN o n)) ↔ 400 < maxN (rooms n) := by
  rw [maxN_rm, maxN_rm, ex_map h]
  refine exists_congr fun i => and_congr_right fun hi => ?_
  rw [map_rm h n hi]
theorem map_num {o : List Nat} (h : IsOrder o) {n : Nat} (hn : isNum n = true) : isNum (mapN o n) = true := by
  refine isNum_iff.mpr ⟨map_pos _ _, map_left _ _, maxN_bd (Nat.le_of_not_lt fun z => ?_)⟩
  have := (map_great h n).mp z
  have h2 := (isNum_iff.mp hn).2.2 _ (maxN_mem (rooms_ne n))
  omega
theorem map_some {o : List Nat} (h : IsOrder o) {k b n : Nat} (hn : SomeN k b n) : SomeN 12 b (mapN o n) := by
  obtain ⟨as, h1, rfl, h2, _⟩ := hn
  refine ⟨mov o (rooms (make as)), mov_len _ _, mapN_def _ _, ?_, fun j hj hj2 => by omega⟩
  unfold mov
  rw [movT_sum h (rooms_len _) 12 (Nat.le_refl _), rooms_make h1, List.take_of_length_le (by omega)]
  exact h2
end Fr
namespace Fr
/-! ### programs -/
def mapF (o : List Nat) (p : Nat × Nat) : Nat × Nat := (mapN o p.1, mapN o p.2)
def mapP (o : List Nat) (l : Prog) : Prog := l.map (mapF o)
theorem gcd_rm {a b : Nat} (ha : Gd a) (hb : Gd b) (h : ∀ r, r < 12 → rm a r = 0 ∨ rm b r = 0) : Nat.gcd a b = 1 := by
  have ea := make_rooms1 ha.1 ha.2
  have eb := make_rooms1 hb.1 hb.2
  rw [← ea, ← eb]
  refine make_cop fun i => ?_
  rcases Nat.lt_or_ge i 12 with z | z
  · have e1 : ∀ n, (rooms n)[i]? = some (rm n i) := fun n => by
      unfold rm
      rw [List.getD_eq_getElem?_getD, List.getElem?_eq_getElem (by rw [rooms_len]; exact z)]
      rfl
    rw [e1, e1]
    rcases h i z with y | y
    · exact .inl (by rw [y])
    · exact .inr (.inl (by rw [y]))
  · exact .inr (.inr z)
theorem map_frac {o : List Nat} (h : IsOrder o) {k : Nat} {p : Nat × Nat} (hp : FracN k p) : FracN 12 (mapF o p) := by
  refine ⟨map_some h hp.1, map_some h hp.2.1, gcd_rm (map_gd _ _) (map_gd _ _) ?_⟩
  have F := frac1 (l := [p]) (i := 0) (isProg_iff.mpr ⟨by simp, fun q hq => by rw [List.mem_singleton.mp hq]; exact hp.frac⟩) (by simp)
  rw [all_map h]
  intro i hi
  show rm (mapN o p.1) _ = 0 ∨ rm (mapN o p.2) _ = 0
  rw [map_rm h _ hi, map_rm h _ hi]
  exact (F.cop i hi).symm
/-- a program whose numbers are right -/
def GdP (l : Prog) : Prop := ∀ p ∈ l, Gd p.1 ∧ Gd p.2
theorem GdP.of {l : Prog} (h : isProg l = true) : GdP l := fun p hp => by
  have := isFrac_iff.mp ((isProg_iff.mp h).2 p hp)
  exact ⟨Gd.of this.1, Gd.of this.2.1⟩
theorem first_map {o : List Nat} (h : IsOrder o) {n : Nat} (hn : Gd n) : ∀ {l : Prog}, GdP l → firstAt (mapP o l) (mapN o n) = firstAt l n := by
  intro l
  unfold firstAt mapP
  rw [List.findIdx?_map]
  induction l with
  | nil => intro _; rfl
  | cons p l ih =>
    intro hl
    rw [List.findIdx?_cons, List.findIdx?_cons, ih fun q hq => hl q (List.mem_cons_of_mem _ hq)]
    have e : (Function.comp (fun p : Nat × Nat => decide (mapN o n % p.2 = 0)) (mapF o)) p = decide (n % p.2 = 0) := by
      show decide (mapN o n % mapN o p.2 = 0) = _
      rw [Bool.eq_iff_iff, decide_eq_true_iff, decide_eq_true_iff]
      exact map_dvd h hn (hl p List.mem_cons_self).2
    rw [e]
theorem mapP_len (o : List Nat) (l : Prog) : (mapP o l).length = l.length := List.length_map _
theorem map_un (o : List Nat) {l : Prog} {i : Nat} (hi : i < l.length) : unAt (mapP o l) i = mapN o (unAt l i) := by
  unfold unAt mapP
  rw [List.getD_eq_getElem?_getD, List.getD_eq_getElem?_getD, List.getElem?_map, List.getElem?_eq_getElem hi]
  rfl
theorem map_up (o : List Nat) {l : Prog} {i : Nat} (hi : i < l.length) : upAt (mapP o l) i = mapN o (upAt l i) := by
  unfold upAt mapP
  rw [List.getD_eq_getElem?_getD, List.getD_eq_getElem?_getD, List.getElem?_map, List.getElem?_eq_getElem hi]
  rfl
theorem led_map {o : List Nat} (h : IsOrder o) {n : Nat} (hn : Gd n) {l : Prog} (hl : GdP l) : led (mapP o l) (mapN o n) = (led l n).map (mapN o) := by
  unfold led
  rw [first_map h hn hl]
  cases e : firstAt l n with
  | none => rfl
  | some i =>
    obtain ⟨hi, h0, _⟩ := firstAt_is e
    have hg := hl _ (List.getElem_mem hi)
    show some (mapN o n / unAt (mapP o l) i * upAt (mapP o l) i) = some (mapN o (n / unAt l i * upAt l i))
    rw [map_un o hi, map_up o hi, unAt_eq hi, upAt_eq hi]
    have hq : 0 < n / (l[i]).2 := Nat.div_pos (Nat.le_of_dvd hn.1 (Nat.dvd_of_mod_eq_zero h0)) hg.2.1
    rw [map_mul h hq hg.1.1, map_div h hn.1 hg.2.1 h0]
theorem Gd.led {l : Prog} {n x : Nat} (hP : isProg l = true) (hn : Gd n) (h : led l n = some x) : Gd x := led_left hP hn.1 hn.2 h
theorem run_map {o : List Nat} (h : IsOrder o) {l : Prog} (hP : isProg l = true) : ∀ (m n : Nat), Gd n → runF (mapP o l) m (mapN o n) = (runF l m n).map (·.map (mapN o)) := by
  intro m
  induction m with
  | zero => intro n _; rfl
  | succ m ih =>
    intro n hn
    unfold runF
    rw [led_map h hn (GdP.of hP)]
    cases e : led l n with
    | none => rfl
    | some x =>
      dsimp only [Option.map_some]
      by_cases z : 400 < maxN (rooms x)
      · rw [if_pos z, if_pos ((map_great h x).mpr z)]
        rfl
      · rw [if_neg z, if_neg fun y => z ((map_great h x).mp y), ih x (Gd.led hP hn e)]
        cases runF l m x with
        | none => rfl
        | some r => rfl
theorem idle_map {o : List Nat} (h : IsOrder o) {l : Prog} (hP : isProg l = true) : idleOf (mapP o l) = idleOf l := by
  unfold idleOf
  rw [mapP_len]
  refine List.filter_congr fun i hi => ?_
  have hi := List.mem_range.mp hi
  unfold isIdle
  rw [map_un o hi, first_map h ?_ (GdP.of hP)]
  rw [unAt_eq hi]
  exact (GdP.of hP _ (List.getElem_mem hi)).2
theorem lean_map {o : List Nat} (h : IsOrder o) {l : Prog} (hP : isProg l = true) : leanOf (mapP o l) = mapP o (leanOf l) := by
  unfold leanOf
  rw [idle_map h hP]
  show ((l.map (mapF o)).zipIdx.filterMap _) = ((l.zipIdx.filterMap _).map (mapF o))
  rw [List.zipIdx_map, List.filterMap_map, List.map_filterMap]
  congr 1
  funext p
  show (if p.2 ∈ idleOf l then none else some (mapF o p.1)) = (if p.2 ∈ idleOf l then none else some p.1).map (mapF o)
  split <;> rfl
end Fr
namespace Fr
/-! ### jumps by other primes -/
theorem ff_congr {rows rows' : List Row4} (h : ∀ q, q ∈ rows ↔ q ∈ rows') : ffOf rows = ffOf rows' := by
  have h1 := ffOf_spec rows
  have h2 := ffOf_spec rows'
  have hall : ∀ t, (∀ q ∈ rows, okAt q t) ↔ ∀ q ∈ rows', okAt q t := fun t => ⟨fun z q hq => z q ((h q).mpr hq), fun z q hq => z q ((h q).mp hq)⟩
  cases e1 : ffOf rows with
  | none =>
    rw [e1] at h1
    cases e2 : ffOf rows' with
    | none => rfl
    | some g =>
      rw [e2] at h2
      exact absurd ((hall g).mpr h2.1) (h1 g)
  | some g =>
    rw [e1] at h1
    cases e2 : ffOf rows' with
    | none =>
      rw [e2] at h2
      exact absurd ((hall g).mp h1.1) (h2 g)
    | some g' =>
      rw [e2] at h2
      rcases Nat.lt_trichotomy g g' with z | z | z
      · exact absurd ((hall g).mp h1.1) (h2.2 g z)
      · rw [z]
      · exact absurd ((hall g').mpr h2.1) (h1.2 g' z)
theorem rows_map {o : List Nat} (h : IsOrder o) (n u v x : Nat) : ffOf (rowsOf (mapN o n) (mapN o u) (mapN o v) (mapN o x)) = ffOf (rowsOf n u v x) := by
  refine ff_congr fun q => ?_
  unfold rowsOf
  rw [List.mem_map, List.mem_map]
  constructor
  · rintro ⟨r, hr, rfl⟩
    obtain ⟨i, hi, rfl⟩ := h.sur (List.mem_range.mp hr)
    exact ⟨i, List.mem_range.mpr hi, by rw [map_rm h n hi, map_rm h u hi, map_rm h v hi, map_rm h x hi]⟩
  · rintro ⟨i, hi, rfl⟩
    have hi := List.mem_range.mp hi
    exact ⟨oAt o i, List.mem_range.mpr (h.at_lt hi), by rw [map_rm h n hi, map_rm h u hi, map_rm h v hi, map_rm h x hi]⟩
theorem outs_mem {n u a : Nat} : a ∈ outsOf n u ↔ ∃ r, r < 12 ∧ 0 < rm u r ∧ a = rm n r / rm u r := by
  unfold outsOf
  rw [List.mem_filterMap]
  constructor
  · rintro ⟨r, hr, e⟩
    split at e
    · rename_i z
      cases e
      exact ⟨r, List.mem_range.mp hr, z, rfl⟩
    · cases e
  · rintro ⟨r, hr, z, rfl⟩
    exact ⟨r, List.mem_range.mpr hr, if_pos z⟩
theorem outs_map {o : List Nat} (h : IsOrder o) (n u a : Nat) : a ∈ outsOf (mapN o n) (mapN o u) ↔ a ∈ outsOf n u := by
  rw [outs_mem, outs_mem, ex_map h]
  refine exists_congr fun i => and_congr_right fun hi => ?_
  rw [map_rm h n hi, map_rm h u hi]
theorem min_congr {as bs : List Nat} (h : ∀ a, a ∈ as ↔ a ∈ bs) : as.min? = bs.min? := by
  cases e : as.min? with
  | none =>
    have := List.min?_eq_none_iff.mp e
    subst this
    have : bs = [] := List.eq_nil_iff_forall_not_mem.mpr fun a ha => by
      have := (h a).mpr ha
      cases this
    rw [this]
    rfl
  | some m =>
    have h1 := List.min?_eq_some_iff.mp e
    exact (List.min?_eq_some_iff.mpr ⟨(h m).mp h1.1, fun b hb => h1.2 b ((h b).mpr hb)⟩).symm
theorem times_map {o : List Nat} (h : IsOrder o) {l : Prog} {n i : Nat} (hi : i < l.length) : timesOf (mapP o l) (mapN o n) i = timesOf l n i := by
  unfold timesOf
  refine min_congr fun a => ?_
  unfold someOf
  rw [List.mem_append, List.mem_append, map_un o hi, map_up o hi, outs_map h]
  refine or_congr_right ?_
  have e : ((mapP o l).take i).filterMap (fun p => ffOf (rowsOf (mapN o n) (mapN o (unAt l i)) (mapN o (upAt l i)) p.2)) = (l.take i).filterMap fun p => ffOf (rowsOf n (unAt l i) (upAt l i) p.2) := by
    unfold mapP
    rw [← List.map_take, List.filterMap_map]
    congr 1
    funext p
    exact rows_map h _ _ _ _
  rw [e]
theorem next_map {o : List Nat} (h : IsOrder o) {l : Prog} {n i m : Nat} (hP : isProg l = true) (hn : Gd n) (hi : firstAt l n = some i) (hm : timesOf l n i = some m) : nextN (mapP o l) (mapN o n) i m = mapN o (nextN l n i m) := by
  have hil := firstAt_lt hi
  have F := frac1 hP hil
  obtain ⟨h1, h2⟩ := times_mem hm
  obtain ⟨_, _, _, h3⟩ := times_spec hP hn.1 hn.2 hi h1 h2
  obtain ⟨_, _, hd, _⟩ := turn_rm F hn.1 hn.2 (h3 m (Nat.le_refl _))
  unfold nextN turnN
  rw [map_un o hil, map_up o hil, ← map_pow h F.u0, ← map_pow h F.v0]
  have hu := Nat.pow_pos (n := m) F.u0
  have hv := Nat.pow_pos (n := m) F.v0
  have hq : 0 < n / unAt l i ^ m := Nat.div_pos (Nat.le_of_dvd hn.1 (Nat.dvd_of_mod_eq_zero hd)) hu
  rw [map_mul h hq hv, map_div h hn.1 hu hd]
theorem jumps_map {o : List Nat} (h : IsOrder o) {l : Prog} (hP : isProg l = true) : ∀ (f n : Nat), isNum n = true → jumpsF (mapP o l) f (mapN o n) = (jumpsF l f n).map fun r => (r.1, r.2.map (mapN o)) := by
  intro f
  induction f with
  | zero => intro n _; rfl
  | succ f ih =>
    intro n hN
    have hn := Gd.of hN
    unfold jumpsF
    rw [first_map h hn (GdP.of hP)]
    cases e : firstAt l n with
    | none => rfl
    | some i =>
      dsimp only
      rw [times_map h (firstAt_lt e)]
      cases e2 : timesOf l n i with
      | none => rfl
      | some m =>
        dsimp only
        rw [next_map h hP hn e e2]
        by_cases z : 400 < maxN (rooms (nextN l n i m))
        · rw [if_pos z, if_pos ((map_great h _).mpr z)]
          rfl
        · rw [if_neg z, if_neg fun y => z ((map_great h _).mp y), ih _ (next_num hP hN e e2 z)]
          cases jumpsF l f (nextN l n i m) with
          | none => rfl
          | some r => rfl
/-! ### what has no end, by other primes -/
theorem grows_map {o : List Nat} (h : IsOrder o) (x y : Nat) : grows (mapN o x) (mapN o y) = grows x y := by
  rw [Bool.eq_iff_iff, grows_iff, grows_iff, all_map h]
  refine forall_congr' fun i => forall_congr' fun hi => ?_
  rw [map_rm h x hi, map_rm h y hi]
theorem lacks_map {o : List Nat} (h : IsOrder o) (a b x u : Nat) : lacks (mapN o a) (mapN o b) (mapN o x) (mapN o u) = lacks a b x u := by
  rw [Bool.eq_iff_iff, lacks_iff, lacks_iff, ex_map h]
  refine exists_congr fun i => and_congr_right fun hi => ?_
  rw [map_rm h a hi, map_rm h b hi, map_rm h x hi, map_rm h u hi]
theorem holds_map {o : List Nat} (h : IsOrder o) {l : Prog} (hl : GdP l) {a b x : Nat} (hx : Gd x) : holds (mapP o l) (mapN o a) (mapN o b) (mapN o x) = holds l a b x := by
  unfold holds
  rw [first_map h hx hl]
  show ((l.map (mapF o)).take _).all _ = _
  rw [← List.map_take, List.all_map]
  congr 1
  funext p
  exact lacks_map h a b x p.2
theorem goes_map {o : List Nat} (h : IsOrder o) {l : Prog} (hl : GdP l) {r : List Nat} (hr : ∀ x ∈ r, Gd x) {f t : Nat} (hft : f < t) (ht : t < r.length) : goesOn (mapP o l) (r.map (mapN o)) f t = goesOn l r f t := by
  unfold goesOn
  have e : ∀ s, s < r.length → (r.map (mapN o)).getD s 1 = mapN o (r.getD s 1) := fun s hs => by
    rw [List.getD_eq_getElem?_getD, List.getD_eq_getElem?_getD, List.getElem?_map, List.getElem?_eq_getElem hs]
    rfl
  rw [e f (by omega), e t ht, grows_map h, ← List.map_take, ← List.map_drop, List.all_map]
  congr 1
  rw [Bool.eq_iff_iff, List.all_eq_true, List.all_eq_true]
  refine forall_congr' fun x => imp_congr_right fun hx => ?_
  have hx := hr x (List.mem_of_mem_take (List.mem_of_mem_drop hx))
  show holds _ _ _ _ = true ↔ _
  rw [holds_map h hl hx]
theorem never_map {o : List Nat} (h : IsOrder o) {l : Prog} (hl : GdP l) {r : List Nat} (hr : ∀ x ∈ r, Gd x) {p : Option (Nat × Nat)} : IsNever (mapP o l) (r.map (mapN o)) p ↔ IsNever l r p := by
  have e : ∀ f t, f < t → t < r.length → goesOn (mapP o l) (r.map (mapN o)) f t = goesOn l r f t := fun f t h1 h2 => goes_map h hl hr h1 h2
  cases p with
  | none =>
    show (∀ f t, f < t → t < (r.map (mapN o)).length → _) ↔ _
    rw [List.length_map]
    exact ⟨fun z f t h1 h2 => by rw [← e f t h1 h2]; exact z f t h1 h2, fun z f t h1 h2 => by rw [e f t h1 h2]; exact z f t h1 h2⟩
  | some p =>
    obtain ⟨f, t⟩ := p
    show (f < t ∧ t < (r.map (mapN o)).length ∧ _) ↔ _
    rw [List.length_map]
    constructor
    · rintro ⟨h1, h2, h3, h4, h5⟩
      exact ⟨h1, h2, by rw [← e f t h1 h2]; exact h3, fun f' t' a b => by rw [← e f' t' a (by omega)]; exact h4 f' t' a b, fun f' a => by rw [← e f' t (by omega) h2]; exact h5 f' a⟩
    · rintro ⟨h1, h2, h3, h4, h5⟩
      exact ⟨h1, h2, by rw [e f t h1 h2]; exact h3, fun f' t' a b => by rw [e f' t' a (by omega)]; exact h4 f' t' a b, fun f' a => by rw [e f' t (by omega) h2]; exact h5 f' a⟩
/-! ### a room that no fraction has -/
def spareN : Nat := make (List.replicate 11 0 ++ [3])
theorem spare_rm {c : Nat} (hc : c < 12) : rm spareN c = if c = 11 then 3 else 0 := by
  unfold rm spareN
  rw [rooms_make (by decide), List.getD_eq_getElem?_getD]
  match c, hc with
  | 0, _ => rfl
  | 1, _ => rfl
  | 2, _ => rfl
  | 3, _ => rfl
  | 4, _ => rfl
  | 5, _ => rfl
  | 6, _ => rfl
  | 7, _ => rfl
  | 8, _ => rfl
  | 9, _ => rfl
  | 10, _ => rfl
  | 11, _ => rfl
theorem spare_gd : Gd spareN := ⟨make_pos' _, left_make (by decide)⟩
theorem spare_num : isNum spareN = true := isNum_make (by decide) (by decide)
def No11 (l : Prog) : Prop := ∀ p ∈ l, rm p.2 11 = 0
theorem spare_first {l : Prog} {n : Nat} (hl : GdP l) (h11 : No11 l) (hn : Gd n) : firstAt l (n * spareN) = firstAt l n := by
  unfold firstAt
  have key : ∀ p ∈ l, decide (n * spareN % p.2 = 0) = decide (n % p.2 = 0) := fun p hp => by
    have hu := (hl p hp).2
    have h0 := h11 p hp
    rw [Bool.eq_iff_iff, decide_eq_true_iff, decide_eq_true_iff, dvd_rm hu.1 (Nat.mul_pos hn.1 spare_gd.1) hu.2 (by rw [left_mul hn.1 spare_gd.1, hn.2, spare_gd.2]), dvd_rm hu.1 hn.1 hu.2 hn.2]
    refine forall_congr' fun r => forall_congr' fun hr => ?_
    rw [rm_mul hn.1 spare_gd.1, spare_rm hr]
    by_cases e : r = 11
    · subst e
      rw [h0]
      exact ⟨fun _ => Nat.zero_le _, fun _ => Nat.zero_le _⟩
    · rw [if_neg e, Nat.add_zero]
  clear hl h11
  induction l with
  | nil => rfl
  | cons p l ih =>
    rw [List.findIdx?_cons, List.findIdx?_cons, key p List.mem_cons_self, ih fun q hq => key q (List.mem_cons_of_mem _ hq)]
theorem spare_led {l : Prog} {n : Nat} (hl : GdP l) (h11 : No11 l) (hn : Gd n) : led l (n * spareN) = (led l n).map (· * spareN) := by
  unfold led
  rw [spare_first hl h11 hn]
  cases e : firstAt l n with
  | none => rfl
  | some i =>
    obtain ⟨hi, h0, _⟩ := firstAt_is e
    rw [← unAt_eq hi] at h0
    show some (n * spareN / unAt l i * upAt l i) = some (n / unAt l i * upAt l i * spareN)
    congr 1
    obtain ⟨q, rfl⟩ := Nat.dvd_of_mod_eq_zero h0
    have hu : 0 < unAt l i := by
      rw [unAt_eq hi]
      exact (hl _ (List.getElem_mem hi)).2.1
    rw [Nat.mul_div_cancel_left _ hu, Nat.mul_assoc, Nat.mul_div_cancel_left _ hu, Nat.mul_right_comm]
theorem spare_run {l : Prog} (hP : isProg l = true) (h11 : No11 l) : ∀ (m n : Nat), Gd n → (∀ s, s ≤ m → ¬ 400 < maxN (rooms (seqX l n s)) ∧ ¬ 400 < maxN (rooms (seqX l n s * spareN))) → ∃ r, runF l m n = some r ∧ runF l m (n * spareN) = some (r.map (· * spareN)) := by
  intro m
  induction m with
  | zero => intro n _ _; exact ⟨[n], rfl, rfl⟩
  | succ m ih =>
    intro n hn hs
    unfold runF
    rw [spare_led (GdP.of hP) h11 hn]
    cases e : led l n with
    | none => exact ⟨[n], rfl, rfl⟩
    | some x =>
      have h1 := hs 1 (by omega)
      rw [show seqX l n 1 = x by show (led l n).getD 1 = x; rw [e]; rfl] at h1
      obtain ⟨r, hr1, hr2⟩ := ih x (Gd.led hP hn e) fun s h => by
        have := hs (s + 1) (by omega)
        rw [seqX_next e] at this
        exact this
      refine ⟨n :: r, ?_, ?_⟩
      · dsimp only
        rw [if_neg h1.1, hr1]
        rfl
      · dsimp only [Option.map_some]
        rw [if_neg h1.2, hr2]
        rfl
/-! ### how much there is in all -/
def tot (n : Nat) : Nat := ((List.range 12).map (rm n)).sum
theorem rm_tot {n c : Nat} (hc : c < 12) : rm n c ≤ tot n := mem_le_sum (List.mem_map.mpr ⟨c, List.mem_range.mpr hc, rfl⟩)
theorem sum_le3 {α : Type} : ∀ (l : List α) (f g k : α → Nat), (∀ a ∈ l, f a + g a ≤ k a) → (l.map f).sum + (l.map g).sum ≤ (l.map k).sum
  | [], _, _, _, _ => Nat.le_refl _
  | a :: l, f, g, k, h => by
    have h1 := h a List.mem_cons_self
    have h2 := sum_le3 l f g k fun b hb => h b (List.mem_cons_of_mem _ hb)
    simp only [List.map_cons, List.sum_cons]
    omega
theorem sum_mul {α : Type} (m : Nat) : ∀ (l : List α) (f : α → Nat), (l.map fun a => m * f a).sum = m * (l.map f).sum
  | [], _ => by simp
  | a :: l, f => by
    simp only [List.map_cons, List.sum_cons]
    rw [sum_mul m l f, Nat.mul_add]
theorem tot_some {k b n : Nat} (h : SomeN k b n) : tot n ≤ b := by
  obtain ⟨as, h1, rfl, h2, _⟩ := h
  unfold tot
  have : (List.range 12).map (rm (make as)) = as := by rw [← rooms_rm, rooms_make h1]
  rw [this]
  exact h2
theorem tot_turn {n u v t : Nat} (F : Fr1 u v) (hn : Gd n) (h : ∀ r, r < 12 → t * rm u r ≤ rm n r) : tot (turnN n u v t) + t * tot u ≤ tot n + t * tot v := by
  obtain ⟨_, _, _, c⟩ := turn_rm F hn.1 hn.2 h
  unfold tot
  rw [← sum_mul, ← sum_mul]
  have e : ((List.range 12).map (rm n)).sum + ((List.range 12).map fun a => t * rm v a).sum = ((List.range 12).map fun a => rm n a + t * rm v a).sum := by
    induction List.range 12 with
    | nil => rfl
    | cons a l ih =>
      simp only [List.map_cons, List.sum_cons]
      omega
  rw [e]
  refine sum_le3 _ _ _ _ fun a ha => ?_
  have ha := List.mem_range.mp ha
  rw [c a ha]
  have := h a ha
  omega
/-- a program whose fractions take at most 3 and give at most 2 -/
def Slim (l : Prog) : Prop := ∀ p ∈ l, tot p.1 ≤ 2 ∧ tot p.2 ≤ 3
theorem ffUp_leB (B : Nat) : ∀ (rows : List Row4) (f g : Nat), (∀ q ∈ rows, q.d ≤ B) → ffUp rows f = some g → g ≤ max f B
  | [], f, g, _, h => by
    have : f = g := Option.some.inj h
    omega
  | q :: rows, f, g, hd, h => by
    have hq := hd q List.mem_cons_self
    have ht : ∀ q ∈ rows, q.d ≤ B := fun p hp => hd p (List.mem_cons_of_mem _ hp)
    rw [ffUp_cons] at h
    split at h
    · rename_i h1
      split at h
      · cases h
      · rename_i h2
        have h3 := ffUp_leB B rows _ g ht h
        have e5 : q.d - q.h + q.i - q.o - 1 = q.d - q.h + (q.i - q.o) - 1 := by omega
        have hle : (q.d - q.h + q.i - q.o - 1) / (q.i - q.o) ≤ B := by
          rw [e5, ceil_least h1 (by omega)]
          have : B * 1 ≤ B * (q.i - q.o) := Nat.mul_le_mul_left _ (by omega)
          omega
        omega
    · exact ffUp_leB B rows f g ht h
theorem next_tot {l : Prog} {n i m : Nat} (hP : isProg l = true) (hs : Slim l) (hn : Gd n) (hi : firstAt l n = some i) (hm : timesOf l n i = some m) : tot (nextN l n i m) ≤ max (2 * tot n) (tot n + 6) := by
  have hil := firstAt_lt hi
  have F := frac1 hP hil
  obtain ⟨h1, h2⟩ := times_mem hm
  obtain ⟨_, _, _, h3⟩ := times_spec hP hn.1 hn.2 hi h1 h2
  have h4 := tot_turn F hn (h3 m (Nat.le_refl _))
  have hsl := hs _ (List.getElem_mem hil)
  rw [← unAt_eq hil, ← upAt_eq hil] at hsl
  have hv : m * tot (upAt l i) ≤ m * 2 := Nat.mul_le_mul_left m hsl.1
  show tot (turnN n (unAt l i) (upAt l i) m) ≤ _
  by_cases hu : unAt l i = 1
  · -- nothing is taken: another one comes soon
    have hm3 : m ≤ 3 := by
      unfold someOf at h1
      rcases List.mem_append.mp h1 with z | z
      · rw [(outs_nil F.u0 F.lu).mpr hu] at z
        cases z
      · obtain ⟨p, hp, e⟩ := List.mem_filterMap.mp z
        have hp3 := (hs p (List.mem_of_mem_take hp)).2
        unfold ffOf at e
        cases e2 : ffUp (rowsOf n (unAt l i) (upAt l i) p.2) 0 with
        | none =>
          rw [e2] at e
          cases e
        | some g =>
          rw [e2] at e
          dsimp only at e
          split at e
          · cases e
            have := ffUp_leB 3 _ _ _ (fun q hq => by
              obtain ⟨r, hr, rfl⟩ := List.mem_map.mp hq
              exact Nat.le_trans (rm_tot (List.mem_range.mp hr)) hp3) e2
            omega
          · cases e
    omega
  · have hpos : ∃ r, r < 12 ∧ 0 < rm (unAt l i) r := by
      have : outsOf n (unAt l i) ≠ [] := fun z => hu ((outs_nil F.u0 F.lu).mp z)
      obtain ⟨a, ha⟩ := List.exists_mem_of_ne_nil _ this
      obtain ⟨r, hr, z, _⟩ := outs_mem.mp ha
      exact ⟨r, hr, z⟩
    obtain ⟨r, hr, z⟩ := hpos
    have h5 := h3 m (Nat.le_refl _) r hr
    have h6 : m * 1 ≤ m * rm (unAt l i) r := Nat.mul_le_mul_left m z
    have h7 := rm_tot (n := n) hr
    have h8 : m * 1 ≤ m * tot (unAt l i) := Nat.mul_le_mul_left m (Nat.le_trans z (rm_tot hr))
    omega
theorem jumps_some {l : Prog} (hP : isProg l = true) (hs : Slim l) : ∀ (f n b : Nat), isNum n = true → tot n ≤ b → 6 ≤ b → b * 2 ^ f ≤ 400 → ∃ r, jumpsF l f n = some r := by
  intro f
  induction f with
  | zero => intro n b _ _ _ _; exact ⟨_, rfl⟩
  | succ f ih =>
    intro n b hN hb h6 hf
    cases e : firstAt l n with
    | none => exact ⟨([], some n), by unfold jumpsF; rw [e]⟩
    | some i =>
      cases e2 : timesOf l n i with
      | none => exact ⟨([(i, none)], none), by unfold jumpsF; rw [e]; dsimp only; rw [e2]⟩
      | some m =>
        have ht := next_tot hP hs (Gd.of hN) e e2
        have hp : b * 2 ^ (f + 1) = (2 * b) * 2 ^ f := by rw [Nat.pow_succ]; rw [Nat.mul_comm 2 b, Nat.mul_assoc, Nat.mul_comm 2 (2 ^ f)]
        have hle : 2 * b ≤ 400 := by
          have : (2 * b) * 1 ≤ (2 * b) * 2 ^ f := Nat.mul_le_mul_left _ (Nat.pow_pos (by decide))
          omega
        have hng : ¬ 400 < maxN (rooms (nextN l n i m)) := fun z => by
          obtain ⟨c, hc, h1⟩ := maxN_rm.mp z
          have := rm_tot (n := nextN l n i m) hc
          omega
        obtain ⟨r, hr⟩ := ih (nextN l n i m) (2 * b) (next_num hP hN e e2 hng) (by omega) (by omega) (by omega)
        refine ⟨((i, some m) :: r.1, r.2), ?_⟩
        unfold jumpsF
        rw [e]
        dsimp only
        rw [e2]
        dsimp only
        rw [if_neg hng, hr]
        rfl
end Fr
namespace L2
open PySem PySem.Spec PyProof.Rows
/-- a[::-1] of a list -/
def tRev (K : PySem.W.Frag) (te : TE) (tl th tk : TO) : TE := fun σ H Q => te σ H fun x H1 => tl σ H1 fun l H2 => th σ H2 fun u H3 => tk σ H3 fun k H4 => l = none ∧ u = none ∧ k = some (-1) ∧ ∃ (a : Addr) (xs : List V), x = .ref a ∧ SqL K H4 a xs ∧ ∀ p, H4 p = none → Q (.ref p) (upd H4 p (.lst xs.reverse))
theorem pe_rev {X : Cx} {K : PySem.W.Frag} {e : Expr} {lo hi : Option Expr} {st : Expr} {p2 pos : Pos} {te : TE} {tl th tk : TO} (eK : X.K = K) (he : PE X e te) (hl : PO X lo tl) (hu : PO X hi th) (hk : PO X (some st) tk) : PE X (.Subscript e (.Slice lo hi (some st) p2) pos) (tRev K te tl th tk) := by
  subst eK
  refine ⟨fun pins s σ H Q I h => ?_⟩
  refine Subscript_ (thn (he.run pins s σ H _ I h) fun v s1 ⟨x, H1, I1, r1, q1⟩ => ?_)
  refine wpAny_Slice (thn (hl.run pins s1 σ H1 _ I1 q1) fun vl s2 ⟨l, H2, I2, pl, q2⟩ => thn (hu.run pins s2 σ H2 _ I2 q2) fun vu s3 ⟨u, H3, I3, pu, q3⟩ => thn (hk.run pins s3 σ H3 _ I3 q3) fun vk s4 ⟨k, H4, I4, pk, el, eu, ek, a, xs, ex, hx, q4⟩ => ?_)
  subst el eu ek ex
  have I5 : Inv X pins σ H4 { s4 with heap := s4.heap.push { cls := .type "slice", data := .fields #[vl, vu, vk] } } := I4.kept (t' := s4.toks) fun b ob q => Heap.get?_push_of_some _ q
  obtain rfl : v = Value.ref a := r1
  obtain ⟨its, r, ht, hz⟩ := I5.list hx
  have hlen := r.length
  have hg : wpAny (model X.prog X.w) X.A (getItem (.ref a) (.ref s4.heap.objs.size)) (EP X pins σ Q) X.xe { s4 with heap := s4.heap.push { cls := .type "slice", data := .fields #[vl, vu, vk] } } := by
    refine wpAny_getItem_list_slice ht.isList (Heap.IsSliceOf.new ..) pl pu pk (by simp) ?_ (by rw [List.size_toArray] <;> omega)
    rw [PySem.W.krv_pick]
    refine ⟨.ref _, _, I5.laid (t' := s4.toks) (o := .lst xs.reverse) (fun b ob q => Heap.get?_push_of_some _ q) (Nat.le_refl _) ?_, rfl, q4 _ (I5.hok.fresh (Nat.le_refl _))⟩
    exact ⟨by rw [List.length_reverse]; exact hz, _, 0, r.reverse, Heap.get?_push_size _ rfl⟩
  show wpAny (model X.prog X.w) X.A (subscriptTail e (.Slice lo hi (some st) p2) (.ref a) (.ref s4.heap.objs.size)) (EP X pins σ Q) X.xe { s4 with heap := s4.heap.push { cls := .type "slice", data := .fields #[vl, vu, vk] } }
  exact tail_any ht.isList.typeIs slot_list_getitem.lookup hg (by with_unfolding_all rfl)
end L2
namespace Fr
open PySem PySem.Spec PyProof.Rows L2 LamX
/-! ### a lambda that is kept in the heap -/
/-- the object at f is this lambda -/
def LamO (f : Addr) (q : Str) (params : Arguments) (body : Expr) (scope : Scope) (cl : List (Str × Addr)) (c' : Addr) : HO :=
  .ext fun h => ∃ pm ctv : Value, h.get? f = some (PySem.W.kla_obj "<lambda>" q params body scope cl pm c' ctv)
theorem lamO_nt {f : Addr} {q : Str} {params : Arguments} {body : Expr} {scope : Scope} {cl : List (Str × Addr)} {c' : Addr} (ps : Array Value) : LamO f q params body scope cl c' ≠ .tbl ps := fun z => by
  unfold LamO at z
  cases z
theorem lamO_nl {f : Addr} {q : Str} {params : Arguments} {body : Expr} {scope : Scope} {cl : List (Str × Addr)} {c' : Addr} (xs : List V) : LamO f q params body scope cl c' ≠ .lst xs := fun z => by
  unfold LamO at z
  cases z
section
variable {X : Cx} {pins : List (Addr × Obj)} {σ : L2.St} {H HZ : Hp} {s s1 : Shared}
theorem lamO_ok {P : Program} {w : World} {h : Heap} {f : Addr} {q : Str} {params : Arguments} {body : Expr} {scope : Scope} {cl : List (Str × Addr)} {c' : Addr} {pm ctv : Value} (e : h.get? f = some (PySem.W.kla_obj "<lambda>" q params body scope cl pm c' ctv)) :
    ObjOk P w H h f (LamO f q params body scope cl c') :=
  ⟨⟨pm, ctv, e⟩, ⟨_, e⟩, fun _ _ ⟨p1, p2, z⟩ st => ⟨p1, p2, st _ z⟩⟩
/-- a lambda is made, and known from now on -/
theorem lam_kept {T : List (Addr × Str)} {c P : Addr} {params : Arguments} {body : Expr} {scope : Scope} {pos : Pos} {E : Value → Shared → Prop} {Q : Value → Shared → Prop} (I : Inv X pins σ H s) (TB : TabB X.base X.mg c P) (hcode : X.env.code = .ref c)
    (hm : (P, X.env.qual ++ "<lambda>") ∈ T) (hu : ∀ p ∈ T, p.1 = P → p.2 = X.env.qual ++ "<lambda>") (hT : Tabs T H) (hdef : defaultsOf params X.env = ([], [])) (L : LamS X.env.scope scope)
    (h : ∀ (f c' : Addr) (H2 : Hp) (s' : Shared), Inv X pins σ H2 s' → ExtN H H2 → Tabs T H2 → H2 f = some (LamO f (X.env.qual ++ "<lambda>") params body scope (cloFrom X.env.cells scope.names []) c') → H2 c' = some (CodeO c' (X.env.qual ++ "<lambda>")) → Q (.ref f) s') :
    wpAny (model X.prog X.w) X.A (eval (.Lambda params body scope pos) X.env) Q E s := by
  obtain ⟨ps, tabAt, trip, known⟩ := hT _ hm
  have clo := closure_ok (L.has I.ok)
  have tabO := I.hok P _ tabAt
  refine PySem.W.kla_eval hdef ?_
  rcases hc : codeAmong pos ps.toList with _ | cv
  · -- a new code object
    refine PySem.W.kla_makeFunction clo I.ok.glob (I.mod.glob.keeps I.bk) hcode (TB.code.keeps I.bk) tabO trip hc TB.gP (TB.bm.keeps I.bk) fun c' ctv h1 tk kept above below isCode newTab => ?_
    obtain ⟨c2, oc, vs, t, e2, at2, dat2, nam2⟩ := isCode
    obtain rfl : c' = c2 := by cases e2; rfl
    have hfree : H c' = none := I.hok.fresh above
    have I1 := inv_table (t' := tk) (more := #[rawInt pos.line, rawInt pos.col, .ref c']) I tabAt kept newTab above ⟨oc, vs, t, at2, dat2, nam2⟩
    have ext1 : ExtN H (upd (upd H P (.tbl (ps ++ #[rawInt pos.line, rawInt pos.col, .ref c']))) c' (CodeO c' (X.env.qual ++ "<lambda>"))) := by
      intro b o hb no
      have n1 : b ≠ c' := ne_of_none hb hfree
      have n2 : b ≠ P := fun z => by
        subst z
        rw [tabAt] at hb
        exact no ps (Option.some.inj hb).symm
      rw [upd_ne n1, upd_ne n2, hb]
    have code1 : upd (upd H P (.tbl (ps ++ #[rawInt pos.line, rawInt pos.col, .ref c']))) c' (CodeO c' (X.env.qual ++ "<lambda>")) c' = some (CodeO c' (X.env.qual ++ "<lambda>")) := upd_same
    have tabs1 : Tabs T (upd (upd H P (.tbl (ps ++ #[rawInt pos.line, rawInt pos.col, .ref c']))) c' (CodeO c' (X.env.qual ++ "<lambda>"))) := by
      intro p hp
      by_cases hpP : p.1 = P
      · refine ⟨ps ++ #[rawInt pos.line, rawInt pos.col, .ref c'], ?_, ?_, ?_⟩
        · rw [hpP, upd_ne (ne_of_none tabAt hfree), upd_same]
        · rw [Array.toList_append]
          exact PySem.TriplesOk_snoc _ _ _ _ trip
        · intro p' cv' z
          rw [Array.toList_append] at z
          rcases among_app _ trip z with z | rfl
          · obtain ⟨c0, rfl, z2⟩ := known p' cv' z
            exact ⟨c0, rfl, (hu p hp hpP) ▸ ext1 _ _ z2 codeO_ne⟩
          · exact ⟨c', rfl, (hu p hp hpP) ▸ code1⟩
      · obtain ⟨ps2, b1, b2, b3⟩ := hT p hp
        refine ⟨ps2, ?_, b2, fun p' cv' z => ?_⟩
        · rw [upd_ne (ne_of_none b1 hfree), upd_ne hpP, b1]
        · obtain ⟨c0, rfl, z2⟩ := b3 p' cv' z
          exact ⟨c0, rfl, ext1 _ _ z2 codeO_ne⟩
    generalize upd (upd H P (.tbl (ps ++ #[rawInt pos.line, rawInt pos.col, .ref c']))) c' (CodeO c' (X.env.qual ++ "<lambda>")) = H1 at *
    have top : (h1.push (PySem.W.kla_obj "<lambda>" (X.env.qual ++ "<lambda>") params body scope (cloFrom X.env.cells scope.names []) ((X.mg "__name__").getD .none) c' ctv)).get? h1.objs.size = some _ := Heap.get?_push_size _ rfl
    have nf : H1 h1.objs.size = none := I1.hok.fresh (Nat.le_refl _)
    have sm := same_new (o := LamO h1.objs.size (X.env.qual ++ "<lambda>") params body scope (cloFrom X.env.cells scope.names []) c') nf
    exact h h1.objs.size c' _ _ (I1.laid (t' := tk) (fun b u e => Heap.get?_push_of_some _ e) (Nat.le_refl _) (lamO_ok top)) (ext1.trans (ext_same sm)) (ext_tabs tabs1 sm) upd_same (sm _ _ code1)
  · -- found in the table
    obtain ⟨c', rfl, isCode⟩ := known pos cv hc
    refine PySem.W.kla_makeFunctionHit clo I.ok.glob (I.mod.glob.keeps I.bk) hcode (TB.code.keeps I.bk) tabO trip hc (TB.bm.keeps I.bk) fun ctv h1 tk kept above => ?_
    have top : (h1.push (PySem.W.kla_obj "<lambda>" (X.env.qual ++ "<lambda>") params body scope (cloFrom X.env.cells scope.names []) ((X.mg "__name__").getD .none) c' ctv)).get? h1.objs.size = some _ := Heap.get?_push_size _ rfl
    have nf : H h1.objs.size = none := I.hok.fresh above
    have sm := same_new (o := LamO h1.objs.size (X.env.qual ++ "<lambda>") params body scope (cloFrom X.env.cells scope.names []) c') nf
    exact h h1.objs.size c' _ _ (I.laid (t' := tk) (fun b u e => Heap.get?_push_of_some _ (kept b u e)) above (lamO_ok top)) (ext_same sm) (ext_tabs hT sm) upd_same (sm _ _ isCode)
/-- the lambda called, its object known -/
theorem actF {AZ : Around} {SZ : List Env} {f c' : Addr} {pm ctv : Value} {params : Arguments} {body : Expr} {scope : Scope} {k : Nat} {E : XK} {tb : TE} {Q : VK} (I : Inv X pins σ H s) (L : LamS X.env.scope scope)
    (there : s1.heap.get? f = some (PySem.W.kla_obj "<lambda>" (X.env.qual ++ "<lambda>") params body scope (cloFrom X.env.cells scope.names []) pm c' ctv))
    (hbind : bindArgs (PySem.W.kla_fn "<lambda>" (X.env.qual ++ "<lambda>") params body scope (cloFrom X.env.cells scope.names []) pm (.ref c') ctv) ⟨[], []⟩ = pure [])
    (e0 : Env0 X.prog X.w X.K X.mg X.base AZ SZ s1 HZ) (un : Un (frs X.stack) [] H HZ s.heap s1.heap) (nl : s1.heap.NoLimit) (hr : Room (k + 1) AZ) (hc : HZ c' = some (CodeO c' (X.env.qual ++ "<lambda>")))
    (hbody : ∀ (A : Around) (outer : List Env) (s : Shared) (H : Hp), Room k (A.deeper (lamEnv X scope s.heap.objs.size f c')) → PE (Hl.lamN X A outer s H E scope f c') body tb) (ht : tb σ HZ Q) :
    codeAny (model X.prog X.w) AZ (.call (.ref f) ⟨[], []⟩) (CR (L2N.CX X.prog X.w) SZ X.prog X.w HZ s1 Q E) s1 := by
  obtain ⟨⟨oc, vs, t, a1, a2, a3⟩, _⟩ := e0.hok c' _ hc
  refine PySem.W.kla_callFunE hr.depth there rfl L.co L.gen rfl ⟨c', oc, vs, t, rfl, a1, a2, a3⟩ ?_
  rw [hbind]
  refine wpAny_pure (wpAny_newFunctionEnv (fun y hy => (L.own y hy).2) (fun y hy => (nomatch hy)) (fun g names grown => ⟨nl.fresh _ grown, ?_⟩) L.kind)
  have old : ∀ b o, s1.heap.get? b = some o → g.get? b = some o := fun b o e => grown.extBut b o (Nat.ne_of_lt (Heap.lt_size e)) (Heap.get?_push_of_some _ e)
  have J := (lam_start2 (E := E) (f := f) (c' := c') (tk := s1.toks + ([] : List (Str × Value)).length) I L e0 hr.hd un names old).wish (fun e s' => wpAny (model X.prog X.w) (AZ.deeper (lamEnv X scope s1.heap.objs.size f c')) (leaving (lamEnv X scope s1.heap.objs.size f c') e) (fun _ s'' => L2N.CX X.prog X.w SZ HZ s1 E e s'') (fun e' s'' => L2N.CX X.prog X.w SZ HZ s1 E e' s'') s')
  refine PySem.W.kla_codeExpr (wpAny_mono ((hbody AZ SZ s1 HZ (hr.deeper _)).run [] _ σ HZ Q J ht) ?_ fun _ _ z => z)
  rintro v s' ⟨w', H', J', rv, q⟩
  exact ⟨w', H', J'.os, J'.bare, J'.base, J'.hok, rv, q⟩
end
/-! ### a deed: called without anything, it tells d, again and again -/
def DeedAt (X : Cx) (H1 : Hp) (s' : Shared) (k : Nat) (f : Addr) (d : PyData) : Prop :=
  ∀ (AZ : Around) (SZ : List Env) (s1 : Shared) (HZ : Hp) (Q : VK), Env0 X.prog X.w X.K X.mg X.base AZ SZ s1 HZ → Un (frs X.stack) [] H1 HZ s'.heap s1.heap → s1.heap.NoLimit → Room k AZ → Same H1 HZ → (∀ v H', Same HZ H' → FD X.K HZ H' v d → Q v H') →
    PySem.W.FnAt f s1.heap ∧ codeAny (model X.prog X.w) AZ (.call (.ref f) ⟨[], []⟩) (CR L2.CX0 SZ X.prog X.w HZ s1 Q C8.E0) s1
theorem cr0 {P : Program} {w : World} {SZ : List Env} {H : Hp} {s s' : Shared} {Q : VK} {r : Result} (h : CR (L2N.CX P w) SZ P w H s Q C8.E0 r s') : CR L2.CX0 SZ P w H s Q C8.E0 r s' := by
  match r, h with
  | .error e, h =>
    obtain ⟨_, _, _, _, _, _, _, _, _, _, _, _, z⟩ := h
    exact z.elim
  | .ok (.ret u), h => exact h
  | .ok .next, h => exact h
  | .ok .brk, h => exact h
  | .ok .cont, h => exact h
/-- a lambda that is kept, and how its body is read -/
def LamK (X : Cx) (k : Nat) (tb : TE) (H : Hp) (f : Addr) : Prop :=
  ∃ (params : Arguments) (body : Expr) (scope : Scope) (c' : Addr), H f = some (LamO f (X.env.qual ++ "<lambda>") params body scope (cloFrom X.env.cells scope.names []) c') ∧ H c' = some (CodeO c' (X.env.qual ++ "<lambda>")) ∧ LamS X.env.scope scope ∧
    (∀ (q : Str) (cl : List (Str × Addr)) (pm cv ctv : Value), bindArgs (PySem.W.kla_fn "<lambda>" q params body scope cl pm cv ctv) ⟨[], []⟩ = pure []) ∧
    ∀ (A : Around) (outer : List Env) (s : Shared) (H : Hp), Room k (A.deeper (lamEnv X scope s.heap.objs.size f c')) → PE (Hl.lamN X A outer s H C8.E0 scope f c') body tb
theorem LamK.ext {X : Cx} {k : Nat} {tb : TE} {H H' : Hp} {f : Addr} (h : LamK X k tb H f) (e : ExtN H H') : LamK X k tb H' f := by
  obtain ⟨params, body, scope, c', h1, h2, h3⟩ := h
  exact ⟨params, body, scope, c', e _ _ h1 lamO_nt, e _ _ h2 codeO_ne, h3⟩
theorem LamK.same {X : Cx} {k : Nat} {tb : TE} {H H' : Hp} {f : Addr} (h : LamK X k tb H f) (e : Same H H') : LamK X k tb H' f := h.ext (ext_same e)
theorem LamK.put {X : Cx} {k : Nat} {tb : TE} {H : Hp} {f a : Addr} {xs : List V} {o : HO} (h : LamK X k tb H f) (e : H a = some (.lst xs)) : LamK X k tb (upd H a o) f := by
  obtain ⟨params, body, scope, c', h1, h2, h3⟩ := h
  refine ⟨params, body, scope, c', by rw [upd_ne (ne_of h1 e (lamO_nl xs))]; exact h1, by rw [upd_ne (ne_of h2 e (fun z => by unfold CodeO at z; cases z))]; exact h2, h3⟩
/-- what the lambda tells, from here on -/
def Tells (K : PySem.W.Frag) (tb : TE) (σ : L2.St) (H : Hp) (d : PyData) : Prop := ∀ (HZ : Hp) (Q : VK), Same H HZ → (∀ v H', Same HZ H' → FD K HZ H' v d → Q v H') → tb σ HZ Q
theorem Tells.same {K : PySem.W.Frag} {tb : TE} {σ : L2.St} {H H' : Hp} {d : PyData} (h : Tells K tb σ H d) (e : Same H H') : Tells K tb σ H' d := fun HZ Q s q => h HZ Q (e.trans s) q
theorem deed_of {X : Cx} {pins : List (Addr × Obj)} {σ : L2.St} {H : Hp} {s : Shared} {k : Nat} {tb : TE} {f : Addr} {d : PyData} (I : Inv X pins σ H s) (hk : LamK X k tb H f) (ht : Tells X.K tb σ H d) : DeedAt X H s (k + 1) f d := by
  obtain ⟨params, body, scope, c', h1, h2, L, hb, hbody⟩ := hk
  intro AZ SZ s1 HZ Q e0 un nl hr sm q
  obtain ⟨⟨pm, ctv, there⟩, _⟩ := e0.hok f _ (sm _ _ h1)
  exact ⟨⟨_, _, _, _, there⟩, codeAny_mono (actF I L there (hb _ _ _ _ _) e0 un nl hr (sm _ _ h2) hbody (ht HZ Q sm q)) fun _ _ z => cr0 z⟩
/-- lambda: body, as a value -/
def tLamK (X : Cx) (T : List (Addr × Str)) (k : Nat) (tb : TE) : TE := fun _ H Q => Tabs T H ∧ ∀ f H1, ExtN H H1 → Tabs T H1 → LamK X k tb H1 f → Q (.ref f) H1
theorem pe_lamk {X : Cx} {T : List (Addr × Str)} {c P : Addr} {k : Nat} {params : Arguments} {body : Expr} {scope : Scope} {tb : TE} {lpos : Pos} (TB : TabB X.base X.mg c P) (hcode : X.env.code = .ref c) (hm : (P, X.env.qual ++ "<lambda>") ∈ T) (hu : ∀ p ∈ T, p.1 = P → p.2 = X.env.qual ++ "<lambda>")
    (L : LamS X.env.scope scope) (hdef : defaultsOf params X.env = ([], [])) (hbind : ∀ (q : Str) (cl : List (Str × Addr)) (pm cv ctv : Value), bindArgs (PySem.W.kla_fn "<lambda>" q params body scope cl pm cv ctv) ⟨[], []⟩ = pure [])
    (hbody : ∀ (A : Around) (outer : List Env) (s : Shared) (H : Hp) (f c' : Addr), Room k (A.deeper (lamEnv X scope s.heap.objs.size f c')) → PE (Hl.lamN X A outer s H C8.E0 scope f c') body tb) : PE X (.Lambda params body scope lpos) (tLamK X T k tb) := by
  refine ⟨fun pins s σ H Q I h => ?_⟩
  obtain ⟨hT, h⟩ := h
  refine lam_kept I TB hcode hm hu hT hdef L fun f c' H2 s' I2 e2 t2 hf hc => ⟨.ref f, H2, I2, rfl, h f H2 e2 t2 ⟨params, body, scope, c', hf, hc, L, hbind, fun A outer s H hr => hbody A outer s H f c' hr⟩⟩
end Fr
namespace L2
open PySem PySem.Spec PyProof.Rows
section
variable {X : Cx} {scope : Scope}
/-- a comprehension whose tests are walked with the def's own state in hand -/
theorem pe_lcJ {elt tg iter : Expr} {ifs : List Expr} {own : List (Str × Nat)} {pos : Pos} {wi : TI} {g : TG} {tt : St → TT} {te : TE}
    (hs : X.stack = X.env :: X.outer) (hf : X.env.frame = some X.env.locals) (hc : X.calm = true) (hN : X.N.Nodup) (hi : PI X tg iter wi) (ok : BlkOk X.N X.env.scope scope own)
    (hg : ∀ (s : Shared) (H : Hp) (C : Addr) (cl : List (Str × Addr)) (fp : List Addr), PG (X.blk s H scope (compEnvC scope cl C X.env) fp) tg g)
    (ht : ∀ (pins : List (Addr × Obj)) (σ : St) (s : Shared) (H : Hp) (cl : List (Str × Addr)) (fp : List Addr), Inv X pins σ H s → (∀ b ∈ fp, FpOk X pins H b ∧ b < s.heap.objs.size) → PTs (X.blk s H scope (compEnvC scope cl s.heap.objs.size X.env) fp) ifs (tt σ))
    (he : ∀ (s : Shared) (H : Hp) (C : Addr) (cl : List (Str × Addr)) (fp : List Addr) (xe : Value → Shared → Prop), PE ((X.blk s H scope (compEnvC scope cl C X.env) fp).wish xe) elt te)
    (hfs : ∀ x, foldedSetIterable iter X.env x = pure x := by intro _; rfl) : PE X (.ListComp elt [⟨tg, iter, ifs, 0⟩] scope pos) (fun σ H Q => tLc wi g (tt σ) te (own.map (·.2)) σ H Q) := by
  refine ⟨fun pins s σ H Q I h => ?_⟩
  rw [eval_ListComp]
  refine comprehension_at (use := none) rfl hfs (closure_ok fun y hy e => (ok.free y hy e).elim (fun z => I.ok.has _ (.inl z)) fun z => I.ok.has _ (.inr z)) ok.kind (fun y hy e => by rw [ok.uniq y hy, e]) ?_
  refine thn (hi.run pins s σ H _ I h) fun xv s1 hx => thn hx fun itv s2 ⟨it, fp, tn, It, H2, e, I2, Tn, t2, f2, q⟩ => ?_
  subst e
  refine wpAny_newObj_type (newEnv_comp ?_) (by show 0 ≤ sizeLine; decide)
  have hn : H2 s2.heap.objs.size = none := I2.hok.fresh (Nat.le_refl _)
  obtain ⟨V, ⟨m0, v0⟩, turn⟩ := q s2.heap.objs.size hn
  have grow : ∀ b o, s2.heap.get? b = some o → (s2.heap.push { cls := .type "list", data := .seq ([] : List Value).toArray }).get? b = some o := fun b o e => Heap.get?_push_of_some _ e
  have J : Inv X pins σ (upd H2 s2.heap.objs.size (.lst [])) { s2 with heap := s2.heap.push { cls := .type "list", data := .seq ([] : List Value).toArray } } :=
    I2.laid (t' := s2.toks) grow (Nat.le_refl _) ⟨Nat.zero_le _, [], 0, .nil, Heap.get?_push_size _ rfl⟩
  have fo : ∀ b ∈ fp, FpOk X pins (upd H2 s2.heap.objs.size (.lst [])) b ∧ b < (s2.heap.push { cls := .type "list", data := .seq ([] : List Value).toArray }).objs.size := fun b hb => by
    obtain ⟨o, e, _⟩ := Tn.obj _ _ t2 b hb
    have lt := Heap.lt_size e
    obtain ⟨c0, c⟩ := f2 b hb
    exact ⟨⟨by rw [upd_ne (Nat.ne_of_lt lt)]; exact c0, c⟩, by rw [Heap.size_push]; exact Nat.lt_succ_of_lt lt⟩
  have tn1 : tn 0 (s2.heap.push { cls := .type "list", data := .seq ([] : List Value).toArray }) := Tn.keep _ _ _ t2 fun b _ o e => grow b o e
  exact lcx_start (scope := scope) (own := own) (W := fun _ _ _ _ => False) (Ex := fun _ _ _ => False) Hl.takesN (fun _ _ _ _ z => z) hs hf hc hN ok J fo Tn tn1 rfl (hg _ _ _ _ _) (ht _ _ _ _ _ _ J fo) (he _ _ _ _ _ _) v0 turn
end
end L2
namespace Fr
open PySem PySem.Spec PyProof.Rows L2 LamX
/-! ### _law_again -/
/-- data that the law may copy, spoil and hold against the same -/
structure Fit (d : PyData) : Prop where
  dp : dep d < 5
  wd : wid d = true
  sh : Shp 60 d
theorem spoil_fd {K : PySem.W.Frag} {n : Nat} {v : V} {d : PyData} {H2 H3 H4 : Hp} {Q : VK} {E : XK} (h : FD K H2 H3 v d) (s : Same H3 H4) (hd : dep d < n) (hw : wid d = true)
    (q : ∀ H5, (Same H4 H5 ∨ ∃ a, H2 a = none ∧ H3 a ≠ none ∧ ∀ b o, b ≠ a → H4 b = some o → H5 b = some o) → Q .non H5) : spSpoil K n [v] H4 Q E := by
  refine ⟨v, d, rfl, same_dp s h.dp, hd, hw, ?_⟩
  cases h with
  | no h hn => exact .inl ⟨hn, fun H' s' => q H' (.inl s')⟩
  | @lst a xs ds h ha hx hn => exact .inr (.inl ⟨ds, a, xs, rfl, hn, rfl, s _ _ ha, same_dps s hx, fun H' s' => q _ (.inr ⟨a, h, by rw [ha]; simp, fun b o hb e => by rw [upd_ne hb]; exact s' _ _ e⟩)⟩)
  | @pair a b xs u ds e h hb ha hx hn hu he => exact .inr (.inr ⟨ds, e, a, xs, b, u, rfl, hn, he, rfl, same_tup s hb, s _ _ ha, same_dps s hx, same_dp s hu, fun H1 H' s1 s' => q _ (.inr ⟨a, h, by rw [ha]; simp, fun c o hc z => s' _ _ (by rw [upd_ne hc]; exact s1 _ _ z)⟩)⟩)
section
variable {X : Cx}
theorem again_run (T : Txt X.K X.mg) {g : Addr} {fd : FuncData} (D : FunD X.K "_law_again" "_law_again" (defArgs s__law_again) (defBody s__law_again) (defScope s__law_again) [] [] g fd) (bd : L2.Binds X.K fd ["deed", "handed"] [])
    {pins : List (Addr × Obj)} {σ : L2.St} {H1 : Hp} {s' : Shared} {f : Addr} {hv : V} {hu : Value} {dh d : PyData} {Q : VK} (I1 : Inv X pins σ H1 s') (rv : RelV hv hu) (hr : Room 12 X.A) (hh : Dp X.K H1 hv dh) (fh : Fit dh) (ft : Fit d) (hD : DeedAt X H1 s' 11 f d)
    (q : ∀ H', Same H1 H' → Q (.bl true) H') : codeAny (model X.prog X.w) X.A (.call (.ref g) ⟨[.ref f, hu], []⟩) (CR L2.CX0 X.stack X.prog X.w H1 s' Q C8.E0) s' := by
  obtain ⟨oc, od, dV, kV, doc, pmT, an, cdT, ct, osl, rfl, lk, hcd, _, _⟩ := D.ex
  have c__law_copy := ok__law_copy (P := X.prog) (w := X.w) (base := X.base) T 5
  have c__law_spoil := ok__law_spoil (P := X.prog) (w := X.w) (base := X.base) T 5
  refine run_ofS (N := ["deed", "handed", "kept", "told", "due"]) (ps := ["deed", "handed"]) (us := [.ref f, hu]) (vs := [.ref f, hv]) lk hcd sc__law_again hr I1.env0 (bd s' [.ref f, hu] I1.kIn rfl) (.cons rfl (.cons rv .nil)) rfl fun hr => ?_
  have hdeed : ∀ p1 p2 : Pos, PE (cxOf L2.CX0 X.prog X.w X.K X.mg X.base ["deed", "handed", "kept", "told", "due"] "_law_again" (defScope s__law_again) g cdT X.A X.stack s' H1 C8.E0).nox (.Call (.Name "deed" p1) [] [] p2)
      (fun σZ HZ QZ => σZ[0]? = some (some (.ref f)) ∧ Same H1 HZ ∧ ∀ v H', Same HZ H' → FD X.K HZ H' v d → QZ v H') := by
    intro p1 p2
    refine ⟨fun pinsZ sZ σZ HZ QZ IZ h => ?_⟩
    obtain ⟨h0, sm, q⟩ := h
    refine wpAny_Call_Name_kw (thn ((pe_var (pos := p1) (i := 0) rfl (.inl rfl)).run pinsZ sZ σZ HZ (fun v H2 => v = .ref f ∧ H2 = HZ) IZ ⟨.ref f, h0, rfl, rfl⟩) fun u s1 ⟨v, H2, I2, r2, ev, eH⟩ => ?_)
    subst ev
    subst eH
    obtain rfl : u = Value.ref f := r2
    obtain ⟨fo, rc⟩ := hD _ _ s1 H2 QZ I2.env0 I2.base I2.nolimit hr sm q
    refine PySem.W.callWith_F0 fo (wpAny_call (codeAny_mono rc fun r s2 hq2 => ?_))
    match r, hq2 with
    | .error e, hq2 => exact (show False from hq2).elim
    | .ok (.ret u), hq2 => exact I2.after hq2
  suffices key : ∃ t, PSs (cxOf L2.CX0 X.prog X.w X.K X.mg X.base ["deed", "handed", "kept", "told", "due"] "_law_again" (defScope s__law_again) g cdT X.A X.stack s' H1 C8.E0).nox (defBody s__law_again) t ∧ t { nx := fun _ H' => Q .non H', rt := Q } (L2.start ["deed", "handed", "kept", "told", "due"] [.ref f, hv]) H1 by
    obtain ⟨t, h1, h2⟩ := key
    exact ⟨t, h1.nox, h2⟩
  refine ⟨_, (pss_cons (ps_set (i := 2) sc__law_again.nd rfl (.inl rfl) (pe_cal c__law_copy (hr.mono (by decide)) (by rfl) pass0 (pa_cons (pv 1) pa_nil)))
      (pss_cons (ps_set (i := 3) sc__law_again.nd rfl (.inl rfl) (hdeed _ _))
      (pss_cons (ps_set (i := 4) sc__law_again.nd rfl (.inl rfl) (pe_cal c__law_copy (hr.mono (by decide)) (by rfl) pass0 (pa_cons (pv 3) pa_nil)))
      (pss_cons (ps_expr (pe_cal c__law_spoil (hr.mono (by decide)) (by rfl) pass0 (pa_cons (pv 3) pa_nil)))
      (pss_cons (ps_if (pt_cmpR (neS rfl hr.units) (pv 1) (pv 2) (nomark _)) (pss_one (ps_ret pe_bl)) pss_nil)
      (pss_one (ps_ret (pe_and (pe_cmpR (eqS rfl hr.units) (hdeed _ _) (pv 4) (nomark _)) (pe_and (pe_cmpR (eqS rfl hr.units) (hdeed _ _) (pv 4) (nomark _)) (pe_one (pe_cmpR (eqS rfl hr.units) (pv 1) (pv 2) (nomark _)))))))))))), ?_⟩
  refine ⟨_, rfl, hv, dh, rfl, hh, fh.dp, fh.wd, fun kv H2 s2 hkv => ?_⟩
  refine ⟨rfl, s2, fun tv H3 s3 htv => ?_⟩
  refine ⟨_, rfl, tv, d, rfl, htv.dp, ft.dp, ft.wd, fun dv H4 s4 hdv => ?_⟩
  refine ⟨_, rfl, ?_⟩
  dsimp only [tNil, tCons]
  refine spoil_fd htv s4 ft.dp ft.wd fun H5 hS => ?_
  have s25 : Same H2 H5 := fun b o e => by
    have e4 := s4 _ _ (s3 _ _ e)
    rcases hS with s5 | ⟨a, h1, h2, h3⟩
    · exact s5 _ _ e4
    · exact h3 b o (ne_of_none e h1) e4
  have hdv5 : Dp X.K H5 dv d := by
    refine same_dp (fun b o e => ?_) hdv
    obtain ⟨e1, e2⟩ := New.some e
    rcases hS with s5 | ⟨a, h1, h2, h3⟩
    · exact s5 _ _ e2
    · exact h3 b o (fun z => h2 (by rw [← z]; exact e1)) e2
  have hh5 : Dp X.K H5 hv dh := same_dp (s2.trans s25) hh
  have hk5 : Dp X.K H5 kv dh := same_dp s25 (same_dp (New.same _ _) hkv)
  have s15 := s2.trans s25
  refine ⟨_, rfl, _, rfl, dh, hh5, hk5, fh.sh, _, rfl, iteF ?_⟩
  refine ⟨rfl, s15, fun v6 H6 s6 h6 => ⟨_, rfl, d, h6.dp, same_dp s6 hdv5, ft.sh, _, rfl, iteT ?_⟩⟩
  refine ⟨rfl, s15.trans s6, fun v7 H7 s7 h7 => ⟨_, rfl, d, h7.dp, same_dp (s6.trans s7) hdv5, ft.sh, _, rfl, iteT ?_⟩⟩
  have s67 := s6.trans s7
  exact ⟨_, rfl, _, rfl, dh, same_dp s67 hh5, same_dp s67 hk5, fh.sh, q _ (s15.trans s67)⟩
theorem vals_two {f : Addr} {v : V} {us : List Value} (r : Vals [.ref f, v] us) : ∃ u, us = [.ref f, u] ∧ RelV v u := by
  cases r with
  | cons rf r => cases r with
    | cons rh r => cases r with
      | nil =>
        cases rf
        exact ⟨_, rfl, rh⟩
/-- _law_again(.., ..) -/
def tAgain (Y : Cx) (t : TA) : TE := fun τ H Q => t τ H fun vs H1 => ∃ (f : Addr) (hv : V) (dh d : PyData), vs = [.ref f, hv] ∧ (∀ pins s, Inv Y pins τ H1 s → DeedAt Y H1 s 11 f d) ∧ Dp Y.K H1 hv dh ∧ Fit dh ∧ Fit d ∧ ∀ H', Same H1 H' → Q (.bl true) H'
theorem pe_again (T : Txt X.K X.mg) {e : Expr} {es : List Expr} {t : TA} {p pos : Pos} (hg : Gl X "_law_again") (hr : Room 12 X.A) (ha : PA X (e :: es) t)
    (he : starEach (e :: es) X.env = (false, eval e X.env) :: starEach es X.env := by rfl) (hpl : (backTo pos (starEach es X.env)).any (·.1) = false := by rfl) : PE X (.Call (.Name "_law_again" p) (e :: es) [] pos) (tAgain X t) := by
  refine ⟨fun pins s σ H Q I h => ?_⟩
  refine wpAny_Call_Name_kw (ld_glob I hg T.m__law_again ?_ (by decide))
  refine PySem.W.callWith_K (h₀ := X.base) I.ok.mod.kin T.d__law_again.kp (thn (ha.run pos pins s σ H _ I h) fun us s1 ⟨vs, H1, I1, r, q⟩ => ⟨I1.kIn, ?_⟩) he hpl
  obtain ⟨f, hv, dh, d, rfl, hD, hh, fh, ft, q⟩ := q
  obtain ⟨hu, rfl, rh⟩ := vals_two r
  have rc := again_run T T.d__law_again (T.d__law_again.bindsN (fun _ _ _ _ _ _ us hl => match us, hl with | [_, _], _ => rfl)) I1 rh hr hh fh ft (hD _ _ I1) q
  refine wpAny_call (codeAny_mono rc fun r s2 hq2 => ?_)
  match r, hq2 with
  | .error e, hq2 => exact (show False from hq2).elim
  | .ok (.ret u), hq2 => exact I1.after hq2
/-- a lambda of this def, as a value -/
theorem lamk (T : Txt X.K X.mg) {x : Str} (hx : x ∈ lams) (hB : TabX X.K X.mg X.base lams) (hcode : X.env.code = .ref (He.codeOf X.K (x, none))) (hq : X.env.qual = x ++ ".<locals>.") {k : Nat} {params : Arguments} {body : Expr} {scope : Scope} {tb : TE} {lpos : Pos}
    (L : LamS X.env.scope scope) (hdef : defaultsOf params X.env = ([], [])) (hbind : ∀ (q : Str) (cl : List (Str × Addr)) (pm cv ctv : Value), bindArgs (PySem.W.kla_fn "<lambda>" q params body scope cl pm cv ctv) ⟨[], []⟩ = pure [])
    (hbody : ∀ (A : Around) (outer : List Env) (s : Shared) (H : Hp) (f c' : Addr), Room k (A.deeper (lamEnv X scope s.heap.objs.size f c')) → PE (Hl.lamN X A outer s H C8.E0 scope f c') body tb) : PE X (.Lambda params body scope lpos) (tLamK X (Tb X.K lams) k tb) :=
  pe_lamk (c := (He.cT X.K (x, none)).1) (P := (He.cT X.K (x, none)).2) (hB x hx) hcode (by rw [hq]; exact tb_mem hx) (by rw [hq]; exact tb_u T.w_tab hx) L hdef hbind hbody
/-- _law_again(deed, handed) within a comprehension -/
def tAgB (X : Cx) (σ : L2.St) (i j : Nat) : TE := fun τ H Q => ∃ (f : Addr) (hv : V) (dh d : PyData) (tb : TE), τ[i]? = some (some (.ref f)) ∧ τ[j]? = some (some hv) ∧ LamK X 10 tb H f ∧ Tells X.K tb σ H d ∧ Dp X.K H hv dh ∧ Fit dh ∧ Fit d ∧ ∀ H', Same H H' → Q (.bl true) H'
theorem again_blk (T : Txt X.K X.mg) {pins : List (Addr × Obj)} {σ : L2.St} {Hd : Hp} {sd : Shared} {scope : Scope} {ce : Env} {fp : List Addr} {p p1 p2 pos : Pos} {i j : Nat} {x y : Str} (J : Inv X pins σ Hd sd) (fo : ∀ b ∈ fp, FpOk X pins Hd b ∧ b < sd.heap.objs.size) (cl : ce.locals = sd.heap.objs.size)
    (hg : Gl (X.blk sd Hd scope ce fp) "_law_again") (hr : Room 12 X.A) (hi : X.N[i]? = some x) (hj : X.N[j]? = some y) (vi : Vis ce.scope x) (vj : Vis ce.scope y) (dx : (x == ("__debug__" : Str)) = false := by decide) (cx : (x == ("__classdict__" : Str)) = false := by decide) (dy : (y == ("__debug__" : Str)) = false := by decide) (cy : (y == ("__classdict__" : Str)) = false := by decide) :
    PE (X.blk sd Hd scope ce fp) (.Call (.Name "_law_again" p) [.Name x p1, .Name y p2] [] pos) (tAgB X σ i j) := by
  refine PE.imp (pe_again (X := X.blk sd Hd scope ce fp) T hg hr (pa_cons (pe_var (X := X.blk sd Hd scope ce fp) (i := i) hi vi dx cx) (pa_cons (pe_var (X := X.blk sd Hd scope ce fp) (i := j) hj vj dy cy) pa_nil))) fun τ H Q h => ?_
  obtain ⟨f, hv, dh, d, tb, h1, h2, h3, h4, h5, h6, h7, h8⟩ := h
  refine ⟨_, h1, _, h2, f, hv, dh, d, rfl, fun pb t G => ?_, h5, h6, h7, h8⟩
  exact deed_of (X := X) (blk_back J fo cl G).1 h3 h4
end
end Fr
namespace Fr
open PySem PySem.Spec PyProof.Rows L2
/-! ### nothing grows too great -/
theorem rm_upto {k b n : Nat} (h : SomeN k b n) (c : Nat) : rm n c ≤ b := by
  by_cases hc : c < 12
  · exact Nat.le_trans (rm_tot hc) (tot_some h)
  · rw [rm_big (by omega)]
    omega
theorem rm_beyond {k b n : Nat} (h : SomeN k b n) {c : Nat} (hk : k ≤ c) (hc : c < 12) : rm n c = 0 := by
  obtain ⟨as, h1, rfl, h2, h3⟩ := h
  unfold rm
  rw [rooms_make h1, List.getD_eq_getElem?_getD, h3 c hk hc]
  rfl
structure Small3 (l : Prog) (n : Nat) : Prop where
  f : ∀ f ∈ l, FracN 3 f
  len : l.length ≤ 6
  n : SomeN 3 5 n
theorem Small3.prog {l : Prog} {n : Nat} (h : Small3 l n) : isProg l = true := fracs_prog h.f (Nat.le_trans h.len (by decide))
theorem Small3.num {l : Prog} {n : Nat} (h : Small3 l n) : isNum n = true := h.n.num (by decide)
theorem Small3.run {l : Prog} {n : Nat} (h : Small3 l n) {m : Nat} (hm : m ≤ 6) : ∃ r, runF l m n = some r := by
  have hn := isNum_iff.mp h.num
  refine run_some m n fun s hs z => ?_
  obtain ⟨c, _, hc⟩ := maxN_rm.mp z
  have := seq_grow (b := 5) h.prog hn.1 hn.2.1 (fun p hp c => rm_upto (h.f p hp).1 c) (rm_upto h.n) s c
  omega
theorem Small3.great {l : Prog} {n : Nat} (h : Small3 l n) : isGreat (led l n) = false := by
  obtain ⟨r, hr⟩ := h.run (m := 1) (by decide)
  unfold runF at hr
  cases e : led l n with
  | none => rfl
  | some x =>
    rw [e] at hr
    dsimp only at hr
    split at hr
    · cases hr
    · rename_i hx
      show decide (400 < maxN (rooms x)) = false
      exact decide_eq_false hx
theorem Small3.jumps {l : Prog} {n : Nat} (h : Small3 l n) : ∃ r, jumpsF l 6 n = some r :=
  jumps_some h.prog (fun p hp => ⟨tot_some (h.f p hp).1, tot_some (h.f p hp).2.1⟩) 6 n 6 h.num (Nat.le_trans (tot_some h.n) (by decide)) (by decide) (by decide)
/-! ### parting looks at few -/
theorem fold_max {b r : Nat} : ∀ (fs : Prog) (a : Nat), a ≤ b → (∀ f ∈ fs, rm f.2 r ≤ b) → fs.foldl (fun a f => max a (rm f.2 r)) a ≤ b
  | [], a, h, _ => h
  | f :: fs, a, h, hf => fold_max fs _ (Nat.max_le.mpr ⟨h, hf f List.mem_cons_self⟩) fun g hg => hf g (List.mem_cons_of_mem _ hg)
theorem need_le {fs : Prog} {r b : Nat} (h : ∀ f ∈ fs, rm f.2 r ≤ b) : needR fs r ≤ b := fold_max fs 0 (Nat.zero_le _) h
theorem needL_at {fs : Prog} {i : Nat} (h : i < 12) : (needL fs).getD i 0 = needR fs i := by
  unfold needL
  rw [List.getD_eq_getElem?_getD, List.getElem?_map, List.getElem?_range h]
  rfl
theorem need_few {fs : Prog} (h : ∀ f ∈ fs, FracN 3 f) : (∀ r ∈ needL fs, r ≤ 20) ∧ ∀ i, i ≤ 12 → (ntF (needL fs) i).length ≤ 5000 := by
  have h3 : ∀ r, needR fs r ≤ 3 := fun r => need_le fun f hf => rm_upto (h f hf).2.1 r
  have h0 : ∀ r, 3 ≤ r → r < 12 → needR fs r = 0 := fun r hr h12 => Nat.le_zero.mp (need_le fun f hf => by rw [rm_beyond (h f hf).2.1 hr h12]; exact Nat.le_refl _)
  refine ⟨fun r hr => ?_, fun i hi => ?_⟩
  · obtain ⟨j, _, rfl⟩ := List.mem_map.mp hr
    exact Nat.le_trans (h3 j) (by decide)
  · have key : ∀ i, i ≤ 12 → (ntF (needL fs) i).length ≤ 4 ^ (min i 3) := by
      intro i
      induction i with
      | zero => intro _; exact Nat.le_refl _
      | succ i ih =>
        intro hi
        have ih := ih (by omega)
        rw [ntF_len, needL_at (by omega)]
        by_cases hi3 : i < 3
        · rw [Nat.min_eq_left (by omega)] at ih ⊢
          rw [Nat.pow_succ]
          exact Nat.mul_le_mul ih (Nat.succ_le_succ (h3 i))
        · rw [h0 i (by omega) (by omega), Nat.zero_add, Nat.mul_one]
          rw [Nat.min_eq_right (by omega)] at ih ⊢
          exact ih
    have h1 := key i hi
    have h2 : 4 ^ (min i 3) ≤ 4 ^ 3 := Nat.pow_le_pow_right (by decide) (Nat.min_le_right _ _)
    omega
/-! ### data that may be copied, spoilt, held against the same -/
structure FitN (k : Nat) (d : PyData) : Prop where
  dp : dep d ≤ k
  wd : wid d = true
  sh : Shp k d
theorem deps_le {k : Nat} : ∀ {ds : List PyData}, (∀ d ∈ ds, dep d ≤ k) → deps ds ≤ k
  | [], _ => by rw [deps]; exact Nat.zero_le _
  | d :: ds, h => by
    rw [deps]
    exact Nat.max_le.mpr ⟨h d List.mem_cons_self, deps_le fun e he => h e (List.mem_cons_of_mem _ he)⟩
theorem wids_of : ∀ {ds : List PyData}, (∀ d ∈ ds, wid d = true) → wids ds = true
  | [], _ => rfl
  | d :: ds, h => by
    show (wid d && wids ds) = true
    rw [h d List.mem_cons_self, wids_of fun e he => h e (List.mem_cons_of_mem _ he)]
    rfl
theorem FitN.mono {k j : Nat} {d : PyData} (h : FitN k d) (hk : k ≤ j) : FitN j d := ⟨Nat.le_trans h.dp hk, h.wd, h.sh.mono hk⟩
theorem FitN.lst {k : Nat} {ds : List PyData} (hl : ds.length ≤ 1000) (h : ∀ d ∈ ds, FitN k d) : FitN (k + 1) (.list ds) :=
  ⟨by rw [dep]; exact Nat.succ_le_succ (deps_le fun d hd => (h d hd).dp), by show (decide (ds.length ≤ 1000) && wids ds) = true; rw [decide_eq_true hl, wids_of fun d hd => (h d hd).wd]; rfl, .lst fun d hd => (h d hd).sh⟩
theorem FitN.tup {k : Nat} {ds : List PyData} (hl : ds.length ≤ 1000) (h : ∀ d ∈ ds, FitN k d) : FitN (k + 1) (.tuple ds) :=
  ⟨by rw [dep]; exact Nat.succ_le_succ (deps_le fun d hd => (h d hd).dp), by show (decide (ds.length ≤ 1000) && wids ds) = true; rw [decide_eq_true hl, wids_of fun d hd => (h d hd).wd]; rfl, .tup fun d hd => (h d hd).sh⟩
theorem FitN.int {k : Nat} {i : Int} : FitN k (.int i) := ⟨by simp [dep], rfl, .int⟩
theorem FitN.bool {k : Nat} {i : Bool} : FitN k (.bool i) := ⟨by simp [dep], rfl, .bool⟩
theorem FitN.non {k : Nat} : FitN k .none := ⟨by simp [dep], rfl, .non⟩
theorem FitN.str {k : Nat} {x : Str} (h : PyData.strOk x = true) : FitN k (.str x) := ⟨by simp [dep], rfl, .str h⟩
theorem FitN.nil {k : Nat} : ∀ d ∈ ([] : List PyData), FitN k d := fun _ h => nomatch h
theorem FitN.cons {k : Nat} {d : PyData} {ds : List PyData} (h : FitN k d) (t : ∀ e ∈ ds, FitN k e) : ∀ e ∈ d :: ds, FitN k e := fun e he => by
  rcases List.mem_cons.mp he with rfl | z
  · exact h
  · exact t e z
theorem FitN.map {α : Type} {k : Nat} {f : α → PyData} {l : List α} (h : ∀ a ∈ l, FitN k (f a)) : ∀ e ∈ l.map f, FitN k e := fun e he => by
  obtain ⟨a, ha, rfl⟩ := List.mem_map.mp he
  exact h a ha
theorem FitN.opt {k : Nat} (o : Option Nat) : FitN k (optD o) := by
  cases o with
  | none => exact .non
  | some a => exact .int
theorem FitN.frac {k : Nat} (f : Nat × Nat) : FitN (k + 1) (fracD f) := .tup (by simp) (.cons .int (.cons .int .nil))
theorem FitN.prog {k : Nat} {l : Prog} (h : l.length ≤ 1000) : FitN (k + 2) (progD l) := .lst (by rw [List.length_map]; exact h) (.map fun f _ => .frac f)
theorem FitN.nats {k : Nat} {l : List Nat} (h : l.length ≤ 1000) : FitN (k + 1) (.list (l.map nD)) := .lst (by rw [List.length_map]; exact h) (.map fun f _ => .int)
theorem FitN.jumps {k : Nat} {r : List (Nat × Option Nat) × Option Nat} (h : r.1.length ≤ 1000) : FitN (k + 3) (jumpsD r) :=
  .tup (by simp) (.cons (.lst (by rw [List.length_map]; exact h) (.map fun p _ => .tup (by simp) (.cons .int (.cons (.opt _) .nil)))) (.cons (.opt _) .nil))
theorem FitN.pair {k : Nat} (o : Option (Nat × Nat)) : FitN (k + 1) (pairO o) := by
  cases o with
  | none => exact .non
  | some p => exact .tup (by simp) (.cons .int (.cons .int .nil))
theorem okT_add : PyData.strOk "add" = true := by decide +kernel
theorem okT_take : PyData.strOk "take" = true := by decide +kernel
theorem okT_end : PyData.strOk "end" = true := by decide +kernel
theorem FitN.ln {k : Nat} (l : Ln) : FitN (k + 1) (lnD l) := by
  cases l with
  | add c g => exact .tup (by simp) (.cons (.str okT_add) (.cons .int (.cons .int .nil)))
  | take c g h => exact .tup (by simp) (.cons (.str okT_take) (.cons .int (.cons .int (.cons .int .nil))))
  | fin => exact .tup (by simp) (.cons (.str okT_end) .nil)
theorem FitN.mach {k : Nat} {m : Mach} (h : m.length ≤ 1000) : FitN (k + 2) (machD m) := .lst (by rw [List.length_map]; exact h) (.map fun l _ => .ln l)
theorem words_ok (m : Mach) : WordsD (machD m) := fun e he => by
  obtain ⟨l, _, rfl⟩ := List.mem_map.mp he
  cases l with
  | add c g => exact .inl rfl
  | take c g h => exact .inr (.inl rfl)
  | fin => exact .inr (.inr (.inl rfl))
theorem mrun_few (m : Mach) : ∀ (k : Nat) (s : St2), (mrunF m k s).length ≤ k + 1
  | 0, s => by simp [mrunF]
  | k + 1, s => by
    unfold mrunF
    cases wentM m s with
    | none => simp
    | some t =>
      have := mrun_few m k t
      simp
      omega
theorem mrun_three {m : Mach} (hm : isMach m = true) : ∀ (k b : Nat) (s : St2), OkSt m b s → ∀ z ∈ mrunF m k s, z.2.length = 3
  | 0, b, s, h, z, hz => by
    rw [List.mem_singleton.mp hz]
    exact h.2.1
  | k + 1, b, s, h, z, hz => by
    unfold mrunF at hz
    cases e : wentM m s with
    | none =>
      rw [e] at hz
      rw [List.mem_singleton.mp hz]
      exact h.2.1
    | some t =>
      rw [e] at hz
      rcases List.mem_cons.mp hz with rfl | hz
      · exact h.2.1
      · exact mrun_three hm k _ t (went_ok hm h e) z hz
theorem FitN.sts {k : Nat} {l : List St2} (h : l.length ≤ 1000) (h3 : ∀ s ∈ l, s.2.length = 3) : FitN (k + 3) (.list (l.map stD)) :=
  .lst (by rw [List.length_map]; exact h) (.map fun s hs => .tup (by simp) (.cons .int (.cons (.tup (by rw [List.length_map, h3 s hs]; decide) (.map fun _ _ => .int)) .nil)))
/-- the signs of a program's text -/
theorem join_small {a : List Nat} (ha : ∀ c ∈ a, c < 1114112) : ∀ (ps : List (List Nat)), (∀ p ∈ ps, ∀ c ∈ p, c < 1114112) → ∀ c ∈ TL.joinL a ps, c < 1114112
  | [], _, c, hc => by
    simp [TL.joinL] at hc
  | [p], h, c, hc => by
    have hc : c ∈ p := by simpa [TL.joinL] using hc
    exact h p List.mem_cons_self c hc
  | p :: q :: ps, h, c, hc => by
    have hc : c ∈ p ++ (a ++ TL.joinL a (q :: ps)) := by simpa [TL.joinL] using hc
    rcases List.mem_append.mp hc with hc | hc
    · exact h p List.mem_cons_self c hc
    · rcases List.mem_append.mp hc with hc | hc
      · exact ha c hc
      · exact join_small ha (q :: ps) (fun r hr => h r (List.mem_cons_of_mem _ hr)) c hc
theorem word_small (f : Nat × Nat) : ∀ c ∈ wordL f, c < 1114112 := fun c hc => by
  unfold wordL at hc
  rcases List.mem_append.mp hc with h | h
  · have := TL.numL_digits _ c h
    omega
  · rcases List.mem_cons.mp h with rfl | h
    · decide
    · have := TL.numL_digits _ c h
      omega
theorem strOk_text (l : Prog) : PyData.strOk (SX.S (textL l)) = true := by
  have h : ∀ c ∈ textL l, c < 1114112 := join_small (by simp) _ fun p hp => by
    obtain ⟨f, _, rfl⟩ := List.mem_map.mp hp
    exact word_small f
  unfold PyData.strOk
  rw [← Array.all_toList, List.all_eq_true]
  intro c hc
  exact decide_eq_true (h c hc)
end Fr
namespace Fr
open PySem PySem.Spec PyProof.Rows L2 LamX
/-! ### a def called by a name of one's own -/
def tCalV (P : Program) (w : World) (K : PySem.W.Frag) (mg : Str → Option Value) (base : Heap) (j i : Nat) (t : TA) : TE := fun σ H Q =>
  ∃ (k : Nat) (y : Str) (ps : List Str) (sp : Sp), k ≤ j ∧ Cal P w K mg base (L2N.CX P w) k y ps sp ∧ σ[i]? = some (some (.ref (ga K y))) ∧ t σ H fun vs H1 => sp vs H1 Q C8.E0
theorem pe_calV {X : Cx} {P : Program} {w : World} {K : PySem.W.Frag} {mg : Str → Option Value} {base : Heap} {i j : Nat} {x : Str} {p pos : Pos} {e : Expr} {es : List Expr} {t : TA} (e1 : X.prog = P) (e2 : X.w = w) (e3 : X.K = K) (e4 : X.mg = mg) (e5 : X.base = base) (hr : Room j X.A)
    (hv : ∀ {v : V}, PE X (.Name x p) (tVar i)) (ha : PA X (e :: es) t)
    (he : starEach (e :: es) X.env = (false, eval e X.env) :: starEach es X.env := by rfl) (hpl : (backTo pos (starEach es X.env)).any (·.1) = false := by rfl) :
    PE X (.Call (.Name x p) (e :: es) [] pos) (tCalV P w K mg base j i t) := by
  subst e1 e2 e3 e4 e5
  refine ⟨fun pins s σ H Q I h => ?_⟩
  obtain ⟨k, y, ps, sp, hk, C, hs, ht⟩ := h
  refine wpAny_Call_Name_kw (thn ((hv (v := .non)).run pins s σ H (fun v H1 => v = .ref (ga X.K y) ∧ H1 = H) I ⟨_, hs, rfl, rfl⟩) fun u s1 ⟨v, H1, I1, r1, q1⟩ => ?_)
  obtain ⟨rfl, rfl⟩ := q1
  cases r1
  refine PySem.W.callWith_K (h₀ := X.base) I1.ok.mod.kin C.kp (thn (ha.run pos pins s1 σ _ _ I1 ht) fun us s2 ⟨vs, H2, I2, r, q⟩ => ⟨I2.kIn, ?_⟩) he hpl
  exact run_fn C.fn (hr.mono hk) C.b .nil passN I2 r (by rw [List.append_nil]; exact q)
/-! ### what each deed tells -/
section
variable {K : PySem.W.Frag} {H : Hp} {Q : VK} {E : XK} {v u c : V} {l : Prog} {n : Nat} {m : Mach}
theorem noLs_natsD (ns : List Nat) : noLs (ns.map nD) = true := noLs_of fun d hd => by
  obtain ⟨c, _, rfl⟩ := List.mem_map.mp hd
  rfl
theorem noLs_fracs (l : Prog) : noLs (l.map fracD) = true := noLs_of fun d hd => by
  obtain ⟨f, _, rfl⟩ := List.mem_map.mp hd
  exact noL_frac f
theorem t_idle (hd : Dp K H v (progD l)) (hP : isProg l = true) (q : ∀ x H', Same H H' → FD K H H' x (.list ((idleOf l).map nD)) → Q x H') : spIdle K [v] H Q E :=
  ⟨v, _, rfl, hd, fun z => (no_yes z (progD_prog hP)).elim, fun l' e _ p H' np s hp => by
    obtain rfl := progD_inj e
    exact q _ H' s (.lst np hp (dps_nats' _) (noLs_natsD _))⟩
theorem t_lean (hd : Dp K H v (progD l)) (hP : isProg l = true) (q : ∀ x H', Same H H' → FD K H H' x (progD (leanOf l)) → Q x H') : spLean K [v] H Q E :=
  ⟨v, _, rfl, hd, fun z => (no_yes z (progD_prog hP)).elim, fun l' e _ p H' s hp => by
    obtain rfl := progD_inj e
    exact q _ H' s hp⟩
theorem t_written (hd : Dp K H v (progD l)) (hP : isProg l = true) (q : ∀ x H', Same H H' → FD K H H' x (.str (SX.S (textL l))) → Q x H') : spWritten K [v] H Q E :=
  ⟨v, _, rfl, hd, fun z => (no_yes z (progD_prog hP)).elim, fun l' e _ H' s => by
    obtain rfl := progD_inj e
    exact q _ H' s (.no (.str _) rfl)⟩
theorem t_run (hd : Dp K H v (progD l)) (h : Small3 l n) {r : List Nat} (hr : runF l 6 n = some r) (q : ∀ x H', Same H H' → FD K H H' x (.list (r.map nD)) → Q x H') : spRun K [v, nI n, nI 6] H Q E :=
  run_good hd h.prog h.num (by decide) hr fun p H' s np hp => q _ H' s (.lst np hp (dps_nats' _) (noLs_natsD _))
theorem t_end (hd : Dp K H v (progD l)) (h : Small3 l n) {r : List Nat} (hr : runF l 6 n = some r) (q : ∀ x H', Same H H' → FD K H H' x (optD (endO l r)) → Q x H') : spEnd K [v, nI n, nI 6] H Q E :=
  end_good hd h.prog h.num (by decide) hr fun H' s => q _ H' s (.no (dp_opt _) (noL_opt _))
theorem t_jumps (hd : Dp K H v (progD l)) (h : Small3 l n) {r : List (Nat × Option Nat) × Option Nat} (hr : jumpsF l 6 n = some r) (q : ∀ x H', Same H H' → FD K H H' x (jumpsD r) → Q x H') : spJumpsF K [v, nI n, nI 6] H Q E :=
  ⟨v, nI n, nI 6, progD l, nD n, nD 6, rfl, hd, .int _, .int _, fun z => (no_yes z (progD_prog h.prog)).elim, fun _ z => (no_yes z (numD_num h.num)).elim, fun _ _ z => (no_yes z (count_yes (b := 200) (m := 6) (by decide))).elim, fun l' n' m' el en em _ _ _ => by
    obtain rfl := progD_inj el
    obtain rfl := nD_inj en
    obtain rfl := nD_inj em
    exact ⟨fun r' hr' => by rw [hr] at hr'; cases hr'; exact q, fun z => by rw [hr] at z; cases z⟩⟩
theorem t_many (hd : Dp K H v (progD l)) (h : Small3 l n) {r : List (Nat × Option Nat) × Option Nat} (hr : jumpsF l 6 n = some r) (q : ∀ x H', Same H H' → FD K H H' x (optD (stepsOf r)) → Q x H') : spMany K [v, nI n, nI 6] H Q E :=
  many_good hd h.prog h.num (by decide) (fun r' hr' H' s => by rw [hr] at hr'; cases hr'; exact q _ H' s (.no (dp_opt _) (noL_opt _))) fun z => by rw [hr] at z; cases z
/-- the one answer of never -/
noncomputable def neverO (l : Prog) (r : List Nat) : Option (Nat × Nat) := open Classical in if h : ∃ o, IsNever l r o then h.choose else none
theorem neverO_is {l : Prog} {r : List Nat} {o : Option (Nat × Nat)} (h : IsNever l r o) : o = neverO l r := by
  have hx : ∃ o, IsNever l r o := ⟨o, h⟩
  unfold neverO
  rw [dif_pos hx]
  exact h.uniq hx.choose_spec
theorem noL_pair (o : Option (Nat × Nat)) : noL (pairO o) = true := by cases o <;> rfl
theorem t_never (hd : Dp K H v (progD l)) (h : Small3 l n) {r : List Nat} (hr : runF l 6 n = some r) (q : ∀ x H', Same H H' → FD K H H' x (pairO (neverO l r)) → Q x H') : spNever K [v, nI n, nI 6] H Q E :=
  never_good hd h.prog h.num (by decide) hr fun o ho x H' s hx => by
    rw [neverO_is ho] at hx
    exact q x H' s (.no hx (noL_pair _))
theorem t_step (hd : Dp K H v (progD l)) (h : Small3 l n) (q : ∀ x H', Same H H' → FD K H H' x (optD (led l n)) → Q x H') : spStep K [v, nI n] H Q E :=
  ⟨v, nI n, progD l, nD n, rfl, hd, .int _, fun z => (no_yes z (progD_prog h.prog)).elim, fun _ z => (no_yes z (numD_num h.num)).elim, fun l' n' el en _ _ => by
    obtain rfl := progD_inj el
    obtain rfl := nD_inj en
    exact ⟨fun _ H' s => q _ H' s (.no (dp_opt _) (noL_opt _)), fun z => (no_yes h.great z).elim⟩⟩
theorem t_shows (hd : Dp K H v (progD l)) (h : Small3 l n) (hc : Dp K H c (.tuple [nD 0, nD 1])) {r : List Nat} (hr : runF l 1 n = some r) (q : ∀ x H', Same H H' → FD K H H' x (.bool (decide (r.length = 1 + 1) && goesOn l r 0 1)) → Q x H') : spShows K [v, nI n, c] H Q E :=
  shows_good hd h.prog h.num hc (by decide) (by decide) hr fun H' s => q _ H' s (.no (.bl _) rfl)
theorem t_mrun (hd : Dp K H v (machD m)) (hm : isMach m = true) (hc : Dp K H c (ctD [1, 2, 3])) (q : ∀ x H', Same H H' → FD K H H' x (.list ((mrunF m 9 (0, [1, 2, 3])).map stD)) → Q x H') : spMRun K [v, c, nI 9] H Q E := by
  have hM : isMachD (machD m) = true := machD_mach hm
  have hC : isCtrD (ctD [1, 2, 3]) = true := by decide +kernel
  refine ⟨v, c, nI 9, machD m, ctD [1, 2, 3], nD 9, rfl, hd, hc, .int _, (FitN.mach (k := 38) (Nat.le_trans (mach_len hm).2 (by decide))).sh, words_ok m, fun z => (no_yes z hM).elim, fun _ z => (no_yes z hC).elim, fun _ _ z => (no_yes z (count_yes (b := 500) (m := 9) (by decide))).elim, fun m' cs k em ec ek _ _ _ _ => ?_⟩
  obtain rfl := machD_inj em
  have ec := ctD_inj ec
  subst ec
  obtain rfl := nD_inj ek
  exact q
theorem t_progOf (hd : Dp K H v (machD m)) (hm : isMach m = true) (q : ∀ x H', Same H H' → FD K H H' x (progD (progOf m)) → Q x H') : spProgOf K [v] H Q E := by
  refine ⟨v, machD m, rfl, hd, (FitN.mach (k := 38) (Nat.le_trans (mach_len hm).2 (by decide))).sh, words_ok m, fun z => (no_yes z (machD_mach hm)).elim, fun m' em _ => ?_⟩
  obtain rfl := machD_inj em
  exact q
theorem t_parting (hd : Dp K H v (progD l)) (hu : Dp K H u (progD l.reverse)) (h : Small3 l n) (q : ∀ x H', Same H H' → FD K H H' x (optD (partF l l.reverse)) → Q x H') : spParting K [v, u] H Q E := by
  have hf : ∀ f ∈ l ++ l.reverse, FracN 3 f := fun f hf => by
    rcases List.mem_append.mp hf with z | z
    · exact h.f f z
    · exact h.f f (List.mem_reverse.mp z)
  obtain ⟨a, b⟩ := need_few hf
  exact ⟨v, u, l, l.reverse, rfl, hd, hu, h.prog, fracs_prog (fun f hf => h.f f (List.mem_reverse.mp hf)) (by rw [List.length_reverse]; exact Nat.le_trans h.len (by decide)), a, b, fun H' s => q _ H' s (.no (dp_opt _) (noL_opt _))⟩
theorem t_read (q : ∀ x H', Same H H' → FD K H H' x (progD [(3, 2), (5, 3)]) → Q x H') : spRead K [.str "3/2 5/3"] H Q E := by
  have e : readD (.str "3/2 5/3") = some [(3, 2), (5, 3)] := by decide +kernel
  refine ⟨_, .str "3/2 5/3", rfl, .str _, by decide +kernel, (fun z => by rw [e] at z; cases z), fun l' el a xs H' s na ha hx => ?_⟩
  rw [e] at el
  cases el
  exact q _ H' s (.lst na ha hx (noLs_fracs _))
end
end Fr
namespace Fr
open PySem PySem.Spec PyProof.Rows L2 LamX
section
variable {P : Program} {w : World} {K : PySem.W.Frag} {mg : Str → Option Value} {base : Heap}
def spLaw (K : PySem.W.Frag) : Sp := fun vs H Q _ => ∃ (a : Addr) (ns : List Int), vs = [.ref a] ∧ SqL K H a (ns.map V.int) ∧ ns.length ≤ 63 ∧ Tabs (Tb K lams) H ∧ ∀ H', Q (.bl true) H'
/-- the law's own context -/
abbrev XL (P : Program) (w : World) (K : PySem.W.Frag) (mg : Str → Option Value) (base : Heap) (A : Around) (outer : List Env) (s : Shared) (H : Hp) (E : XK) : Cx :=
  (cxOf L2.CX0 P w K mg base ["script", "k", "more", "program", "machine", "number", "handed", "deed", "deeds"] "law" (defScope s_law) (ga K "law") (.ref (He.codeOf K ("law", none))) A outer s H E).nox
/-- a lambda of the law's, that tells the same while F holds -/
def GoodL (X : Cx) (σ : L2.St) (F : Hp → Prop) (H : Hp) (f : Addr) : Prop := ∃ (tb : TE) (d : PyData), Fit d ∧ LamK X 10 tb H f ∧ ∀ H', F H' → Tells X.K tb σ H' d
theorem GoodL.ext {X : Cx} {σ : L2.St} {F : Hp → Prop} {H H' : Hp} {f : Addr} (h : GoodL X σ F H f) (e : ExtN H H') : GoodL X σ F H' f := by
  obtain ⟨tb, d, h1, h2, h3⟩ := h
  exact ⟨tb, d, h1, h2.ext e, h3⟩
theorem GoodL.put {X : Cx} {σ : L2.St} {F : Hp → Prop} {H : Hp} {f a : Addr} {xs : List V} {o : HO} (h : GoodL X σ F H f) (e : H a = some (.lst xs)) : GoodL X σ F (upd H a o) f := by
  obtain ⟨tb, d, h1, h2, h3⟩ := h
  exact ⟨tb, d, h1, h2.put e, h3⟩
theorem Fit.of {d : PyData} (h : FitN 4 d) : Fit d := ⟨Nat.lt_of_le_of_lt h.dp (by decide), h.wd, h.sh.mono (by decide)⟩
abbrev S90 (sc : Addr) (k more : Nat) (a3 a4 a5 a6 a7 a8 : Option V) : L2.St := [some (.ref sc), some (nI k), some (nI more), a3, a4, a5, a6, a7, a8]
structure Fact (K : PySem.W.Frag) (pa ha : Addr) (mv : V) (l : Prog) (m : Mach) (H : Hp) : Prop where
  p : Dp K H (.ref pa) (progD l)
  mm : Dp K H mv (machD m)
  h : Dp K H (.ref ha) (.list [progD l, machD m])
theorem Fact.ext {pa ha : Addr} {mv : V} {l : Prog} {m : Mach} {H H' : Hp} (h : Fact K pa ha mv l m H) (e : ExtN H H') : Fact K pa ha mv l m H' := ⟨ext_dp e h.p, ext_dp e h.mm, ext_dp e h.h⟩
theorem Fact.same {pa ha : Addr} {mv : V} {l : Prog} {m : Mach} {H H' : Hp} (h : Fact K pa ha mv l m H) (e : Same H H') : Fact K pa ha mv l m H' := h.ext (ext_same e)
theorem idle_few (l : Prog) : (idleOf l).length ≤ l.length := by
  unfold idleOf
  exact Nat.le_trans (List.length_filter_le _ _) (by simp)
theorem ext_put {H0 Hc : Hp} {a : Addr} {o : HO} (e : ExtN H0 Hc) (ap : ∀ o, H0 a = some o → (∀ ps, o ≠ .tbl ps) → False) : ExtN H0 (upd Hc a o) := fun b u h n => by
  rw [upd_ne fun z => ap u (by rw [← z]; exact h) n]
  exact e b u h n
theorem dps_revA {K : PySem.W.Frag} {H : Hp} : ∀ {ds : List PyData} {vs : List V}, DpAll K H vs ds → DpAll K H vs.reverse ds.reverse
  | [], _, .nil => .nil
  | _ :: _, _, .cons a b => by
    rw [List.reverse_cons, List.reverse_cons]
    exact dps_app (dps_revA b) (.cons a .nil)
theorem progOf_few {m : Mach} (hm : isMach m = true) : (progOf m).length ≤ 1000 := by
  have h1 := (mach_len hm).2
  have h2 := linesP_len m 0
  unfold progOf
  rw [List.length_append, List.length_map, List.length_range]
  omega
theorem ok_law (T : Txt K mg) (DS : KTab w K) (hB : TabX K mg base lams) : Cal P w K mg base L2.CX0 13 "law" ["script"] (spLaw K) := by
  have c__law_cell := ok__law_cell (P := P) (w := w) (base := base) T
  have c__law_drawn := ok__law_drawn (P := P) (w := w) (base := base) T
  have c__law_program := ok__law_program (P := P) (w := w) (base := base) T
  have c__law_machine := ok__law_machine (P := P) (w := w) (base := base) T
  have c__law_some := ok__law_some (P := P) (w := w) (base := base) T
  have c_idle := ok_idle (P := P) (w := w) (base := base) T
  have c_lean := ok_lean (P := P) (w := w) (base := base) T
  have c_written := ok_written (P := P) (w := w) (base := base) T
  have c_run := ok_run (P := P) (w := w) (base := base) T
  have c_end := ok_end (P := P) (w := w) (base := base) T
  have c_jumps := ok_jumpsF (P := P) (w := w) (base := base) T
  have c_many_steps := ok_many_steps (P := P) (w := w) (base := base) T
  have c_never := ok_never (P := P) (w := w) (base := base) T
  have c_step := ok_step (P := P) (w := w) (base := base) T
  have c_shows := ok_shows (P := P) (w := w) (base := base) T
  have c_machine_run := ok_machine_run (P := P) (w := w) (base := base) T DS
  have c_program_of := ok_program_of (P := P) (w := w) (base := base) T DS
  have c_parting := ok_parting (P := P) (w := w) (base := base) T
  have c_read := ok_read (P := P) (w := w) (base := base) T
  refine Cal.mkT T.d_law T.m_law sc_law (fun _ _ _ _ _ _ us hl => match us, hl with | [_], _ => rfl) (fun vs H Q E h => ?_) (fun A outer s H vs Q E hr h => ?_)
  · obtain ⟨a, ns, rfl, _⟩ := h
    rfl
  obtain ⟨sc, ns, rfl, hS, hlen, hTb, q⟩ := h
  refine ⟨_, (pss_cons (ps_for PassesOwn.never rfl (pi_range1 (by rfl) T.b_range (pa_cons (pe_callB (max2N rfl) (by rfl) T.b_max boot_max (pa_cons pe_int (pa_cons (pe_callB (min2N rfl) (by rfl) T.b_min boot_min (pa_cons pe_int (pa_cons (pe_callB (lenS rfl) (by rfl) T.b_len PySem.boot_len (pa_cons (pv 0) pa_nil)) pa_nil))) pa_nil))) pa_nil)) (pg_name (i := 1) sc_law.nd rfl (.inl rfl)) (pss_cons (ps_set (i := 2) sc_law.nd rfl (.inl rfl) (pe_cal c__law_drawn (hr.mono (by decide)) (by rfl) pass0 (pa_cons (pe_cal c__law_cell (hr.mono (by decide)) (by rfl) pass0 (pa_cons (pv 0) (pa_cons (pv 1) pa_nil))) (pa_cons (pv 1) pa_nil))))
      (C8.pss_cut (ps_asg (pe_tup (pa_cons (pe_cal c__law_program (hr.mono (by decide)) (by rfl) pass0 (pa_cons (pe_op opN_div (pv 2) pe_int) (pa_cons pe_int pa_nil))) (pa_cons (pe_cal c__law_machine (hr.mono (by decide)) (by rfl) pass0 (pa_cons (pe_op opN_div (pv 2) (pe_op opN_pow pe_int pe_int)) pa_nil)) pa_nil))) (pgT (n := 2) rfl rfl (pgs_cons (pg_name (i := 3) sc_law.nd rfl (.inr rfl)) (pgs_cons (pg_name (i := 4) sc_law.nd rfl (.inr rfl)) pgs_nil))))
      (C8.pss_cut (ps_set (i := 5) sc_law.nd rfl (.inr rfl) (pe_cal c__law_some (hr.mono (by decide)) (by rfl) pass0 (pa_cons (pe_op opN_div (pv 2) pe_int) (pa_cons pe_int (pa_cons pe_int pa_nil)))))
      (C8.pss_cut (ps_set (i := 6) sc_law.nd rfl (.inr rfl) (pe_lst (pa_cons (pv 3) (pa_cons (pv 4) pa_nil))))
      (C8.pss_cut (ps_for PassesOwn.never rfl (piL rfl (pe_lst (pa_cons (pe_glob (v := .ref (ga K "idle")) (by rfl) T.m_idle rfl) (pa_cons (pe_glob (v := .ref (ga K "lean")) (by rfl) T.m_lean rfl) (pa_cons (pe_glob (v := .ref (ga K "written")) (by rfl) T.m_written rfl) pa_nil))))) (pg_name (i := 7) sc_law.nd rfl (.inr rfl)) (pss_one (ps_if (pt_not (pt_val (pe_again T (by rfl) hr (pa_cons (lamk (x := "law") (k := 10) T (by simp) hB rfl rfl (lamS_by (sc := defScope s_law) (by decide +kernel)) rfl (fun _ _ _ _ _ => rfl) (fun A outer s H f c' hr => (pe_calV (P := P) (w := w) (K := K) (mg := mg) (base := base) (i := 7) rfl rfl rfl rfl rfl hr (pv 7) (pa_cons (pv 3) pa_nil)))) (pa_cons (pv 6) pa_nil))))) (pss_one (ps_ret pe_bl)) pss_nil)))
      (C8.pss_cut (ps_for PassesOwn.never rfl (piL rfl (pe_lst (pa_cons (pe_glob (v := .ref (ga K "run")) (by rfl) T.m_run rfl) (pa_cons (pe_glob (v := .ref (ga K "end")) (by rfl) T.m_end rfl) (pa_cons (pe_glob (v := .ref (ga K "jumps")) (by rfl) T.m_jumps rfl) (pa_cons (pe_glob (v := .ref (ga K "many_steps")) (by rfl) T.m_many_steps rfl) (pa_cons (pe_glob (v := .ref (ga K "never")) (by rfl) T.m_never rfl) pa_nil))))))) (pg_name (i := 7) sc_law.nd rfl (.inr rfl)) (pss_one (ps_if (pt_not (pt_val (pe_again T (by rfl) hr (pa_cons (lamk (x := "law") (k := 10) T (by simp) hB rfl rfl (lamS_by (sc := defScope s_law) (by decide +kernel)) rfl (fun _ _ _ _ _ => rfl) (fun A outer s H f c' hr => (pe_calV (P := P) (w := w) (K := K) (mg := mg) (base := base) (i := 7) rfl rfl rfl rfl rfl hr (pv 7) (pa_cons (pv 3) (pa_cons (pv 5) (pa_cons pe_int pa_nil)))))) (pa_cons (pv 6) pa_nil))))) (pss_one (ps_ret pe_bl)) pss_nil)))
      (C8.pss_cut (ps_set (i := 8) sc_law.nd rfl (.inl rfl) (pe_lst (pa_cons (lamk (x := "law") (k := 10) T (by simp) hB rfl rfl (lamS_by (sc := defScope s_law) (by decide +kernel)) rfl (fun _ _ _ _ _ => rfl) (fun A outer s H f c' hr => (pe_cal c_step (hr.mono (by decide)) (by rfl) passN (pa_cons (pv 3) (pa_cons (pv 5) pa_nil))))) pa_nil)))
      (C8.pss_cut (ps_expr (bm rfl PySem.F.plainAttrs_list PySem.F.slot_list_append PySem.F.type_list_append mt_append (pv 8) (pa_cons (lamk (x := "law") (k := 10) T (by simp) hB rfl rfl (lamS_by (sc := defScope s_law) (by decide +kernel)) rfl (fun _ _ _ _ _ => rfl) (fun A outer s H f c' hr => (pe_cal c_shows (hr.mono (by decide)) (by rfl) passN (pa_cons (pv 3) (pa_cons (pv 5) (pa_cons (dl_tup (K := K) (by decide) (dl_cons dl_int (dl_cons dl_int dl_nil))) pa_nil)))))) pa_nil)))
      (C8.pss_cut (ps_expr (bm rfl PySem.F.plainAttrs_list PySem.F.slot_list_append PySem.F.type_list_append mt_append (pv 8) (pa_cons (lamk (x := "law") (k := 10) T (by simp) hB rfl rfl (lamS_by (sc := defScope s_law) (by decide +kernel)) rfl (fun _ _ _ _ _ => rfl) (fun A outer s H f c' hr => (pe_cal c_machine_run (hr.mono (by decide)) (by rfl) passN (pa_cons (pv 4) (pa_cons (dl_tup (K := K) (by decide) (dl_cons dl_int (dl_cons dl_int (dl_cons dl_int dl_nil)))) (pa_cons pe_int pa_nil)))))) pa_nil)))
      (C8.pss_cut (ps_expr (bm rfl PySem.F.plainAttrs_list PySem.F.slot_list_append PySem.F.type_list_append mt_append (pv 8) (pa_cons (lamk (x := "law") (k := 10) T (by simp) hB rfl rfl (lamS_by (sc := defScope s_law) (by decide +kernel)) rfl (fun _ _ _ _ _ => rfl) (fun A outer s H f c' hr => (pe_cal c_program_of (hr.mono (by decide)) (by rfl) passN (pa_cons (pv 4) pa_nil)))) pa_nil)))
      (C8.pss_cut (ps_expr (bm rfl PySem.F.plainAttrs_list PySem.F.slot_list_append PySem.F.type_list_append mt_append (pv 8) (pa_cons (lamk (x := "law") (k := 10) T (by simp) hB rfl rfl (lamS_by (sc := defScope s_law) (by decide +kernel)) rfl (fun _ _ _ _ _ => rfl) (fun A outer s H f c' hr => (pe_cal c_parting (hr.mono (by decide)) (by rfl) passN (pa_cons (pv 3) (pa_cons (pe_rev rfl (pv 3) po_none po_none (po_some (pe_un un_neg pe_int))) pa_nil))))) pa_nil)))
      (C8.pss_cut (ps_expr (bm rfl PySem.F.plainAttrs_list PySem.F.slot_list_append PySem.F.type_list_append mt_append (pv 8) (pa_cons (lamk (x := "law") (k := 10) T (by simp) hB rfl rfl (lamS_by (sc := defScope s_law) (by decide +kernel)) rfl (fun _ _ _ _ _ => rfl) (fun A outer s H f c' hr => (pe_cal c_read (hr.mono (by decide)) (by rfl) passN (pa_cons pe_str pa_nil)))) pa_nil)))
      (pss_one (ps_if (pt_cmpR (neE rfl hr.units) (pe_lcJ (own := [("deed", 7)]) rfl rfl rfl sc_law.nd (piL rfl (pv 8)) (blkOk_by (own := [("deed", 7)]) (N := ["script", "k", "more", "program", "machine", "number", "handed", "deed", "deeds"]) (sc := defScope s_law) (by decide +kernel)) (fun _ _ _ _ _ => (pg_name (i := 7) sc_law.nd rfl (.inl rfl))) (fun pins σ s H cl fp J fo => (pts_one (pt_not (pt_val (again_blk (i := 7) (j := 6) T J fo rfl (by rfl) hr rfl rfl (by first | exact Or.inl rfl | exact Or.inr (Or.inl rfl) | exact Or.inr (Or.inr rfl)) (by first | exact Or.inl rfl | exact Or.inr (Or.inl rfl) | exact Or.inr (Or.inr rfl))))))) (fun _ _ _ _ _ _ => pe_int)) (pe_lst pa_nil) (nomark _)) (pss_one (ps_ret pe_bl)) pss_nil)))))))))))))))
      (pss_one (ps_ret pe_bl))), ?_⟩
  refine ⟨_, rfl, sc, _, rfl, .inl hS, 3, _, rfl, 1, _, rfl, _, rfl, by omega, by omega, ?_⟩
  generalize hT : ((max 1 (min 3 (ns.map V.int).length) : Nat) : Int).toNat = turns
  have hturn : turns ≤ 3 := by omega
  refine for_it walk_nats (fun i σ H3 => (∃ r, σ = some (.ref sc) :: r ∧ r.length = 8) ∧ Stp (Tb K lams) H H3) ⟨⟨_, rfl, rfl⟩, Stp.refl hTb⟩ (fun _ _ _ _ _ => trivial) ?_ (fun σ H3 _ => q H3)
  rintro k x σ H0 H4 hk ⟨⟨r, rfl, hrl⟩, st0⟩ ⟨rfl, rfl⟩
  obtain ⟨y1, y2, y3, y4, y5, y6, y7, y8, rfl⟩ : ∃ y1 y2 y3 y4 y5 y6 y7 y8, r = [y1, y2, y3, y4, y5, y6, y7, y8] := by
    match r, hrl with
    | [y1, y2, y3, y4, y5, y6, y7, y8], _ => exact ⟨_, _, _, _, _, _, _, _, rfl⟩
  refine ⟨_, rfl, _, rfl, sc, k, ns, rfl, ext_l st0.e hS, hlen, by omega, fun c H1 s1 => ⟨_, rfl, c, k, rfl, by omega, fun more _ => ?_⟩⟩
  have st1 := st0.same s1
  have h30 : ((2 : Nat) ^ 30).log2 < 9000 := Nat.lt_trans (pow_small (by decide)) (by decide)
  -- the program, the machine
  refine ⟨fun σ H6 => ∃ (pa : Addr) (mv : V) (l : Prog) (m : Mach), σ = S90 sc k more (some (.ref pa)) (some mv) y5 y6 y7 y8 ∧ Stp (Tb K lams) H H6 ∧ Dp K H6 (.ref pa) (progD l) ∧ Dp K H6 mv (machD m) ∧ (∀ f ∈ l, FracN 3 f) ∧ l.length ≤ 6 ∧ isMach m = true, ?_, ?_⟩
  · refine ⟨_, rfl, more, 64, rfl, rfl, ⟨by decide, by decide⟩, more / 64, 3, rfl, by decide, by decide, fun l pa xs H5 hF hl _ s5 hp hxs => ?_⟩
    refine ⟨_, rfl, 2, 30, rfl, rfl, ⟨by decide, by decide⟩, more, 2 ^ 30, rfl, rfl, ⟨by decide, h30⟩, more / 2 ^ 30, rfl, fun m hm mv H7 s7 hmv => ?_⟩
    refine ⟨(by show 2 ≤ sizeLine; decide), fun t nt => ⟨t, _, rfl, SqT.of upd_same, rfl, _, _, rfl, _, _, rfl, rfl, pa, mv, l, m, rfl, st1.same (s5.trans (s7.trans (same_new nt))), same_dp (s7.trans (same_new nt)) (.lst (SqL.of hp) hxs), same_dp (same_new nt) hmv, hF, hl, hm⟩⟩
  clear st1 st0
  rintro σ H6 ⟨pa, mv, l, m, rfl, st6, hdp, hdm, hF, hl6, hm⟩
  -- the number
  refine ⟨fun σ H7 => ∃ n : Nat, σ = S90 sc k more (some (.ref pa)) (some mv) (some (nI n)) y6 y7 y8 ∧ Same H6 H7 ∧ SomeN 3 5 n, ?_, ?_⟩
  · exact ⟨_, rfl, more, 8, rfl, rfl, ⟨by decide, by decide⟩, more / 8, 3, 5, rfl, by decide, by decide, by decide, fun n H7 hn s7 => ⟨n, rfl, s7, hn⟩⟩
  rintro σ H7 ⟨n, rfl, s7, hn⟩
  have sm : Small3 l n := ⟨hF, hl6, hn⟩
  -- what is handed in
  refine ⟨fun σ H8 => ∃ ha : Addr, σ = S90 sc k more (some (.ref pa)) (some mv) (some (nI n)) (some (.ref ha)) y7 y8 ∧ Stp (Tb K lams) H H8 ∧ Fact K pa ha mv l m H8, ?_, ?_⟩
  · refine ⟨_, rfl, _, rfl, (by show 2 ≤ sizeLine; decide), fun ha nha => ⟨ha, rfl, st6.same (s7.trans (same_new nha)), ?_⟩⟩
    have s8 := s7.trans (same_new (o := .lst [.ref pa, mv]) nha)
    exact ⟨same_dp s8 hdp, same_dp s8 hdm, .lst (SqL.of upd_same) (.cons (same_dp s8 hdp) (.cons (same_dp s8 hdm) .nil))⟩
  clear st6 hdp hdm s7
  rintro σ H8 ⟨ha, rfl, st8, fc8⟩
  have fitH : Fit (.list [progD l, machD m]) := .of (.lst (by simp) (.cons (.prog (k := 1) (Nat.le_trans hl6 (by decide))) (.cons (.mach (k := 1) (Nat.le_trans (mach_len hm).2 (by decide))) .nil)))
  -- idle, lean, written
  refine ⟨fun σ H9 => ∃ a7, σ = S90 sc k more (some (.ref pa)) (some mv) (some (nI n)) (some (.ref ha)) a7 y8 ∧ Stp (Tb K lams) H H9 ∧ Fact K pa ha mv l m H9, ?_, ?_⟩
  · refine ⟨(by show 3 ≤ sizeLine; decide), fun o no => ⟨o, rfl, ⟨_, SqL.of upd_same⟩, ?_⟩⟩
    have so := same_new (o := .lst [.ref (ga K "idle"), .ref (ga K "lean"), .ref (ga K "written")]) no
    have ho : (upd H8 o (.lst [.ref (ga K "idle"), .ref (ga K "lean"), .ref (ga K "written")])) o = some (.lst [.ref (ga K "idle"), .ref (ga K "lean"), .ref (ga K "written")]) := upd_same
    have st9 := st8.same so
    have fc9 := fc8.same so
    generalize upd H8 o (.lst [.ref (ga K "idle"), .ref (ga K "lean"), .ref (ga K "written")]) = H9 at *
    refine for_it (walk_list (xs := [.ref (ga K "idle"), .ref (ga K "lean"), .ref (ga K "written")])) (fun i σ H' => ∃ a7, σ = S90 sc k more (some (.ref pa)) (some mv) (some (nI n)) (some (.ref ha)) a7 y8 ∧ Stp (Tb K lams) H H' ∧ ExtN H9 H') ⟨_, rfl, st9, ExtN.refl _⟩ (fun i σ H' _ ⟨_, _, _, e⟩ => SqL.of (ext_lst e ho)) ?_ (fun σ H' ⟨a7, e1, e2, e3⟩ => ⟨a7, e1, e2, fc9.ext e3⟩)
    rintro i x σ Ha Hb hi ⟨a7, rfl, st, en⟩ ⟨rfl, hx⟩
    have fcb := fc9.ext en
    have P3 : i = 0 ∨ i = 1 ∨ i = 2 := by
      have : i < 3 := hi
      omega
    obtain ⟨d, fd, key⟩ : ∃ d, Fit d ∧ ∀ (Hz : Hp), Fact K pa ha mv l m Hz → Tells K (tCalV P w K mg base 10 7 (tCons (tVar 3) tNil)) (S90 sc k more (some (.ref pa)) (some mv) (some (nI n)) (some (.ref ha)) (some x) y8) Hz d := by
      rcases P3 with rfl | rfl | rfl
      · cases hx
        exact ⟨_, .of (.nats (k := 3) (Nat.le_trans (idle_few l) (Nat.le_trans hl6 (by decide)))), fun Hz fz HZ Q' sz q' => ⟨6, "idle", _, _, by decide, c_idle, rfl, _, rfl, t_idle (fz.same sz).p sm.prog q'⟩⟩
      · cases hx
        exact ⟨_, .of (.prog (k := 2) (Nat.le_trans (lean_len l) (Nat.le_trans hl6 (by decide)))), fun Hz fz HZ Q' sz q' => ⟨7, "lean", _, _, by decide, c_lean, rfl, _, rfl, t_lean (fz.same sz).p sm.prog q'⟩⟩
      · cases hx
        exact ⟨_, .of (.str (strOk_text l)), fun Hz fz HZ Q' sz q' => ⟨6, "written", _, _, by decide, c_written, rfl, _, rfl, t_written (fz.same sz).p sm.prog q'⟩⟩
    refine ⟨st.t, fun f Hc ec tc lk => ⟨_, rfl, f, _, _, d, rfl, fun pins s I => deed_of I lk (key Hc (fcb.ext ec)), (fcb.ext ec).h, fitH, fd, fun Hd sd => ⟨_, rfl, iteF ?_⟩⟩⟩
    exact ⟨_, rfl, (st.told ec tc).same sd, en.trans (ec.trans (ext_same sd))⟩
  clear st8 fc8
  rintro σ H9 ⟨a7, rfl, st9, fc9⟩
  obtain ⟨r6, hr6⟩ := sm.run (m := 6) (by decide)
  obtain ⟨r1, hr1⟩ := sm.run (m := 1) (by decide)
  obtain ⟨jr, hjr⟩ := sm.jumps
  have len6 := (runF_num sm.prog 6 n r6 sm.num hr6).2.1
  have lenj := jumpsF_len 6 n jr hjr
  -- run, end, jumps, many_steps, never
  refine ⟨fun σ H9 => ∃ a7, σ = S90 sc k more (some (.ref pa)) (some mv) (some (nI n)) (some (.ref ha)) a7 y8 ∧ Stp (Tb K lams) H H9 ∧ Fact K pa ha mv l m H9, ?_, ?_⟩
  · refine ⟨(by show 5 ≤ sizeLine; decide), fun o no => ⟨o, rfl, ⟨_, SqL.of upd_same⟩, ?_⟩⟩
    have so := same_new (o := .lst [.ref (ga K "run"), .ref (ga K "end"), .ref (ga K "jumps"), .ref (ga K "many_steps"), .ref (ga K "never")]) no
    have ho : (upd H9 o (.lst [.ref (ga K "run"), .ref (ga K "end"), .ref (ga K "jumps"), .ref (ga K "many_steps"), .ref (ga K "never")])) o = some (.lst [.ref (ga K "run"), .ref (ga K "end"), .ref (ga K "jumps"), .ref (ga K "many_steps"), .ref (ga K "never")]) := upd_same
    have st10 := st9.same so
    have fc10 := fc9.same so
    generalize upd H9 o (.lst [.ref (ga K "run"), .ref (ga K "end"), .ref (ga K "jumps"), .ref (ga K "many_steps"), .ref (ga K "never")]) = H10 at *
    refine for_it (walk_list (xs := [.ref (ga K "run"), .ref (ga K "end"), .ref (ga K "jumps"), .ref (ga K "many_steps"), .ref (ga K "never")])) (fun i σ H' => ∃ a7, σ = S90 sc k more (some (.ref pa)) (some mv) (some (nI n)) (some (.ref ha)) a7 y8 ∧ Stp (Tb K lams) H H' ∧ ExtN H10 H') ⟨_, rfl, st10, ExtN.refl _⟩ (fun i σ H' _ ⟨_, _, _, e⟩ => SqL.of (ext_lst e ho)) ?_ (fun σ H' ⟨a7, e1, e2, e3⟩ => ⟨a7, e1, e2, fc10.ext e3⟩)
    rintro i x σ Ha Hb hi ⟨a7, rfl, st, en⟩ ⟨rfl, hx⟩
    have fcb := fc10.ext en
    have P5 : i = 0 ∨ i = 1 ∨ i = 2 ∨ i = 3 ∨ i = 4 := by
      have : i < 5 := hi
      omega
    obtain ⟨d, fd, key⟩ : ∃ d, Fit d ∧ ∀ (Hz : Hp), Fact K pa ha mv l m Hz → Tells K (tCalV P w K mg base 10 7 (tCons (tVar 3) (tCons (tVar 5) (tCons (tC (.int 6)) tNil)))) (S90 sc k more (some (.ref pa)) (some mv) (some (nI n)) (some (.ref ha)) (some x) y8) Hz d := by
      rcases P5 with rfl | rfl | rfl | rfl | rfl
      · cases hx
        exact ⟨_, .of (.nats (k := 3) (Nat.le_trans len6 (by decide))), fun Hz fz HZ Q' sz q' => ⟨8, "run", _, _, by decide, c_run, rfl, _, rfl, _, rfl, t_run (fz.same sz).p sm hr6 q'⟩⟩
      · cases hx
        exact ⟨_, .of (.opt _), fun Hz fz HZ Q' sz q' => ⟨9, "end", _, _, by decide, c_end, rfl, _, rfl, _, rfl, t_end (fz.same sz).p sm hr6 q'⟩⟩
      · cases hx
        exact ⟨_, .of (.jumps (k := 1) (Nat.le_trans lenj (by decide))), fun Hz fz HZ Q' sz q' => ⟨7, "jumps", _, _, by decide, c_jumps, rfl, _, rfl, _, rfl, t_jumps (fz.same sz).p sm hjr q'⟩⟩
      · cases hx
        exact ⟨_, .of (.opt _), fun Hz fz HZ Q' sz q' => ⟨8, "many_steps", _, _, by decide, c_many_steps, rfl, _, rfl, _, rfl, t_many (fz.same sz).p sm hjr q'⟩⟩
      · cases hx
        exact ⟨_, .of (.pair (k := 3) _), fun Hz fz HZ Q' sz q' => ⟨7, "never", _, _, by decide, c_never, rfl, _, rfl, _, rfl, t_never (fz.same sz).p sm hr6 q'⟩⟩
    refine ⟨st.t, fun f Hc ec tc lk => ⟨_, rfl, f, _, _, d, rfl, fun pins s I => deed_of I lk (key Hc (fcb.ext ec)), (fcb.ext ec).h, fitH, fd, fun Hd sd => ⟨_, rfl, iteF ?_⟩⟩⟩
    exact ⟨_, rfl, (st.told ec tc).same sd, en.trans (ec.trans (ext_same sd))⟩
  clear st9 fc9
  rintro σ H9 ⟨a7, rfl, st9, fc9⟩
  -- the deeds that are kept
  let σF : Addr → L2.St := fun dl => S90 sc k more (some (.ref pa)) (some mv) (some (nI n)) (some (.ref ha)) a7 (some (.ref dl))
  let Pd : Nat → L2.St → Hp → Prop := fun c σ H' => ∃ (dl : Addr) (fs : List Addr), σ = σF dl ∧ Stp (Tb K lams) H H' ∧ ExtN H9 H' ∧ (∀ o, H9 dl = some o → (∀ ps, o ≠ .tbl ps) → False) ∧ H' dl = some (.lst (fs.map V.ref)) ∧ fs.length = c ∧ ∀ f ∈ fs, GoodL (XL P w K mg base A outer s H E) (σF dl) (Fact K pa ha mv l m) H' f
  refine ⟨Pd 1, ?_, ?_⟩
  · refine ⟨st9.t, fun f Hc ec tc lk => ⟨(by show 1 ≤ sizeLine; decide), fun dl ndl => ?_⟩⟩
    have sn := same_new (o := .lst [.ref f]) ndl
    refine ⟨dl, [f], rfl, (st9.told ec tc).same sn, ec.trans (ext_same sn), (fun o h1 h2 => by rw [ec _ _ h1 h2] at ndl; cases ndl), upd_same, rfl, fun g hg => ?_⟩
    rw [List.mem_singleton.mp hg]
    exact ⟨_, _, .of (.opt (led l n)), lk.same sn, fun Hz fz HZ Q' sz q' => ⟨_, rfl, _, rfl, t_step (fz.same sz).p sm q'⟩⟩
  have putOne : ∀ (c : Nat) (dl : Addr) (fs : List Addr) (Hb Hc : Hp) (f : Addr), Stp (Tb K lams) H Hb → ExtN H9 Hb → (∀ o, H9 dl = some o → (∀ ps, o ≠ .tbl ps) → False) → Hb dl = some (.lst (fs.map V.ref)) → fs.length = c → (∀ f ∈ fs, GoodL (XL P w K mg base A outer s H E) (σF dl) (Fact K pa ha mv l m) Hb f) → ExtN Hb Hc → Tabs (Tb K lams) Hc →
      GoodL (XL P w K mg base A outer s H E) (σF dl) (Fact K pa ha mv l m) Hc f → Pd (c + 1) (σF dl) (upd Hc dl (.lst (fs.map V.ref ++ [.ref f]))) := by
    intro c dl fs Hb Hc f st en ap hdl hfl hgd ec tc gf
    have hdc := ext_lst ec hdl
    refine ⟨dl, fs ++ [f], rfl, ⟨ext_put (st.e.trans ec) fun o h1 h2 => ap o (st9.e _ _ h1 h2) h2, tabs_put tc hdc⟩, ext_put (en.trans ec) ap, ap, ?_, by rw [List.length_append, hfl]; rfl, fun g hg => ?_⟩
    · rw [upd_same, List.map_append]
      rfl
    · rcases List.mem_append.mp hg with z | z
      · exact ((hgd g z).ext ec).put hdc
      · rw [List.mem_singleton.mp z]
        exact gf.put hdc
  rintro σ H11 ⟨dl, fs, rfl, st, en, ap, hdl, hfl, hgd⟩
  -- shows
  refine ⟨Pd 2, ?_, ?_⟩
  · refine ⟨_, rfl, .inl ⟨rfl, _, SqL.of hdl⟩, st.t, fun f Hc ec tc lk => ⟨dl, _, _, rfl, rfl, ext_lst ec hdl, ?_, putOne 1 dl fs H11 Hc f st en ap hdl hfl hgd ec tc ⟨_, _, .of (.bool (i := decide (r1.length = 1 + 1) && goesOn l r1 0 1)), lk, fun Hz fz HZ Q' sz q' => ⟨_, rfl, _, rfl, fun cv Hq sq hcv => t_shows (fz.same (sz.trans sq)).p sm hcv hr1 fun x H' s' h => q' x H' (sq.trans s') (h.old sq)⟩⟩⟩⟩
    rw [List.length_map, hfl]
    decide
  clear st en ap hdl hfl hgd fs
  rintro σ H12 ⟨dl, fs, rfl, st, en, ap, hdl, hfl, hgd⟩
  -- machine_run
  refine ⟨Pd 3, ?_, ?_⟩
  · refine ⟨_, rfl, .inl ⟨rfl, _, SqL.of hdl⟩, st.t, fun f Hc ec tc lk => ⟨dl, _, _, rfl, rfl, ext_lst ec hdl, ?_, putOne 2 dl fs H12 Hc f st en ap hdl hfl hgd ec tc ⟨_, _, .of (.sts (k := 1) (l := mrunF m 9 (0, [1, 2, 3])) (Nat.le_trans (mrun_few m 9 _) (by decide)) (mrun_three hm 9 3 _ ⟨(mach_len hm).1, rfl, by decide⟩)), lk, fun Hz fz HZ Q' sz q' => ⟨_, rfl, fun cv Hq sq hcv => t_mrun (fz.same (sz.trans sq)).mm hm hcv fun x H' s' h => q' x H' (sq.trans s') (h.old sq)⟩⟩⟩⟩
    rw [List.length_map, hfl]
    decide
  clear st en ap hdl hfl hgd fs
  rintro σ H13 ⟨dl, fs, rfl, st, en, ap, hdl, hfl, hgd⟩
  -- program_of
  refine ⟨Pd 4, ?_, ?_⟩
  · refine ⟨_, rfl, .inl ⟨rfl, _, SqL.of hdl⟩, st.t, fun f Hc ec tc lk => ⟨dl, _, _, rfl, rfl, ext_lst ec hdl, ?_, putOne 3 dl fs H13 Hc f st en ap hdl hfl hgd ec tc ⟨_, _, .of (.prog (k := 2) (l := progOf m) (progOf_few hm)), lk, fun Hz fz HZ Q' sz q' => ⟨_, rfl, t_progOf (fz.same sz).mm hm q'⟩⟩⟩⟩
    rw [List.length_map, hfl]
    decide
  clear st en ap hdl hfl hgd fs
  rintro σ H14 ⟨dl, fs, rfl, st, en, ap, hdl, hfl, hgd⟩
  -- parting
  refine ⟨Pd 5, ?_, ?_⟩
  · refine ⟨_, rfl, .inl ⟨rfl, _, SqL.of hdl⟩, st.t, fun f Hc ec tc lk => ⟨dl, _, _, rfl, rfl, ext_lst ec hdl, ?_, putOne 4 dl fs H14 Hc f st en ap hdl hfl hgd ec tc ⟨_, _, .of (.opt (partF l l.reverse)), lk, fun Hz fz HZ Q' sz q' => ?_⟩⟩⟩
    · rw [List.length_map, hfl]
      decide
    · have hp := (fz.same sz).p
      obtain ⟨a, xs, ea, hs, hxs⟩ := dp_lst hp
      cases ea
      refine ⟨_, rfl, _, rfl, 1, rfl, _, rfl, rfl, rfl, rfl, pa, xs, rfl, hs, fun pr npr => ?_⟩
      have sq := same_new (o := .lst xs.reverse) npr
      refine t_parting (E := L2.E0) (same_dp sq hp) (.lst (SqL.of upd_same) ?_) sm fun x H' s' h => q' x H' (sq.trans s') (h.old sq)
      rw [List.map_reverse]
      exact dps_revA (same_dps sq hxs)
  clear st en ap hdl hfl hgd fs
  rintro σ H15 ⟨dl, fs, rfl, st, en, ap, hdl, hfl, hgd⟩
  -- read
  refine ⟨Pd 6, ?_, ?_⟩
  · refine ⟨_, rfl, .inl ⟨rfl, _, SqL.of hdl⟩, st.t, fun f Hc ec tc lk => ⟨dl, _, _, rfl, rfl, ext_lst ec hdl, ?_, putOne 5 dl fs H15 Hc f st en ap hdl hfl hgd ec tc ⟨_, _, .of (.prog (k := 2) (l := [(3, 2), (5, 3)]) (by decide)), lk, fun Hz fz HZ Q' sz q' => t_read q'⟩⟩⟩
    rw [List.length_map, hfl]
    decide
  clear st en ap hdl hfl hgd fs
  rintro σ H16 ⟨dl, fs, rfl, st, en, ap, hdl, hfl, hgd⟩
  -- all of them, again
  have fc16 := fc9.ext en
  refine ⟨_, rfl, dl, rfl, ⟨_, SqL.of hdl⟩, fun D hD => ?_⟩
  refine lc_it walk_list (fun i H' => Same H16 H' ∧ H' D = some (.lst [])) ⟨same_new hD, upd_same⟩ (fun i H' _ p => SqL.of (p.1 _ _ hdl)) ?_ ?_
  · rintro i x H' H'' hi ⟨s', hD'⟩ ⟨rfl, hx⟩
    rw [List.getElem?_map] at hx
    obtain ⟨f, hf, rfl⟩ := Option.map_eq_some_iff.mp hx
    obtain ⟨tb, d, fd, lk, tl⟩ := hgd f (List.mem_of_getElem? hf)
    have fcn := fc16.same s'
    exact ⟨rfl, f, _, _, d, tb, rfl, rfl, lk.same s', tl _ fcn, fcn.h, fitH, fd, fun H3 s3 => ⟨_, rfl, iteF ⟨s'.trans s3, s3 _ _ hD'⟩⟩⟩
  · rintro H' ⟨s', hD'⟩
    refine ⟨Nat.zero_le _, fun em nem => ⟨[], .lst (SqL.of ((same_new nem) _ _ hD')) .nil, .lst (SqL.of upd_same) .nil, (fun _ h => nomatch h), _, rfl, iteF ?_⟩⟩
    exact ⟨⟨_, rfl, rfl⟩, st.same (s'.trans (same_new nem))⟩
end
end Fr
set_option maxHeartbeats 0
namespace Fr
open PySem PySem.Spec PyProof.Rows L2
def dd_is_count : He.DefD := ⟨("is_count", none), "is_count", "is_count", defArgs s_is_count, defBody s_is_count, defScope s_is_count, [], []⟩
def dd_need_count : He.DefD := ⟨("need_count", none), "need_count", "need_count", defArgs s_need_count, defBody s_need_count, defScope s_need_count, [], []⟩
def dd_parted : He.DefD := ⟨("parted", none), "parted", "parted", defArgs s_parted, defBody s_parted, defScope s_parted, [], []⟩
def dd_is_number : He.DefD := ⟨("is_number", none), "is_number", "is_number", defArgs s_is_number, defBody s_is_number, defScope s_is_number, [], []⟩
def dd_need_number : He.DefD := ⟨("need_number", none), "need_number", "need_number", defArgs s_need_number, defBody s_need_number, defScope s_need_number, [], []⟩
def dd_common : He.DefD := ⟨("common", none), "common", "common", defArgs s_common, defBody s_common, defScope s_common, [], []⟩
def dd_is_fraction : He.DefD := ⟨("is_fraction", none), "is_fraction", "is_fraction", defArgs s_is_fraction, defBody s_is_fraction, defScope s_is_fraction, [], []⟩
def dd_is_program : He.DefD := ⟨("is_program", none), "is_program", "is_program", defArgs s_is_program, defBody s_is_program, defScope s_is_program, [], []⟩
def dd_need_program : He.DefD := ⟨("need_program", none), "need_program", "need_program", defArgs s_need_program, defBody s_need_program, defScope s_need_program, [], []⟩
def dd_first_at : He.DefD := ⟨("first_at", none), "first_at", "first_at", defArgs s_first_at, defBody s_first_at, defScope s_first_at, [], []⟩
def dd_led : He.DefD := ⟨("led", none), "led", "led", defArgs s_led, defBody s_led, defScope s_led, [], []⟩
def dd_need_room : He.DefD := ⟨("need_room", none), "need_room", "need_room", defArgs s_need_room, defBody s_need_room, defScope s_need_room, [], []⟩
def dd_look : He.DefD := ⟨("look", none), "look", "look", defArgs s_look, defBody s_look, defScope s_look, [], []⟩
def dd_step : He.DefD := ⟨("step", none), "step", "step", defArgs s_step, defBody s_step, defScope s_step, [], []⟩
def dd_run : He.DefD := ⟨("run", none), "run", "run", defArgs s_run, defBody s_run, defScope s_run, [], []⟩
def dd_end : He.DefD := ⟨("end", none), "end", "end", defArgs s_end, defBody s_end, defScope s_end, [], []⟩
def dd_idle : He.DefD := ⟨("idle", none), "idle", "idle", defArgs s_idle, defBody s_idle, defScope s_idle, [], []⟩
def dd_lean : He.DefD := ⟨("lean", none), "lean", "lean", defArgs s_lean, defBody s_lean, defScope s_lean, [], []⟩
def dd_needs : He.DefD := ⟨("needs", none), "needs", "needs", defArgs s_needs, defBody s_needs, defScope s_needs, [], []⟩
def dd_numbers_to : He.DefD := ⟨("numbers_to", none), "numbers_to", "numbers_to", defArgs s_numbers_to, defBody s_numbers_to, defScope s_numbers_to, [], []⟩
def dd_parting : He.DefD := ⟨("parting", none), "parting", "parting", defArgs s_parting, defBody s_parting, defScope s_parting, [], []⟩
def dd_vector : He.DefD := ⟨("vector", none), "vector", "vector", defArgs s_vector, defBody s_vector, defScope s_vector, [], []⟩
def dd_fits_from : He.DefD := ⟨("fits_from", none), "fits_from", "fits_from", defArgs s_fits_from, defBody s_fits_from, defScope s_fits_from, [], []⟩
def dd_times_at : He.DefD := ⟨("times_at", none), "times_at", "times_at", defArgs s_times_at, defBody s_times_at, defScope s_times_at, [], []⟩
def dd_powered : He.DefD := ⟨("powered", none), "powered", "powered", defArgs s_powered, defBody s_powered, defScope s_powered, [], []⟩
def dd_jumps : He.DefD := ⟨("jumps", none), "jumps", "jumps", defArgs s_jumps, defBody s_jumps, defScope s_jumps, [], []⟩
def dd_many_steps : He.DefD := ⟨("many_steps", none), "many_steps", "many_steps", defArgs s_many_steps, defBody s_many_steps, defScope s_many_steps, [], []⟩
def dd_is_line : He.DefD := ⟨("is_line", none), "is_line", "is_line", defArgs s_is_line, defBody s_is_line, defScope s_is_line, [], []⟩
def dd_need_machine : He.DefD := ⟨("need_machine", none), "need_machine", "need_machine", defArgs s_need_machine, defBody s_need_machine, defScope s_need_machine, [], []⟩
def dd_need_counters : He.DefD := ⟨("need_counters", none), "need_counters", "need_counters", defArgs s_need_counters, defBody s_need_counters, defScope s_need_counters, [], []⟩
def dd_changed : He.DefD := ⟨("changed", none), "changed", "changed", defArgs s_changed, defBody s_changed, defScope s_changed, [], []⟩
def dd_went : He.DefD := ⟨("went", none), "went", "went", defArgs s_went, defBody s_went, defScope s_went, [], []⟩
def dd_machine_run : He.DefD := ⟨("machine_run", none), "machine_run", "machine_run", defArgs s_machine_run, defBody s_machine_run, defScope s_machine_run, [], []⟩
def dd_at_line : He.DefD := ⟨("at_line", none), "at_line", "at_line", defArgs s_at_line, defBody s_at_line, defScope s_at_line, [], []⟩
def dd_program_of : He.DefD := ⟨("program_of", none), "program_of", "program_of", defArgs s_program_of, defBody s_program_of, defScope s_program_of, [], []⟩
def dd_walked : He.DefD := ⟨("walked", none), "walked", "walked", defArgs s_walked, defBody s_walked, defScope s_walked, [], []⟩
def dd_goes_on : He.DefD := ⟨("goes_on", none), "goes_on", "goes_on", defArgs s_goes_on, defBody s_goes_on, defScope s_goes_on, [], []⟩
def dd_never : He.DefD := ⟨("never", none), "never", "never", defArgs s_never, defBody s_never, defScope s_never, [], []⟩
def dd_shows : He.DefD := ⟨("shows", none), "shows", "shows", defArgs s_shows, defBody s_shows, defScope s_shows, [], []⟩
def dd_need : He.DefD := ⟨("need", none), "need", "need", defArgs s_need, defBody s_need, defScope s_need, [], []⟩
def dd_program_text : He.DefD := ⟨("program_text", none), "program_text", "program_text", defArgs s_program_text, defBody s_program_text, defScope s_program_text, [], []⟩
def dd_written : He.DefD := ⟨("written", none), "written", "written", defArgs s_written, defBody s_written, defScope s_written, [], []⟩
def dd_number_in : He.DefD := ⟨("number_in", none), "number_in", "number_in", defArgs s_number_in, defBody s_number_in, defScope s_number_in, [], []⟩
def dd_fraction_in : He.DefD := ⟨("fraction_in", none), "fraction_in", "fraction_in", defArgs s_fraction_in, defBody s_fraction_in, defScope s_fraction_in, [], []⟩
def dd_read : He.DefD := ⟨("read", none), "read", "read", defArgs s_read, defBody s_read, defScope s_read, [], []⟩
def dd__law_cell : He.DefD := ⟨("_law_cell", none), "_law_cell", "_law_cell", defArgs s__law_cell, defBody s__law_cell, defScope s__law_cell, [], []⟩
def dd__law_drawn : He.DefD := ⟨("_law_drawn", none), "_law_drawn", "_law_drawn", defArgs s__law_drawn, defBody s__law_drawn, defScope s__law_drawn, [], []⟩
def dd__law_primes : He.DefD := ⟨("_law_primes", none), "_law_primes", "_law_primes", defArgs s__law_primes, defBody s__law_primes, defScope s__law_primes, [], []⟩
def dd__law_some : He.DefD := ⟨("_law_some", none), "_law_some", "_law_some", defArgs s__law_some, defBody s__law_some, defScope s__law_some, [], []⟩
def dd__law_fraction : He.DefD := ⟨("_law_fraction", none), "_law_fraction", "_law_fraction", defArgs s__law_fraction, defBody s__law_fraction, defScope s__law_fraction, [], []⟩
def dd__law_program : He.DefD := ⟨("_law_program", none), "_law_program", "_law_program", defArgs s__law_program, defBody s__law_program, defScope s__law_program, [], []⟩
def dd__law_machine : He.DefD := ⟨("_law_machine", none), "_law_machine", "_law_machine", defArgs s__law_machine, defBody s__law_machine, defScope s__law_machine, [], []⟩
def dd__law_copy : He.DefD := ⟨("_law_copy", none), "_law_copy", "_law_copy", defArgs s__law_copy, defBody s__law_copy, defScope s__law_copy, [], []⟩
def dd__law_spoil : He.DefD := ⟨("_law_spoil", none), "_law_spoil", "_law_spoil", defArgs s__law_spoil, defBody s__law_spoil, defScope s__law_spoil, [], []⟩
def dd__law_again : He.DefD := ⟨("_law_again", none), "_law_again", "_law_again", defArgs s__law_again, defBody s__law_again, defScope s__law_again, [], []⟩
def dd_law : He.DefD := ⟨("law", none), "law", "law", defArgs s_law, defBody s_law, defScope s_law, [], []⟩
def fn : List He.DefD := [dd_is_count, dd_need_count, dd_parted, dd_is_number, dd_need_number, dd_common, dd_is_fraction, dd_is_program, dd_need_program, dd_first_at, dd_led, dd_need_room, dd_look, dd_step, dd_run, dd_end, dd_idle, dd_lean, dd_needs, dd_numbers_to, dd_parting, dd_vector, dd_fits_from, dd_times_at, dd_powered, dd_jumps, dd_many_steps, dd_is_line, dd_need_machine, dd_need_counters, dd_changed, dd_went, dd_machine_run, dd_at_line, dd_program_of, dd_walked, dd_goes_on, dd_never, dd_shows, dd_need, dd_program_text, dd_written, dd_number_in, dd_fraction_in, dd_read, dd__law_cell, dd__law_drawn, dd__law_primes, dd__law_some, dd__law_fraction, dd__law_program, dd__law_machine, dd__law_copy, dd__law_spoil, dd__law_again, dd_law]
def fa : List He.Fa := [.free "isinstance", .free "int", .free "bool", .free "str", .free "list", .free "tuple", .free "len", .free "all", .free "any", .free "max", .free "min", .free "sum", .free "range", .free "zip", .free "enumerate", .free "dict", .free "ValueError", .glo "is_count", .glo "need_count", .glo "parted", .glo "is_number", .glo "need_number", .glo "common", .glo "is_fraction", .glo "is_program", .glo "need_program", .glo "first_at", .glo "led", .glo "need_room", .glo "look", .glo "step", .glo "run", .glo "end", .glo "idle", .glo "lean", .glo "needs", .glo "numbers_to", .glo "parting", .glo "vector", .glo "fits_from", .glo "times_at", .glo "powered", .glo "jumps", .glo "many_steps", .glo "is_line", .glo "need_machine", .glo "need_counters", .glo "changed", .glo "went", .glo "machine_run", .glo "at_line", .glo "program_of", .glo "walked", .glo "goes_on", .glo "never", .glo "shows", .glo "need", .glo "program_text", .glo "written", .glo "number_in", .glo "fraction_in", .glo "read", .glo "_law_cell", .glo "_law_drawn", .glo "_law_primes", .glo "_law_some", .glo "_law_fraction", .glo "_law_program", .glo "_law_machine", .glo "_law_copy", .glo "_law_spoil", .glo "_law_again", .glo "law", .glo "RowError", .exc "RowError", .glo "BadNumber", .exc "BadNumber", .glo "BadProgram", .exc "BadProgram", .glo "BadMachine", .exc "BadMachine", .glo "TooGreat", .exc "TooGreat", .glo "BadText", .exc "BadText", .glo "PRIMES", .int "MOST_ROOM" 400, .int "MOST_FRACTIONS" 16, .int "MOST_STEPS_programs" 2000, .int "MOST_PART" 1000000, .int "MOST_LOOKED" 5000, .int "MOST_JUMPS" 200, .int "COUNTERS" 3, .int "MOST_LINES" 4, .int "MOST_COUNTER" 100, .int "MOST_STEPS_machines" 500, .glo "SIZES", .int "MOST_LOOK" 200, .str "FIGURES" "0123456789", .int "MOST_FIGURES" 7]
def ex (K : PySem.W.Frag) : Bool := He.tupB K "PRIMES" [.int 2, .int 3, .int 5, .int 7, .int 11, .int 13, .int 17, .int 19, .int 23, .int 29, .int 31, .int 37] && (He.valsB K (ga K "SIZES") [("add", .int 3), ("take", .int 4), ("end", .int 1)] && (He.eqO (PySem.W.nsIn K (ga K "SIZES") "stop") (some none) && (tabsD K ["law"] && (true))))
theorem ex_0 {K : PySem.W.Frag} (h : ex K = true) : He.tupB K "PRIMES" [.int 2, .int 3, .int 5, .int 7, .int 11, .int 13, .int 17, .int 19, .int 23, .int 29, .int 31, .int 37] = true := (He.ba h).1
theorem ex_1 {K : PySem.W.Frag} (h : ex K = true) : He.valsB K (ga K "SIZES") [("add", .int 3), ("take", .int 4), ("end", .int 1)] = true := (He.ba (He.ba h).2).1
theorem ex_2 {K : PySem.W.Frag} (h : ex K = true) : He.eqO (PySem.W.nsIn K (ga K "SIZES") "stop") (some none) = true := (He.ba (He.ba (He.ba h).2).2).1
theorem ex_3 {K : PySem.W.Frag} (h : ex K = true) : tabsD K ["law"] = true := (He.ba (He.ba (He.ba (He.ba h).2).2).2).1
def tf : List He.Defn := (["law"] : List Str).map fun x => (x, none)
def ts : List He.Tab := [(fun K => ga K "SIZES", ["add", "take", "end"])]
abbrev R : PySem.W.OpenRow := PySem.W.OpenLaw.row PySem.Challenge.rw_fractrows_k90_again_and_shared
abbrev hk : PySem.W.Hook := He.hookX 5 fa fn ts tf ex
def ob (s : PySem.W.SharedT) : He.AlX := He.obsX 5 fa fn ts tf ex (HandSHeadRun.getT s)
theorem ob_eq (s : PySem.W.SharedT) : ob s = hk.obs s.abs := He.obsX_eq (HandSHeadRun.getT_eq s)
def loose0 : List Str := ["RowError", "BadNumber", "BadProgram", "BadMachine", "TooGreat", "BadText", "PRIMES", "MOST_ROOM", "is_count", "need_count", "parted", "is_number", "need_number", "MOST_FRACTIONS", "MOST_STEPS_programs", "MOST_PART", "common", "is_fraction", "is_program", "need_program", "first_at", "led", "need_room", "look", "step", "run", "end", "idle", "lean", "MOST_LOOKED"]
def loose1 : List Str := ["needs", "numbers_to", "parting", "MOST_JUMPS", "vector", "fits_from", "times_at", "powered", "jumps", "many_steps", "COUNTERS", "MOST_LINES", "MOST_COUNTER", "MOST_STEPS_machines", "SIZES", "is_line", "need_machine", "need_counters", "changed", "went", "machine_run", "at_line", "program_of", "MOST_LOOK", "walked", "goes_on", "never", "shows", "FIGURES", "MOST_FIGURES"]
def loose2 : List Str := ["need", "program_text", "written", "number_in", "fraction_in", "read", "_law_cell", "_law_drawn", "_law_primes", "_law_some", "_law_fraction", "_law_program", "_law_machine", "_law_copy", "_law_spoil", "_law_again"]
def loose : List Str := loose0 ++ loose1 ++ loose2
theorem run0 (w : World) : HandSHeadRun.RunEq R (PySem.W.view R.prog [85]) hk ob 10720 loose (w.withFollow "special-get-raises" false) := by
  intro os
  kernel_rfl
theorem run1 (w : World) : HandSHeadRun.RunEq R (PySem.W.view R.prog [85]) hk ob 10720 loose (w.withFollow "special-get-raises" true) := by
  intro os
  kernel_rfl
theorem run (w : World) : HandSHeadRun.RunEq R (PySem.W.view R.prog [85]) hk ob 10720 loose w := PySem.W.byRow2 "special-get-raises" (P := fun w => HandSHeadRun.RunEq R (PySem.W.view R.prog [85]) hk ob 10720 loose w) run0 run1 w
theorem fnp_of {K : PySem.W.Frag} {x : Str} {st : Stmt} (h : ∃ fd, FunD K x x (defArgs st) (defBody st) (defScope st) [] [] (He.fAd K (x, none)) fd) : FnP K x st := by
  obtain ⟨fd, F⟩ := h
  obtain ⟨oc, od, dV, kV, doc, pm, an, cdv, ct, osl, e, lk, h1, h2, h3⟩ := F.ex
  have e2 : fdOf K (x, none) = fd := by
    unfold fdOf
    rw [lk]
  unfold FnP
  rw [e2]
  exact F
theorem txt_of {K : PySem.W.Frag} {h : Heap} {w : World} {mg : Str → Option Value} (X : K.In h) (G : h.Ns mainGlobals mg) (c : He.SaysX fa fn ts tf ex w h K) : Txt K mg :=
  ⟨He.free_ok X G (c.t.d.fact 0 (f := .free "isinstance") rfl),
    He.free_ok X G (c.t.d.fact 1 (f := .free "int") rfl),
    He.free_ok X G (c.t.d.fact 2 (f := .free "bool") rfl),
    He.free_ok X G (c.t.d.fact 3 (f := .free "str") rfl),
    He.free_ok X G (c.t.d.fact 4 (f := .free "list") rfl),
    He.free_ok X G (c.t.d.fact 5 (f := .free "tuple") rfl),
    He.free_ok X G (c.t.d.fact 6 (f := .free "len") rfl),
    He.free_ok X G (c.t.d.fact 7 (f := .free "all") rfl),
    He.free_ok X G (c.t.d.fact 8 (f := .free "any") rfl),
    He.free_ok X G (c.t.d.fact 9 (f := .free "max") rfl),
    He.free_ok X G (c.t.d.fact 10 (f := .free "min") rfl),
    He.free_ok X G (c.t.d.fact 11 (f := .free "sum") rfl),
    He.free_ok X G (c.t.d.fact 12 (f := .free "range") rfl),
    He.free_ok X G (c.t.d.fact 13 (f := .free "zip") rfl),
    He.free_ok X G (c.t.d.fact 14 (f := .free "enumerate") rfl),
    He.free_ok X G (c.t.d.fact 15 (f := .free "dict") rfl),
    He.free_ok X G (c.t.d.fact 16 (f := .free "ValueError") rfl),
    fnp_of (c.t.d.def_ 0 (d := dd_is_count) rfl),
    He.glo_ok X G (c.t.d.fact 17 (f := .glo "is_count") rfl),
    fnp_of (c.t.d.def_ 1 (d := dd_need_count) rfl),
    He.glo_ok X G (c.t.d.fact 18 (f := .glo "need_count") rfl),
    fnp_of (c.t.d.def_ 2 (d := dd_parted) rfl),
    He.glo_ok X G (c.t.d.fact 19 (f := .glo "parted") rfl),
    fnp_of (c.t.d.def_ 3 (d := dd_is_number) rfl),
    He.glo_ok X G (c.t.d.fact 20 (f := .glo "is_number") rfl),
    fnp_of (c.t.d.def_ 4 (d := dd_need_number) rfl),
    He.glo_ok X G (c.t.d.fact 21 (f := .glo "need_number") rfl),
    fnp_of (c.t.d.def_ 5 (d := dd_common) rfl),
    He.glo_ok X G (c.t.d.fact 22 (f := .glo "common") rfl),
    fnp_of (c.t.d.def_ 6 (d := dd_is_fraction) rfl),
    He.glo_ok X G (c.t.d.fact 23 (f := .glo "is_fraction") rfl),
    fnp_of (c.t.d.def_ 7 (d := dd_is_program) rfl),
    He.glo_ok X G (c.t.d.fact 24 (f := .glo "is_program") rfl),
    fnp_of (c.t.d.def_ 8 (d := dd_need_program) rfl),
    He.glo_ok X G (c.t.d.fact 25 (f := .glo "need_program") rfl),
    fnp_of (c.t.d.def_ 9 (d := dd_first_at) rfl),
    He.glo_ok X G (c.t.d.fact 26 (f := .glo "first_at") rfl),
    fnp_of (c.t.d.def_ 10 (d := dd_led) rfl),
    He.glo_ok X G (c.t.d.fact 27 (f := .glo "led") rfl),
    fnp_of (c.t.d.def_ 11 (d := dd_need_room) rfl),
    He.glo_ok X G (c.t.d.fact 28 (f := .glo "need_room") rfl),
    fnp_of (c.t.d.def_ 12 (d := dd_look) rfl),
    He.glo_ok X G (c.t.d.fact 29 (f := .glo "look") rfl),
    fnp_of (c.t.d.def_ 13 (d := dd_step) rfl),
    He.glo_ok X G (c.t.d.fact 30 (f := .glo "step") rfl),
    fnp_of (c.t.d.def_ 14 (d := dd_run) rfl),
    He.glo_ok X G (c.t.d.fact 31 (f := .glo "run") rfl),
    fnp_of (c.t.d.def_ 15 (d := dd_end) rfl),
    He.glo_ok X G (c.t.d.fact 32 (f := .glo "end") rfl),
    fnp_of (c.t.d.def_ 16 (d := dd_idle) rfl),
    He.glo_ok X G (c.t.d.fact 33 (f := .glo "idle") rfl),
    fnp_of (c.t.d.def_ 17 (d := dd_lean) rfl),
    He.glo_ok X G (c.t.d.fact 34 (f := .glo "lean") rfl),
    fnp_of (c.t.d.def_ 18 (d := dd_needs) rfl),
    He.glo_ok X G (c.t.d.fact 35 (f := .glo "needs") rfl),
    fnp_of (c.t.d.def_ 19 (d := dd_numbers_to) rfl),
    He.glo_ok X G (c.t.d.fact 36 (f := .glo "numbers_to") rfl),
    fnp_of (c.t.d.def_ 20 (d := dd_parting) rfl),
    He.glo_ok X G (c.t.d.fact 37 (f := .glo "parting") rfl),
    fnp_of (c.t.d.def_ 21 (d := dd_vector) rfl),
    He.glo_ok X G (c.t.d.fact 38 (f := .glo "vector") rfl),
    fnp_of (c.t.d.def_ 22 (d := dd_fits_from) rfl),
    He.glo_ok X G (c.t.d.fact 39 (f := .glo "fits_from") rfl),
    fnp_of (c.t.d.def_ 23 (d := dd_times_at) rfl),
    He.glo_ok X G (c.t.d.fact 40 (f := .glo "times_at") rfl),
    fnp_of (c.t.d.def_ 24 (d := dd_powered) rfl),
    He.glo_ok X G (c.t.d.fact 41 (f := .glo "powered") rfl),
    fnp_of (c.t.d.def_ 25 (d := dd_jumps) rfl),
    He.glo_ok X G (c.t.d.fact 42 (f := .glo "jumps") rfl),
    fnp_of (c.t.d.def_ 26 (d := dd_many_steps) rfl),
    He.glo_ok X G (c.t.d.fact 43 (f := .glo "many_steps") rfl),
    fnp_of (c.t.d.def_ 27 (d := dd_is_line) rfl),
    He.glo_ok X G (c.t.d.fact 44 (f := .glo "is_line") rfl),
    fnp_of (c.t.d.def_ 28 (d := dd_need_machine) rfl),
    He.glo_ok X G (c.t.d.fact 45 (f := .glo "need_machine") rfl),
    fnp_of (c.t.d.def_ 29 (d := dd_need_counters) rfl),
    He.glo_ok X G (c.t.d.fact 46 (f := .glo "need_counters") rfl),
    fnp_of (c.t.d.def_ 30 (d := dd_changed) rfl),
    He.glo_ok X G (c.t.d.fact 47 (f := .glo "changed") rfl),
    fnp_of (c.t.d.def_ 31 (d := dd_went) rfl),
    He.glo_ok X G (c.t.d.fact 48 (f := .glo "went") rfl),
    fnp_of (c.t.d.def_ 32 (d := dd_machine_run) rfl),
    He.glo_ok X G (c.t.d.fact 49 (f := .glo "machine_run") rfl),
    fnp_of (c.t.d.def_ 33 (d := dd_at_line) rfl),
    He.glo_ok X G (c.t.d.fact 50 (f := .glo "at_line") rfl),
    fnp_of (c.t.d.def_ 34 (d := dd_program_of) rfl),
    He.glo_ok X G (c.t.d.fact 51 (f := .glo "program_of") rfl),
    fnp_of (c.t.d.def_ 35 (d := dd_walked) rfl),
    He.glo_ok X G (c.t.d.fact 52 (f := .glo "walked") rfl),
    fnp_of (c.t.d.def_ 36 (d := dd_goes_on) rfl),
    He.glo_ok X G (c.t.d.fact 53 (f := .glo "goes_on") rfl),
    fnp_of (c.t.d.def_ 37 (d := dd_never) rfl),
    He.glo_ok X G (c.t.d.fact 54 (f := .glo "never") rfl),
    fnp_of (c.t.d.def_ 38 (d := dd_shows) rfl),
    He.glo_ok X G (c.t.d.fact 55 (f := .glo "shows") rfl),
    fnp_of (c.t.d.def_ 39 (d := dd_need) rfl),
    He.glo_ok X G (c.t.d.fact 56 (f := .glo "need") rfl),
    fnp_of (c.t.d.def_ 40 (d := dd_program_text) rfl),
    He.glo_ok X G (c.t.d.fact 57 (f := .glo "program_text") rfl),
    fnp_of (c.t.d.def_ 41 (d := dd_written) rfl),
    He.glo_ok X G (c.t.d.fact 58 (f := .glo "written") rfl),
    fnp_of (c.t.d.def_ 42 (d := dd_number_in) rfl),
    He.glo_ok X G (c.t.d.fact 59 (f := .glo "number_in") rfl),
    fnp_of (c.t.d.def_ 43 (d := dd_fraction_in) rfl),
    He.glo_ok X G (c.t.d.fact 60 (f := .glo "fraction_in") rfl),
    fnp_of (c.t.d.def_ 44 (d := dd_read) rfl),
    He.glo_ok X G (c.t.d.fact 61 (f := .glo "read") rfl),
    fnp_of (c.t.d.def_ 45 (d := dd__law_cell) rfl),
    He.glo_ok X G (c.t.d.fact 62 (f := .glo "_law_cell") rfl),
    fnp_of (c.t.d.def_ 46 (d := dd__law_drawn) rfl),
    He.glo_ok X G (c.t.d.fact 63 (f := .glo "_law_drawn") rfl),
    fnp_of (c.t.d.def_ 47 (d := dd__law_primes) rfl),
    He.glo_ok X G (c.t.d.fact 64 (f := .glo "_law_primes") rfl),
    fnp_of (c.t.d.def_ 48 (d := dd__law_some) rfl),
    He.glo_ok X G (c.t.d.fact 65 (f := .glo "_law_some") rfl),
    fnp_of (c.t.d.def_ 49 (d := dd__law_fraction) rfl),
    He.glo_ok X G (c.t.d.fact 66 (f := .glo "_law_fraction") rfl),
    fnp_of (c.t.d.def_ 50 (d := dd__law_program) rfl),
    He.glo_ok X G (c.t.d.fact 67 (f := .glo "_law_program") rfl),
    fnp_of (c.t.d.def_ 51 (d := dd__law_machine) rfl),
    He.glo_ok X G (c.t.d.fact 68 (f := .glo "_law_machine") rfl),
    fnp_of (c.t.d.def_ 52 (d := dd__law_copy) rfl),
    He.glo_ok X G (c.t.d.fact 69 (f := .glo "_law_copy") rfl),
    fnp_of (c.t.d.def_ 53 (d := dd__law_spoil) rfl),
    He.glo_ok X G (c.t.d.fact 70 (f := .glo "_law_spoil") rfl),
    fnp_of (c.t.d.def_ 54 (d := dd__law_again) rfl),
    He.glo_ok X G (c.t.d.fact 71 (f := .glo "_law_again") rfl),
    fnp_of (c.t.d.def_ 55 (d := dd_law) rfl),
    He.glo_ok X G (c.t.d.fact 72 (f := .glo "law") rfl),
    He.glo_ok X G (c.t.d.fact 73 (f := .glo "RowError") rfl),
    He.exc_ok (c.t.d.fact 74 (f := .exc "RowError") rfl),
    He.glo_ok X G (c.t.d.fact 75 (f := .glo "BadNumber") rfl),
    He.exc_ok (c.t.d.fact 76 (f := .exc "BadNumber") rfl),
    He.glo_ok X G (c.t.d.fact 77 (f := .glo "BadProgram") rfl),
    He.exc_ok (c.t.d.fact 78 (f := .exc "BadProgram") rfl),
    He.glo_ok X G (c.t.d.fact 79 (f := .glo "BadMachine") rfl),
    He.exc_ok (c.t.d.fact 80 (f := .exc "BadMachine") rfl),
    He.glo_ok X G (c.t.d.fact 81 (f := .glo "TooGreat") rfl),
    He.exc_ok (c.t.d.fact 82 (f := .exc "TooGreat") rfl),
    He.glo_ok X G (c.t.d.fact 83 (f := .glo "BadText") rfl),
    He.exc_ok (c.t.d.fact 84 (f := .exc "BadText") rfl),
    He.glo_ok X G (c.t.d.fact 85 (f := .glo "PRIMES") rfl),
    fun H => He.tupB_ok (ex_0 c.more) H,
    He.int_ok X G (c.t.d.fact 86 (f := .int "MOST_ROOM" 400) rfl),
    He.int_ok X G (c.t.d.fact 87 (f := .int "MOST_FRACTIONS" 16) rfl),
    He.int_ok X G (c.t.d.fact 88 (f := .int "MOST_STEPS_programs" 2000) rfl),
    He.int_ok X G (c.t.d.fact 89 (f := .int "MOST_PART" 1000000) rfl),
    He.int_ok X G (c.t.d.fact 90 (f := .int "MOST_LOOKED" 5000) rfl),
    He.int_ok X G (c.t.d.fact 91 (f := .int "MOST_JUMPS" 200) rfl),
    He.int_ok X G (c.t.d.fact 92 (f := .int "COUNTERS" 3) rfl),
    He.int_ok X G (c.t.d.fact 93 (f := .int "MOST_LINES" 4) rfl),
    He.int_ok X G (c.t.d.fact 94 (f := .int "MOST_COUNTER" 100) rfl),
    He.int_ok X G (c.t.d.fact 95 (f := .int "MOST_STEPS_machines" 500) rfl),
    He.glo_ok X G (c.t.d.fact 96 (f := .glo "SIZES") rfl),
    ex_1 c.more,
    He.eqO_ok (ex_2 c.more),
    He.int_ok X G (c.t.d.fact 97 (f := .int "MOST_LOOK" 200) rfl),
    He.str_ok X G (c.t.d.fact 98 (f := .str "FIGURES" "0123456789") rfl),
    He.int_ok X G (c.t.d.fact 99 (f := .int "MOST_FIGURES" 7) rfl),
    ex_3 c.more⟩
theorem law_at {K : PySem.W.Frag} {h : Heap} {w : World} {mg : Str → Option Value} {f : Addr} (X : K.In h) (G : h.Ns mainGlobals mg) (hmg : mg "law" = some (.ref f)) (c : He.SaysX fa fn ts tf ex w h K) :
    LamX.LawAtS PySem.Challenge.rw_fractrows_k90_again_and_shared w K L2.CX0 13 63 "script" mg f h := by
  have T : Txt K mg := txt_of X G c
  have e := hmg.symm.trans T.m_law
  cases e
  refine ⟨fdOf K ("law", none), tf.map (He.cT K), spLaw K, fun p hp => ?_, fun p hp => ?_, fun p hp => ?_, fun s u => FunD.bindsA (ps := ["script"]) T.d_law (fun _ _ _ _ _ _ us hl => match us, hl with | [_], _ => rfl) s [u] rfl, fun H a ns hl _ hT hS => ⟨a, ns, rfl, hS, hl, tabs0 (xs := ["law"]) (fun x hx => hT _ (List.mem_map.mpr ⟨(x, none), List.mem_map.mpr ⟨x, hx, rfl⟩, rfl⟩)), fun _ => rfl⟩, fun base _ _ hB => (ok_law T (c.t.tab 0 (t := (fun K => ga K "SIZES", ["add", "take", "end"])) rfl) (fun x hx => hB _ (List.mem_map.mpr ⟨(x, none), List.mem_map.mpr ⟨x, hx, rfl⟩, rfl⟩))).fn⟩
  · obtain ⟨z, hz, rfl⟩ := List.mem_map.mp hp
    exact c.empty z hz
  · obtain ⟨z, hz, rfl⟩ := List.mem_map.mp hp
    exact c.out z hz
  · obtain ⟨z, hz, rfl⟩ := List.mem_map.mp hp
    exact PySem.W.codeHd_of_K X (c.hd z hz)
end Fr
open PySem PySem.W PySem.Calls PyProof.Rows
set_option maxRecDepth 100000 in
set_option maxHeartbeats 0 in
theorem PySem.Challenge.cw_fractrows_k90_again_and_shared_holds : PySem.Challenge.rw_fractrows_k90_again_and_shared.Holds := by
  w_on; o_law
  refine HandSHeadRun.head_any (r := OpenLaw.row PySem.Challenge.rw_fractrows_k90_again_and_shared) (q := view (OpenLaw.row PySem.Challenge.rw_fractrows_k90_again_and_shared).prog [85]) (H := Fr.hk) (ob := Fr.ob) (M := 10720) (loose := Fr.loose) (d := HandSHeadRun.topDef (OpenLaw.row PySem.Challenge.rw_fractrows_k90_again_and_shared).prog 85) (kwd := []) Fr.ob_eq
    (by kernel_rfl) (fun s => by kernel_rfl) Fr.run (by kernel_rfl) (by kernel_rfl) (by kernel_rfl) (by rfl) (by first | assumption | decide +kernel) (by decide +kernel) ⟨rfl, rfl, rfl, rfl, rfl, by decide +kernel⟩ ?hw ?hc
  case hw => w_witness2
  case hc =>
    refine LamX.walk_ofTsE (l := PySem.Challenge.rw_fractrows_k90_again_and_shared) (n := 63) (k := 13) (x := "script") (CX := fun _ => L2.CX0) rfl (by decide) (by kernel_rfl) ⟨rfl, by decide, by decide⟩ ?F (fun _ _ _ _ _ z => z)
    intro w mg fa h Y G hmg0
    obtain ⟨K, KX, c⟩ := Y
    have hmg : mg ("law" : PySem.Str) = some (.ref fa) := by
      have e : (HandSHeadRun.topDef (OpenLaw.row PySem.Challenge.rw_fractrows_k90_again_and_shared).prog 85).name = ("law" : PySem.Str) := by kernel_rfl
      rw [← e]
      exact hmg0
    exact ⟨K, KX, Fr.law_at KX G hmg c⟩
