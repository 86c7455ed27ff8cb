import PyProof.Rows.All
import Wide.All
import OpenK.AllK
import Wide.FinOn
import KE.KStateDown
import KE.DataMinMax
import HandS.ForMost
import HandS.ForExc
import HandS.ExcCtx
import HandS.HotCalls
import HandS.IsInst
import HandS.Wide
import HandS.Zip
import HandS.TupMul
import HandS.TupAny
import HandS.Deep
import HandS.Flow
import HandS.Walk
import HandS.Defaults
import HandS.Head0
import HandS.Head1
import HandS.Head2
import HandS.HeadEnd
import HandS.HeadHook1
import HandS.HeadHook2
import HandS.HeadHook3
import HandS.HeadHook4
import HandS.EndTab
import HandS.HeadWalk
import HandS.ExcIs
import HandS.Lambda
import PyProof.SumWalkG
import PyProof.ZipIter
import HandS.Zip0
import PyProof.WalksMore
import HandS.Style
import HandS.More
import HandS.Strs
import HandS.SetKeys
import HandS.Sort
import HandS.Conv
import HandS.TupLe
import KE.GoesMore
import KE.GoesEnum
import HandS.SetFor
import PySem.Challenge.RW_fractrows_k50_whole_machines
set_option Elab.async false
set_option linter.all false
set_option maxRecDepth 100000
set_option maxHeartbeats 4000000
namespace Fr

def primes : List Nat := [2, 3, 5, 7, 11, 13, 17, 19, 23, 29, 31, 37]

def stripF (p : Nat) : Nat → Nat → Nat × Nat
  | 0, n => (0, n)
  | f + 1, n => if n % p = 0 then ((stripF p f (n / p)).1 + 1, (stripF p f (n / p)).2) else (0, n)
/-- how often p divides n, and what is left -/
def strip (p n : Nat) : Nat × Nat := stripF p n n

theorem stripF_spec {p : Nat} (hp : 2 ≤ p) : ∀ (a f m : Nat), m % p ≠ 0 → a ≤ f → stripF p f (p ^ a * m) = (a, m)
  | 0, 0, m, _, _ => by simp [stripF]
  | 0, f + 1, m, hm, _ => by simp [stripF, hm]
  | a + 1, 0, m, _, h => absurd h (by omega)
  | a + 1, f + 1, m, hm, h => by
    have e1 : (p ^ (a + 1) * m) % p = 0 := by
      rw [Nat.pow_succ, Nat.mul_comm (p ^ a) p, Nat.mul_assoc]
      exact Nat.mul_mod_right p _
    have e2 : p ^ (a + 1) * m / p = p ^ a * m := by
      rw [Nat.pow_succ, Nat.mul_comm (p ^ a) p, Nat.mul_assoc]
      exact Nat.mul_div_cancel_left _ (by omega)
    have ih := stripF_spec hp a f m hm (by omega)
    unfold stripF
    rw [if_pos e1, e2, ih]
theorem pow_gt {p : Nat} (hp : 2 ≤ p) : ∀ a : Nat, a < p ^ a
  | 0 => by simp
  | a + 1 => by
    have ih := pow_gt hp a
    rw [Nat.pow_succ]
    have : p ^ a * 2 ≤ p ^ a * p := Nat.mul_le_mul_left _ hp
    omega
theorem strip_spec {p : Nat} (hp : 2 ≤ p) {a m : Nat} (hm : m % p ≠ 0) : strip p (p ^ a * m) = (a, m) := by
  have h0 : 0 < m := by
    rcases Nat.eq_zero_or_pos m with e | e
    · rw [e] at hm; simp at hm
    · exact e
  refine stripF_spec hp a _ m hm ?_
  have h1 := pow_gt hp a
  have h2 : p ^ a * 1 ≤ p ^ a * m := Nat.mul_le_mul_left _ h0
  omega
/-- every number has its form -/
theorem strip_form {p : Nat} (hp : 2 ≤ p) : ∀ (n : Nat), 0 < n → ∃ a m, n = p ^ a * m ∧ m % p ≠ 0 := by
  intro n
  induction n using Nat.strongRecOn with
  | ind n ih =>
    intro hn
    by_cases h : n % p = 0
    · have hlt : n / p < n := Nat.div_lt_self hn hp
      have hpos : 0 < n / p := Nat.div_pos (Nat.le_of_dvd hn (Nat.dvd_of_mod_eq_zero h)) (by omega)
      obtain ⟨a, m, e, hm⟩ := ih (n / p) hlt hpos
      refine ⟨a + 1, m, ?_, hm⟩
      have e1 : p * (n / p) = n := Nat.mul_div_cancel' (Nat.dvd_of_mod_eq_zero h)
      rw [Nat.pow_succ, Nat.mul_comm (p ^ a) p, Nat.mul_assoc, ← e, e1]
    · exact ⟨0, n, by simp, h⟩
theorem strip_eq {p : Nat} (hp : 2 ≤ p) {n : Nat} (hn : 0 < n) : n = p ^ (strip p n).1 * (strip p n).2 ∧ (strip p n).2 % p ≠ 0 := by
  obtain ⟨a, m, e, hm⟩ := strip_form hp n hn
  have h := strip_spec hp (a := a) hm
  rw [← e] at h
  rw [h]
  exact ⟨e, hm⟩

def partL : List Nat → Nat → List Nat × Nat
  | [], n => ([], n)
  | p :: ps, n => ((strip p n).1 :: (partL ps (strip p n).2).1, (partL ps (strip p n).2).2)
def makeL : List Nat → List Nat → Nat
  | p :: ps, a :: as => p ^ a * makeL ps as
  | _, _ => 1

theorem partL_len : ∀ (ps : List Nat) (n : Nat), (partL ps n).1.length = ps.length
  | [], _ => rfl
  | p :: ps, n => by
    show (partL ps _).1.length + 1 = ps.length + 1
    rw [partL_len ps]

/-- pairwise coprime, each at least 2 -/
def Cop : List Nat → Prop
  | [] => True
  | p :: ps => 2 ≤ p ∧ (∀ q ∈ ps, Nat.Coprime p q) ∧ Cop ps
theorem cop_make {p : Nat} : ∀ (ps as : List Nat), (∀ q ∈ ps, Nat.Coprime p q) → Nat.Coprime p (makeL ps as)
  | [], [], _ => by simp [makeL]
  | [], _ :: _, _ => by simp [makeL]
  | _ :: _, [], _ => by simp [makeL]
  | q :: ps, a :: as, h => by
    show Nat.Coprime p (q ^ a * makeL ps as)
    have h1 : Nat.Coprime p (q ^ a) := Nat.Coprime.pow_right a (h q List.mem_cons_self)
    have h2 := cop_make ps as fun r hr => h r (List.mem_cons_of_mem _ hr)
    exact Nat.Coprime.mul_right h1 h2
theorem cop_mod {p m : Nat} (hp : 2 ≤ p) (h : Nat.Coprime p m) : m % p ≠ 0 := by
  intro e
  have d : p ∣ m := Nat.dvd_of_mod_eq_zero e
  have g : Nat.gcd p m = p := Nat.gcd_eq_left d
  rw [Nat.Coprime] at h
  omega
theorem make_pos : ∀ (ps as : List Nat), (∀ q ∈ ps, 2 ≤ q) → 0 < makeL ps as
  | [], [], _ => by simp [makeL]
  | [], _ :: _, _ => by simp [makeL]
  | _ :: _, [], _ => by simp [makeL]
  | q :: ps, a :: as, h => by
    show 0 < q ^ a * makeL ps as
    have h1 : 0 < q := by have := h q List.mem_cons_self; omega
    exact Nat.mul_pos (Nat.pow_pos h1) (make_pos ps as fun r hr => h r (List.mem_cons_of_mem _ hr))
theorem Cop.two : ∀ {ps : List Nat}, Cop ps → ∀ q ∈ ps, 2 ≤ q
  | p :: ps, ⟨h1, _, h3⟩, q, hq => by
    rcases List.mem_cons.mp hq with e | e
    · rw [e]; exact h1
    · exact Cop.two h3 q e
/-- the rooms of a made number -/
theorem part_make : ∀ (ps as : List Nat) (r : Nat), Cop ps → as.length = ps.length → (∀ q ∈ ps, Nat.Coprime q r) → partL ps (makeL ps as * r) = (as, r)
  | [], [], r, _, _, _ => by simp [partL, makeL]
  | [], _ :: _, _, _, h, _ => by simp at h
  | _ :: _, [], _, _, h, _ => by simp at h
  | p :: ps, a :: as, r, ⟨h1, h2, h3⟩, hl, hr => by
    have hm : (makeL ps as * r) % p ≠ 0 := cop_mod h1 (Nat.Coprime.mul_right (cop_make ps as h2) (hr p List.mem_cons_self))
    have e : strip p (makeL (p :: ps) (a :: as) * r) = (a, makeL ps as * r) := by
      show strip p (p ^ a * makeL ps as * r) = _
      rw [Nat.mul_assoc]
      exact strip_spec h1 hm
    have ih := part_make ps as r h3 (by simpa using hl) fun q hq => hr q (List.mem_cons_of_mem _ hq)
    unfold partL
    rw [e, ih]
/-- a number is what its rooms make, times what is left -/
theorem make_part : ∀ (ps : List Nat) (n : Nat), Cop ps → 0 < n → n = makeL ps (partL ps n).1 * (partL ps n).2 ∧ 0 < (partL ps n).2
  | [], n, _, h => by simp [partL, makeL, h]
  | p :: ps, n, ⟨h1, h2, h3⟩, h => by
    obtain ⟨e, hm⟩ := strip_eq h1 h
    have hpos : 0 < (strip p n).2 := by
      rcases Nat.eq_zero_or_pos (strip p n).2 with z | z
      · rw [z] at hm; simp at hm
      · exact z
    obtain ⟨e2, h4⟩ := make_part ps (strip p n).2 h3 hpos
    refine ⟨?_, h4⟩
    show n = p ^ (strip p n).1 * makeL ps (partL ps (strip p n).2).1 * (partL ps (strip p n).2).2
    rw [Nat.mul_assoc, ← e2]
    exact e

theorem cop_primes : Cop primes := ⟨by decide, by decide, by decide, by decide, by decide, by decide, by decide, by decide, by decide, by decide, by decide, by decide, by decide, by decide, by decide, by decide, by decide, by decide, by decide, by decide, by decide, by decide, by decide, by decide, trivial⟩
@[irreducible] def rooms (n : Nat) : List Nat := (partL primes n).1
@[irreducible] def left (n : Nat) : Nat := (partL primes n).2
@[irreducible] def make (as : List Nat) : Nat := makeL primes as
theorem rooms_def (n : Nat) : rooms n = (partL primes n).1 := by unfold rooms; rfl
theorem left_def (n : Nat) : left n = (partL primes n).2 := by unfold left; rfl
theorem make_def (as : List Nat) : make as = makeL primes as := by unfold make; rfl
theorem rooms_len (n : Nat) : (rooms n).length = 12 := by rw [rooms_def]; exact partL_len primes n
theorem make_pos' (as : List Nat) : 0 < make as := by rw [make_def]; exact make_pos primes as cop_primes.two
theorem rooms_make {as : List Nat} (h : as.length = 12) : rooms (make as) = as := by
  have e := part_make primes as 1 cop_primes h fun q _ => Nat.coprime_one_right q
  rw [Nat.mul_one] at e
  rw [rooms_def, make_def, e]
theorem left_make {as : List Nat} (h : as.length = 12) : left (make as) = 1 := by
  have e := part_make primes as 1 cop_primes h fun q _ => Nat.coprime_one_right q
  rw [Nat.mul_one] at e
  rw [left_def, make_def, e]
theorem make_rooms {n : Nat} (h : 0 < n) : n = make (rooms n) * left n ∧ 0 < left n := by rw [make_def, left_def, rooms_def]; exact make_part primes n cop_primes h
/-- a number of the twelve primes alone -/
theorem make_rooms1 {n : Nat} (h : 0 < n) (hl : left n = 1) : make (rooms n) = n := by
  have e := (make_rooms h).1
  rw [hl, Nat.mul_one] at e
  exact e.symm
theorem left_one {n : Nat} (h : 0 < n) : left n = 1 ↔ make (rooms n) = n := by
  refine ⟨make_rooms1 h, fun e => ?_⟩
  have e2 := (make_rooms h).1
  rw [e] at e2
  have : n * left n = n * 1 := by omega
  exact Nat.eq_of_mul_eq_mul_left h this
/-- whether it is a number -/
@[irreducible] def isNum (n : Nat) : Bool := decide (1 ≤ n) && (decide (left n = 1) && (rooms n).all fun a => decide (a ≤ 400))
theorem isNum_make {as : List Nat} (h : as.length = 12) (hb : ∀ a ∈ as, a ≤ 400) : isNum (make as) = true := by
  unfold isNum
  rw [left_make h, rooms_make h]
  have h1 : 1 ≤ make as := make_pos' as
  simp only [h1, decide_true, Bool.true_and, List.all_eq_true, decide_eq_true_eq]
  exact hb
theorem isNum_iff {n : Nat} : isNum n = true ↔ 0 < n ∧ left n = 1 ∧ ∀ a ∈ rooms n, a ≤ 400 := by
  unfold isNum
  simp only [Bool.and_eq_true, decide_eq_true_eq, List.all_eq_true]
  exact Iff.rfl
end Fr
namespace Fr
theorem strip_no {p x : Nat} (h : x % p ≠ 0) (hp : 2 ≤ p) : strip p x = (0, x) := by
  have e := strip_spec hp (a := 0) h
  simpa using e
theorem strip_yes {p x : Nat} (h : x % p = 0) (hp : 2 ≤ p) (hx : 0 < x) : strip p x = ((strip p (x / p)).1 + 1, (strip p (x / p)).2) ∧ 0 < x / p ∧ x / p < x := by
  have d : p ∣ x := Nat.dvd_of_mod_eq_zero h
  have hpos : 0 < x / p := Nat.div_pos (Nat.le_of_dvd hx d) (by omega)
  refine ⟨?_, hpos, Nat.div_lt_self hx hp⟩
  obtain ⟨a, m, e, hm⟩ := strip_form hp (x / p) hpos
  have e1 : x = p ^ (a + 1) * m := by
    have e2 : p * (x / p) = x := Nat.mul_div_cancel' d
    rw [Nat.pow_succ, Nat.mul_comm (p ^ a) p, Nat.mul_assoc, ← e, e2]
  have s1 := strip_spec hp (a := a + 1) hm
  have s2 := strip_spec hp (a := a) hm
  rw [← e1] at s1
  rw [← e] at s2
  rw [s1, s2]
theorem partL_snoc (p : Nat) : ∀ (ps : List Nat) (n : Nat), partL (ps ++ [p]) n = ((partL ps n).1 ++ [(strip p (partL ps n).2).1], (strip p (partL ps n).2).2)
  | [], n => rfl
  | q :: ps, n => by
    show ((strip q n).1 :: (partL (ps ++ [p]) (strip q n).2).1, (partL (ps ++ [p]) (strip q n).2).2) = _
    rw [partL_snoc p ps]
    rfl
theorem partL_pos (ps : List Nat) (h2 : ∀ p ∈ ps, 2 ≤ p) : ∀ n : Nat, 0 < n → 0 < (partL ps n).2 := by
  induction ps with
  | nil => intro n h; exact h
  | cons p ps ih =>
    intro n h
    have e := (strip_eq (h2 p List.mem_cons_self) h).2
    have : 0 < (strip p n).2 := by
      rcases Nat.eq_zero_or_pos (strip p n).2 with z | z
      · rw [z] at e; simp at e
      · exact z
    exact ih (fun q hq => h2 q (List.mem_cons_of_mem _ hq)) _ this
theorem primes_two : ∀ p ∈ primes, 2 ≤ p := cop_primes.two
theorem primes_small : ∀ p ∈ primes, p < 64 := by decide
theorem take_at {α : Type} {l : List α} {i : Nat} {x : α} (h : l[i]? = some x) : l.take (i + 1) = l.take i ++ [x] := by
  rw [List.take_add_one, h]
  rfl
end Fr
namespace Fr
/-! ### sizes -/
theorem log2_lt' {n k : Nat} (hk : 0 < k) (h : n < 2 ^ k) : n.log2 < k := by
  rcases Nat.eq_zero_or_pos n with z | z
  · rw [z]
    simpa using hk
  · exact (Nat.log2_lt (by omega)).mpr h
theorem makeL_lt : ∀ (ps as : List Nat), (∀ p ∈ ps, p < 64) → makeL ps as ≤ 2 ^ (6 * as.sum)
  | [], [], _ => by simp [makeL]
  | [], a :: as, _ => by
    simp only [makeL]
    exact Nat.one_le_two_pow
  | _ :: _, [], _ => by simp [makeL]
  | p :: ps, a :: as, h => by
    have ih := makeL_lt ps as fun q hq => h q (List.mem_cons_of_mem _ hq)
    have hp : p ≤ 2 ^ 6 := by have := h p List.mem_cons_self; omega
    have h1 : p ^ a ≤ 2 ^ (6 * a) := by
      rw [Nat.pow_mul]
      exact Nat.pow_le_pow_left hp a
    show p ^ a * makeL ps as ≤ 2 ^ (6 * (a :: as).sum)
    rw [List.sum_cons, Nat.mul_add, Nat.pow_add]
    exact Nat.mul_le_mul h1 ih
theorem make_le (as : List Nat) : make as ≤ 2 ^ (6 * as.sum) := by
  rw [make_def]
  exact makeL_lt primes as primes_small
theorem sum_le {b : Nat} : ∀ {as : List Nat}, (∀ a ∈ as, a ≤ b) → as.sum ≤ b * as.length
  | [], _ => by simp
  | a :: as, h => by
    have ih := sum_le (as := as) fun x hx => h x (List.mem_cons_of_mem _ hx)
    have := h a List.mem_cons_self
    rw [List.sum_cons, List.length_cons, Nat.mul_add]
    omega
theorem isNum_lt {n : Nat} (h : isNum n = true) : n < 2 ^ 28801 := by
  obtain ⟨h0, h1, h2⟩ := isNum_iff.mp h
  have e := make_rooms1 h0 h1
  have h3 := sum_le h2
  rw [rooms_len] at h3
  have h4 := make_le (rooms n)
  rw [e] at h4
  have h5 : 2 ^ (6 * (rooms n).sum) ≤ 2 ^ 28800 := Nat.pow_le_pow_right (by decide) (by omega)
  have h6 : 2 ^ 28800 < 2 ^ 28801 := Nat.pow_lt_pow_right (by decide) (by decide)
  omega
/-! ### one more in a room -/
/-- makeL by places -/
theorem makeL_set : ∀ (ps as : List Nat) (i p a : Nat), ps[i]? = some p → as[i]? = some a → makeL ps (as.set i (a + 1)) = makeL ps as * p
  | [], _, i, _, _, h, _ => by simp at h
  | _ :: _, [], i, _, _, _, h => by simp at h
  | q :: ps, b :: as, 0, p, a, h, h' => by
    have e1 : q = p := Option.some.inj h
    have e2 : b = a := Option.some.inj h'
    subst e1 e2
    show q ^ (b + 1) * makeL ps as = q ^ b * makeL ps as * q
    rw [Nat.pow_succ, Nat.mul_assoc, Nat.mul_comm q, ← Nat.mul_assoc]
  | q :: ps, b :: as, i + 1, p, a, h, h' => by
    show q ^ b * makeL ps (as.set i (a + 1)) = q ^ b * makeL ps as * p
    rw [makeL_set ps as i p a h h', Nat.mul_assoc]
theorem make_set {as : List Nat} {i p a : Nat} (hp : primes[i]? = some p) (ha : as[i]? = some a) : make (as.set i (a + 1)) = make as * p := by
  rw [make_def, make_def]
  exact makeL_set primes as i p a hp ha
theorem makeL_zero : ∀ (ps : List Nat) (n : Nat), makeL ps (List.replicate n 0) = 1
  | [], 0 => rfl
  | [], n + 1 => rfl
  | _ :: _, 0 => rfl
  | p :: ps, n + 1 => by
    show p ^ 0 * makeL ps (List.replicate n 0) = 1
    rw [makeL_zero ps n]
    simp
theorem make_zero : make (List.replicate 12 0) = 1 := by
  rw [make_def]
  exact makeL_zero primes 12
theorem sum_set1 : ∀ {as : List Nat} {i a : Nat}, as[i]? = some a → (as.set i (a + 1)).sum = as.sum + 1
  | [], i, a, h => by simp at h
  | b :: as, 0, a, h => by
    have e : b = a := Option.some.inj h
    subst e
    show (b + 1) + as.sum = b + as.sum + 1
    omega
  | b :: as, i + 1, a, h => by
    have ih := sum_set1 (as := as) (i := i) (a := a) h
    show b + (as.set i (a + 1)).sum = b + as.sum + 1
    omega
/-- the prime at i divides what is made just if it has something in room i -/
theorem make_mod {as : List Nat} {i p a : Nat} (hl : as.length = 12) (hp : primes[i]? = some p) (ha : as[i]? = some a) : make as % p = 0 ↔ 0 < a := by
  have hi : i < as.length := (List.getElem?_eq_some_iff.mp ha).1
  constructor
  · intro h
    rcases Nat.eq_zero_or_pos a with z | z
    · exfalso
      have hp2 : 2 ≤ p := primes_two p (List.mem_of_getElem? hp)
      have hc : Nat.Coprime p (make as) := by
        rw [make_def]
        have key : ∀ (ps bs : List Nat) (j q : Nat), Cop ps → ps[j]? = some q → bs[j]? = some 0 → Nat.Coprime q (makeL ps bs) := by
          intro ps
          induction ps with
          | nil => intro bs j q _ h; simp at h
          | cons r ps ih =>
            intro bs j q hc h h'
            cases bs with
            | nil => simp at h'
            | cons b bs =>
              obtain ⟨c1, c2, c3⟩ := hc
              cases j with
              | zero =>
                have e1 : r = q := Option.some.inj h
                have e2 : b = 0 := Option.some.inj h'
                subst e1 e2
                show Nat.Coprime r (r ^ 0 * makeL ps bs)
                rw [Nat.pow_zero, Nat.one_mul]
                exact cop_make ps bs c2
              | succ j =>
                have hq : q ∈ ps := List.mem_of_getElem? (i := j) h
                show Nat.Coprime q (r ^ b * makeL ps bs)
                exact Nat.Coprime.mul_right (Nat.Coprime.pow_right b (Nat.Coprime.symm (c2 q hq))) (ih bs j q c3 h h')
        exact key primes as i p cop_primes hp (by rw [ha, z])
      exact cop_mod hp2 hc h
    · exact z
  · intro h
    obtain ⟨b, rfl⟩ : ∃ b, a = b + 1 := ⟨a - 1, by omega⟩
    have e : make as = make (as.set i b) * p := by
      have h1 : (as.set i b)[i]? = some b := by rw [List.getElem?_set_self hi]
      have h2 := make_set (as := as.set i b) hp h1
      rw [List.set_set] at h2
      rw [← h2]
      congr 1
      refine (List.ext_getElem? fun k => ?_)
      by_cases hk : k = i
      · subst hk; rw [ha, List.getElem?_set_self hi]
      · rw [List.getElem?_set_ne (Ne.symm hk)]
    rw [e]
    exact Nat.mul_mod_left _ _
theorem make_div {as : List Nat} {i p a : Nat} (hp : primes[i]? = some p) (ha : as[i]? = some (a + 1)) : make as / p = make (as.set i a) := by
  have hi : i < as.length := (List.getElem?_eq_some_iff.mp ha).1
  have hp2 : 2 ≤ p := primes_two p (List.mem_of_getElem? hp)
  have h1 : (as.set i a)[i]? = some a := by rw [List.getElem?_set_self hi]
  have h2 := make_set (as := as.set i a) hp h1
  rw [List.set_set] at h2
  have e : as.set i (a + 1) = as := by
    refine (List.ext_getElem? fun k => ?_)
    by_cases hk : k = i
    · subst hk; rw [ha, List.getElem?_set_self hi]
    · rw [List.getElem?_set_ne (Ne.symm hk)]
  rw [e] at h2
  rw [h2]
  exact Nat.mul_div_cancel _ (by omega)
/-- coprime, if in no room both have something -/
theorem make_cop {as bs : List Nat} (h : ∀ i : Nat, as[i]? = some 0 ∨ bs[i]? = some 0 ∨ 12 ≤ i) : Nat.gcd (make as) (make bs) = 1 := by
  rw [make_def, make_def]
  have key : ∀ (ps as bs : List Nat), Cop ps → (∀ i : Nat, as[i]? = some 0 ∨ bs[i]? = some 0 ∨ ps.length ≤ i) → Nat.Coprime (makeL ps as) (makeL ps bs) := by
    intro ps
    induction ps with
    | nil => intro as bs _ _; cases as <;> simp [makeL]
    | cons p ps ih =>
      intro as bs hc h
      obtain ⟨c1, c2, c3⟩ := hc
      cases as with
      | nil => simp [makeL]
      | cons a as =>
        cases bs with
        | nil => simp [makeL]
        | cons b bs =>
          have ih' := ih as bs c3 fun i => by
            have := h (i + 1)
            simpa using this
          have h0 := h 0
          have ha : Nat.Coprime p (makeL ps as) := cop_make ps as c2
          have hb : Nat.Coprime p (makeL ps bs) := cop_make ps bs c2
          show Nat.Coprime (p ^ a * makeL ps as) (p ^ b * makeL ps bs)
          have g1 : Nat.Coprime (makeL ps as) (p ^ b * makeL ps bs) := Nat.Coprime.mul_right (Nat.Coprime.symm (Nat.Coprime.pow_left b ha)) ih'
          have g2 : Nat.Coprime (p ^ a) (p ^ b * makeL ps bs) := by
            rcases h0 with z | z | z
            · have e : a = 0 := by simpa using z
              subst e
              simp
            · have e : b = 0 := by simpa using z
              subst e
              rw [Nat.pow_zero, Nat.one_mul]
              exact Nat.Coprime.pow_left a hb
            · simp at z
          exact Nat.Coprime.mul_left g2 g1
  exact key primes as bs cop_primes h
end Fr
namespace Fr
/-! ### programs -/
abbrev Prog := List (Nat × Nat)
/-- whether it is a fraction -/
def isFrac (p : Nat × Nat) : Bool := (isNum p.1 && isNum p.2) && (decide (max p.1 p.2 ≤ 1000000) && decide (Nat.gcd p.1 p.2 = 1))
def isProg (l : Prog) : Bool := decide (l.length ≤ 16) && l.all isFrac
/-- the place of the first that fits -/
def firstAt (l : Prog) (n : Nat) : Option Nat := l.findIdx? fun p => decide (n % p.2 = 0)
def upAt (l : Prog) (i : Nat) : Nat := (l.getD i (1, 1)).1
def unAt (l : Prog) (i : Nat) : Nat := (l.getD i (1, 1)).2
/-- the number behind a step -/
def led (l : Prog) (n : Nat) : Option Nat := (firstAt l n).map fun i => n / unAt l i * upAt l i
theorem firstAt_some {l : Prog} {n i : Nat} (hi : i < l.length) (h : n % (l[i]).2 = 0) (hb : ∀ (j : Nat) (hj : j < l.length), j < i → n % (l[j]).2 ≠ 0) : firstAt l n = some i := by
  unfold firstAt
  rw [List.findIdx?_eq_some_iff_getElem]
  refine ⟨hi, by simpa using h, fun j hj => ?_⟩
  have := hb j (by omega) hj
  simpa using this
theorem firstAt_none {l : Prog} {n : Nat} (h : ∀ (j : Nat) (hj : j < l.length), n % (l[j]).2 ≠ 0) : firstAt l n = none := by
  unfold firstAt
  rw [List.findIdx?_eq_none_iff]
  intro p hp
  obtain ⟨j, hj, e⟩ := List.mem_iff_getElem.mp hp
  have := h j hj
  rw [e] at this
  simpa using this
theorem firstAt_is {l : Prog} {n i : Nat} (h : firstAt l n = some i) : ∃ hi : i < l.length, n % (l[i]).2 = 0 ∧ ∀ (j : Nat) (hj : j < l.length), j < i → n % (l[j]).2 ≠ 0 := by
  unfold firstAt at h
  rw [List.findIdx?_eq_some_iff_getElem] at h
  obtain ⟨hi, h1, h2⟩ := h
  refine ⟨hi, by simpa using h1, fun j hj hji => ?_⟩
  have := h2 j hji
  simpa using this
theorem firstAt_lt {l : Prog} {n i : Nat} (h : firstAt l n = some i) : i < l.length := (firstAt_is h).1
theorem unAt_eq {l : Prog} {i : Nat} (h : i < l.length) : unAt l i = (l[i]).2 := by
  unfold unAt
  rw [List.getD_eq_getElem?_getD, List.getElem?_eq_getElem h]
  rfl
theorem upAt_eq {l : Prog} {i : Nat} (h : i < l.length) : upAt l i = (l[i]).1 := by
  unfold upAt
  rw [List.getD_eq_getElem?_getD, List.getElem?_eq_getElem h]
  rfl
theorem isFrac_iff {p : Nat × Nat} : isFrac p = true ↔ isNum p.1 = true ∧ isNum p.2 = true ∧ p.1 ≤ 1000000 ∧ p.2 ≤ 1000000 ∧ Nat.gcd p.1 p.2 = 1 := by
  unfold isFrac
  simp only [Bool.and_eq_true, decide_eq_true_eq]
  constructor
  · rintro ⟨⟨h1, h2⟩, h3, h4⟩
    exact ⟨h1, h2, by omega, by omega, h4⟩
  · rintro ⟨h1, h2, h3, h4, h5⟩
    exact ⟨⟨h1, h2⟩, by omega, h5⟩
theorem isProg_iff {l : Prog} : isProg l = true ↔ l.length ≤ 16 ∧ ∀ p ∈ l, isFrac p = true := by
  unfold isProg
  simp only [Bool.and_eq_true, decide_eq_true_eq, List.all_eq_true]
theorem isNum_pos {n : Nat} (h : isNum n = true) : 0 < n := (isNum_iff.mp h).1
theorem isProg_pos {l : Prog} (h : isProg l = true) : ∀ p ∈ l, 0 < p.2 := fun p hp => isNum_pos (isFrac_iff.mp ((isProg_iff.mp h).2 p hp)).2.1
/-! ### too great -/
theorem two_pow_le_make {as : List Nat} {a : Nat} (hl : as.length = 12) (ha : a ∈ as) : 2 ^ a ≤ make as := by
  rw [make_def]
  have key : ∀ (ps bs : List Nat), (∀ p ∈ ps, 2 ≤ p) → bs.length = ps.length → a ∈ bs → 2 ^ a ≤ makeL ps bs := by
    intro ps
    induction ps with
    | nil =>
      intro bs _ hl h
      cases bs with
      | nil => cases h
      | cons b bs => simp at hl
    | cons p ps ih =>
      intro bs h2 hl h
      cases bs with
      | nil => simp at hl
      | cons b bs =>
        have hp := h2 p List.mem_cons_self
        have hpos : 0 < makeL ps bs := make_pos ps bs fun q hq => h2 q (List.mem_cons_of_mem _ hq)
        show 2 ^ a ≤ p ^ b * makeL ps bs
        rcases List.mem_cons.mp h with e | e
        · subst e
          have h3 : 2 ^ a ≤ p ^ a := Nat.pow_le_pow_left hp a
          have h4 : p ^ a * 1 ≤ p ^ a * makeL ps bs := Nat.mul_le_mul_left _ hpos
          omega
        · have h3 := ih bs (fun q hq => h2 q (List.mem_cons_of_mem _ hq)) (by simpa using hl) e
          have h4 : 0 < p ^ b := Nat.pow_pos (by omega)
          have h5 : 1 * makeL ps bs ≤ p ^ b * makeL ps bs := Nat.mul_le_mul_right _ h4
          omega
  exact key primes as primes_two hl ha
theorem great {n a : Nat} (h : 0 < n) (ha : a ∈ rooms n) (hb : 400 < a) : 0 < n / 10 ^ 60 / 10 ^ 60 := by
  have h1 := two_pow_le_make (rooms_len n) ha
  have h2 := make_rooms h
  have h3 : make (rooms n) * 1 ≤ make (rooms n) * left n := Nat.mul_le_mul_left _ h2.2
  have h4 : (2 : Nat) ^ 401 ≤ 2 ^ a := Nat.pow_le_pow_right (by decide) hb
  have h5 : (10 : Nat) ^ 60 * 10 ^ 60 ≤ 2 ^ 401 := by decide +kernel
  have h6 : 10 ^ 60 * 10 ^ 60 ≤ n := by omega
  rw [Nat.div_div_eq_div_mul]
  exact Nat.div_pos h6 (by decide +kernel)
/-! ### idle ones -/
def isIdle (l : Prog) (i : Nat) : Bool := !decide (firstAt l (unAt l i) = some i)
def idleOf (l : Prog) : List Nat := (List.range l.length).filter (isIdle l)
def leanOf (l : Prog) : Prog := l.zipIdx.filterMap fun p => if p.2 ∈ idleOf l then none else some p.1
end Fr
namespace Fr
/-! ### what the law draws -/
/-- a product of at most b of the first k primes -/
def SomeN (k b n : Nat) : Prop := ∃ as : List Nat, as.length = 12 ∧ n = make as ∧ as.sum ≤ b ∧ ∀ j, k ≤ j → j < 12 → as[j]? = some 0
def FracN (k : Nat) (p : Nat × Nat) : Prop := SomeN k 2 p.1 ∧ SomeN k 3 p.2 ∧ Nat.gcd p.1 p.2 = 1
theorem sum_dec : ∀ {as : List Nat} {i a : Nat}, as[i]? = some (a + 1) → (as.set i a).sum + 1 = as.sum
  | [], i, a, h => by simp at h
  | b :: as, 0, a, h => by
    have e : b = a + 1 := Option.some.inj h
    subst e
    show a + as.sum + 1 = a + 1 + as.sum
    omega
  | b :: as, i + 1, a, h => by
    have ih := sum_dec (as := as) (i := i) (a := a) h
    show b + (as.set i a).sum + 1 = b + as.sum
    omega
theorem mem_le_sum : ∀ {as : List Nat} {a : Nat}, a ∈ as → a ≤ as.sum
  | b :: as, a, h => by
    rw [List.sum_cons]
    rcases List.mem_cons.mp h with e | e
    · omega
    · have := mem_le_sum e
      omega
theorem SomeN.num {k b n : Nat} (h : SomeN k b n) (hb : b ≤ 400) : isNum n = true := by
  obtain ⟨as, h1, rfl, h2, _⟩ := h
  exact isNum_make h1 fun a ha => by
    have := mem_le_sum ha
    omega
theorem SomeN.le {k b n : Nat} (h : SomeN k b n) : n ≤ 2 ^ (6 * b) := by
  obtain ⟨as, _, rfl, h2, _⟩ := h
  exact Nat.le_trans (make_le as) (Nat.pow_le_pow_right (by decide) (by omega))
theorem FracN.frac {k : Nat} {p : Nat × Nat} (h : FracN k p) : isFrac p = true := by
  obtain ⟨h1, h2, h3⟩ := h
  have l1 := h1.le
  have l2 := h2.le
  refine isFrac_iff.mpr ⟨h1.num (by decide), h2.num (by decide), ?_, ?_, h3⟩
  · exact Nat.le_trans l1 (by decide)
  · exact Nat.le_trans l2 (by decide)
theorem fracs_prog {k : Nat} {l : Prog} (h : ∀ p ∈ l, FracN k p) (hl : l.length ≤ 16) : isProg l = true := isProg_iff.mpr ⟨hl, fun p hp => (h p hp).frac⟩
/-- the law's own step -/
def lawStep (l : Prog) (n : Nat) : Option (Nat × Nat) := (l.findIdx? fun p => decide (n * p.1 % p.2 = 0)).map fun i => (i, n * upAt l i / unAt l i)
theorem cop_fit {n t u : Nat} (h : Nat.gcd t u = 1) : n * t % u = 0 ↔ n % u = 0 := by
  constructor
  · intro e
    have d : u ∣ n * t := Nat.dvd_of_mod_eq_zero e
    exact Nat.mod_eq_zero_of_dvd (Nat.Coprime.dvd_of_dvd_mul_right (Nat.Coprime.symm h) d)
  · intro e
    exact Nat.mod_eq_zero_of_dvd (Nat.dvd_mul_right_of_dvd (Nat.dvd_of_mod_eq_zero e) t)
theorem fit_div {n t u : Nat} (h : n % u = 0) : n * t / u = n / u * t := by
  obtain ⟨c, rfl⟩ := Nat.dvd_of_mod_eq_zero h
  rcases Nat.eq_zero_or_pos u with z | z
  · subst z
    simp
  · rw [Nat.mul_div_cancel_left _ z, Nat.mul_assoc, Nat.mul_div_cancel_left _ z]
theorem lawStep_eq {l : Prog} (hP : isProg l = true) (n : Nat) : lawStep l n = (firstAt l n).map fun i => (i, n / unAt l i * upAt l i) := by
  have hc : ∀ p ∈ l, Nat.gcd p.1 p.2 = 1 := fun p hp => (isFrac_iff.mp ((isProg_iff.mp hP).2 p hp)).2.2.2.2
  have e1 : (l.findIdx? fun p => decide (n * p.1 % p.2 = 0)) = firstAt l n := by
    unfold firstAt
    have key : ∀ m : Prog, (∀ p ∈ m, Nat.gcd p.1 p.2 = 1) → (m.findIdx? fun p => decide (n * p.1 % p.2 = 0)) = m.findIdx? fun p => decide (n % p.2 = 0) := by
      intro m
      induction m with
      | nil => intro _; rfl
      | cons p m ih =>
        intro h
        rw [List.findIdx?_cons, List.findIdx?_cons, ih fun q hq => h q (List.mem_cons_of_mem _ hq)]
        have e : decide (n * p.1 % p.2 = 0) = decide (n % p.2 = 0) := by
          rw [Bool.eq_iff_iff, decide_eq_true_eq, decide_eq_true_eq]
          exact cop_fit (h p List.mem_cons_self)
        rw [e]
    exact key l hc
  unfold lawStep
  rw [e1]
  cases h : firstAt l n with
  | none => rfl
  | some i =>
    obtain ⟨hi, h0, _⟩ := firstAt_is h
    rw [Option.map_some, Option.map_some, unAt_eq hi, fit_div h0]
end Fr
namespace Fr
/-! ### idle ones, and the lean program -/
/-- an earlier one's under divides this one's -/
def dueAt (l : Prog) (i : Nat) : Bool := (l.take i).any fun p => decide (unAt l i % p.2 = 0)
theorem dueAt_iff {l : Prog} {i : Nat} (hi : i ≤ l.length) : dueAt l i = true ↔ ∃ (j : Nat) (hj : j < l.length), j < i ∧ unAt l i % (l[j]).2 = 0 := by
  unfold dueAt
  simp only [List.any_eq_true, decide_eq_true_eq]
  constructor
  · rintro ⟨p, hp, h⟩
    obtain ⟨j, hj, e⟩ := List.mem_iff_getElem.mp hp
    rw [List.length_take] at hj
    rw [List.getElem_take] at e
    exact ⟨j, by omega, by omega, by rw [e]; exact h⟩
  · rintro ⟨j, hj, hji, h⟩
    refine ⟨l[j], ?_, h⟩
    rw [List.mem_iff_getElem]
    exact ⟨j, by rw [List.length_take]; omega, by rw [List.getElem_take]⟩
theorem firstAt_self {l : Prog} {i : Nat} (hi : i < l.length) : ∃ j, firstAt l (unAt l i) = some j ∧ j ≤ i := by
  cases h : firstAt l (unAt l i) with
  | none =>
    unfold firstAt at h
    rw [List.findIdx?_eq_none_iff] at h
    have := h _ (List.getElem_mem hi)
    rw [unAt_eq hi] at this
    simp at this
  | some j =>
    refine ⟨j, rfl, ?_⟩
    obtain ⟨hj, _, hb⟩ := firstAt_is h
    rcases Nat.lt_or_ge i j with z | z
    · have := hb i hi z
      rw [unAt_eq hi] at this
      simp at this
    · exact z
theorem isIdle_due {l : Prog} {i : Nat} (hi : i < l.length) : isIdle l i = dueAt l i := by
  obtain ⟨j, hj, hji⟩ := firstAt_self hi
  obtain ⟨hjl, h0, hb⟩ := firstAt_is hj
  rw [Bool.eq_iff_iff, dueAt_iff (Nat.le_of_lt hi)]
  unfold isIdle
  rw [hj]
  simp only [Option.some.injEq, Bool.not_eq_true', decide_eq_false_iff_not]
  constructor
  · intro h
    exact ⟨j, hjl, by omega, h0⟩
  · rintro ⟨k, hk, hki, h⟩ e
    subst e
    exact hb k hk hki h
theorem idle_mem {l : Prog} {i : Nat} : i ∈ idleOf l ↔ i < l.length ∧ dueAt l i = true := by
  unfold idleOf
  rw [List.mem_filter, List.mem_range]
  constructor
  · rintro ⟨h1, h2⟩
    exact ⟨h1, by rw [← isIdle_due h1]; exact h2⟩
  · rintro ⟨h1, h2⟩
    exact ⟨h1, by rw [isIdle_due h1]; exact h2⟩
theorem idle_due (l : Prog) : idleOf l = (List.range l.length).filter (dueAt l) := by
  unfold idleOf
  refine List.filter_congr fun i hi => isIdle_due (List.mem_range.mp hi)
theorem lean_sub (l : Prog) : ∀ p ∈ leanOf l, p ∈ l := by
  intro p hp
  unfold leanOf at hp
  obtain ⟨⟨q, i⟩, hq, e⟩ := List.mem_filterMap.mp hp
  split at e
  · cases e
  · cases e
    exact (List.mem_zipIdx' hq).2 ▸ List.getElem_mem _
theorem lean_len (l : Prog) : (leanOf l).length ≤ l.length := by
  unfold leanOf
  have h := List.length_filterMap_le (fun p : (Nat × Nat) × Nat => if p.2 ∈ idleOf l then none else some p.1) l.zipIdx
  rw [List.length_zipIdx] at h
  exact h
theorem lean_prog {l : Prog} (h : isProg l = true) : isProg (leanOf l) = true := by
  obtain ⟨h1, h2⟩ := isProg_iff.mp h
  exact isProg_iff.mpr ⟨Nat.le_trans (lean_len l) h1, fun p hp => h2 p (lean_sub l p hp)⟩
/-- led by the fraction itself -/
theorem led_find (l : Prog) (n : Nat) : led l n = (l.find? fun p => decide (n % p.2 = 0)).map fun p => n / p.2 * p.1 := by
  unfold led
  cases h : firstAt l n with
  | none =>
    have : l.find? (fun p => decide (n % p.2 = 0)) = none := by
      unfold firstAt at h
      rw [List.findIdx?_eq_none_iff] at h
      rw [List.find?_eq_none]
      intro p hp
      have := h p hp
      simpa using this
    rw [this]
    rfl
  | some i =>
    obtain ⟨hi, h0, hb⟩ := firstAt_is h
    have : l.find? (fun p => decide (n % p.2 = 0)) = some l[i] := by
      rw [List.find?_eq_some_iff_getElem]
      refine ⟨by simpa using h0, i, hi, rfl, fun j hj => ?_⟩
      have := hb j (by omega) hj
      simpa using this
    rw [this, Option.map_some, Option.map_some, unAt_eq hi, upAt_eq hi]
/-- what is first to fit is kept, and stays the first -/
theorem lean_find (l : Prog) (n : Nat) : (leanOf l).find? (fun p => decide (n % p.2 = 0)) = l.find? fun p => decide (n % p.2 = 0) := by
  cases h : l.find? (fun p => decide (n % p.2 = 0)) with
  | none =>
    rw [List.find?_eq_none] at h ⊢
    exact fun p hp => h p (lean_sub l p hp)
  | some q =>
    rw [List.find?_eq_some_iff_append] at h
    obtain ⟨hq, l1, l2, e, hb⟩ := h
    have hq : n % q.2 = 0 := by simpa using hq
    have hlen : l1.length < l.length := by rw [e]; simp
    have hget : l[l1.length]'hlen = q := by
      simp only [e]
      rw [List.getElem_append_right (Nat.le_refl _)]
      simp
    have hni : l1.length ∉ idleOf l := by
      intro hm
      obtain ⟨_, hd⟩ := idle_mem.mp hm
      obtain ⟨j, hj, hji, h0⟩ := (dueAt_iff (Nat.le_of_lt hlen)).mp hd
      rw [unAt_eq hlen, hget] at h0
      have hjm : l[j] ∈ l1 := by
        simp only [e]
        rw [List.getElem_append_left hji]
        exact List.getElem_mem _
      have := hb _ hjm
      have h1 : l[j].2 ∣ q.2 := Nat.dvd_of_mod_eq_zero h0
      have h2 : q.2 ∣ n := Nat.dvd_of_mod_eq_zero hq
      have h3 : n % l[j].2 = 0 := Nat.mod_eq_zero_of_dvd (Nat.dvd_trans h1 h2)
      simp [h3] at this
    have e2 : leanOf l = (l1.zipIdx.filterMap fun p => if p.2 ∈ idleOf l then none else some p.1) ++ q :: ((l2.zipIdx (l1.length + 1)).filterMap fun p => if p.2 ∈ idleOf l then none else some p.1) := by
      unfold leanOf
      have e3 : l.zipIdx = l1.zipIdx ++ (q, l1.length) :: l2.zipIdx (l1.length + 1) := by
        have : (l1 ++ q :: l2).zipIdx = l1.zipIdx ++ (q, l1.length) :: l2.zipIdx (l1.length + 1) := by
          rw [List.zipIdx_append, List.zipIdx_cons]
          simp
        rw [← e] at this
        exact this
      rw [e3, List.filterMap_append, List.filterMap_cons]
      rw [if_neg hni]
    rw [List.find?_eq_some_iff_append]
    refine ⟨by simpa using hq, _, _, e2, ?_⟩
    intro p hp
    obtain ⟨⟨r, i⟩, hr, e4⟩ := List.mem_filterMap.mp hp
    split at e4
    · cases e4
    · cases e4
      have hrm : r ∈ l1 := (List.mem_zipIdx' hr).2 ▸ List.getElem_mem _
      exact hb r hrm
theorem lean_led (l : Prog) (n : Nat) : led (leanOf l) n = led l n := by
  rw [led_find, led_find, lean_find]
theorem lawStep_led {l : Prog} (hP : isProg l = true) (n : Nat) : (lawStep l n).map Prod.snd = led l n := by
  rw [lawStep_eq hP, Option.map_map]
  rfl
/-- the lean program has none idle -/
theorem lean_idle (l : Prog) : idleOf (leanOf l) = [] := by
  rw [idle_due, List.filter_eq_nil_iff]
  intro i hi
  rw [List.mem_range] at hi
  rw [Bool.not_eq_true]
  cases h : dueAt (leanOf l) i with
  | false => rfl
  | true =>
    exfalso
    obtain ⟨j, hj, hji, h0⟩ := (dueAt_iff (Nat.le_of_lt hi)).mp h
    rw [unAt_eq hi] at h0
    -- both stand in l, in their order
    have key : ∀ (m : Prog) (s : Nat) (i j : Nat) (hi : i < ((m.zipIdx s).filterMap fun p => if p.2 ∈ idleOf l then none else some p.1).length) (hji : j < i), ∃ (a b : Nat) (ha : a < m.length) (hb : b < m.length), b < a ∧ s + a ∉ idleOf l ∧ ((m.zipIdx s).filterMap fun p => if p.2 ∈ idleOf l then none else some p.1)[i] = m[a] ∧ ((m.zipIdx s).filterMap fun p => if p.2 ∈ idleOf l then none else some p.1)[j]'(by omega) = m[b] := by
      intro m
      induction m with
      | nil => intro s i j hi; simp at hi
      | cons p m ih =>
        intro s i j hi hji
        by_cases hp : s ∈ idleOf l
        · have e : (((p :: m).zipIdx s).filterMap fun p => if p.2 ∈ idleOf l then none else some p.1) = ((m.zipIdx (s + 1)).filterMap fun p => if p.2 ∈ idleOf l then none else some p.1) := by
            rw [List.zipIdx_cons, List.filterMap_cons, if_pos hp]
          obtain ⟨a, b, ha, hb, h1, h2, h3, h4⟩ := ih (s + 1) i j (by rw [← e]; exact hi) hji
          refine ⟨a + 1, b + 1, by simpa using ha, by simpa using hb, by omega, by rw [show s + (a + 1) = s + 1 + a by omega]; exact h2, ?_, ?_⟩
          · simp only [e]; rw [h3]; rfl
          · simp only [e]; rw [h4]; rfl
        · have e : (((p :: m).zipIdx s).filterMap fun p => if p.2 ∈ idleOf l then none else some p.1) = p :: ((m.zipIdx (s + 1)).filterMap fun p => if p.2 ∈ idleOf l then none else some p.1) := by
            rw [List.zipIdx_cons, List.filterMap_cons, if_neg hp]
          obtain ⟨i', rfl⟩ : ∃ i', i = i' + 1 := ⟨i - 1, by omega⟩
          have hi' : i' < ((m.zipIdx (s + 1)).filterMap fun p => if p.2 ∈ idleOf l then none else some p.1).length := by
            rw [e] at hi
            simpa using hi
          cases j with
          | zero =>
            have one : ∀ (m : Prog) (s i : Nat) (hi : i < ((m.zipIdx s).filterMap fun p => if p.2 ∈ idleOf l then none else some p.1).length), ∃ (a : Nat) (ha : a < m.length), s + a ∉ idleOf l ∧ ((m.zipIdx s).filterMap fun p => if p.2 ∈ idleOf l then none else some p.1)[i] = m[a] := by
              intro m
              induction m with
              | nil => intro s i hi; simp at hi
              | cons q m ih2 =>
                intro s i hi
                by_cases hq : s ∈ idleOf l
                · have e : (((q :: m).zipIdx s).filterMap fun p => if p.2 ∈ idleOf l then none else some p.1) = ((m.zipIdx (s + 1)).filterMap fun p => if p.2 ∈ idleOf l then none else some p.1) := by
                    rw [List.zipIdx_cons, List.filterMap_cons, if_pos hq]
                  obtain ⟨a, ha, h1, h2⟩ := ih2 (s + 1) i (by rw [← e]; exact hi)
                  refine ⟨a + 1, by simpa using ha, by rw [show s + (a + 1) = s + 1 + a by omega]; exact h1, ?_⟩
                  simp only [e]; rw [h2]; rfl
                · have e : (((q :: m).zipIdx s).filterMap fun p => if p.2 ∈ idleOf l then none else some p.1) = q :: ((m.zipIdx (s + 1)).filterMap fun p => if p.2 ∈ idleOf l then none else some p.1) := by
                    rw [List.zipIdx_cons, List.filterMap_cons, if_neg hq]
                  cases i with
                  | zero => exact ⟨0, by simp, by simpa using hq, by simp only [e]; rfl⟩
                  | succ i =>
                    obtain ⟨a, ha, h1, h2⟩ := ih2 (s + 1) i (by rw [e] at hi; simpa using hi)
                    refine ⟨a + 1, by simpa using ha, by rw [show s + (a + 1) = s + 1 + a by omega]; exact h1, ?_⟩
                    simp only [e]
                    rw [List.getElem_cons_succ, h2]; rfl
            obtain ⟨a, ha, h1, h2⟩ := one m (s + 1) i' hi'
            refine ⟨a + 1, 0, by simpa using ha, by simp, by omega, by rw [show s + (a + 1) = s + 1 + a by omega]; exact h1, ?_, ?_⟩
            · simp only [e]; rw [List.getElem_cons_succ, h2]; rfl
            · simp only [e]; rfl
          | succ j' =>
            obtain ⟨a, b, ha, hb, h1, h2, h3, h4⟩ := ih (s + 1) i' j' hi' (by omega)
            refine ⟨a + 1, b + 1, by simpa using ha, by simpa using hb, by omega, by rw [show s + (a + 1) = s + 1 + a by omega]; exact h2, ?_, ?_⟩
            · simp only [e]; rw [List.getElem_cons_succ, h3]; rfl
            · simp only [e]; rw [List.getElem_cons_succ, h4]; rfl
    obtain ⟨a, b, ha, hb, h1, h2, h3, h4⟩ := key l 0 i j (by unfold leanOf at hi; exact hi) hji
    have h3' : (leanOf l)[i] = l[a] := h3
    have h4' : (leanOf l)[j] = l[b] := h4
    rw [h3', h4'] at h0
    refine h2 ?_
    rw [Nat.zero_add]
    exact idle_mem.mpr ⟨ha, (dueAt_iff (Nat.le_of_lt ha)).mpr ⟨b, hb, h1, by rw [unAt_eq ha]; exact h0⟩⟩
/-! ### small numbers have small rooms -/
theorem room_lt {m k a : Nat} (h : 0 < m) (hk : m < 2 ^ k) (ha : a ∈ rooms m) : a < k := by
  have h1 := two_pow_le_make (rooms_len m) ha
  have h2 := make_rooms h
  have h3 : make (rooms m) * 1 ≤ make (rooms m) * left m := Nat.mul_le_mul_left _ h2.2
  rcases Nat.lt_or_ge a k with z | z
  · exact z
  · have : 2 ^ k ≤ 2 ^ a := Nat.pow_le_pow_right (by decide) z
    omega
theorem lt_log2 {n k j : Nat} (h : n < 2 ^ k) (hk : 0 < k) (hj : k ≤ j) : n.log2 < j := Nat.lt_of_lt_of_le (log2_lt' hk h) hj
theorem mil_lt {n : Nat} (h : n ≤ 1000000) : n < 2 ^ 20 := by omega
end Fr
namespace Fr
theorem makeL_snoc : ∀ (ps as : List Nat) (i p a : Nat), ps[i]? = some p → as[i]? = some a → makeL (ps.take (i + 1)) (as.take (i + 1)) = makeL (ps.take i) (as.take i) * p ^ a := by
  intro ps
  induction ps with
  | nil => intro as i p a h; simp at h
  | cons q ps ih =>
    intro as i p a h1 h2
    cases as with
    | nil => simp at h2
    | cons b as =>
      cases i with
      | zero =>
        simp only [List.getElem?_cons_zero, Option.some.injEq] at h1 h2
        subst h1 h2
        simp [makeL]
      | succ i =>
        simp only [List.getElem?_cons_succ] at h1 h2
        simp only [List.take_succ_cons, makeL]
        rw [ih as i p a h1 h2, Nat.mul_assoc]
theorem makeL_all : ∀ (ps as : List Nat), makeL (ps.take as.length) (as.take as.length) = makeL ps as := by
  intro ps
  induction ps with
  | nil => intro as; cases as <;> rfl
  | cons q ps ih =>
    intro as
    cases as with
    | nil => rfl
    | cons b as =>
      simp only [List.length_cons, List.take_succ_cons, makeL]
      rw [ih]
theorem makeL_pad : ∀ (ps as : List Nat) (k : Nat), makeL ps (as ++ List.replicate k 0) = makeL ps as := by
  intro ps
  induction ps with
  | nil => intro as k; cases as <;> cases k <;> simp [makeL, List.replicate_succ]
  | cons q ps ih =>
    intro as k
    cases as with
    | nil => rw [List.nil_append, makeL_zero]; rfl
    | cons b as => simp only [List.cons_append, makeL]; rw [ih]
theorem make_pad (as : List Nat) (k : Nat) : make (as ++ List.replicate k 0) = make as := by rw [make_def, make_def, makeL_pad]
theorem make_take (as : List Nat) : make as = makeL (primes.take as.length) (as.take as.length) := by rw [makeL_all, make_def]
theorem make_part_lt {as : List Nat} (h : ∀ a ∈ as, a ≤ 401) (hl : as.length ≤ 12) (i p j : Nat) (hp : p < 64) (hj : j ≤ 401) : makeL (primes.take i) (as.take i) * p ^ j < 2 ^ 40000 := by
  have h1 : makeL (primes.take i) (as.take i) ≤ 2 ^ (6 * (as.take i).sum) := makeL_lt _ _ fun p hp => primes_small p (List.mem_of_mem_take hp)
  have h2 : (as.take i).sum ≤ 401 * (as.take i).length := sum_le fun a ha => h a (List.mem_of_mem_take ha)
  have h3 : (as.take i).length ≤ 12 := Nat.le_trans (List.length_take_le' _ _) hl
  have h4 : p ^ j ≤ 2 ^ (6 * j) := by
    rw [Nat.pow_mul]
    exact Nat.pow_le_pow_left (by omega) j
  have h5 : makeL (primes.take i) (as.take i) * p ^ j ≤ 2 ^ (6 * (as.take i).sum + 6 * j) := by
    rw [Nat.pow_add]
    exact Nat.mul_le_mul h1 h4
  refine Nat.lt_of_le_of_lt h5 (Nat.pow_lt_pow_right (by decide) ?_)
  have : 401 * (as.take i).length ≤ 401 * 12 := Nat.mul_le_mul_left _ h3
  omega
theorem isNum_pad_false {as : List Nat} {k : Nat} (hl : as.length + k = 12) (h : ∃ a ∈ as, 400 < a) : isNum (make as) = false := by
  cases e : isNum (make as) with
  | false => rfl
  | true =>
    rw [← make_pad as k] at e
    have h2 := (isNum_iff.mp e).2.2
    rw [rooms_make (by simpa using hl)] at h2
    obtain ⟨a, ha, hb⟩ := h
    have := h2 a (List.mem_append_left _ ha)
    omega
/-! the law's own rooms of small numbers -/
theorem rooms_small {n : Nat} (h1 : 0 < n) (h : n < 2 ^ 400) : ∀ a ∈ rooms n, a ≤ 400 := by
  intro a ha
  obtain ⟨e, hl⟩ := make_rooms h1
  have hle : 2 ^ a ≤ make (rooms n) := two_pow_le_make (rooms_len n) ha
  have h3 : make (rooms n) ≤ n := by
    conv => rhs; rw [e]
    exact Nat.le_mul_of_pos_right _ hl
  have h4 : 2 ^ a < 2 ^ 400 := Nat.lt_of_le_of_lt (Nat.le_trans hle h3) h
  have := (Nat.pow_lt_pow_iff_right (by decide : 1 < 2)).mp h4
  omega
end Fr
namespace Fr
/-! ### rooms of a product -/
theorem cop_of_mod : ∀ p ∈ primes, ∀ m : Nat, m % p ≠ 0 → Nat.Coprime p m := by
  intro p hp m hm
  have key : ∀ p ∈ primes, ∀ r, r < p → r ≠ 0 → Nat.gcd r p = 1 := by decide +kernel
  have h2 : 0 < p := Nat.lt_of_lt_of_le (by decide) (primes_two p hp)
  show Nat.gcd p m = 1
  rw [Nat.gcd_rec]
  exact key p hp (m % p) (Nat.mod_lt _ h2) hm
theorem partL_dvd : ∀ (ps : List Nat) (n : Nat), (∀ p ∈ ps, 2 ≤ p) → 0 < n → (partL ps n).2 ∣ n ∧ 0 < (partL ps n).2 := by
  intro ps
  induction ps with
  | nil => intro n _ h; exact ⟨Nat.dvd_refl _, h⟩
  | cons p ps ih =>
    intro n h2 h
    have e := strip_eq (h2 p List.mem_cons_self) h
    have hp : 0 < (strip p n).2 := Nat.pos_of_ne_zero fun z => e.2 (by rw [z]; exact Nat.zero_mod _)
    obtain ⟨a, b⟩ := ih (strip p n).2 (fun q hq => h2 q (List.mem_cons_of_mem _ hq)) hp
    refine ⟨Nat.dvd_trans a ?_, b⟩
    exact ⟨p ^ (strip p n).1, by rw [Nat.mul_comm]; exact e.1⟩
theorem partL_mod : ∀ (ps : List Nat) (n : Nat), (∀ p ∈ ps, 2 ≤ p) → 0 < n → ∀ p ∈ ps, (partL ps n).2 % p ≠ 0 := by
  intro ps
  induction ps with
  | nil => intro n _ _ p hp; cases hp
  | cons q ps ih =>
    intro n h2 h p hp
    have e := strip_eq (h2 q List.mem_cons_self) h
    have hs : 0 < (strip q n).2 := Nat.pos_of_ne_zero fun z => e.2 (by rw [z]; exact Nat.zero_mod _)
    rcases List.mem_cons.mp hp with rfl | hp
    · intro z
      obtain ⟨d, _⟩ := partL_dvd ps (strip p n).2 (fun q hq => h2 q (List.mem_cons_of_mem _ hq)) hs
      exact e.2 (Nat.mod_eq_zero_of_dvd (Nat.dvd_trans (Nat.dvd_of_mod_eq_zero z) d))
    · exact ih (strip q n).2 (fun q hq => h2 q (List.mem_cons_of_mem _ hq)) hs p hp
theorem left_cop {n : Nat} (h : 0 < n) : ∀ p ∈ primes, Nat.Coprime p (left n) := fun p hp => cop_of_mod p hp _ (by rw [left_def]; exact partL_mod primes n primes_two h p hp)
theorem makeL_mul : ∀ (ps as bs : List Nat), as.length = bs.length → makeL ps as * makeL ps bs = makeL ps (List.zipWith (· + ·) as bs) := by
  intro ps
  induction ps with
  | nil => intro as bs _; cases as <;> cases bs <;> simp [makeL]
  | cons p ps ih =>
    intro as bs hl
    cases as with
    | nil => cases bs with
      | nil => simp [makeL]
      | cons => cases hl
    | cons a as =>
      cases bs with
      | nil => cases hl
      | cons b bs =>
        simp only [makeL, List.zipWith_cons_cons]
        rw [← ih as bs (by simpa using hl), Nat.pow_add]
        ac_rfl
theorem parts_mul {a b : Nat} (ha : 0 < a) (hb : 0 < b) : rooms (a * b) = List.zipWith (· + ·) (rooms a) (rooms b) ∧ left (a * b) = left a * left b := by
  have e1 := (make_rooms ha).1
  have e2 := (make_rooms hb).1
  have e3 : a * b = makeL primes (List.zipWith (· + ·) (rooms a) (rooms b)) * (left a * left b) := by
    rw [← makeL_mul primes _ _ (by rw [rooms_len, rooms_len]), ← make_def, ← make_def]
    conv => lhs; rw [e1, e2]
    ac_rfl
  have h := part_make primes (List.zipWith (· + ·) (rooms a) (rooms b)) (left a * left b) cop_primes (by rw [List.length_zipWith, rooms_len, rooms_len]; rfl) (fun q hq => Nat.Coprime.mul_right (left_cop ha q hq) (left_cop hb q hq))
  rw [← e3] at h
  constructor
  · rw [rooms_def, h]
  · rw [left_def (a * b), h]
theorem rooms_mul {a b : Nat} (ha : 0 < a) (hb : 0 < b) : rooms (a * b) = List.zipWith (· + ·) (rooms a) (rooms b) := (parts_mul ha hb).1
theorem left_mul {a b : Nat} (ha : 0 < a) (hb : 0 < b) : left (a * b) = left a * left b := (parts_mul ha hb).2
/-! ### a step keeps to the twelve primes -/
theorem led_left {l : Prog} {n x : Nat} (hP : isProg l = true) (hn : 0 < n) (hl : left n = 1) (h : led l n = some x) : 0 < x ∧ left x = 1 := by
  unfold led at h
  obtain ⟨i, hi, rfl⟩ := Option.map_eq_some_iff.mp h
  obtain ⟨hlt, h0, _⟩ := firstAt_is hi
  obtain ⟨f1, f2, f3, f4, f5⟩ := isFrac_iff.mp ((isProg_iff.mp hP).2 _ (List.getElem_mem hlt))
  rw [unAt_eq hlt, upAt_eq hlt]
  have hu := isNum_iff.mp f2
  have ht := isNum_iff.mp f1
  have e : n = (l[i]).2 * (n / (l[i]).2) := (Nat.mul_div_cancel' (Nat.dvd_of_mod_eq_zero h0)).symm
  have hq : 0 < n / (l[i]).2 := Nat.div_pos (Nat.le_of_dvd hn (Nat.dvd_of_mod_eq_zero h0)) hu.1
  have e2 : left (n / (l[i]).2) = 1 := by
    have := left_mul hu.1 hq
    rw [← e, hl, hu.2.1, Nat.one_mul] at this
    exact this.symm
  exact ⟨Nat.mul_pos hq ht.1, by rw [left_mul hq ht.1, e2, ht.2.1]⟩
theorem led_le {l : Prog} {n x : Nat} (hP : isProg l = true) (h : led l n = some x) : x ≤ n * 1000000 := by
  unfold led at h
  obtain ⟨i, hi, rfl⟩ := Option.map_eq_some_iff.mp h
  obtain ⟨hlt, h0, _⟩ := firstAt_is hi
  obtain ⟨f1, f2, f3, f4, f5⟩ := isFrac_iff.mp ((isProg_iff.mp hP).2 _ (List.getElem_mem hlt))
  rw [unAt_eq hlt, upAt_eq hlt]
  exact Nat.mul_le_mul (Nat.div_le_self _ _) f3
end Fr
namespace Fr
/-! ### rooms one by one -/
def rm (n r : Nat) : Nat := (rooms n).getD r 0
theorem rm_mul {a b : Nat} (ha : 0 < a) (hb : 0 < b) (r : Nat) : rm (a * b) r = rm a r + rm b r := by
  unfold rm
  rw [rooms_mul ha hb, List.getD_eq_getElem?_getD, List.getD_eq_getElem?_getD, List.getD_eq_getElem?_getD, List.getElem?_zipWith]
  by_cases h : r < 12
  · rw [List.getElem?_eq_getElem (by rw [rooms_len]; exact h), List.getElem?_eq_getElem (by rw [rooms_len]; exact h)]
    rfl
  · rw [List.getElem?_eq_none (by rw [rooms_len]; omega), List.getElem?_eq_none (by rw [rooms_len]; omega)]
    rfl
theorem rm_big {n r : Nat} (h : 12 ≤ r) : rm n r = 0 := by
  unfold rm
  rw [List.getD_eq_getElem?_getD, List.getElem?_eq_none (by rw [rooms_len]; exact h)]
  rfl
theorem rooms_rm (n : Nat) : rooms n = (List.range 12).map (rm n) := by
  apply List.ext_getElem?
  intro i
  rw [List.getElem?_map]
  by_cases h : i < 12
  · rw [List.getElem?_eq_getElem (by rw [rooms_len]; exact h), List.getElem?_range h]
    show _ = some ((rooms n).getD i 0)
    rw [List.getD_eq_getElem?_getD, List.getElem?_eq_getElem (by rw [rooms_len]; exact h)]
    rfl
  · rw [List.getElem?_eq_none (by rw [rooms_len]; omega), List.getElem?_eq_none (by simp; omega)]
    rfl
theorem num_ext {a b : Nat} (ha : 0 < a) (hb : 0 < b) (la : left a = 1) (lb : left b = 1) (h : ∀ r, r < 12 → rm a r = rm b r) : a = b := by
  rw [← make_rooms1 ha la, ← make_rooms1 hb lb, rooms_rm a, rooms_rm b]
  congr 1
  apply List.map_congr_left
  intro r hr
  exact h r (List.mem_range.mp hr)
theorem rm_make {f : Nat → Nat} {r : Nat} (h : r < 12) : rm (make ((List.range 12).map f)) r = f r := by
  unfold rm
  rw [rooms_make (by simp), List.getD_eq_getElem?_getD, List.getElem?_map, List.getElem?_range h]
  rfl
theorem left_mk {f : Nat → Nat} : left (make ((List.range 12).map f)) = 1 := left_make (by simp)
/-- which divides which, room by room -/
theorem dvd_rm {u n : Nat} (hu : 0 < u) (hn : 0 < n) (lu : left u = 1) (ln : left n = 1) : n % u = 0 ↔ ∀ r, r < 12 → rm u r ≤ rm n r := by
  constructor
  · intro h r _
    have e : n = u * (n / u) := (Nat.mul_div_cancel' (Nat.dvd_of_mod_eq_zero h)).symm
    have hq : 0 < n / u := Nat.div_pos (Nat.le_of_dvd hn (Nat.dvd_of_mod_eq_zero h)) hu
    have := rm_mul hu hq r
    rw [← e] at this
    omega
  · intro h
    have hq := make_pos' ((List.range 12).map fun r => rm n r - rm u r)
    have e : u * make ((List.range 12).map fun r => rm n r - rm u r) = n := by
      refine num_ext (Nat.mul_pos hu hq) hn (by rw [left_mul hu hq, lu, left_mk]) ln fun r hr => ?_
      rw [rm_mul hu hq, rm_make hr]
      have := h r hr
      omega
    rw [← e]
    exact Nat.mul_mod_right _ _
theorem div_rm {u n r : Nat} (hu : 0 < u) (hn : 0 < n) (h : n % u = 0) : rm (n / u) r = rm n r - rm u r := by
  have e : n = u * (n / u) := (Nat.mul_div_cancel' (Nat.dvd_of_mod_eq_zero h)).symm
  have hq : 0 < n / u := Nat.div_pos (Nat.le_of_dvd hn (Nat.dvd_of_mod_eq_zero h)) hu
  have := rm_mul hu hq r
  rw [← e] at this
  omega
theorem rm_pow {a : Nat} (ha : 0 < a) (r : Nat) : ∀ t, rm (a ^ t) r = t * rm a r
  | 0 => by
    rw [Nat.pow_zero, Nat.zero_mul]
    have := rm_mul (a := 1) (b := 1) (by decide) (by decide) r
    rw [Nat.one_mul] at this
    omega
  | t + 1 => by rw [Nat.pow_succ, rm_mul (Nat.pow_pos ha) ha, rm_pow ha r t, Nat.succ_mul]
theorem left_pow {a : Nat} (ha : 0 < a) (la : left a = 1) : ∀ t, left (a ^ t) = 1
  | 0 => by
    rw [Nat.pow_zero]
    have := left_mul (a := 1) (b := 1) (by decide) (by decide)
    rw [Nat.one_mul] at this
    have h1 : 0 < left 1 := (make_rooms (n := 1) (by decide)).2
    exact (Nat.mul_right_cancel h1 (by rw [Nat.one_mul]; exact this.symm))
  | t + 1 => by rw [Nat.pow_succ, left_mul (Nat.pow_pos ha) ha, left_pow ha la t, la]
end Fr
namespace Fr
/-! ### from which turn on something fits -/
structure Row4 where
  h : Nat
  o : Nat
  i : Nat
  d : Nat
def ffUp : List Row4 → Nat → Option Nat
  | [], f => some f
  | q :: r, f => if q.h < q.d then (if q.i ≤ q.o then none else ffUp r (max f ((q.d - q.h + q.i - q.o - 1) / (q.i - q.o)))) else ffUp r f
def okAt (q : Row4) (t : Nat) : Prop := (q.d : Int) ≤ q.h + t * ((q.i : Int) - q.o)
instance (q : Row4) (t : Nat) : Decidable (okAt q t) := by unfold okAt; exact inferInstance
def ffOf (rows : List Row4) : Option Nat := match ffUp rows 0 with
  | none => none
  | some f => if ∀ q ∈ rows, okAt q f then some f else none
/-- the least turn of one row -/
theorem ceil_least {h d k t : Nat} (hd : h < d) (hk : 0 < k) : (d - h + k - 1) / k ≤ t ↔ d ≤ h + t * k := by
  rw [Nat.div_le_iff_le_mul_add_pred hk]
  rw [Nat.mul_comm]
  omega
theorem okAt_up {q : Row4} (hi : q.o < q.i) (t : Nat) : okAt q t ↔ q.d ≤ q.h + t * (q.i - q.o) := by
  unfold okAt
  have e : ((q.i : Int) - q.o) = ((q.i - q.o : Nat) : Int) := by omega
  rw [e]
  constructor
  · intro h
    have : ((q.d : Nat) : Int) ≤ ((q.h + t * (q.i - q.o) : Nat) : Int) := by push_cast; exact h
    omega
  · intro h
    have : ((q.d : Nat) : Int) ≤ ((q.h + t * (q.i - q.o) : Nat) : Int) := by omega
    push_cast at this
    exact this
theorem okAt_no {q : Row4} (hi : q.i ≤ q.o) (hd : q.h < q.d) (t : Nat) : ¬ okAt q t := by
  unfold okAt
  intro h
  have h1 : (t : Int) * ((q.i : Int) - q.o) ≤ 0 := Int.mul_nonpos_of_nonneg_of_nonpos (by omega) (by omega)
  omega
/-- a row that does not grow only gets worse -/
theorem okAt_down {q : Row4} (hi : q.i ≤ q.o) {s t : Nat} (hst : s ≤ t) (h : okAt q t) : okAt q s := by
  unfold okAt at *
  have h1 : (t : Int) * ((q.i : Int) - q.o) ≤ (s : Int) * ((q.i : Int) - q.o) := Int.mul_le_mul_of_nonpos_right (by omega) (by omega)
  omega
theorem okAt_grow {q : Row4} (hi : q.o ≤ q.i) {s t : Nat} (hst : s ≤ t) (h : okAt q s) : okAt q t := by
  unfold okAt at *
  have h1 : (s : Int) * ((q.i : Int) - q.o) ≤ (t : Int) * ((q.i : Int) - q.o) := Int.mul_le_mul_of_nonneg_right (by omega) (by omega)
  omega
theorem ffUp_spec : ∀ (rows : List Row4) (f : Nat), match ffUp rows f with
    | none => ∃ q ∈ rows, ∀ t, ¬ okAt q t
    | some g => f ≤ g ∧ ∀ t, (g ≤ t ↔ f ≤ t ∧ ∀ q ∈ rows, q.h < q.d → okAt q t) := by
  intro rows
  induction rows with
  | nil =>
    intro f
    exact ⟨Nat.le_refl _, fun t => ⟨fun h => ⟨h, fun q hq => nomatch hq⟩, fun h => h.1⟩⟩
  | cons q rows ih =>
    intro f
    unfold ffUp
    by_cases hd : q.h < q.d
    · rw [if_pos hd]
      by_cases hi : q.i ≤ q.o
      · rw [if_pos hi]
        exact ⟨q, List.mem_cons_self, okAt_no hi hd⟩
      · rw [if_neg hi]
        have := ih (max f ((q.d - q.h + q.i - q.o - 1) / (q.i - q.o)))
        have hc : ∀ t, (q.d - q.h + q.i - q.o - 1) / (q.i - q.o) ≤ t ↔ okAt q t := fun t => by
          rw [okAt_up (by omega)]
          have e : q.d - q.h + q.i - q.o - 1 = q.d - q.h + (q.i - q.o) - 1 := by omega
          rw [e]
          exact ceil_least hd (by omega)
        cases e : ffUp rows (max f ((q.d - q.h + q.i - q.o - 1) / (q.i - q.o))) with
        | none =>
          rw [e] at this
          obtain ⟨p, hp, h⟩ := this
          exact ⟨p, List.mem_cons_of_mem _ hp, h⟩
        | some g =>
          rw [e] at this
          obtain ⟨h1, h2⟩ := this
          refine ⟨by omega, fun t => ?_⟩
          rw [h2 t]
          constructor
          · rintro ⟨a, b⟩
            refine ⟨by omega, fun p hp hpd => ?_⟩
            rcases List.mem_cons.mp hp with rfl | hp
            · exact (hc t).mp (by omega)
            · exact b p hp hpd
          · rintro ⟨a, b⟩
            have := (hc t).mpr (b q List.mem_cons_self hd)
            exact ⟨by omega, fun p hp hpd => b p (List.mem_cons_of_mem _ hp) hpd⟩
    · rw [if_neg hd]
      have := ih f
      cases e : ffUp rows f with
      | none =>
        rw [e] at this
        obtain ⟨p, hp, h⟩ := this
        exact ⟨p, List.mem_cons_of_mem _ hp, h⟩
      | some g =>
        rw [e] at this
        obtain ⟨h1, h2⟩ := this
        refine ⟨h1, fun t => ?_⟩
        rw [h2 t]
        constructor
        · rintro ⟨a, b⟩
          refine ⟨a, fun p hp hpd => ?_⟩
          rcases List.mem_cons.mp hp with rfl | hp
          · exact absurd hpd hd
          · exact b p hp hpd
        · rintro ⟨a, b⟩
          exact ⟨a, fun p hp hpd => b p (List.mem_cons_of_mem _ hp) hpd⟩
/-- what fits_from tells: the first turn at which all rows are met -/
theorem ffOf_spec (rows : List Row4) : match ffOf rows with
    | none => ∀ t, ¬ ∀ q ∈ rows, okAt q t
    | some g => (∀ q ∈ rows, okAt q g) ∧ ∀ t, t < g → ¬ ∀ q ∈ rows, okAt q t := by
  have h := ffUp_spec rows 0
  unfold ffOf
  cases e : ffUp rows 0 with
  | none =>
    rw [e] at h
    obtain ⟨q, hq, hn⟩ := h
    exact fun t z => hn t (z q hq)
  | some g =>
    rw [e] at h
    obtain ⟨_, h2⟩ := h
    have low : ∀ t, (∀ q ∈ rows, okAt q t) → g ≤ t := fun t z => (h2 t).mpr ⟨Nat.zero_le _, fun q hq _ => z q hq⟩
    dsimp only
    by_cases hall : ∀ q ∈ rows, okAt q g
    · rw [if_pos hall]
      exact ⟨hall, fun t ht z => absurd (low t z) (by omega)⟩
    · rw [if_neg hall]
      intro t z
      apply hall
      intro q hq
      have hgt := low t z
      by_cases hi : q.i ≤ q.o
      · exact okAt_down hi hgt (z q hq)
      · by_cases hd : q.h < q.d
        · exact ((h2 g).mp (Nat.le_refl _)).2 q hq hd
        · refine okAt_grow (s := 0) (by omega) (Nat.zero_le _) ?_
          unfold okAt
          omega
end Fr
namespace Fr
/-! ### turns by one fraction -/
def rowsOf (n u v w : Nat) : List Row4 := (List.range 12).map fun r => ⟨rm n r, rm u r, rm v r, rm w r⟩
/-- the number behind t turns -/
def turnN (n u v t : Nat) : Nat := n / u ^ t * v ^ t
structure Fr1 (u v : Nat) : Prop where
  u0 : 0 < u
  v0 : 0 < v
  lu : left u = 1
  lv : left v = 1
  cop : ∀ r, r < 12 → rm u r = 0 ∨ rm v r = 0
theorem turn_rm {n u v t : Nat} (F : Fr1 u v) (hn : 0 < n) (hl : left n = 1) (h : ∀ r, r < 12 → t * rm u r ≤ rm n r) :
    0 < turnN n u v t ∧ left (turnN n u v t) = 1 ∧ n % u ^ t = 0 ∧ ∀ r, r < 12 → rm (turnN n u v t) r = rm n r - t * rm u r + t * rm v r := by
  have hu := Nat.pow_pos (n := t) F.u0
  have hv := Nat.pow_pos (n := t) F.v0
  have hd : n % u ^ t = 0 := (dvd_rm hu hn (left_pow F.u0 F.lu t) hl).mpr fun r hr => by rw [rm_pow F.u0]; exact h r hr
  have hq : 0 < n / u ^ t := Nat.div_pos (Nat.le_of_dvd hn (Nat.dvd_of_mod_eq_zero hd)) hu
  have hlq : left (n / u ^ t) = 1 := by
    have e : n = u ^ t * (n / u ^ t) := (Nat.mul_div_cancel' (Nat.dvd_of_mod_eq_zero hd)).symm
    have := left_mul hu hq
    rw [← e, hl, left_pow F.u0 F.lu t, Nat.one_mul] at this
    exact this.symm
  refine ⟨Nat.mul_pos hq hv, ?_, hd, fun r hr => ?_⟩
  · unfold turnN
    rw [left_mul hq hv, hlq, left_pow F.v0 F.lv t]
  · unfold turnN
    rw [rm_mul hq hv, div_rm hu hn hd, rm_pow F.u0, rm_pow F.v0]
/-- w divides the number behind t turns, by rows -/
theorem turn_fit {n u v t w : Nat} (F : Fr1 u v) (hn : 0 < n) (hl : left n = 1) (h : ∀ r, r < 12 → t * rm u r ≤ rm n r) (hw : 0 < w) (lw : left w = 1) :
    turnN n u v t % w = 0 ↔ ∀ q ∈ rowsOf n u v w, okAt q t := by
  obtain ⟨a, b, _, c⟩ := turn_rm F hn hl h
  rw [dvd_rm hw a lw b]
  have key : ∀ r, r < 12 → (rm w r ≤ rm (turnN n u v t) r ↔ okAt ⟨rm n r, rm u r, rm v r, rm w r⟩ t) := fun r hr => by
    rw [c r hr]
    unfold okAt
    have hle := h r hr
    have e : ((t : Int) * ((rm v r : Int) - (rm u r : Int))) = ((t * rm v r : Nat) : Int) - ((t * rm u r : Nat) : Int) := by
      push_cast
      rw [Int.mul_sub]
    dsimp only
    rw [e]
    omega
  constructor
  · intro z q hq
    obtain ⟨r, hr, rfl⟩ := List.mem_map.mp hq
    exact (key r (List.mem_range.mp hr)).mp (z r (List.mem_range.mp hr))
  · intro z r hr
    exact (key r hr).mpr (z _ (List.mem_map.mpr ⟨r, List.mem_range.mpr hr, rfl⟩))
theorem turn_succ {n u v t : Nat} (F : Fr1 u v) (hn : 0 < n) (hl : left n = 1) (h : ∀ r, r < 12 → (t + 1) * rm u r ≤ rm n r) : turnN n u v t / u * v = turnN n u v (t + 1) := by
  have h' : ∀ r, r < 12 → t * rm u r ≤ rm n r := fun r hr => by
    have := h r hr
    rw [Nat.succ_mul] at this
    omega
  obtain ⟨a, b, _, c⟩ := turn_rm F hn hl h'
  obtain ⟨a', b', _, c'⟩ := turn_rm F hn hl h
  have hd : turnN n u v t % u = 0 := (dvd_rm F.u0 a F.lu b).mpr fun r hr => by
    rw [c r hr]
    have := h r hr
    rw [Nat.succ_mul] at this
    omega
  have hq : 0 < turnN n u v t / u := Nat.div_pos (Nat.le_of_dvd a (Nat.dvd_of_mod_eq_zero hd)) F.u0
  have hlq : left (turnN n u v t / u) = 1 := by
    have e : turnN n u v t = u * (turnN n u v t / u) := (Nat.mul_div_cancel' (Nat.dvd_of_mod_eq_zero hd)).symm
    have := left_mul F.u0 hq
    rw [← e, b, F.lu, Nat.one_mul] at this
    exact this.symm
  refine num_ext (Nat.mul_pos hq F.v0) a' (by rw [left_mul hq F.v0, hlq, F.lv]) b' fun r hr => ?_
  rw [rm_mul hq F.v0, div_rm F.u0 a hd, c r hr, c' r hr]
  have := h r hr
  rw [Nat.succ_mul] at this
  rw [Nat.succ_mul, Nat.succ_mul]
  omega
/-- how often u can be taken: by the rooms that it takes from -/
def outsOf (n u : Nat) : List Nat := (List.range 12).filterMap fun r => if 0 < rm u r then some (rm n r / rm u r) else none
theorem fits_out {n u v t : Nat} (F : Fr1 u v) : (∀ q ∈ rowsOf n u v u, okAt q t) ↔ ∀ a ∈ outsOf n u, t < a := by
  have key : ∀ r, r < 12 → (okAt ⟨rm n r, rm u r, rm v r, rm u r⟩ t ↔ (0 < rm u r → t < rm n r / rm u r)) := fun r hr => by
    unfold okAt
    dsimp only
    rcases F.cop r hr with e | e
    · rw [e]
      constructor
      · intro _ z
        omega
      · intro _
        have : (0 : Int) ≤ (t : Int) * ((rm v r : Int) - ((0 : Nat) : Int)) := Int.mul_nonneg (by omega) (by omega)
        omega
    · rw [e]
      by_cases h0 : 0 < rm u r
      · have e2 : (t : Int) * (((0 : Nat) : Int) - (rm u r : Int)) = -((t * rm u r : Nat) : Int) := by
          push_cast
          rw [Int.zero_sub, Int.mul_neg]
        rw [e2]
        have e3 : (t < rm n r / rm u r) ↔ (t + 1) * rm u r ≤ rm n r := by
          rw [← Nat.le_div_iff_mul_le h0]
          exact Iff.rfl
        rw [Nat.succ_mul] at e3
        constructor
        · intro z _
          exact e3.mpr (by omega)
        · intro z
          have := e3.mp (z h0)
          omega
      · have : rm u r = 0 := by omega
        rw [this]
        constructor
        · intro _ z
          omega
        · intro _
          simp
  constructor
  · intro z a ha
    obtain ⟨r, hr, e⟩ := List.mem_filterMap.mp ha
    split at e
    · rename_i h0
      cases e
      exact (key r (List.mem_range.mp hr)).mp (z _ (List.mem_map.mpr ⟨r, hr, rfl⟩)) h0
    · cases e
  · intro z q hq
    obtain ⟨r, hr, rfl⟩ := List.mem_map.mp hq
    refine (key r (List.mem_range.mp hr)).mpr fun h0 => z _ (List.mem_filterMap.mpr ⟨r, hr, ?_⟩)
    rw [if_pos h0]
theorem out_le {n u m : Nat} (h : ∀ a ∈ outsOf n u, m ≤ a) : ∀ r, r < 12 → m * rm u r ≤ rm n r := fun r hr => by
  by_cases h0 : 0 < rm u r
  · have := h (rm n r / rm u r) (List.mem_filterMap.mpr ⟨r, List.mem_range.mpr hr, by rw [if_pos h0]⟩)
    exact (Nat.le_div_iff_mul_le h0).mp this
  · have : rm u r = 0 := by omega
    rw [this, Nat.mul_zero]
    exact Nat.zero_le _
end Fr
namespace Fr
/-! ### how many turns a fraction has -/
def someOf (l : Prog) (n i : Nat) : List Nat := outsOf n (unAt l i) ++ (l.take i).filterMap fun p => ffOf (rowsOf n (unAt l i) (upAt l i) p.2)
theorem frac1 {l : Prog} {i : Nat} (hP : isProg l = true) (hi : i < l.length) : Fr1 (unAt l i) (upAt l i) := by
  obtain ⟨f1, f2, f3, f4, f5⟩ := isFrac_iff.mp ((isProg_iff.mp hP).2 _ (List.getElem_mem hi))
  rw [unAt_eq hi, upAt_eq hi]
  have hu := isNum_iff.mp f2
  have hv := isNum_iff.mp f1
  refine ⟨hu.1, hv.1, hu.2.1, hv.2.1, fun r hr => ?_⟩
  by_cases h1 : rm (l[i]).2 r = 0
  · exact .inl h1
  by_cases h2 : rm (l[i]).1 r = 0
  · exact .inr h2
  exfalso
  -- the r-th prime divides both
  have hp := make_pos' ((List.range 12).map fun j => if j = r then 1 else 0)
  have lp := left_mk (f := fun j => if j = r then 1 else 0)
  have d1 : (l[i]).1 % make ((List.range 12).map fun j => if j = r then 1 else 0) = 0 := (dvd_rm hp hv.1 lp hv.2.1).mpr fun j hj => by
    rw [rm_make hj]
    split
    · rename_i e
      rw [e]
      omega
    · exact Nat.zero_le _
  have d2 : (l[i]).2 % make ((List.range 12).map fun j => if j = r then 1 else 0) = 0 := (dvd_rm hp hu.1 lp hu.2.1).mpr fun j hj => by
    rw [rm_make hj]
    split
    · rename_i e
      rw [e]
      omega
    · exact Nat.zero_le _
  have d3 := Nat.dvd_gcd (Nat.dvd_of_mod_eq_zero d1) (Nat.dvd_of_mod_eq_zero d2)
  rw [f5] at d3
  have e1 : make ((List.range 12).map fun j => if j = r then 1 else 0) = 1 := Nat.dvd_one.mp d3
  have e2 := rm_make (f := fun j => if j = r then 1 else 0) hr
  rw [e1, if_pos rfl] at e2
  have e3 := rm_mul (a := 1) (b := 1) (by decide) (by decide) r
  rw [Nat.one_mul] at e3
  omega
theorem times_spec {l : Prog} {n i m : Nat} (hP : isProg l = true) (hn : 0 < n) (hl : left n = 1) (hi : firstAt l n = some i) (hm : m ∈ someOf l n i) (hle : ∀ a ∈ someOf l n i, m ≤ a) :
    0 < m ∧ (∀ t, t < m → firstAt l (turnN n (unAt l i) (upAt l i) t) = some i ∧ led l (turnN n (unAt l i) (upAt l i) t) = some (turnN n (unAt l i) (upAt l i) (t + 1))) ∧ firstAt l (turnN n (unAt l i) (upAt l i) m) ≠ some i ∧
      ∀ t, t ≤ m → ∀ r, r < 12 → t * rm (unAt l i) r ≤ rm n r := by
  have hlt := firstAt_lt hi
  have F := frac1 hP hlt
  have hou : ∀ a ∈ outsOf n (unAt l i), m ≤ a := fun a ha => hle a (List.mem_append_left _ ha)
  have room : ∀ t, t ≤ m → ∀ r, r < 12 → t * rm (unAt l i) r ≤ rm n r := fun t ht r hr => Nat.le_trans (Nat.mul_le_mul_right _ ht) (out_le hou r hr)
  have hnum : ∀ (j : Nat) (hj : j < l.length), 0 < (l[j]).2 ∧ left (l[j]).2 = 1 := fun j hj => by
    obtain ⟨f1, f2, _⟩ := isFrac_iff.mp ((isProg_iff.mp hP).2 _ (List.getElem_mem hj))
    have := isNum_iff.mp f2
    exact ⟨this.1, this.2.1⟩
  have before : ∀ t, t < m → firstAt l (turnN n (unAt l i) (upAt l i) t) = some i := fun t ht => by
    refine firstAt_some hlt ?_ fun j hj hji => ?_
    · rw [← unAt_eq hlt]
      refine (turn_fit F hn hl (room t (by omega)) F.u0 F.lu).mpr ((fits_out F).mpr fun a ha => ?_)
      have := hou a ha
      omega
    · intro z
      have fit := (turn_fit F hn hl (room t (by omega)) (hnum j hj).1 (hnum j hj).2).mp z
      have sp := ffOf_spec (rowsOf n (unAt l i) (upAt l i) (l[j]).2)
      cases e : ffOf (rowsOf n (unAt l i) (upAt l i) (l[j]).2) with
      | none =>
        rw [e] at sp
        exact sp t fit
      | some g =>
        rw [e] at sp
        have hg : g ∈ someOf l n i := by
          refine List.mem_append_right _ (List.mem_filterMap.mpr ⟨l[j], ?_, e⟩)
          rw [List.mem_take_iff_getElem]
          exact ⟨j, by omega, rfl⟩
        have := hle g hg
        exact sp.2 t (by omega) fit
  have behind : firstAt l (turnN n (unAt l i) (upAt l i) m) ≠ some i := fun z => by
    obtain ⟨h1, h2, h3⟩ := firstAt_is z
    rcases List.mem_append.mp hm with hm | hm
    · rw [← unAt_eq hlt] at h2
      have := (fits_out F).mp ((turn_fit F hn hl (room m (Nat.le_refl _)) F.u0 F.lu).mp h2) m hm
      omega
    · obtain ⟨p, hp, e⟩ := List.mem_filterMap.mp hm
      rw [List.mem_take_iff_getElem] at hp
      obtain ⟨j, hj, rfl⟩ := hp
      have hj2 : j < l.length := by omega
      have sp := ffOf_spec (rowsOf n (unAt l i) (upAt l i) (l[j]).2)
      rw [e] at sp
      exact h3 j hj2 (by omega) ((turn_fit F hn hl (room m (Nat.le_refl _)) (hnum j hj2).1 (hnum j hj2).2).mpr sp.1)
  refine ⟨?_, fun t ht => ⟨before t ht, ?_⟩, behind, room⟩
  · rcases Nat.eq_zero_or_pos m with z | z
    · exfalso
      apply behind
      rw [z]
      have : turnN n (unAt l i) (upAt l i) 0 = n := by unfold turnN; rw [Nat.pow_zero, Nat.pow_zero, Nat.div_one, Nat.mul_one]
      rw [this]
      exact hi
    · exact z
  · unfold led
    rw [before t ht]
    show some (turnN n (unAt l i) (upAt l i) t / unAt l i * upAt l i) = _
    rw [turn_succ F hn hl (room (t + 1) ht)]
/-- a room that grows above the bound stays above it -/
theorem great_later {n u v s t : Nat} (F : Fr1 u v) (hn : 0 < n) (hl : left n = 1) (h : ∀ k, k ≤ t → ∀ r, r < 12 → k * rm u r ≤ rm n r) (hb : ∀ r, r < 12 → rm n r ≤ 400) (hst : s ≤ t) {r : Nat} (hr : r < 12) (hg : 400 < rm (turnN n u v s) r) : 400 < rm (turnN n u v t) r := by
  obtain ⟨_, _, _, c1⟩ := turn_rm F hn hl (h s hst)
  obtain ⟨_, _, _, c2⟩ := turn_rm F hn hl (h t (Nat.le_refl _))
  rw [c1 r hr] at hg
  rw [c2 r hr]
  have h0 := hb r hr
  rcases F.cop r hr with e | e
  · rw [e] at hg ⊢
    have := Nat.mul_le_mul_right (rm v r) hst
    omega
  · rw [e] at hg
    omega
/-- no end, by the law's own -/
theorem outs_nil {n u : Nat} (hu : 0 < u) (lu : left u = 1) : outsOf n u = [] ↔ u = 1 := by
  constructor
  · intro h
    refine num_ext hu (by decide) lu ?_ fun r hr => ?_
    · have := left_pow hu lu 0
      rw [Nat.pow_zero] at this
      exact this
    · have e1 : rm 1 r = 0 := by
        have := rm_mul (a := 1) (b := 1) (by decide) (by decide) r
        rw [Nat.one_mul] at this
        omega
      rw [e1]
      rcases Nat.eq_zero_or_pos (rm u r) with z | z
      · exact z
      · have : rm n r / rm u r ∈ outsOf n u := List.mem_filterMap.mpr ⟨r, List.mem_range.mpr hr, by rw [if_pos z]⟩
        rw [h] at this
        cases this
  · rintro rfl
    unfold outsOf
    rw [List.filterMap_eq_nil_iff]
    intro r _
    have e1 : rm 1 r = 0 := by
      have := rm_mul (a := 1) (b := 1) (by decide) (by decide) r
      rw [Nat.one_mul] at this
      omega
    rw [e1]
    rfl
end Fr
namespace Fr
open PySem PySem.Spec PyProof.Rows L2

/-! ### heaps -/
theorem same_new {H : Hp} {p : Addr} {o : HO} (h : H p = none) : Same H (upd H p o) := fun b x e => by
  rw [upd_ne (ne_of_none e h)]
  exact e
/-- what H does not know may change -/
theorem same_put {H H' : Hp} {p : Addr} {o : HO} (s : Same H H') (h : H p = none) : Same H (upd H' p o) := fun b x e => by
  rw [upd_ne (ne_of_none e h)]
  exact s _ _ e
theorem same_tup {K : PySem.W.Frag} {H H' : Hp} {a : Addr} {xs : List V} (e : Same H H') (h : SqT K H a xs) : SqT K H' a xs := by
  rcases h with (h | ⟨o, h⟩) | h
  · exact .inl (.inl (e _ _ h))
  · exact .inl (.inr ⟨o, e _ _ h⟩)
  · exact .inr h
mutual
theorem same_dp {K : PySem.W.Frag} {H H' : Hp} (e : Same H H') : ∀ {d : PyData} {v : V}, Dp K H v d → Dp K H' v d
  | .none, _, .non => .non
  | .bool _, _, .bl b => .bl b
  | .int _, _, .int i => .int i
  | .str _, _, .str x => .str x
  | .list _, _, .lst h a => .lst (e.seq h) (same_dps e a)
  | .tuple _, _, .tup h a => .tup (same_tup e h) (same_dps e a)
theorem same_dps {K : PySem.W.Frag} {H H' : Hp} (e : Same H H') : ∀ {ds : List PyData} {vs : List V}, DpAll K H vs ds → DpAll K H' vs ds
  | [], _, .nil => .nil
  | _ :: _, _, .cons a b => .cons (same_dp e a) (same_dps e b)
end
theorem dps_len {K : PySem.W.Frag} {H : Hp} : ∀ {ds : List PyData} {vs : List V}, DpAll K H vs ds → vs.length = ds.length
  | [], _, .nil => rfl
  | _ :: _, _, .cons _ b => congrArg Nat.succ (dps_len b)
theorem dps_at {K : PySem.W.Frag} {H : Hp} : ∀ {ds : List PyData} {vs : List V} {i : Nat} {d : PyData}, DpAll K H vs ds → ds[i]? = some d → ∃ v, vs[i]? = some v ∧ Dp K H v d
  | [], _, _, _, .nil, h => by simp at h
  | e :: _, _, 0, d, .cons a _, h => by
    have z : e = d := Option.some.inj h
    subst z
    exact ⟨_, rfl, a⟩
  | _ :: _, _, i + 1, d, .cons _ b, h => dps_at (i := i) b h
theorem dps_at2 {K : PySem.W.Frag} {H : Hp} : ∀ {ds : List PyData} {vs : List V} {i : Nat} {v : V}, DpAll K H vs ds → vs[i]? = some v → ∃ d, ds[i]? = some d ∧ Dp K H v d
  | [], _, _, _, .nil, h => by simp at h
  | e :: _, _, 0, d, .cons a _, h => by
    have z := Option.some.inj h
    subst z
    exact ⟨_, rfl, a⟩
  | _ :: _, _, i + 1, d, .cons _ b, h => dps_at2 (i := i) b h
theorem dps_app {K : PySem.W.Frag} {H : Hp} : ∀ {ds es : List PyData} {vs ws : List V}, DpAll K H vs ds → DpAll K H ws es → DpAll K H (vs ++ ws) (ds ++ es)
  | [], _, _, _, .nil, h => h
  | _ :: _, _, _, _, .cons a b, h => .cons a (dps_app b h)
theorem dps_take {K : PySem.W.Frag} {H : Hp} : ∀ {ds : List PyData} {vs : List V} (n : Nat), DpAll K H vs ds → DpAll K H (vs.take n) (ds.take n)
  | _, _, 0, _ => .nil
  | [], _, _ + 1, .nil => .nil
  | _ :: _, _, n + 1, .cons a b => .cons a (dps_take n b)
theorem dps_drop {K : PySem.W.Frag} {H : Hp} : ∀ {ds : List PyData} {vs : List V} (n : Nat), DpAll K H vs ds → DpAll K H (vs.drop n) (ds.drop n)
  | _, _, 0, h => h
  | [], _, _ + 1, .nil => .nil
  | _ :: _, _, n + 1, .cons _ b => dps_drop n b
theorem dps_ints {K : PySem.W.Frag} {H : Hp} : ∀ (ns : List Int), DpAll K H (ns.map V.int) (ns.map PyData.int)
  | [] => .nil
  | n :: ns => .cons (.int n) (dps_ints ns)
theorem dps_of_ints {K : PySem.W.Frag} {H : Hp} : ∀ {ns : List Int} {vs : List V}, DpAll K H vs (ns.map PyData.int) → vs = ns.map V.int
  | [], _, .nil => rfl
  | n :: ns, _, .cons (.int _) b => congrArg (V.int n :: ·) (dps_of_ints b)

/-! ### a def that may be called by its name -/
abbrev ga := He.ga
/-- a def's own datum behind the top -/
def fdOf (K : PySem.W.Frag) (p : Str × Option Str) : FuncData := match K.lookup (He.fAd K p) with
  | some ⟨_, _, .func fd, _⟩ => fd
  | _ => default
abbrev FnP (K : PySem.W.Frag) (x : Str) (st : Stmt) : Prop := FunD K x x (defArgs st) (defBody st) (defScope st) [] [] (ga K x) (fdOf K (x, none))
structure Cal (P : Program) (w : World) (K : PySem.W.Frag) (mg : Str → Option Value) (base : Heap) (CX : CXT) (k : Nat) (x : Str) (ps : List Str) (sp : Sp) : Prop where
  fn : FnOk P w K mg base CX k (ga K x) (fdOf K (x, none)) ps sp
  m : mg x = some (.ref (ga K x))
  kp : PySem.W.keepIn K (.ref (ga K x)) = true
  b : Binds K (fdOf K (x, none)) ps []
def tCal (sp : Sp) (E : XK) (t : TA) : TE := fun σ H Q => t σ H fun vs H1 => sp vs H1 Q E
section
variable {X : Cx} {CX : CXT} {k : Nat} {x : Str} {ps : List Str} {sp : Sp} {E : XK} {p pos : Pos} {e : Expr} {es : List Expr} {t : TA}
theorem pe_cal (C : Cal X.prog X.w X.K X.mg X.base CX k x ps sp) (hr : Room k X.A) (hg : Gl X x) (hx : Passes CX X E) (ha : PA X (e :: es) t) (hdb : (x == ("__debug__" : Str)) = false := by decide)
    (he : starEach (e :: es) X.env = (false, eval e X.env) :: starEach es X.env := by rfl) (hpl : (backTo pos (starEach es X.env)).any (·.1) = false := by rfl) :
    PE X (.Call (.Name x p) (e :: es) [] pos) (tCal sp E t) := by
  have h := pe_call (p := p) (pos := pos) C.fn hr hg C.m C.kp C.b .nil hx ha hdb he hpl
  refine ⟨fun pins s σ H Q I q => h.run pins s σ H Q I ?_⟩
  show t σ H fun vs H1 => sp (vs ++ []) H1 Q E
  simp only [List.append_nil]
  exact q
theorem pe_cal0 (C : Cal X.prog X.w X.K X.mg X.base CX k x ps sp) (hr : Room k X.A) (hg : Gl X x) (hx : Passes CX X E) (hdb : (x == ("__debug__" : Str)) = false := by decide) :
    PE X (.Call (.Name x p) [] [] pos) (tCal sp E tNil) := by
  exact pe_call0 (p := p) (pos := pos) C.fn hr hg C.m C.kp C.b .nil hx hdb
end

/-! ### whole numbers that are not below nought -/
section
variable {X : Cx}
def rN (C : Nat → Nat → Prop) (g : Nat → Nat → V) : R2 := fun x y H Q => ∃ a b : Nat, x = .int a ∧ y = .int b ∧ C a b ∧ Q (g a b) H
def rN0 (g : Nat → Nat → V) : R2 := fun x y H Q => ∃ a b : Nat, x = .int a ∧ y = .int b ∧ Q (g a b) H
theorem opN_mod : OpR X (binaryOp .Mod) (rN (fun _ b => 0 < b) fun a b => .int ((a % b : Nat) : Int)) := by
  intro pins s σ H x y v u Q I rx ry h
  obtain ⟨a, b, rfl, rfl, hb, q⟩ := h
  exact op_mod pins s σ H _ _ v u Q I rx ry ⟨a, b, rfl, rfl, by omega, q⟩
theorem opN_div : OpR X (binaryOp .FloorDiv) (rN (fun _ b => 0 < b ∧ b.log2 < 9000) fun a b => .int ((a / b : Nat) : Int)) := by
  intro pins s σ H x y v u Q I rx ry h
  obtain ⟨a, b, rfl, rfl, ⟨h1, h2⟩, q⟩ := h
  exact op_fdivW pins s σ H _ _ v u Q I rx ry ⟨a, b, rfl, rfl, ⟨by omega, by simpa using h2⟩, q⟩
theorem opN_mul : OpR X (binaryOp .Mult) (rN (fun a b => a.log2 + b.log2 < 1000000) fun a b => .int ((a * b : Nat) : Int)) := by
  intro pins s σ H x y v u Q I rx ry h
  obtain ⟨a, b, rfl, rfl, h1, q⟩ := h
  exact op_mulW pins s σ H _ _ v u Q I rx ry ⟨a, b, rfl, rfl, by simpa [CMulW] using h1, q⟩
theorem opN_add : OpR X (binaryOp .Add) (rN0 fun a b => .int ((a + b : Nat) : Int)) := by
  intro pins s σ H x y v u Q I rx ry h
  obtain ⟨a, b, rfl, rfl, q⟩ := h
  exact op_add pins s σ H _ _ v u Q I rx ry ⟨a, b, rfl, rfl, q⟩
theorem opN_sub : OpR X (binaryOp .Sub) (rN (fun a b => b ≤ a) fun a b => .int ((a - b : Nat) : Int)) := by
  intro pins s σ H x y v u Q I rx ry h
  obtain ⟨a, b, rfl, rfl, h1, q⟩ := h
  refine op_sub pins s σ H _ _ v u Q I rx ry ⟨a, b, rfl, rfl, ?_⟩
  show Q (V.int ((a : Int) - (b : Int))) H
  rw [← Int.ofNat_sub h1]
  exact q
theorem opN_pow : OpR X (binaryOp .Pow) (rN (fun a b => b ≤ 1000000 ∧ a < 2 ^ 64) fun a b => .int ((a ^ b : Nat) : Int)) := by
  intro pins s σ H x y v u Q I rx ry h
  obtain ⟨a, b, rfl, rfl, ⟨h1, h2⟩, q⟩ := h
  refine op_pow pins s σ H _ _ v u Q I rx ry ⟨a, b, rfl, rfl, ⟨by omega, by omega, by simpa using h2⟩, ?_⟩
  show Q (V.int ((a : Int) ^ (b : Int).toNat)) H
  rw [Int.toNat_natCast, ← Int.natCast_pow]
  exact q
theorem opN_eq : OpR X (compareOp .Eq) (rN0 fun a b => .bl (decide (a = b))) := by
  intro pins s σ H x y v u Q I rx ry h
  obtain ⟨a, b, rfl, rfl, q⟩ := h
  refine op_eq pins s σ H _ _ v u Q I rx ry ⟨rfl, ?_⟩
  have e : decide (V.int (a : Int) = V.int (b : Int)) = decide (a = b) := by
    rw [Bool.eq_iff_iff]
    simp
    omega
  rw [e]
  exact q
theorem opN_ne : OpR X (compareOp .NotEq) (rN0 fun a b => .bl (!decide (a = b))) := by
  intro pins s σ H x y v u Q I rx ry h
  obtain ⟨a, b, rfl, rfl, q⟩ := h
  refine op_ne pins s σ H _ _ v u Q I rx ry ⟨rfl, ?_⟩
  have e : decide (V.int (a : Int) = V.int (b : Int)) = decide (a = b) := by
    rw [Bool.eq_iff_iff]
    simp
    omega
  rw [e]
  exact q
theorem opN_lt : OpR X (compareOp .Lt) (rN0 fun a b => .bl (decide (a < b))) := by
  intro pins s σ H x y v u Q I rx ry h
  obtain ⟨a, b, rfl, rfl, q⟩ := h
  refine op_lt pins s σ H _ _ v u Q I rx ry ⟨a, b, rfl, rfl, ?_⟩
  simpa using q
theorem opN_le : OpR X (compareOp .LtE) (rN0 fun a b => .bl (decide (a ≤ b))) := by
  intro pins s σ H x y v u Q I rx ry h
  obtain ⟨a, b, rfl, rfl, q⟩ := h
  refine op_le pins s σ H _ _ v u Q I rx ry ⟨a, b, rfl, rfl, ?_⟩
  simpa using q
theorem opN_gt : OpR X (compareOp .Gt) (rN0 fun a b => .bl (decide (b < a))) := by
  intro pins s σ H x y v u Q I rx ry h
  obtain ⟨a, b, rfl, rfl, q⟩ := h
  refine op_gt pins s σ H _ _ v u Q I rx ry ⟨a, b, rfl, rfl, ?_⟩
  simpa using q
theorem opN_ge : OpR X (compareOp .GtE) (rN0 fun a b => .bl (decide (b ≤ a))) := by
  intro pins s σ H x y v u Q I rx ry h
  obtain ⟨a, b, rfl, rfl, q⟩ := h
  refine op_ge pins s σ H _ _ v u Q I rx ry ⟨a, b, rfl, rfl, ?_⟩
  simpa using q
end

/-! ### isinstance of data -/
def tyD : PyData → String
  | .none => "NoneType"
  | .bool _ => "bool"
  | .int _ => "int"
  | .str _ => "str"
  | .list _ => "list"
  | .tuple _ => "tuple"
  | .dict _ => "dict"
def isD (n : String) (d : PyData) : Bool := (kitB (tyD d) n).getD false
theorem ty_of {K : PySem.W.Frag} {H : Hp} {v : V} {d : PyData} (h : Dp K H v d) : TyX K H v (.type (tyD d)) := by
  cases h with
  | non => exact .base .non
  | bl b => exact .base (.bl b)
  | int i => exact .base (.int i)
  | str x => exact .base (.str x)
  | lst h _ =>
    rcases h with (h | ⟨o, h⟩) | ⟨o, its, n, h, hc, _⟩
    · exact .base (.lst h)
    · exact .base (.frz h)
    · exact .kList h hc
  | tup h _ =>
    rcases h with (h | ⟨o, h⟩) | ⟨o, its, n, h, hc, _⟩
    · exact .base (.tup h)
    · exact .fTuple h
    · exact .kTuple h hc
def rIsD (K : PySem.W.Frag) (n : String) : List V → Hp → VK → Prop := fun xs H Q => ∃ (v : V) (d : PyData), xs = [v, .ty n] ∧ Dp K H v d ∧ Q (.bl (isD n d)) H
theorem kit_isD {n : String} (hk : (["NoneType", "bool", "int", "str", "list", "tuple"].all fun t => (kitB t n).isSome) = true) (d : PyData) (hd : ∀ z, d ≠ .dict z) : kitB (tyD d) n = some (isD n d) := by
  simp only [List.all_cons, List.all_nil, Bool.and_true, Bool.and_eq_true] at hk
  obtain ⟨h1, h2, h3, h4, h5, h6⟩ := hk
  have key : ∀ t : String, (kitB t n).isSome = true → kitB t n = some ((kitB t n).getD false) := fun t h => by
    cases e : kitB t n with
    | none =>
      rw [e] at h
      cases h
    | some b => rfl
  cases d with
  | none => exact key _ h1
  | bool _ => exact key _ h2
  | int _ => exact key _ h3
  | str _ => exact key _ h4
  | list _ => exact key _ h5
  | tuple _ => exact key _ h6
  | dict z => exact absurd rfl (hd z)
theorem call_isD {X : Cx} (n : String) (hk : (["NoneType", "bool", "int", "str", "list", "tuple"].all fun t => (kitB t n).isSome) = true) : CallR X (.builtin "isinstance") (rIsD X.K n) := by
  intro pins s σ H xs us Q I r h
  obtain ⟨v, d, rfl, hd, q⟩ := h
  exact call_isi pins s σ H _ us Q I r ⟨v, .ty n, _, _, isD n d, rfl, .ty n, ty_of hd, kit_ty (kit_isD hk d fun z e => by rw [e] at hd; cases hd), q⟩
theorem isK_int : (["NoneType", "bool", "int", "str", "list", "tuple"].all fun t => (kitB t "int").isSome) = true := by decide +kernel
theorem isK_bool : (["NoneType", "bool", "int", "str", "list", "tuple"].all fun t => (kitB t "bool").isSome) = true := by decide +kernel
theorem isK_str : (["NoneType", "bool", "int", "str", "list", "tuple"].all fun t => (kitB t "str").isSome) = true := by decide +kernel
theorem isK_list : (["NoneType", "bool", "int", "str", "list", "tuple"].all fun t => (kitB t "list").isSome) = true := by decide +kernel
theorem isK_tuple : (["NoneType", "bool", "int", "str", "list", "tuple"].all fun t => (kitB t "tuple").isSome) = true := by decide +kernel
def isIntD : PyData → Bool
  | .bool _ => true
  | .int _ => true
  | _ => false
def isBoolD : PyData → Bool
  | .bool _ => true
  | _ => false
def isStrD : PyData → Bool
  | .str _ => true
  | _ => false
def isListD : PyData → Bool
  | .list _ => true
  | _ => false
def isTupleD : PyData → Bool
  | .tuple _ => true
  | _ => false
theorem isD_int {K : PySem.W.Frag} {H : Hp} {v : V} {d : PyData} (h : Dp K H v d) : isD "int" d = isIntD d := by
  cases h <;> (simp only [isD, tyD, isIntD]; decide +kernel)
theorem isD_bool {K : PySem.W.Frag} {H : Hp} {v : V} {d : PyData} (h : Dp K H v d) : isD "bool" d = isBoolD d := by
  cases h <;> (simp only [isD, tyD, isBoolD]; decide +kernel)
theorem isD_str {K : PySem.W.Frag} {H : Hp} {v : V} {d : PyData} (h : Dp K H v d) : isD "str" d = isStrD d := by
  cases h <;> (simp only [isD, tyD, isStrD]; decide +kernel)
theorem isD_list {K : PySem.W.Frag} {H : Hp} {v : V} {d : PyData} (h : Dp K H v d) : isD "list" d = isListD d := by
  cases h <;> (simp only [isD, tyD, isListD]; decide +kernel)
theorem isD_tuple {K : PySem.W.Frag} {H : Hp} {v : V} {d : PyData} (h : Dp K H v d) : isD "tuple" d = isTupleD d := by
  cases h <;> (simp only [isD, tyD, isTupleD]; decide +kernel)
def rIs (K : PySem.W.Frag) (n : String) (f : PyData → Bool) : List V → Hp → VK → Prop := fun xs H Q => ∃ (v : V) (d : PyData), xs = [v, .ty n] ∧ Dp K H v d ∧ Q (.bl (f d)) H
section
variable {X : Cx}
theorem call_is {n : String} {f : PyData → Bool} (hk : (["NoneType", "bool", "int", "str", "list", "tuple"].all fun t => (kitB t n).isSome) = true) (he : ∀ {H : Hp} {v : V} {d : PyData}, Dp X.K H v d → isD n d = f d) :
    CallR X (.builtin "isinstance") (rIs X.K n f) := by
  intro pins s σ H xs us Q I r h
  obtain ⟨v, d, rfl, hd, q⟩ := h
  rw [← he hd] at q
  exact call_isD n hk pins s σ H _ us Q I r ⟨v, d, rfl, hd, q⟩
theorem is_int : CallR X (.builtin "isinstance") (rIs X.K "int" isIntD) := call_is isK_int isD_int
theorem is_bool : CallR X (.builtin "isinstance") (rIs X.K "bool" isBoolD) := call_is isK_bool isD_bool
theorem is_str : CallR X (.builtin "isinstance") (rIs X.K "str" isStrD) := call_is isK_str isD_str
theorem is_list : CallR X (.builtin "isinstance") (rIs X.K "list" isListD) := call_is isK_list isD_list
theorem is_tuple : CallR X (.builtin "isinstance") (rIs X.K "tuple" isTupleD) := call_is isK_tuple isD_tuple
end
end Fr
namespace Fr
open PySem PySem.Spec PyProof.Rows L2
abbrev nI (a : Nat) : V := .int (a : Int)
abbrev nD (a : Nat) : PyData := .int (a : Int)
/-! ### data without lists stand, though a list changes -/
mutual
def noL : PyData → Bool
  | .list _ => false
  | .dict _ => false
  | .tuple ds => noLs ds
  | _ => true
def noLs : List PyData → Bool
  | [] => true
  | d :: ds => noL d && noLs ds
end
theorem sqt_upd {K : PySem.W.Frag} {H : Hp} {D b : Addr} {ys zs xs : List V} (hD : H D = some (.lst ys)) (h : SqT K H b xs) : SqT K (upd H D (.lst zs)) b xs := by
  rcases h with (h | ⟨o, h⟩) | h
  · have n : b ≠ D := ne_of h hD (by intro z; cases z)
    exact .inl (.inl (by rw [upd_ne n]; exact h))
  · have n : b ≠ D := ne_of h hD (by intro z; cases z)
    exact .inl (.inr ⟨o, by rw [upd_ne n]; exact h⟩)
  · exact .inr h
mutual
theorem dp_upd {K : PySem.W.Frag} {H : Hp} {D : Addr} {ys zs : List V} (hD : H D = some (.lst ys)) : ∀ {d : PyData} {v : V}, noL d = true → Dp K H v d → Dp K (upd H D (.lst zs)) v d
  | .none, _, _, .non => .non
  | .bool _, _, _, .bl b => .bl b
  | .int _, _, _, .int i => .int i
  | .str _, _, _, .str x => .str x
  | .list _, _, h, _ => by simp [noL] at h
  | .tuple ds, _, h, .tup t a => .tup (sqt_upd hD t) (dps_upd hD (by simpa [noL] using h) a)
theorem dps_upd {K : PySem.W.Frag} {H : Hp} {D : Addr} {ys zs : List V} (hD : H D = some (.lst ys)) : ∀ {ds : List PyData} {vs : List V}, noLs ds = true → DpAll K H vs ds → DpAll K (upd H D (.lst zs)) vs ds
  | [], _, _, .nil => .nil
  | d :: ds, _, h, .cons a b => by
    have h2 : noL d = true ∧ noLs ds = true := by simpa [noLs] using h
    exact .cons (dp_upd hD h2.1 a) (dps_upd hD h2.2 b)
end
theorem noLs_app : ∀ (ds es : List PyData), noLs (ds ++ es) = (noLs ds && noLs es)
  | [], es => by simp [noLs]
  | d :: ds, es => by
    show (noL d && noLs (ds ++ es)) = (noL d && noLs ds && noLs es)
    rw [noLs_app ds es, Bool.and_assoc]
theorem noLs_of : ∀ {ds : List PyData}, (∀ d ∈ ds, noL d = true) → noLs ds = true
  | [], _ => by simp [noLs]
  | d :: ds, h => by
    simp only [noLs, Bool.and_eq_true]
    exact ⟨h d List.mem_cons_self, noLs_of fun e he => h e (List.mem_cons_of_mem _ he)⟩
/-! ### comprehensions -/
/-- what turns below i gave -/
def gath (F : Nat → Option PyData) (i : Nat) : List PyData := (List.range i).filterMap F
theorem gath_zero (F : Nat → Option PyData) : gath F 0 = [] := rfl
theorem gath_yes {F : Nat → Option PyData} {i : Nat} {d : PyData} (h : F i = some d) : gath F (i + 1) = gath F i ++ [d] := by
  unfold gath
  rw [List.range_succ, List.filterMap_append]
  simp [h]
theorem gath_no {F : Nat → Option PyData} {i : Nat} (h : F i = none) : gath F (i + 1) = gath F i := by
  unfold gath
  rw [List.range_succ, List.filterMap_append]
  simp [h]
theorem gath_len (F : Nat → Option PyData) (i : Nat) : (gath F i).length ≤ i := by
  unfold gath
  have h := List.length_filterMap_le F (List.range i)
  rw [List.length_range] at h
  exact h
theorem gath_noL {F : Nat → Option PyData} (hF : ∀ i d, F i = some d → noL d = true) (i : Nat) : noLs (gath F i) = true := by
  refine noLs_of fun d hd => ?_
  obtain ⟨j, _, e⟩ := List.mem_filterMap.mp hd
  exact hF j d e
theorem gath_mapI {α : Type} (l : List α) (g : Nat → α → Option PyData) : gath (fun i => l[i]?.bind (g i)) l.length = l.zipIdx.filterMap fun p => g p.2 p.1 := by
  unfold gath
  have e : l.zipIdx = (List.range l.length).filterMap fun i => l[i]?.map fun x => (x, i) := by
    refine List.ext_getElem? fun k => ?_
    have key : ∀ n, n ≤ l.length → ((List.range n).filterMap fun i => l[i]?.map fun x => (x, i)) = (l.zipIdx).take n := by
      intro n
      induction n with
      | zero => intro _; rfl
      | succ n ih =>
        intro hn
        have hlt : n < l.length := by omega
        rw [List.range_succ, List.filterMap_append, ih (by omega), List.take_add_one]
        congr 1
        simp [hlt]
    rw [key l.length (Nat.le_refl _), List.take_of_length_le (by simp)]
  rw [e, List.filterMap_filterMap]
  congr 1
  funext i
  cases l[i]? <;> rfl
theorem gath_map {α : Type} (l : List α) (g : α → PyData) : gath (fun i => l[i]?.map g) l.length = l.map g := by
  have h := gath_mapI l fun _ x => some (g x)
  have e1 : (fun (i : Nat) => l[i]?.bind fun x => some (g x)) = fun (i : Nat) => l[i]?.map g := by
    funext i
    cases l[i]? <;> rfl
  rw [e1] at h
  rw [h]
  have e3 : l.zipIdx.filterMap (fun p => some (g p.1)) = l.zipIdx.map (fun p => g p.1) := congrFun List.filterMap_eq_map' _
  rw [e3]
  have e2 : (l.zipIdx.map fun p => g p.1) = (l.zipIdx.map Prod.fst).map g := by rw [List.map_map]; rfl
  exact e2.trans (by rw [List.zipIdx_map_fst])
theorem gath_filter {α : Type} (l : List α) (g : α → Option PyData) : gath (fun i => l[i]?.bind g) l.length = l.filterMap g := by
  have h := gath_mapI l fun _ x => g x
  rw [h]
  have e2 : (l.zipIdx.filterMap fun p => g p.1) = (l.zipIdx.map Prod.fst).filterMap g := by rw [List.filterMap_map]; rfl
  exact e2.trans (by rw [List.zipIdx_map_fst])
theorem gath_range {n : Nat} (g : Nat → Option PyData) : gath g n = (List.range n).filterMap g := rfl
/-- a comprehension whose items are data without lists -/
theorem lc_dp {K : PySem.W.Frag} {J : It} {n : Nat} {G : Hp → Prop} {Y : Nat → Hp → V → Hp → Prop} (w : Walk J n G Y) {g : TG} {tt : TT} {te : TE} {vs : List Nat} {σ : L2.St} {H1 : Hp} {D : Addr} {Qd : Hp → Prop}
    (hD : H1 D = none) (hn : n ≤ 100000) (hG : ∀ H', Same H1 H' → G H') (F : Nat → Option PyData) (hF : ∀ i d, F i = some d → noL d = true)
    (hs : ∀ i x H' H'' (A : V → Hp → Prop) (B : Hp → Prop), i < n → Same H1 H' → Y i H' x H'' → (∀ y d H4, F i = some d → Same H' H4 → Dp K H4 y d → A y H4) → (F i = none → ∀ H3, Same H' H3 → B H3) →
      g x (wipe σ vs) H'' fun σ2 H2 => wipe σ2 vs = wipe σ vs ∧ tt σ2 H2 fun b H3 => if b = true then te σ2 H3 A else B H3)
    (hd : ∀ H' ys, Same H1 H' → H' D = some (.lst ys) → DpAll K H' ys (gath F n) → Qd H') :
    ∃ W : Nat → Nat → Hp → Prop, (∃ m, W 0 m (upd H1 D (.lst []))) ∧ ∀ i m H, W i m H →
      (J.stop i H ∧ Qd H) ∨ (J.go i H ∧ ∃ Nx : Hp → Prop, (∀ H', Nx H' → ∃ m', m' < m ∧ W (i + 1) m' H') ∧ ∀ x H', J.yld i H x H' → g x (wipe σ vs) H' fun σ2 H2 => wipe σ2 vs = wipe σ vs ∧ tt σ2 H2 fun b H3 =>
        if b = true then te σ2 H3 fun y H4 => ∃ acc, H4 D = some (.lst acc) ∧ acc.length < sizeLine ∧ Nx (upd H4 D (.lst (acc ++ [y]))) else Nx H3) := by
  refine lc_it w (fun i H' => Same H1 H' ∧ ∃ ys, H' D = some (.lst ys) ∧ DpAll K H' ys (gath F i)) ⟨same_new hD, [], upd_same, .nil⟩ (fun i H' _ p => hG H' p.1) (fun i x H' H'' hi p hY => ?_) (fun H' p => ?_)
  · obtain ⟨sm, ys, hy, hA⟩ := p
    refine hs i x H' H'' _ _ hi sm hY (fun y d H4 hFi s4 hdp => ?_) (fun hFi H3 s3 => ?_)
    · refine ⟨ys, s4 _ _ hy, ?_, ?_, ys ++ [y], upd_same, ?_⟩
      · have h1 := gath_len F i
        have h2 := dps_len hA
        exact Nat.lt_of_lt_of_le (show ys.length < 100000 by omega) (by decide)
      · exact same_put (sm.trans s4) hD
      · rw [gath_yes hFi]
        exact dps_app (dps_upd (s4 _ _ hy) (gath_noL hF i) (same_dps s4 hA)) (.cons (dp_upd (s4 _ _ hy) (hF i d hFi) hdp) .nil)
    · exact ⟨sm.trans s3, ys, s3 _ _ hy, by rw [gath_no hFi]; exact same_dps s3 hA⟩
  · obtain ⟨sm, ys, hy, hA⟩ := p
    exact hd H' ys sm hy hA
/-! ### the data of bools, of ints -/
theorem dps_bools {K : PySem.W.Frag} {H : Hp} : ∀ {bs : List Bool} {vs : List V}, DpAll K H vs (bs.map PyData.bool) → vs = bs.map V.bl
  | [], _, .nil => rfl
  | b :: bs, _, .cons (.bl _) t => congrArg (V.bl b :: ·) (dps_bools t)
theorem dps_nats {K : PySem.W.Frag} {H : Hp} : ∀ {ns : List Nat} {vs : List V}, DpAll K H vs (ns.map nD) → vs = ns.map nI
  | [], _, .nil => rfl
  | n :: ns, _, .cons (.int _) t => congrArg (nI n :: ·) (dps_nats t)
theorem dps_nats' {K : PySem.W.Frag} {H : Hp} : ∀ (ns : List Nat), DpAll K H (ns.map nI) (ns.map nD)
  | [] => .nil
  | n :: ns => .cons (.int _) (dps_nats' ns)
theorem nI_map (ns : List Nat) : ns.map nI = (ns.map fun (a : Nat) => (a : Int)).map V.int := by
  rw [List.map_map]
  rfl
/-! ### max of a tuple of whole numbers -/
def maxN : List Nat → Nat
  | [] => 0
  | a :: as => max a (maxN as)
theorem maxN_mem : ∀ {as : List Nat}, as ≠ [] → maxN as ∈ as
  | [], h => absurd rfl h
  | [a], _ => by simp [maxN]
  | a :: b :: as, _ => by
    have ih := maxN_mem (as := b :: as) (by simp)
    show max a (maxN (b :: as)) ∈ a :: b :: as
    rcases Nat.le_total a (maxN (b :: as)) with h | h
    · rw [Nat.max_eq_right h]
      exact List.mem_cons_of_mem _ ih
    · rw [Nat.max_eq_left h]
      exact List.mem_cons_self
theorem maxN_le : ∀ {as : List Nat} {a : Nat}, a ∈ as → a ≤ maxN as
  | b :: as, a, h => by
    rcases List.mem_cons.mp h with e | e
    · rw [e]
      exact Nat.le_max_left _ _
    · exact Nat.le_trans (maxN_le e) (Nat.le_max_right _ _)
theorem maxN_uniq {as : List Nat} {m : Nat} (h : m ∈ as) (hm : ∀ a ∈ as, a ≤ m) : m = maxN as :=
  Nat.le_antisymm (maxN_le h) (hm _ (maxN_mem (List.ne_nil_of_mem h)))
def rMaxT (K : PySem.W.Frag) : List V → Hp → VK → Prop := fun vs H Q => ∃ (a : Addr) (ns : List Nat), vs = [V.ref a] ∧ SqT K H a (ns.map nI) ∧ ns ≠ [] ∧ Q (nI (maxN ns)) H
theorem reads_int {h : Heap} {v : Value} {i : Int} {as : List Addr} (r : Reads h v (.int i) as) : ∃ t, v = .int i t := by
  cases r
  exact ⟨_, rfl⟩
theorem foldl_max : ∀ (ns : List Nat) (n : Nat), (ns.map fun (a : Nat) => (a : Int)).foldl max (n : Int) = ((max n (maxN ns) : Nat) : Int)
  | [], n => by simp [maxN]
  | a :: as, n => by
    show (as.map fun (a : Nat) => (a : Int)).foldl max (max (n : Int) (a : Int)) = _
    have e : max (n : Int) (a : Int) = ((max n a : Nat) : Int) := by omega
    rw [e, foldl_max as]
    show ((max (max n a) (maxN as) : Nat) : Int) = ((max n (max a (maxN as)) : Nat) : Int)
    rw [Nat.max_assoc]
theorem depth_ints : ∀ ns : List Int, PyData.depthAll (ns.map PyData.int) = 0
  | [] => by simp [PyData.depthAll]
  | n :: ns => by simp [PyData.depthAll, PyData.depth, depth_ints ns]
theorem alike_ints (ns : List Int) : PySem.W.AlikeAll (ns.map PyData.int) := by
  refine ⟨fun x hx y hy => ?_, fun x hx => ?_⟩
  · obtain ⟨i, _, rfl⟩ := List.mem_map.mp hx
    obtain ⟨j, _, rfl⟩ := List.mem_map.mp hy
    simp only [PySem.W.alike]
  · obtain ⟨i, _, rfl⟩ := List.mem_map.mp hx
    intro z
    cases z
theorem cr_maxT {X : Cx} (hc : X.calm = true) (hu : X.A.units + 1 < cLine) : CallR X (.builtin "max") (rMaxT X.K) := by
  intro pins s σ H vs us Q I r h
  obtain ⟨a, ns, rfl, hs, hne, q⟩ := h
  obtain ⟨its, rv, hl, _⟩ := I.tuple hs
  rw [Vals.ref1 r]
  cases ns with
  | nil => exact absurd rfl hne
  | cons n ns =>
    have hdp : DpAll X.K H ((n :: ns).map nI) (PyData.int (n : Int) :: (ns.map fun (a : Nat) => (a : Int)).map PyData.int) := by
      have h := dps_nats' (K := X.K) (H := H) (n :: ns)
      have e : (n :: ns).map nD = PyData.int (n : Int) :: (ns.map fun (a : Nat) => (a : Int)).map PyData.int := by
        rw [List.map_map]
        rfl
      rw [e] at h
      exact h
    obtain ⟨as, hr⟩ := Dp.readsAll I _ _ its hdp rv
    have ha := alike_ints ((n : Int) :: ns.map fun (a : Nat) => (a : Int))
    have hdep := depth_ints ((n : Int) :: ns.map fun (a : Nat) => (a : Int))
    refine PySem.W.max_tuple_data (I.ok.hd hc) (show s.heap.IsTuple a its.toArray from hl) (x := .int (n : Int)) (xs := (ns.map fun (a : Nat) => (a : Int)).map PyData.int) (by simpa using hr) ha (by rw [show PyData.depthAll (PyData.int (n : Int) :: (ns.map fun (a : Nat) => (a : Int)).map PyData.int) = 0 from hdep]; omega) fun i v h' tk bs hi r hk => ?_
    rw [PySem.W.maxD_ints, foldl_max] at r
    obtain ⟨t, rfl⟩ := reads_int r
    exact ⟨nI (maxN (n :: ns)), H, I.kept hk, ⟨t, rfl⟩, q⟩
/-! ### the rules over a named K (within a comprehension the context's own is told by its letter) -/
section
variable {X : Cx} {K : PySem.W.Frag}
theorem ixL (e : X.K = K)  : IxR X (rIxL K) := by
  subst e
  exact ix_list
theorem ixT (e : X.K = K)  : IxR X (rIxT K) := by
  subst e
  exact ix_tup
theorem ixA (e : X.K = K)  : IxR X (rIx K) := by
  subst e
  exact ix_seq
theorem slL (e : X.K = K)  : SlR X (rSlL K) := by
  subst e
  exact sl_list
theorem slT (e : X.K = K)  : SlR X (rSlA K) := by
  subst e
  exact sl_tupA
theorem inS (e : X.K = K)  : OpR X (compareOp .In) (rIn K false) := by
  subst e
  exact op_in_seq
theorem ninS (e : X.K = K)  : OpR X (compareOp .NotIn) (rIn K true) := by
  subst e
  exact op_notIn_seq
theorem eqD (e : X.K = K) (hu : X.A.units + 64 < cLine) : OpR X (compareOp .Eq) (rEqD K) := by
  subst e
  exact op_eqD hu
theorem neD (e : X.K = K) (hu : X.A.units + 64 < cLine) : OpR X (compareOp .NotEq) (rNeD K) := by
  subst e
  exact op_neD hu
theorem inD (e : X.K = K) (hu : X.A.units + 65 < cLine) : OpR X (compareOp .In) (rInD K) := by
  subst e
  exact op_inD hu
theorem catT (e : X.K = K)  : OpR X (binaryOp .Add) (rCatA K) := by
  subst e
  exact op_catA
theorem repT (e : X.K = K)  : OpR X (binaryOp .Mult) (rRepT K) := by
  subst e
  exact op_repT
theorem lenS (e : X.K = K)  : CallR X (.builtin "len") (fun xs H Q => ∃ p ys, xs = [.ref p] ∧ (SqL K H p ys ∨ SqT K H p ys) ∧ Q (.int ys.length) H) := by
  subst e
  exact call_len_seq
theorem listOf (e : X.K = K)  : CallR X (.type "list") (fun xs H Q => ∃ p ys, xs = [.ref p] ∧ (SqL K H p ys ∨ SqT K H p ys) ∧ ∀ l, H l = none → Q (.ref l) (upd H l (.lst ys))) := by
  subst e
  exact call_list_of
theorem tupleOf (e : X.K = K)  : CallR X (.type "tuple") (fun xs H Q => ∃ p ys, xs = [.ref p] ∧ ((SqL K H p ys ∧ ∀ l, H l = none → Q (.ref l) (upd H l (.tup ys))) ∨ (SqT K H p ys ∧ Q (.ref p) H))) := by
  subst e
  exact call_tuple_of
theorem isInt (e : X.K = K)  : CallR X (.builtin "isinstance") (rIs K "int" isIntD) := by
  subst e
  exact is_int
theorem isBool (e : X.K = K)  : CallR X (.builtin "isinstance") (rIs K "bool" isBoolD) := by
  subst e
  exact is_bool
theorem isStr (e : X.K = K)  : CallR X (.builtin "isinstance") (rIs K "str" isStrD) := by
  subst e
  exact is_str
theorem isList (e : X.K = K)  : CallR X (.builtin "isinstance") (rIs K "list" isListD) := by
  subst e
  exact is_list
theorem isTuple (e : X.K = K)  : CallR X (.builtin "isinstance") (rIs K "tuple" isTupleD) := by
  subst e
  exact is_tuple
theorem crAll (e : X.K = K) (hc : X.calm = true) : CallR X (.builtin "all") (rAll K) := by
  subst e
  exact cr_all hc
theorem crAny (e : X.K = K) (hc : X.calm = true) : CallR X (.builtin "any") (rAny K) := by
  subst e
  exact cr_any hc
theorem crSum (e : X.K = K) (hc : X.calm = true) : CallR X (.builtin "sum") (rSum K) := by
  subst e
  exact cr_sum hc
theorem crMax (e : X.K = K) (hc : X.calm = true) : CallR X (.builtin "max") (rMax K) := by
  subst e
  exact cr_max hc
theorem crMin (e : X.K = K) (hc : X.calm = true) : CallR X (.builtin "min") (rMin K) := by
  subst e
  exact cr_min hc
theorem crMaxT (e : X.K = K) (hc : X.calm = true) (hu : X.A.units + 1 < cLine) : CallR X (.builtin "max") (rMaxT K) := by
  subst e
  exact cr_maxT hc hu
theorem pgT {es : List Expr} {k n : Nat} {t : TGs} {pos : Pos} (e : X.K = K) (hc : X.calm = true) (h : PGs X es t) (hn : (assignEach es X.env).length = n := by rfl) (hst : (assignEach es X.env).findIdx? (·.1) = none := by rfl) : PG X (.Tuple es k pos) (gTup K n t) := by
  subst e
  exact pg_tup hc h hn hst
theorem piL {tg a : Expr} {ta : TE} (e : X.K = K) (ha : PE X a ta) : PI X tg a (iList K ta) := by
  subst e
  exact pi_list ha
theorem piT {tg a : Expr} {ta : TE} (e : X.K = K) (ha : PE X a ta) : PI X tg a (iTup K ta) := by
  subst e
  exact pi_tup ha
theorem piE {a : Expr} {ta : TA} {p pos tpos : Pos} {elts : List Expr} {kk : Nat} (e : X.K = K) (hg : Gl X "enumerate") (hm : X.mg "enumerate" = none) (ha : PA X [a] ta) (hs : starEach [a] X.env = [(false, eval a X.env)] := by rfl) :
    PI X (.Tuple elts kk tpos) (.Call (.Name "enumerate" p) [a] [] pos) (iEnum K ta) := by
  subst e
  exact pi_enum hg hm ha hs
theorem bm {o a : Expr} {es : List Expr} {to : TE} {t : TA} {name : Str} {apos cpos : Pos} {T id : String} {r : V → List V → Hp → VK → Prop} (e : X.K = K) (pa : PlainAttrs T) (slot : Slot T name id) (hty : typeOf (.builtin id) = pure (.type "method_descriptor")) (hm : MtR X id r) (ho : PE X o to) (ha : PA X (a :: es) t)
    (hbase : attributeBase o name X.env (eval o X.env) = eval o X.env := by rfl)
    (hfew : ((backTo cpos (starEach (a :: es) X.env)).all (fun x => !x.1) && (backToKw cpos (keywordEach [] X.env)).all (fun x => x.1.isSome)
      && decide ((a :: es).length + ([] : List Keyword).length + (if ([] : List Keyword).isEmpty then 0 else 1) < 30)) = true := by rfl)
    (hline : (apos.endLine == cpos.line) = true := by rfl) (h1 : starEach (a :: es) X.env = (false, eval a X.env) :: starEach es X.env := by rfl) (h2 : (backTo cpos (starEach es X.env)).any (·.1) = false := by rfl) : PE X (.Call (.Attribute o name apos) (a :: es) [] cpos) (tBM K T r to t) := by
  subst e
  exact pe_bm pa slot hty hm ho ha hbase hfew hline h1 h2
theorem bm0 {o : Expr} {to : TE} {name : Str} {apos cpos : Pos} {T id : String} {r : V → List V → Hp → VK → Prop} (e : X.K = K) (pa : PlainAttrs T) (slot : Slot T name id) (hty : typeOf (.builtin id) = pure (.type "method_descriptor")) (hm : MtR X id r) (ho : PE X o to)
    (hbase : attributeBase o name X.env (eval o X.env) = eval o X.env := by rfl) (hline : (apos.endLine == cpos.line) = true := by rfl) : PE X (.Call (.Attribute o name apos) [] [] cpos) (tBM0 K T r to) := by
  subst e
  exact pe_bm0 pa slot hty hm ho hbase hline
end
theorem walk_nats {n : Nat} : Walk (Itr 0 n) n (fun _ => True) (YFn nI) := walk_range.mono (fun _ h => h) fun i H x H' _ _ y => ⟨y.1, y.2.trans (congrArg V.int (Int.zero_add _))⟩
end Fr
namespace Fr
open PySem PySem.Spec PyProof.Rows L2
/-- a comprehension whose items are some data of a kind, without lists -/
theorem lc_ex {K : PySem.W.Frag} {J : It} {n : Nat} {G : Hp → Prop} {Y : Nat → Hp → V → Hp → Prop} (w : Walk J n G Y) {g : TG} {tt : TT} {te : TE} {vs : List Nat} {σ : L2.St} {H1 : Hp} {D : Addr} {Qd : Hp → Prop}
    (hD : H1 D = none) (hn : n ≤ 100000) (hG : ∀ H', Same H1 H' → G H') (S : PyData → Prop) (hS : ∀ d, S d → noL d = true)
    (hs : ∀ i x H' H'' (A : V → Hp → Prop) (B : Hp → Prop), i < n → Same H1 H' → Y i H' x H'' → (∀ y d H4, S d → Same H' H4 → Dp K H4 y d → A y H4) → (∀ H3, Same H' H3 → B H3) →
      g x (wipe σ vs) H'' fun σ2 H2 => wipe σ2 vs = wipe σ vs ∧ tt σ2 H2 fun b H3 => if b = true then te σ2 H3 A else B H3)
    (hd : ∀ H' ys ds, Same H1 H' → H' D = some (.lst ys) → DpAll K H' ys ds → (∀ d ∈ ds, S d) → ds.length ≤ n → Qd H') :
    ∃ W : Nat → Nat → Hp → Prop, (∃ m, W 0 m (upd H1 D (.lst []))) ∧ ∀ i m H, W i m H →
      (J.stop i H ∧ Qd H) ∨ (J.go i H ∧ ∃ Nx : Hp → Prop, (∀ H', Nx H' → ∃ m', m' < m ∧ W (i + 1) m' H') ∧ ∀ x H', J.yld i H x H' → g x (wipe σ vs) H' fun σ2 H2 => wipe σ2 vs = wipe σ vs ∧ tt σ2 H2 fun b H3 =>
        if b = true then te σ2 H3 fun y H4 => ∃ acc, H4 D = some (.lst acc) ∧ acc.length < sizeLine ∧ Nx (upd H4 D (.lst (acc ++ [y]))) else Nx H3) := by
  refine lc_it w (fun i H' => Same H1 H' ∧ i ≤ n ∧ ∃ ys ds, H' D = some (.lst ys) ∧ DpAll K H' ys ds ∧ (∀ d ∈ ds, S d) ∧ ds.length ≤ i) ⟨same_new hD, Nat.zero_le _, [], [], upd_same, .nil, fun d h => (nomatch h), Nat.le_refl _⟩ (fun i H' _ p => hG H' p.1) (fun i x H' H'' hi p hY => ?_) (fun H' p => ?_)
  · obtain ⟨sm, hin, ys, ds, hy, hA, hAS, hl⟩ := p
    refine hs i x H' H'' _ _ hi sm hY (fun y d H4 hSd s4 hdp => ?_) (fun H3 s3 => ?_)
    · refine ⟨ys, s4 _ _ hy, ?_, ?_, by omega, ys ++ [y], ds ++ [d], upd_same, ?_, ?_, ?_⟩
      · have h2 := dps_len hA
        exact Nat.lt_of_lt_of_le (show ys.length < 100000 by omega) (by decide)
      · exact same_put (sm.trans s4) hD
      · exact dps_app (dps_upd (s4 _ _ hy) (noLs_of fun e he => hS e (hAS e he)) (same_dps s4 hA)) (.cons (dp_upd (s4 _ _ hy) (hS d hSd) hdp) .nil)
      · intro e he
        rcases List.mem_append.mp he with z | z
        · exact hAS e z
        · have : e = d := by simpa using z
          rw [this]
          exact hSd
      · rw [List.length_append]
        show ds.length + 1 ≤ i + 1
        omega
    · exact ⟨sm.trans s3, by omega, ys, ds, s3 _ _ hy, same_dps s3 hA, hAS, by omega⟩
  · obtain ⟨sm, hin, ys, ds, hy, hA, hAS, hl⟩ := p
    exact hd H' ys ds sm hy hA hAS hl
end Fr
namespace Fr
open PySem PySem.Spec PyProof.Rows L2
section
variable {X : Cx}
def rN2 (g : Nat → Nat → Nat) : List V → Hp → VK → Prop := fun xs H Q => ∃ a b : Nat, xs = [nI a, nI b] ∧ Q (nI (g a b)) H
theorem max2N (hc : X.calm = true) : CallR X (.builtin "max") (rN2 max) := by
  intro pins s σ H xs us Q I r h
  obtain ⟨a, b, rfl, q⟩ := h
  refine call_max2 hc pins s σ H _ us Q I r ⟨a, b, rfl, ?_⟩
  have e : (if (b : Int) > (a : Int) then (b : Int) else (a : Int)) = ((max a b : Nat) : Int) := by
    split <;> omega
  rw [e]
  exact q
theorem min2N (hc : X.calm = true) : CallR X (.builtin "min") (rN2 min) := by
  intro pins s σ H xs us Q I r h
  obtain ⟨a, b, rfl, q⟩ := h
  refine call_min2 hc pins s σ H _ us Q I r ⟨a, b, rfl, ?_⟩
  have e : (if (b : Int) < (a : Int) then (b : Int) else (a : Int)) = ((min a b : Nat) : Int) := by
    split <;> omega
  rw [e]
  exact q
/-- what a def that may raise lets out is nothing here -/
theorem passN : Passes (L2N.CX X.prog X.w) X L2.E0 := fun _ _ _ _ _ _ _ h => by
  obtain ⟨_, _, _, _, _, _, _, _, _, _, _, _, z⟩ := h
  exact z.elim
end
end Fr
namespace Fr
open PySem PySem.Spec PyProof.Rows L2
/-! ### numbers, fractions, programs as data -/
def isNumD : PyData → Bool
  | .int i => decide (1 ≤ i) && isNum i.toNat
  | _ => false
def natO : PyData → Nat
  | .int i => i.toNat
  | _ => 0
def isFracD : PyData → Bool
  | .tuple [a, b] => (isNumD a && isNumD b) && (decide (max (natO a) (natO b) ≤ 1000000) && decide (Nat.gcd (natO a) (natO b) = 1))
  | _ => false
def isProgD : PyData → Bool
  | .list ds => decide (ds.length ≤ 16) && ds.all isFracD
  | _ => false
def fracD (p : Nat × Nat) : PyData := .tuple [nD p.1, nD p.2]
def progD (l : Prog) : PyData := .list (l.map fracD)
theorem isNumD_nat (n : Nat) : isNumD (nD n) = isNum n := by
  show (decide (1 ≤ (n : Int)) && isNum (n : Int).toNat) = isNum n
  rw [Int.toNat_natCast]
  by_cases h : 1 ≤ n
  · rw [decide_eq_true (by omega), Bool.true_and]
  · rw [decide_eq_false (by omega), Bool.false_and]
    cases e : isNum n with
    | false => rfl
    | true => exact absurd (isNum_pos e) (by omega)
theorem isNumD_is {d : PyData} (h : isNumD d = true) : ∃ n : Nat, d = nD n ∧ isNum n = true := by
  cases d with
  | int i =>
    obtain ⟨h1, h2⟩ := Bool.and_eq_true_iff.mp (show (decide (1 ≤ i) && isNum i.toNat) = true from h)
    have h1 := of_decide_eq_true h1
    exact ⟨i.toNat, by rw [show nD i.toNat = PyData.int (i.toNat : Int) from rfl, Int.toNat_of_nonneg (by omega)], h2⟩
  | _ => cases h
theorem isFracD_frac (p : Nat × Nat) : isFracD (fracD p) = isFrac p := by
  show ((isNumD (nD p.1) && isNumD (nD p.2)) && (decide (max (p.1 : Int).toNat (p.2 : Int).toNat ≤ 1000000) && decide (Nat.gcd (p.1 : Int).toNat (p.2 : Int).toNat = 1))) = isFrac p
  rw [isNumD_nat, isNumD_nat, Int.toNat_natCast, Int.toNat_natCast]
  rfl
theorem isFracD_is {d : PyData} (h : isFracD d = true) : ∃ p : Nat × Nat, d = fracD p ∧ isFrac p = true := by
  cases d with
  | tuple ds =>
    match ds, h with
    | [a, b], h =>
      obtain ⟨h1, h2⟩ := Bool.and_eq_true_iff.mp (show ((isNumD a && isNumD b) && (decide (max (natO a) (natO b) ≤ 1000000) && decide (Nat.gcd (natO a) (natO b) = 1))) = true from h)
      obtain ⟨ha, hb⟩ := Bool.and_eq_true_iff.mp h1
      obtain ⟨n, rfl, _⟩ := isNumD_is ha
      obtain ⟨m, rfl, _⟩ := isNumD_is hb
      exact ⟨(n, m), rfl, by rw [← isFracD_frac]; exact h⟩
  | _ => cases h
theorem all_frac : ∀ (l : Prog), (l.map fracD).all isFracD = l.all isFrac
  | [] => rfl
  | p :: l => by
    show (isFracD (fracD p) && (l.map fracD).all isFracD) = (isFrac p && l.all isFrac)
    rw [isFracD_frac, all_frac l]
theorem isProgD_prog (l : Prog) : isProgD (progD l) = isProg l := by
  show (decide ((l.map fracD).length ≤ 16) && (l.map fracD).all isFracD) = isProg l
  rw [all_frac, List.length_map]
  rfl
theorem isProgD_is {d : PyData} (h : isProgD d = true) : ∃ l : Prog, d = progD l ∧ isProg l = true := by
  cases d with
  | list ds =>
    obtain ⟨h1, h2⟩ := Bool.and_eq_true_iff.mp (show (decide (ds.length ≤ 16) && ds.all isFracD) = true from h)
    have key : ∀ es : List PyData, es.all isFracD = true → ∃ l : Prog, es = l.map fracD := by
      intro es
      induction es with
      | nil => intro _; exact ⟨[], rfl⟩
      | cons e es ih =>
        intro h
        obtain ⟨a, b⟩ := Bool.and_eq_true_iff.mp (show (isFracD e && es.all isFracD) = true from h)
        obtain ⟨p, rfl, _⟩ := isFracD_is a
        obtain ⟨l, rfl⟩ := ih b
        exact ⟨p :: l, rfl⟩
    obtain ⟨l, rfl⟩ := key ds h2
    exact ⟨l, rfl, by rw [← isProgD_prog]; exact h⟩
  | _ => cases h
theorem noL_frac (p : Nat × Nat) : noL (fracD p) = true := by
  simp [fracD, noL, noLs]
/-- a fraction at its place -/
theorem frac_at {K : PySem.W.Frag} {H : Hp} {v : V} {p : Nat × Nat} (h : Dp K H v (fracD p)) : ∃ b, v = .ref b ∧ SqT K H b [nI p.1, nI p.2] := by
  cases h with
  | tup hs ha =>
    cases ha with
    | cons h1 h2 =>
      cases h2 with
      | cons h2 h3 =>
        cases h3
        cases h1
        cases h2
        exact ⟨_, rfl, hs⟩
theorem prog_at {K : PySem.W.Frag} {H : Hp} {v : V} {l : Prog} (h : Dp K H v (progD l)) : ∃ (a : Addr) (xs : List V), v = .ref a ∧ SqL K H a xs ∧ DpAll K H xs (l.map fracD) ∧ xs.length = l.length := by
  cases h with
  | lst hs ha => exact ⟨_, _, rfl, hs, ha, by rw [dps_len ha, List.length_map]⟩
theorem prog_item {K : PySem.W.Frag} {H : Hp} {l : Prog} {xs : List V} {i : Nat} {x : V} (h : DpAll K H xs (l.map fracD)) (hx : xs[i]? = some x) : ∃ (hi : i < l.length) (b : Addr), x = .ref b ∧ SqT K H b [nI (l[i]).1, nI (l[i]).2] ∧ Dp K H x (fracD l[i]) := by
  obtain ⟨d, hd, hp⟩ := dps_at2 h hx
  rw [List.getElem?_map] at hd
  obtain ⟨p, hp2, rfl⟩ := Option.map_eq_some_iff.mp hd
  obtain ⟨hi, e⟩ := List.getElem?_eq_some_iff.mp hp2
  obtain ⟨b, e2, hs⟩ := frac_at hp
  rw [← e] at hs hp
  exact ⟨hi, b, e2, hs, hp⟩
theorem prog_get {K : PySem.W.Frag} {H : Hp} {l : Prog} {xs : List V} {i : Nat} (h : DpAll K H xs (l.map fracD)) (hi : i < l.length) : ∃ b, xs[i]? = some (.ref b) ∧ SqT K H b [nI (l[i]).1, nI (l[i]).2] := by
  have hl : xs.length = l.length := by rw [dps_len h, List.length_map]
  have hx : xs[i]? = some (xs[i]'(by omega)) := List.getElem?_eq_getElem (by omega)
  obtain ⟨_, b, e, hs, _⟩ := prog_item h hx
  exact ⟨b, by rw [hx, e], hs⟩
theorem atI0 {x : V} {xs : List V} : atI (x :: xs) 0 = some x := atI_nat (j := 0) rfl
theorem atI1 {x y : V} {xs : List V} : atI (x :: y :: xs) 1 = some y := atI_nat (j := 1) rfl
theorem atIn {xs : List V} {i : Nat} {x : V} (h : xs[i]? = some x) : atI xs (i : Int) = some x := atI_nat h
def optV : Option Nat → V
  | none => .non
  | some a => nI a
def optD : Option Nat → PyData
  | none => .none
  | some a => nD a
theorem dp_opt {K : PySem.W.Frag} {H : Hp} (o : Option Nat) : Dp K H (optV o) (optD o) := by
  cases o with
  | none => exact .non
  | some a => exact .int _
/-- a def that refuses by C what is none -/
def spNeed (K : PySem.W.Frag) (C : Addr) (f : PyData → Bool) : Sp := fun vs H Q E => ∃ (v : V) (d : PyData), vs = [v] ∧ Dp K H v d ∧ (f d = true → ∀ H', Same H H' → Q .non H') ∧ (f d = false → ∀ H', Same H H' → E (.ref C) none H')
end Fr
/-! ### lists walked while an exception is handled -/
namespace Hl
open PySem PySem.Spec PyProof.Rows L2 HotX L2H
section
variable {prog : Program} {w : World} {A : Around} {E : Value → Shared → Prop} {s : Shared}
theorem list_end {it l x1 : Addr} {i : Nat} {items : Array Value} {Q : Option Value → Shared → Prop} (hot : HotAt A x1 s.heap) (hx1 : x1 ≠ it)
    (hit : s.heap.IsListIter it l i) (hl : s.heap.IsList l items) (hx : items[i]? = none)
    (hQ : ∀ h', (∀ b o, b ≠ it → s.heap.get? b = some o → h'.get? b = some o) → Q none { s with heap := h' }) : wpAny (model prog w) A (pyNext (.ref it)) Q E s := by
  obtain ⟨hh, o1, vs1, h1, d1, c1⟩ := hot
  obtain ⟨o, ho, hc, hd⟩ := id hit
  obtain ⟨ol, hol, _, nl, hdl⟩ := hl
  have hu : ∀ f, (s.heap.update it f).get? x1 = some o1 := fun f => (Heap.get?_update_other _ _ (Ne.symm hx1)).trans h1
  unfold pyNext
  refine wpAny_bind (wpAny_attempt (wpAny_callSpecial?_slot (name := Str.ofString "__next__") hit.typeIs slot_listiter_next
    (wpAny_call_entry slot_listiter_next hit.typeIs entry_listiter_next ?_ (args_listiter_next _))))
  show wpAny _ _ (field (.ref it) 0 >>= _) _ _ s
  refine wpAny_bind (wpAny_field ho hd (x := .ref l) rfl ?_)
  show wpAny _ _ (if (Value.ref l == Value.none) = true then _ else _) _ _ s
  rw [if_neg (by intro z; cases z)]
  show wpAny _ _ (field (.ref it) 1 >>= _) _ _ s
  refine wpAny_bind (wpAny_field ho hd (x := .int i 0) rfl ?_)
  show wpAny _ _ (seqItems? (.ref l) >>= _) _ _ s
  refine wpAny_bind (wpAny_seqItems hol hdl ?_)
  simp only [Int.toNat_natCast, hx]
  refine wpAny_bind (wpAny_rule ?_)
  refine wpAny_bind (wpAny_setField ho hd (by simp) ?_)
  refine wpAny_bind ?_
  show wpAny _ _ (newExc (.type "StopIteration") []) _ _ _
  simp only [newExc, newTuple]
  refine wpAny_bind (wpAny_newObj_type ?_ (by size_fits))
  refine wpAny_bind (m := firstArgMember _ _) (wpAny_of_eq (a := Value.none) (by first | rfl | (simp only [firstArgMember]; rfl)) ?_)
  refine wpAny_newObj_type ?_ (by size_fits)
  refine raiseNew_hot ⟨hh, o1, vs1, Heap.get?_push_of_some _ (Heap.get?_push_of_some _ (hu _)), d1, c1⟩ (Nat.ne_of_lt (Heap.lt_size (Heap.get?_push_of_some _ (hu _)))) (Heap.get?_push_size _ rfl) rfl (by first | (simp; done) | (simp; omega)) ?_
  refine wpAny_bind (wpAny_isInstance (T := "StopIteration") (b := true) ⟨_, Heap.get?_update_self _ (Heap.get?_push_size _ rfl) rfl, rfl⟩ isSubtype_stop ?_)
  refine wpAny_pure (hQ _ fun b o hb e => ?_)
  have e2 : (s.heap.update it (Obj.mapFields (·.setIfInBounds 0 Value.none))).get? b = some o := (Heap.get?_update_other _ _ (Ne.symm hb)).trans e
  rw [Heap.get?_update_other _ _ (Nat.ne_of_gt (Heap.lt_size (Heap.get?_push_of_some _ e2)))]
  exact Heap.get?_push_of_some _ (Heap.get?_push_of_some _ e2)
theorem walksH {x1 : Addr} {o1 : Obj} {vs1 : Array Value} (hh : A.handled = some (.ref x1)) (d1 : o1.data = .fields vs1) (c1 : vs1[2]? = some .none) (I ax : Addr) (hne : ax ≠ I) (hx : x1 ≠ I) (items : Array Value) :
    Walks prog w A I [I, ax, x1] [I] items.size (fun i v => items[i]? = some v) (fun i h => h.IsListIter I ax i ∧ h.IsList ax items ∧ h.get? x1 = some o1) where
  sub := fun b hb => by simp at hb; simp [hb]
  frame := fun _ _ _ st hk => ⟨st.1.at fun o e => hk I (by simp) o e, st.2.1.at fun o e => hk ax (by simp) o e, hk x1 (by simp) _ st.2.2⟩
  item := fun i s Q E hi st hQ => by
    refine wpAny_pyNext_list_item st.1 st.2.1 (x := items[i]) (by simp [hi]) fun h' hit' hs' => ?_
    exact hQ _ h' s.toks (by simp [hi]) ⟨hit', st.2.1.extBut hs'.extBut hne, hs'.extBut x1 _ hx st.2.2⟩ fun b o hb e => hs'.extBut b o (fun h => hb (by simp [h])) e
  done := fun s Q E st hQ => list_end ⟨hh, o1, vs1, st.2.2, d1, c1⟩ hx st.1 st.2.1 (by simp) fun h' he' => hQ h' s.toks fun b o hb e => he' b o (fun h => hb (by simp [h])) e
  self := fun _ _ _ _ st hQ => wpAny_pyIter_listiter st.1 hQ

/-! ### sum([int(flag) for flag in flags]) -/
def ones (bs : List Bool) : List Int := bs.map fun b => if b then 1 else 0
theorem preSum_take (l : List Int) : ∀ n, n ≤ l.length → preSum (fun i => l.getD i 0) n = (l.take n).sum
  | 0, _ => by simp [preSum]
  | n + 1, h => by
    rw [preSum, preSum_take l n (by omega), List.take_succ, List.sum_append, List.getD_eq_getElem?_getD]
    congr 1
    rw [List.getElem?_eq_getElem (by omega)]
    simp
theorem vals_bl : ∀ {bs : List Bool} {us : List Value}, Vals (bs.map V.bl) us → us = bs.map Value.bool
  | [], _, .nil => rfl
  | b :: bs, _, .cons h t => by
    have e : _ = Value.bool b := h
    rw [e, vals_bl t]
    rfl
theorem paired_ones : ∀ {bs : List Bool} {ys : List Value}, Paired (fun v y => ∃ (b : Bool) (t : Tok), v = Value.bool b ∧ y = .int (if b then 1 else 0) t) (bs.map Value.bool) ys → ∀ (j : Nat) (y : Value), ys[j]? = some y → ∃ t, y = .int ((ones bs).getD j 0) t
  | [], _, .nil, j, y, h => by simp at h
  | b :: bs, _, .cons h t, j, y, e => by
    cases j with
    | zero =>
      obtain ⟨b', t', e1, e2⟩ := h
      cases e1
      rw [List.getElem?_cons_zero] at e
      cases e
      exact ⟨t', e2⟩
    | succ j =>
      rw [List.getElem?_cons_succ] at e
      exact paired_ones t j y e
theorem len_paired {F : Value → Value → Prop} : ∀ {a b : List Value}, Paired F a b → a.length = b.length
  | _, _, .nil => rfl
  | _, _, .cons _ t => congrArg (· + 1) (len_paired t)
end
def tSumB (i : Nat) (K : PySem.W.Frag) : TE := fun σ H Q => ∃ (a : Addr) (bs : List Bool), σ[i]? = some (some (.ref a)) ∧ SqL K H a (bs.map V.bl) ∧ Q (.int (ones bs).sum) H
theorem pe_sumB {X : Cx} {i : Nat} {x y : Str} {scope : Scope} {p1 p2 p3 px py pos pf pc : Pos} (hc : HotC X) (hgs : Gl X "sum") (hms : X.mg "sum" = none) (hmi : X.mg "int" = none)
    (hN : X.N[i]? = some y) (hv : Vis X.env.scope y) (hd : (y == ("__debug__" : Str)) = false) (hcd : (y == ("__classdict__" : Str)) = false) (hdx : (x == ("__debug__" : Str)) = false)
    (hfree : ∀ y ∈ scope.names, y.2 ≠ .free) (hcell : ∀ y ∈ scope.names, y.2 ≠ .cell) (hkind : scope.kind = .function)
    (hnames : ∀ y ∈ scope.names, y.2 = .local → scope.names.lookup y.1 = some .local) (hx : scope.names.lookup x = some .local) (hi : scope.names.lookup ("int" : Str) = some .globalImplicit) :
    PE X (.Call (.Name "sum" pf) [.ListComp (.Call (.Name "int" p1) [.Name x p2] [] p3) [⟨.Name x px, .Name y py, [], 0⟩] scope pos] [] pc) (tSumB i X.K) := by
  refine ⟨fun pins s σ H Q I h => ?_⟩
  obtain ⟨a, bs, e1, hl, q⟩ := h
  obtain ⟨p, ⟨hh, v1, d1, c1⟩, hp⟩ := hc
  have hx1 := (I.pin p (List.mem_append_left _ hp)).1
  obtain ⟨its, rv, hpl, hz⟩ := I.list hl
  have eits := vals_bl rv
  refine wpAny_Call_Name_kw (ld_blt I hgs hms (by rfl) ?_)
  refine PyProof.Rows.callWith_builtin1 ?_ (by rfl) (by rfl)
  refine Calls.spliced_cons ?_
  refine wpAny_ListComp_walk (fun _ => true) (fun v y => ∃ (b : Bool) (t : Tok), v = Value.bool b ∧ y = .int (if b then 1 else 0) t) hfree hcell hkind hnames hx ?_
  refine thn ((pe_var (X := X) (pos := py) hN hv hd hcd).run pins s σ H (fun v H' => v = .ref a ∧ H' = H) I ⟨.ref a, e1, rfl, rfl⟩) fun u s1 ⟨v, H1, I1, r1, ev, eH⟩ => ?_
  subst ev
  obtain rfl : u = Value.ref a := r1
  subst eH
  obtain ⟨its', rv', hpl', _⟩ := I1.list hl
  have eits' := vals_bl rv'
  have hx1' := (I1.pin p (List.mem_append_left _ hp)).1
  have hli := hpl'.isList
  refine wpAny_pyIter_list hli ?_
  have aL : a ≠ s1.heap.objs.size := by
    obtain ⟨o, ho, _⟩ := hli
    exact Nat.ne_of_lt (Heap.lt_size ho)
  have xL : p.1 ≠ s1.heap.objs.size := Nat.ne_of_lt (Heap.lt_size hx1')
  have ps : ∀ {o : Obj} (b : Addr) (u : Obj), s1.heap.get? b = some u → (s1.heap.push o).get? b = some u := fun b u e => Heap.get?_push_of_some _ e
  refine ⟨_, _, _, _, _, _, rfl, walksH hh d1 c1 s1.heap.objs.size a aL xL its'.toArray, ?_, ⟨⟨_, Heap.get?_push_size _ rfl, rfl, rfl⟩, hli.at fun o e => ps _ o e, ps _ _ hx1'⟩, ?_, ?_, ?_⟩
  · rw [eits']
    rw [List.length_map] at hz
    simpa using hz
  · intro b hb
    have e : (s1.heap.push { cls := .type "list_iterator", data := .fields #[.ref a, .int 0 0] }).objs.size = s1.heap.objs.size + 1 := Heap.size_push ..
    show b < (s1.heap.push { cls := .type "list_iterator", data := .fields #[.ref a, .int 0 0] }).objs.size
    rw [e]
    have hlt1 := Heap.lt_size hx1'
    have hlt2 : a < s1.heap.objs.size := by
      obtain ⟨o, ho, _⟩ := hli
      exact Heap.lt_size ho
    have hb' : b = s1.heap.objs.size ∨ b = a ∨ b = p.1 := by simpa using hb
    rcases hb' with rfl | rfl | rfl
    · exact Nat.lt_succ_self _
    · exact Nat.lt_succ_of_lt hlt2
    · exact Nat.lt_succ_of_lt hlt1
  · refine ⟨fun C j v s3 m3 E' hP hn hm hk ht => ?_, fun C j v s3 m3 E' hP hpv hn hm hk ht => ?_⟩
    · rw [List.forIn_nil]
      exact wpAny_pure ⟨rfl, s3.heap, s3.toks, rfl, fun _ _ e => e⟩
    · have old : ∀ b o, X.base.get? b = some o → s3.heap.get? b = some o := fun b o e => hk b o (fun z => by
        have z : b = s1.heap.objs.size := by simpa using z
        exact Nat.ne_of_lt (Heap.lt_size (I1.bk b o e)) z) (ps b o (I1.bk b o e))
      have hvb : ∃ b : Bool, v = .bool b := by
        have hm : v ∈ its' := by
          have := Array.mem_of_getElem? hP
          simpa using this
        rw [eits'] at hm
        obtain ⟨b, _, e⟩ := List.mem_map.mp hm
        exact ⟨b, e.symm⟩
      obtain ⟨b, rfl⟩ := hvb
      obtain ⟨mb, h1, h2⟩ := I1.mod.blt
      refine wpAny_Call_Name_kw (Calls.Name_function_global hkind hi (Calls.loadGlobal_builtin (mg := X.mg) (mb := mb) ?_ hmi ?_ ((h2 "int" (by decide)).trans (by rfl)) ?_))
      · show s3.heap.Ns X.env.globals X.mg
        rw [I1.ok.glob]
        exact I1.mod.glob.keeps old
      · show s3.heap.Ns X.env.builtins mb
        rw [I1.ok.blt]
        exact h1.keeps old
      · refine PyProof.Rows.callWith_type1 ?_ (by rfl) (by rfl)
        refine Calls.spliced_cons (wpAny_Name (wpAny_loadName_local hkind hx hn hm ?_) hdx)
        refine Calls.spliced_nil ?_
        refine call_int_bool ⟨⟨b, _, rfl, rfl⟩, s3.heap, s3.toks + 1, rfl, fun _ _ e => e⟩
  · intro D h' tk ys vs hD hlD hpD hlen hP hF hk
    have evs : vs.filter (fun _ => true) = bs.map Value.bool := by
      rw [List.filter_eq_self.mpr (fun _ _ => rfl), ← eits']
      apply List.ext_getElem?
      intro j
      by_cases hj : j < vs.length
      · have e := hP j vs[j] (List.getElem?_eq_getElem hj)
        rw [List.getElem?_eq_getElem hj, ← e]
        simp
      · rw [List.getElem?_eq_none (by omega), List.getElem?_eq_none]
        have : its'.toArray.size = its'.length := by simp
        omega
    rw [evs] at hF
    have kp : ∀ b o, s1.heap.get? b = some o → h'.get? b = some o := fun b o e => hk b o (fun z => by
        have z : b = s1.heap.objs.size := by simpa using z
        exact Nat.ne_of_lt (Heap.lt_size e) z) (ps b o e)
    refine Calls.spliced_nil ?_
    have hx2 := kp _ _ hx1'
    refine call_sum_walkG (wpAny_pyIter_list hlD ?_)
    have DL : D ≠ h'.objs.size := by
      obtain ⟨o, ho, _⟩ := hlD
      exact Nat.ne_of_lt (Heap.lt_size ho)
    have ps2 : ∀ {o : Obj} (b : Addr) (u : Obj), h'.get? b = some u → (h'.push o).get? b = some u := fun b u e => Heap.get?_push_of_some _ e
    refine ⟨_, _, _, _, _, _, fun i => (ones bs).getD i 0, rfl, walksH (A := X.A.in1) hh d1 c1 h'.objs.size D DL (Nat.ne_of_lt (Heap.lt_size hx2)) ys, ⟨⟨_, Heap.get?_push_size _ rfl, rfl, rfl⟩, hlD.at fun o e => ps2 _ o e, ps2 _ _ hx2⟩, ?_, ?_, ?_⟩
    · intro b hb
      have e : (h'.push { cls := .type "list_iterator", data := .fields #[.ref D, .int 0 0] }).objs.size = h'.objs.size + 1 := Heap.size_push ..
      show b < (h'.push { cls := .type "list_iterator", data := .fields #[.ref D, .int 0 0] }).objs.size
      rw [e]
      have hlt1 := Heap.lt_size hx2
      have hlt2 : D < h'.objs.size := by
        obtain ⟨o, ho, _⟩ := hlD
        exact Heap.lt_size ho
      have hb' : b = h'.objs.size ∨ b = D ∨ b = p.1 := by simpa using hb
      rcases hb' with rfl | rfl | rfl
      · exact Nat.lt_succ_self _
      · exact Nat.lt_succ_of_lt hlt2
      · exact Nat.lt_succ_of_lt hlt1
    · intro j y e
      exact paired_ones hF j y (by simpa using e)
    · intro h2 tk2 t2 hk2
      have eL : ys.size = (ones bs).length := by
        have := len_paired hF
        simp only [List.length_map, Array.length_toList] at this
        unfold ones
        rw [List.length_map]
        exact this.symm
      rw [eL, preSum_take _ _ (Nat.le_refl _), List.take_length]
      refine ⟨.int _, H1, I1.kept fun b o e => hk2 b o (fun z => ?_) (ps2 b o (kp b o e)), ⟨_, rfl⟩, q⟩
      have z : b = h'.objs.size := by simpa using z
      exact Nat.ne_of_lt (Heap.lt_size (kp b o e)) z
end Hl
namespace Hl
open PySem PySem.Spec PyProof.Rows L2 HotX L2H LamX
/-! ### a def called while an exception is handled, told of that very exception -/
theorem run_hot {CX : CXT} {P : Program} {w : World} {K : PySem.W.Frag} {mg : Str → Option Value} {base : Heap} {k : Nat} {x : Str} {params : Arguments} {body : List Stmt} {scope : Scope} {f : Addr} {fd : FuncData} {N ps : List Str}
    (D : FunD K x x params body scope [] [] f fd) (S : FnScope N ps scope) {A : Around} {outer : List Env} {s : Shared} {H : Hp} {args : Args} {us : List Value} {vs : List V} {Q : VK} {E : XK} {p : Addr × Obj}
    (hr : RoomH (k + 1) A) (hpin : PinOk outer H s p) (e0 : Env0 P w K mg base A outer s H) (hb : BindsTo s fd args (ps.zip us)) (r : Vals vs us) (hl : vs.length = ps.length)
    (hbody : ∀ cdv, RoomH k (A.deeper (envOfC x scope s.heap.objs.size f cdv)) → ∃ t, PSs (cxH CX P w K mg base N x scope f cdv A outer s H E p) body t ∧ t { nx := fun _ H' => Q .non H', rt := Q } (L2.start N vs) H) :
    codeAny (model P w) A (.call (.ref f) args) (CR CX outer P w H s Q E) s := by
  obtain ⟨oc, od, dV, kV, doc, pm, an, cdv, ct, osl, rfl, lk, hcd, _, _⟩ := D.ex
  have old : ∀ b o, base.get? b = some o → s.heap.get? b = some o := fun b o e => (e0.bs b o e).1
  refine codeAny_call_function hr.depth (e0.mod.kin.keeps old _ _ lk) rfl S.co S.gen rfl (PySem.W.codeRec_of (e0.mod.kin.keeps old) hcd) (hb _ _ _ _ (wpAny_newFunctionEnv_cells S.kind (fun y hy => ?_) fun env he s1 y1 => ?_))
  · rcases S.par y.1 (List.of_mem_zip (a := y.1) (b := y.2) hy).1 with q | q
    · exact Or.inl q
    · exact Or.inr ⟨q, PySem.W.cellsFrom_some _ _ _ (Or.inl q)⟩
  · subst he
    obtain ⟨t, ht, hq⟩ := hbody cdv (hr.deeper _)
    have I : Inv (cxH CX P w K mg base N x scope f cdv A outer s H E p) [] (L2.start N vs) H s1 := inv_startH S hpin e0 hl r y1
    refine ⟨(e0.mod.nolimit.keeps old).keeps y1.toInCall.keep, codeAny_func (wpAny_mono (ht.run [] s1 _ H _ I hq) (fun fl s' hs => ?_) fun _ _ z => z)⟩
    match fl, hs with
    | .ret u, ⟨v, σ', H', J, rv, z⟩ => exact ⟨v, H', J.os, J.bare, J.base, J.hok, rv, z⟩
    | .next, ⟨σ', H', J, z⟩ => exact ⟨.non, H', J.os, J.bare, J.base, J.hok, rfl, z⟩
    | .brk, ⟨_, _, _, z⟩ => exact z.elim
    | .cont, ⟨_, _, _, z⟩ => exact z.elim
/-- isinstance of the exception that is handled -/
theorem call_isH {X : Cx} {D : Addr} {p : Addr × Obj} (C : ExcC X.K D) (hp : p ∈ X.pn) (h1 : p.2.cls = .ref D) (h2 : p.2.dict = none) (hf : ∃ vs, p.2.data = .fields vs) : CallR X (.builtin "isinstance") (rIsE X.K D p.1) := by
  intro pins s σ H xs us Q I r h
  obtain ⟨c, cv, b, rfl, hcv, e, q⟩ := h
  match r with
  | .cons rx (.cons rt .nil) =>
    cases rx
    have ec := hcv _ rt
    subst ec
    have hget := (I.pin p (List.mem_append_left _ hp)).1
    obtain ⟨a, oc, od, oda, osl⟩ := p
    obtain ⟨vs, hv⟩ := hf
    dsimp only at h1 h2 hv hget
    subst h1 h2 hv
    exact PySem.W.kia_one (PySem.W.handS_kitx_exc C.hg C.hk C.hs C.hd C.ha C.hn C.ht C.hm) I.kIn (x := .ref a) (show PySem.W.InstAt s.heap a _ D none from ⟨hget, rfl, rfl, trivial⟩) e (fun z => nomatch z) fun tk => ⟨.bl b, H, I.kept (t' := tk) fun _ _ z => z, rfl, q⟩
/-! ### the lambda's body, told by the contexts without a context -/
def lamN (X : Cx) (A : Around) (outer : List Env) (s : Shared) (H : Hp) (E : XK) (scope : Scope) (f c' : Addr) : Cx :=
  (lamCx X A outer s H E scope f c').wish fun e s' => wpAny (model X.prog X.w) (A.deeper (lamEnv X scope s.heap.objs.size f c')) (leaving (lamEnv X scope s.heap.objs.size f c') e) (fun _ s'' => L2N.CX X.prog X.w outer H s E e s'') (fun e' s'' => L2N.CX X.prog X.w outer H s E e' s'') s'
section
variable {X : Cx} {pins : List (Addr × Obj)} {σ : L2.St} {H HZ : Hp} {s s1 : Shared}
/-- the lambda called in the context Z, entered at s -/
theorem actN {AZ : Around} {SZ : List Env} {f c' : Addr} {pm ctv : Value} {params : Arguments} {body : Expr} {scope : Scope} {k : Nat} {E : XK} {tb : TE} {Q : VK}
    (I : Inv X pins σ H s) (L : LamS X.env.scope scope) (hf : s.heap.get? f = some (PySem.W.kla_obj "<lambda>" (X.env.qual ++ "<lambda>") params body scope (cloFrom X.env.cells scope.names []) pm c' ctv)) (hfn : H f = none) (hfr : f ∉ frs X.stack)
    (hbind : bindArgs (PySem.W.kla_fn "<lambda>" (X.env.qual ++ "<lambda>") params body scope (cloFrom X.env.cells scope.names []) pm (.ref c') ctv) ⟨[], []⟩ = pure [])
    (e0 : Env0 X.prog X.w X.K X.mg X.base AZ SZ s1 HZ) (un : Un (frs X.stack) [] H HZ s.heap s1.heap) (nl : s1.heap.NoLimit) (hr : Room (k + 1) AZ)
    (hc : HZ c' = some (CodeO c' (X.env.qual ++ "<lambda>"))) (hbody : ∀ (A : Around) (outer : List Env) (s : Shared) (H : Hp), Room k (A.deeper (lamEnv X scope s.heap.objs.size f c')) → PE (lamN X A outer s H E scope f c') body tb) (ht : tb σ HZ Q) :
    codeAny (model X.prog X.w) AZ (.call (.ref f) ⟨[], []⟩) (CR (L2N.CX X.prog X.w) SZ X.prog X.w HZ s1 Q E) s1 := by
  have of1 := un.keep f _ hf hfn hfr (fun z => nomatch (show f ∈ ([] : List Addr) from z))
  obtain ⟨⟨oc, vs, t, hoc, hdc, hvc⟩, _, _⟩ := e0.hok c' _ hc
  refine PySem.W.kla_callFunE hr.depth of1 rfl L.co L.gen rfl ⟨c', oc, vs, t, rfl, hoc, hdc, hvc⟩ (hbind ▸ wpAny_pure ?_)
  refine wpAny_newFunctionEnv (fun y hy => (L.own y hy).2) (fun y hy => absurd hy (by simp)) (fun h₁ hns hsb => ⟨nl.fresh _ hsb, ?_⟩) L.kind
  have kp : ∀ b o, s1.heap.get? b = some o → h₁.get? b = some o := fun b o e => hsb.extBut b o (Nat.ne_of_lt (Heap.lt_size e)) (Heap.get?_push_of_some _ e)
  have J := (lam_start2 (A := AZ) (outer := SZ) (E := E) (f := f) (c' := c') (tk := s1.toks + ([] : List (Str × Value)).length) I L e0 hr.hd un hns kp).wish (fun e s' => wpAny (model X.prog X.w) (AZ.deeper (lamEnv X scope s1.heap.objs.size f c')) (leaving (lamEnv X scope s1.heap.objs.size f c') e) (fun _ s'' => L2N.CX X.prog X.w SZ HZ s1 E e s'') (fun e' s'' => L2N.CX X.prog X.w SZ HZ s1 E e' s'') s')
  show codeAny _ _ (.expr body (lamEnv X scope s1.heap.objs.size f c')) _ _
  refine PySem.W.kla_codeExpr (wpAny_mono ((hbody AZ SZ s1 HZ (hr.deeper _)).run [] _ _ HZ Q J ht) (fun v s' hq => ?_) fun _ _ z => z)
  obtain ⟨w', H', J', rv, q⟩ := hq
  exact ⟨w', H', J'.os, J'.bare, J'.base, J'.hok, rv, q⟩
end
theorem takesN {X : Cx} : L2N.Takes X (fun _ _ _ _ => False) := fun _ _ x => by
  obtain ⟨_, _, _, _, _, _, _, _, _, _, _, _, _, _, _, _, z⟩ := x
  exact z.elim
/-- the def that names the exception: nm D is its word -/
def WordP (P : Program) (w : World) (K : PySem.W.Frag) (mg : Str → Option Value) (base : Heap) (k : Nat) (f : Addr) (fd : FuncData) (nm : Addr → Str → Prop) : Prop :=
  ∀ (A : Around) (outer : List Env) (s : Shared) (H : Hp) (args : Args) (p : Addr × Obj) (D : Addr) (n : Str) (Q : VK), RoomH k A → Hot1 A p → PinOk outer H s p → p.2.cls = .ref D → p.2.dict = none → nm D n →
    Env0 P w K mg base A outer s H → BindsTo s fd args [("e", .ref p.1)] → (∀ H', Same H H' → Q (.str n) H') → codeAny (model P w) A (.call (.ref f) args) (CR L2.CX0 outer P w H s Q C8.E0) s
/-! ### told(lambda: body) -/
abbrev XTold (nm : Addr → Str → Prop) (Q : VK) : XK := fun cls d H' => ∃ D n, cls = .ref D ∧ d = none ∧ nm D n ∧ ∀ H'', Same H' H'' → Q (.str n) H''
def tTold (T : List (Addr × Str)) (nm : Addr → Str → Prop) (t : XK → TE) : TE := fun σ H Q => Tabs T H ∧ ∀ H1, ExtN H H1 → Tabs T H1 → t (XTold nm Q) σ H1 Q
theorem pe_told {X : Cx} {T : List (Addr × Str)} {nm : Addr → Str → Prop} {k kw : Nat} {g gw CS c P : Addr} {fdT fdW : FuncData} {aT : Arguments} {bT : List Stmt} {sT : Scope} {params : Arguments} {body : Expr} {scope : Scope} {t : XK → TE} {p lpos pos p1 p2 p3 p4 p5 p6 p7 p8 p9 p10 : Pos}
    (D : FunD X.K "_law_told" "_law_told" aT bT sT [] [] g fdT) (hbT : bT = [.Try [.Return (some (.Call (.Name "deed" p1) [] [] p2)) p3] [.ExceptHandler (some (.Name "RowError" p4)) (some "e") [.Return (some (.Call (.Name "_law_word" p5) [.Name "e" p6] [] p7)) p8] p9] [] [] p10])
    (Sg : FnScope ["deed", "e"] ["deed"] sT) (hlE : sT.names.lookup ("e" : Str) = some .local) (hlD : sT.names.lookup ("deed" : Str) = some .local) (hgT : Gl X "_law_told") (hmT : X.mg "_law_told" = some (.ref g)) (bdT : L2.Binds X.K fdT ["deed"] [])
    (hRE : X.mg "RowError" = some (.ref CS)) (hgRE : sT.names.lookup ("RowError" : Str) = some .globalImplicit) (hmW : X.mg "_law_word" = some (.ref gw)) (hgW : sT.names.lookup ("_law_word" : Str) = some .globalImplicit) (hkW : PySem.W.keepIn X.K (.ref gw) = true)
    (bdW : L2.Binds X.K fdW ["e"] []) (Wd : WordP X.prog X.w X.K X.mg X.base kw gw fdW nm) (hex : ∀ D n, nm D n → PySem.W.exmOne X.K (.ref D) (.ref CS) = some true)
    (TB : TabB X.base X.mg c P) (hcode : X.env.code = .ref c) (hmem : (P, X.env.qual ++ "<lambda>") ∈ T) (hu : ∀ p ∈ T, p.1 = P → p.2 = X.env.qual ++ "<lambda>") (hr : Room (k + 2) X.A) (hkw : kw ≤ k + 1) (L : LamS X.env.scope scope) (hdef : defaultsOf params X.env = ([], []))
    (hbind : ∀ (q : Str) (cl : List (Str × Addr)) (pm cv ctv : Value), bindArgs (PySem.W.kla_fn "<lambda>" q params body scope cl pm cv ctv) ⟨[], []⟩ = pure [])
    (hbody : ∀ (A : Around) (outer : List Env) (s : Shared) (H : Hp) (E : XK) (f c' : Addr), Room k (A.deeper (lamEnv X scope s.heap.objs.size f c')) → PE (lamN X A outer s H E scope f c') body (t E)) :
    PE X (.Call (.Name "_law_told" p) [.Lambda params body scope lpos] [] pos) (tTold T nm t) := by
  refine ⟨fun pins s σ H Q I h => ?_⟩
  obtain ⟨hT, h⟩ := h
  obtain ⟨oc, od, dV, kV, doc, pmT, an, cdT, ct, osl, rfl, lk, hcd, _, _⟩ := D.ex
  refine wpAny_Call_Name_kw (ld_glob I hgT hmT ?_ (by decide))
  refine PySem.W.callWith_K (h₀ := X.base) I.ok.mod.kin D.kp ?_ (by rfl) (by rfl)
  show wpAny _ _ (spliced ((false, eval (.Lambda params body scope lpos) X.env) :: backTo pos (starEach [] X.env))) _ _ s
  refine Calls.spliced_cons (lam_make2 I TB hcode hmem hu hT hdef (L.has I.ok) fun f c' pm' ctv H1 s' I1 eN T1 hf hfn hfr hco => ?_)
  refine Calls.spliced_nil ⟨I1.kIn, ?_⟩
  have hq := h H1 eN T1
  have rc : codeAny (model X.prog X.w) X.A (.call (.ref g) ⟨[.ref f], []⟩) (CR L2.CX0 X.stack X.prog X.w H1 s' Q C8.E0) s' := by
    refine run_ofS (N := ["deed", "e"]) (ps := ["deed"]) (us := [.ref f]) (vs := [.ref f]) lk hcd Sg hr I1.env0 (bdT s' [.ref f] I1.kIn rfl) (.cons rfl .nil) rfl fun hr' => ?_
    rw [hbT]
    generalize hZ : cxOf L2.CX0 X.prog X.w X.K X.mg X.base ["deed", "e"] "_law_told" sT g cdT X.A X.stack s' H1 C8.E0 = Z0
    have hps : PSs Z0.nox [.Try [.Return (some (.Call (.Name "deed" p1) [] [] p2)) p3] [.ExceptHandler (some (.Name "RowError" p4)) (some "e") [.Return (some (.Call (.Name "_law_word" p5) [.Name "e" p6] [] p7)) p8] p9] [] [] p10] _ :=
      pss_one (L2N.ps_try_as (X := Z0.nox) (c := .ref CS) (i := 1)
        (tb := fun W D σZ HZ => ∃ E : XK, (∀ cls d H'', E cls d H'' → W cls d σZ H'') ∧ σZ[0]? = some (some (.ref f)) ∧ HZ c' = some (CodeO c' (X.env.qual ++ "<lambda>")) ∧ t E σ HZ D.rt)
        (ts := fun a cls d D σZ HZ => ∃ DD n, cls = .ref DD ∧ d = none ∧ nm DD n ∧ σZ[1]? = some (some (.ref a)) ∧ ∀ H'', Same HZ H'' → D.rt (.str n) H'')
        (by rw [← hZ]; rfl) (by rw [← hZ]; rfl) (by rw [← hZ]; exact Sg.nd) (by rw [← hZ]; rfl) (by rw [← hZ]; exact hlE) (by rw [← hZ]; exact ⟨hgRE, by decide, .inl hRE⟩) takesN (fun W pn xe tk _ => ?_) (fun a oe cls d pn hz hdat => ?_))
    · refine ⟨_, hps.nox, XTold nm Q, fun cls d H'' e => ?_, by rfl, hco, hq⟩
      obtain ⟨DD, n, rfl, rfl, hn, q⟩ := e
      have hK : Z0.nox.K = X.K := by rw [← hZ]; rfl
      refine ⟨true, by rw [hK]; exact hex DD n hn, fun _ a na => ⟨DD, n, rfl, rfl, hn, by rfl, q⟩, fun z => nomatch z⟩
    · refine ⟨fun pinsZ sZ σZ HZ DZ IZ hh => ?_⟩
      obtain ⟨E, hW, h0, hc, ht⟩ := hh
      have pe : PE (Z0.nox.tr pn xe) (.Call (.Name "deed" p1) [] [] p2) (fun σZ HZ Q => (∀ cls d H'', E cls d H'' → W cls d σZ H'') ∧ σZ[0]? = some (some (.ref f)) ∧ HZ c' = some (CodeO c' (X.env.qual ++ "<lambda>")) ∧ t E σ HZ Q) := by
        subst hZ
        refine ⟨fun pinsZ sZ σZ HZ QZ IZ h => ?_⟩
        obtain ⟨hW, h0, hc, ht⟩ := h
        refine wpAny_Call_Name_kw (thn ((pe_var (pos := p1) (i := 0) rfl (.inl hlD)).run pinsZ sZ σZ HZ (fun v H2 => v = .ref f ∧ H2 = HZ) IZ ⟨.ref f, h0, rfl, rfl⟩) fun u s1 ⟨v, H2, I2, r2, ev, eH⟩ => ?_)
        subst ev
        subst eH
        obtain rfl : u = Value.ref f := r2
        have un : Un (frs X.stack) [] H1 H2 s'.heap s1.heap := I2.base
        have of1 := un.keep f _ hf hfn hfr (fun z => nomatch (show f ∈ ([] : List Addr) from z))
        refine PySem.W.callWith_F0 ⟨_, _, _, _, of1⟩ ?_
        have rc2 : codeAny (model X.prog X.w) (X.A.deeper (envOfC "_law_told" sT s'.heap.objs.size g cdT)) (.call (.ref f) ⟨[], []⟩) (CR (L2N.CX X.prog X.w) (envOfC "_law_told" sT s'.heap.objs.size g cdT :: X.stack) X.prog X.w H2 s1 QZ E) s1 :=
          actN (X := X) (pm := pm') (ctv := ctv) I1 L hf hfn hfr (hbind _ _ _ _ _) I2.env0 un I2.nolimit hr' hc (fun A outer s H hr2 => hbody A outer s H E f c' hr2) ht
        refine wpAny_call (codeAny_mono rc2 fun r s2 hq2 => ?_)
        match r, hq2 with
        | .error e, hq2 => exact tk e s2 (L2N.XE.of_call I2 (fun cls d H' h => hW cls d H' h) hq2)
        | .ok (.ret u), hq2 => exact I2.after hq2
      exact (pss_one (ps_ret (pos := p3) pe)).run pinsZ sZ σZ HZ DZ IZ ⟨hW, h0, hc, ht⟩
    · refine ⟨fun pinsZ sZ σZ HZ DZ IZ hh => ?_⟩
      have pe : PE (Z0.nox.suite a ((a, oe) :: pn)) (.Call (.Name "_law_word" p5) [.Name "e" p6] [] p7) (fun σZ HZ Q => ∃ DD n, cls = .ref DD ∧ d = none ∧ nm DD n ∧ σZ[1]? = some (some (.ref a)) ∧ ∀ H'', Same HZ H'' → Q (.str n) H'') := by
        subst hZ
        refine ⟨fun pinsZ sZ σZ HZ QZ IZ h => ?_⟩
        obtain ⟨DD, n, rfl, rfl, hn, h1, q⟩ := h
        refine wpAny_Call_Name_kw (ld_glob IZ hgW hmW ?_ (by decide))
        refine PySem.W.callWith_K (h₀ := X.base) IZ.ok.mod.kin hkW ?_ (by rfl) (by rfl)
        refine Calls.spliced_cons (thn ((pe_var (pos := p6) (i := 1) rfl (.inl hlE)).run pinsZ sZ σZ HZ (fun v H2 => v = .ref a ∧ H2 = HZ) IZ ⟨.ref a, h1, rfl, rfl⟩) fun u s1 ⟨v, H2, I2, r2, ev, eH⟩ => ?_)
        subst ev
        subst eH
        obtain rfl : u = Value.ref a := r2
        refine Calls.spliced_nil ⟨I2.kIn, ?_⟩
        have P1 := I2.pin (a, oe) (List.mem_append_left _ List.mem_cons_self)
        have b := bdW s1 [.ref a] I2.kIn rfl
        obtain ⟨vs, hv⟩ := hdat
        refine wpAny_call (codeAny_mono (Wd _ _ s1 H2 ⟨[.ref a], []⟩ (a, oe) DD n QZ (RoomH.mono (k := k + 1) ⟨hr'.dp, hr'.un⟩ hkw) ⟨rfl, vs, hv, hz.2.2 vs hv⟩ ⟨P1.1, P1.2.1, fun hm => (List.mem_cons.mp (I2.stkSub a hm)).elim P1.2.2.1 P1.2.2.2.1, P1.2.2.2.2⟩ hz.1 hz.2.1 hn I2.env0 b q) fun r s2 hq2 => ?_)
        match r, hq2 with
        | .error e, hq2 => exact (show False from hq2).elim
        | .ok (.ret u), hq2 => exact I2.after hq2
      exact (pss_one (ps_ret (pos := p8) pe)).run pinsZ sZ σZ HZ DZ IZ hh
  refine wpAny_call (codeAny_mono rc fun r s2 hq2 => ?_)
  match r, hq2 with
  | .error e, hq2 => exact (show False from hq2).elim
  | .ok (.ret u), hq2 => exact I1.after hq2
end Hl
namespace Fr
open PySem PySem.Spec PyProof.Rows L2 LamX
/-! ### the classes of the refusals -/
def excOne (K : PySem.W.Frag) (names : List Str) (n : Str) : Bool :=
  ((PySem.W.findIn K (.ref (ga K n)) "__getattribute__" == some (some (.builtin "BaseException.__getattribute__"))) && ((PySem.W.findIn K (.ref (ga K n)) "__getattr__" == some none) && ((PySem.W.subIn K (.ref (ga K n)) (.type "BaseException") == some true) && (PySem.W.hasDictIn K (ga K n)
    && ((PySem.W.findIn K (.ref (ga K n)) "__class__" == some (some (.builtin "object.__class__"))) && ((PySem.W.specialIn K (.builtin "object.__class__") "__get__" == some (some (.builtin "getset_descriptor.__get__"))) && ((PySem.W.takesIn K (.builtin "object.__class__") == some true) && ((PySem.W.mroIn K (ga K n) (.type "object") == some true)
    && ((names.all fun m => PySem.W.kitOne K (.ref (ga K n)) (.ref (ga K m)) == some (n == m)) && ((PySem.W.kitOne K (.ref (ga K n)) (.type "ValueError") == some true) && (PySem.W.exmOne K (.ref (ga K n)) (.ref (ga K "RowError")) == some true)))))))))))
def excB (K : PySem.W.Frag) (names : List Str) : Bool := names.all (excOne K names)
theorem exc_of {K : PySem.W.Frag} {names : List Str} {n : Str} (h : excB K names = true) (hn : n ∈ names) :
    ExcC K (ga K n) ∧ (∀ m ∈ names, PySem.W.kitOne K (.ref (ga K n)) (.ref (ga K m)) = some (n == m)) ∧ PySem.W.kitOne K (.ref (ga K n)) (.type "ValueError") = some true ∧ PySem.W.exmOne K (.ref (ga K n)) (.ref (ga K "RowError")) = some true := by
  have h1 := List.all_eq_true.mp h n hn
  unfold excOne at h1
  simp only [Bool.and_eq_true, beq_iff_eq, List.all_eq_true] at h1
  obtain ⟨a1, a2, a3, a4, a5, a6, a7, a8, a9, a10, a11⟩ := h1
  exact ⟨⟨a1, a2, a3, a4, a5, a6, a7, a8⟩, a9, a10, a11⟩
def Nm (K : PySem.W.Frag) (names : List Str) (D : Addr) (n : Str) : Prop := n ∈ names ∧ D = ga K n
/-! ### all but tables stays -/
theorem ext_l {K : PySem.W.Frag} {H H' : Hp} {a : Addr} {xs : List V} (e : ExtN H H') (h : SqL K H a xs) : SqL K H' a xs := by
  rcases h with (h | ⟨o, h⟩) | h
  · exact .inl (.inl (e _ _ h (fun _ z => by cases z)))
  · exact .inl (.inr ⟨o, e _ _ h (fun _ z => by cases z)⟩)
  · exact .inr h
theorem ext_t {K : PySem.W.Frag} {H H' : Hp} {a : Addr} {xs : List V} (e : ExtN H H') (h : SqT K H a xs) : SqT K H' a xs := by
  rcases h with (h | ⟨o, h⟩) | h
  · exact .inl (.inl (e _ _ h (fun _ z => by cases z)))
  · exact .inl (.inr ⟨o, e _ _ h (fun _ z => by cases z)⟩)
  · exact .inr h
mutual
theorem ext_dp {K : PySem.W.Frag} {H H' : Hp} (e : ExtN H H') : ∀ {v : V} {d : PyData}, Dp K H v d → Dp K H' v d
  | _, _, .non => .non
  | _, _, .bl b => .bl b
  | _, _, .int i => .int i
  | _, _, .str x => .str x
  | _, _, .lst h t => .lst (ext_l e h) (ext_dps e t)
  | _, _, .tup h t => .tup (ext_t e h) (ext_dps e t)
theorem ext_dps {K : PySem.W.Frag} {H H' : Hp} (e : ExtN H H') : ∀ {vs : List V} {ds : List PyData}, DpAll K H vs ds → DpAll K H' vs ds
  | _, _, .nil => .nil
  | _, _, .cons h t => .cons (ext_dp e h) (ext_dps e t)
end
theorem ext_same {H H' : Hp} (s : Same H H') : ExtN H H' := ExtN.of s
theorem ext_tabs {T : List (Addr × Str)} {H H' : Hp} (t : Tabs T H) (s : Same H H') : Tabs T H' := t.ext s
/-! ### defs that make lambdas -/
abbrev lamQ (x : Str) : Str := (x ++ ".<locals>.") ++ "<lambda>"
def Tb (K : PySem.W.Frag) (xs : List Str) : List (Addr × Str) := xs.map fun x => ((He.cT K (x, none)).2, lamQ x)
def tabsD (K : PySem.W.Frag) (xs : List Str) : Bool := decide ((xs.map fun x => (He.cT K (x, none)).2).Nodup)
theorem tb_mem {K : PySem.W.Frag} {xs : List Str} {x : Str} (h : x ∈ xs) : ((He.cT K (x, none)).2, lamQ x) ∈ Tb K xs := List.mem_map.mpr ⟨x, h, rfl⟩
theorem nodup_inj {α β : Type} {f : α → β} : ∀ {xs : List α} {x y : α}, (xs.map f).Nodup → x ∈ xs → y ∈ xs → f x = f y → x = y
  | a :: r, x, y, h, hx, hy, e => by
    rw [List.map_cons, List.nodup_cons] at h
    rcases List.mem_cons.mp hx with z1 | z1 <;> rcases List.mem_cons.mp hy with z2 | z2
    · rw [z1, z2]
    · exact absurd (List.mem_map.mpr ⟨y, z2, by rw [← e, z1]⟩) h.1
    · exact absurd (List.mem_map.mpr ⟨x, z1, by rw [e, z2]⟩) h.1
    · exact nodup_inj h.2 z1 z2 e
theorem tb_u {K : PySem.W.Frag} {xs : List Str} {x : Str} (hd : tabsD K xs = true) (h : x ∈ xs) : ∀ p ∈ Tb K xs, p.1 = (He.cT K (x, none)).2 → p.2 = lamQ x := fun p hp e => by
  obtain ⟨y, hy, rfl⟩ := List.mem_map.mp hp
  have e2 : y = x := nodup_inj (of_decide_eq_true hd) hy h e
  rw [e2]
theorem tabs0 {K : PySem.W.Frag} {H : Hp} {xs : List Str} (h : ∀ x ∈ xs, H (He.cT K (x, none)).2 = some (.tbl #[])) : Tabs (Tb K xs) H := fun p hp => by
  obtain ⟨y, hy, rfl⟩ := List.mem_map.mp hp
  exact TabS.nil (h y hy)
/-- what a def that makes lambdas is told of its table -/
abbrev TabX (K : PySem.W.Frag) (mg : Str → Option Value) (base : Heap) (xs : List Str) : Prop := ∀ x ∈ xs, TabB base mg (He.cT K (x, none)).1 (He.cT K (x, none)).2
section
variable {P : Program} {w : World} {K : PySem.W.Frag} {mg : Str → Option Value} {base : Heap}
theorem Cal.mkT {x : Str} {st : Stmt} {N ps : List Str} {k : Nat} {sp : Sp} (D : FnP K x st) (m : mg x = some (.ref (ga K x))) (S : FnScope N ps (defScope st))
    (hb : ∀ (kV doc pm : Value) (an : Option Addr) (cdv ct : Value) (us : List Value), us.length = ps.length → bindArgs (PySem.W.fnOf x x (defArgs st) (defBody st) (defScope st) .none kV doc pm an cdv ct) ⟨us, []⟩ = pure (ps.zip us))
    (len : ∀ vs H Q E, sp vs H Q E → vs.length = ps.length)
    (hbody : ∀ (A : Around) (outer : List Env) (s : Shared) (H : Hp) (vs : List V) (Q : VK) (E : XK), Room k (A.deeper (envOfC x (defScope st) s.heap.objs.size (ga K x) (.ref (He.codeOf K (x, none))))) → sp vs H Q E →
      ∃ t, PSs (cxOf L2.CX0 P w K mg base N x (defScope st) (ga K x) (.ref (He.codeOf K (x, none))) A outer s H E).nox (defBody st) t ∧ t { nx := fun _ H' => Q .non H', rt := Q } (start N vs) H) : Cal P w K mg base L2.CX0 (k + 1) x ps sp := by
  refine ⟨?_, m, D.kp, D.bindsN hb⟩
  have F : FunD K x x (defArgs st) (defBody st) (defScope st) [] [] (ga K x) (fdOf K (x, none)) := D
  obtain ⟨oc, od, dV, kV, doc, pm, an, cdv, ct, osl, e, lk, hcd, _, _⟩ := F.ex
  obtain ⟨c, rfl⟩ := He.codeIn_ref hcd
  rw [e] at lk ⊢
  have ec : He.codeOf K (x, none) = c := He.codeOf_eq lk rfl
  rw [ec] at hbody
  refine fn_of lk hcd S len fun A outer s H vs Q E hr hsp => ?_
  obtain ⟨t, h1, h2⟩ := hbody A outer s H vs Q E hr hsp
  exact ⟨t, h1.nox, h2⟩
end
end Fr
/-! ### zip of any number of lists and tuples -/
namespace Zn
open PySem PySem.Spec PyProof.Rows L2
/-- is it a list, the iterator, what it walks -/
abbrev K3 := Bool × Addr × Addr
def ItAt (h : Heap) (q : K3) (i : Nat) : Prop := match q with
  | (true, it, l) => h.IsListIter it l i
  | (false, it, l) => h.IsTupleIter it l i
def SqAt (h : Heap) (q : K3) (items : Array Value) : Prop := match q with
  | (true, _, l) => h.IsList l items
  | (false, _, l) => h.IsTuple l items
theorem ItAt.at' {h h' : Heap} {q : K3} {i : Nat} (x : ItAt h q i) (e : ∀ o, h.get? q.2.1 = some o → h'.get? q.2.1 = some o) : ItAt h' q i := by
  obtain ⟨b, it, l⟩ := q
  cases b
  · exact Heap.IsTupleIter.at x e
  · exact Heap.IsListIter.at x e
theorem SqAt.at' {h h' : Heap} {q : K3} {a : Array Value} (x : SqAt h q a) (e : ∀ o, h.get? q.2.2 = some o → h'.get? q.2.2 = some o) : SqAt h' q a := by
  obtain ⟨b, it, l⟩ := q
  cases b
  · obtain ⟨o, ho, r⟩ := x
    exact ⟨o, e o ho, r⟩
  · exact Heap.IsList.at x e
theorem ItAt.some {h : Heap} {q : K3} {i : Nat} (x : ItAt h q i) : ∃ o, h.get? q.2.1 = Option.some o ∧ ∃ vs, o.data = .fields vs := by
  obtain ⟨b, it, l⟩ := q
  cases b
  · obtain ⟨o, e, _, d⟩ := x
    exact ⟨o, e, _, d⟩
  · obtain ⟨o, e, _, d⟩ := x
    exact ⟨o, e, _, d⟩
section
variable {prog : Program} {w : World} {A : Around} {E : Value → Shared → Prop} {s : Shared}
theorem nx_item {q : K3} {i : Nat} {items : Array Value} {x : Value} {Q : Value → Shared → Prop} (hit : ItAt s.heap q i) (hl : SqAt s.heap q items) (hx : items[i]? = some x)
    (hQ : ∀ h', ItAt h' q (i + 1) → Heap.SameBut q.2.1 s.heap h' → Q x { s with heap := h' }) : wpAny (model prog w) A (Builtin.SmallTypes.nextOf (.ref q.2.1)) Q E s := by
  obtain ⟨b, it, l⟩ := q
  cases b
  · exact RZ.nextOf_tuple_item hit hl hx hQ
  · exact wpAny_nextOf_list_item hit hl hx hQ
theorem nx_end {q : K3} {i : Nat} {items : Array Value} {Q : Value → Shared → Prop} (hh : A.handled = none) (hit : ItAt s.heap q i) (hl : SqAt s.heap q items) (hx : items[i]? = none)
    (hE : ∀ h' e, Heap.ExtBut q.2.1 s.heap h' → (∃ o, h'.get? e = some o ∧ o.cls = .type "StopIteration") → E (.ref e) { s with heap := h' }) : wpAny (model prog w) A (Builtin.SmallTypes.nextOf (.ref q.2.1)) Q E s := by
  obtain ⟨b, it, l⟩ := q
  cases b
  · exact RZ.nextOf_tuple_end hh hit hl hx hE
  · exact wpAny_nextOf_list_end hh hit hl hx hE
end
abbrev tupO (os : Array Value) : Obj := { cls := .type "tuple", data := .seq os }
abbrev recO (vs : Array Value) : Obj := { cls := .type "zip", data := .fields vs }
def Ready (h : Heap) (i : Nat) : List K3 → List Value → Prop
  | [], [] => True
  | q :: r, x :: xs => ItAt h q i ∧ (∃ items, SqAt h q items ∧ items[i]? = some x) ∧ Ready h i r xs
  | _, _ => False
def Short (h : Heap) (i : Nat) : List K3 → Prop
  | [] => False
  | q :: r => ItAt h q i ∧ ∃ items, SqAt h q items ∧ (items[i]? = none ∨ (∃ x, items[i]? = some x) ∧ Short h i r)
theorem Ready.at' {h h' : Heap} {i : Nat} : ∀ {r : List K3} {xs : List Value}, Ready h i r xs → (∀ q ∈ r, ∀ o, h.get? q.2.1 = some o → h'.get? q.2.1 = some o) → (∀ q ∈ r, ∀ o, h.get? q.2.2 = some o → h'.get? q.2.2 = some o) → Ready h' i r xs
  | [], [], _, _, _ => True.intro
  | q :: r, x :: xs, ⟨a, ⟨items, b, c⟩, d⟩, e1, e2 => ⟨a.at' (e1 q List.mem_cons_self), ⟨items, b.at' (e2 q List.mem_cons_self), c⟩, Ready.at' d (fun p hp => e1 p (List.mem_cons_of_mem _ hp)) fun p hp => e2 p (List.mem_cons_of_mem _ hp)⟩
theorem Short.at' {h h' : Heap} {i : Nat} : ∀ {r : List K3}, Short h i r → (∀ q ∈ r, ∀ o, h.get? q.2.1 = some o → h'.get? q.2.1 = some o) → (∀ q ∈ r, ∀ o, h.get? q.2.2 = some o → h'.get? q.2.2 = some o) → Short h' i r
  | q :: r, ⟨a, items, b, c⟩, e1, e2 => ⟨a.at' (e1 q List.mem_cons_self), items, b.at' (e2 q List.mem_cons_self), c.imp id fun ⟨x, y⟩ => ⟨x, Short.at' y (fun p hp => e1 p (List.mem_cons_of_mem _ hp)) fun p hp => e2 p (List.mem_cons_of_mem _ hp)⟩⟩
abbrev FR := Option PySem.Fin × Unit
/-- a turn of zip's own loop -/
def StepF (prog : Program) (w : World) (A : Around) (f : Value × Nat → FR → Sem (ForInStep FR)) (z TO : Addr) : Prop :=
  ∀ (it : Value) (k : Nat) (c : FR) (Q : ForInStep FR → Shared → Prop) (E : Value → Shared → Prop) (s : Shared),
    wpAny (model prog w) A (Builtin.SmallTypes.nextOf it) (fun x s1 => ∃ os : Array Value, os.size ≤ 100 ∧ s1.heap.get? TO = some (tupO os) ∧ ∀ h', h'.get? TO = some (tupO (os.setIfInBounds k x)) → Heap.SameBut TO s1.heap h' → Q (.yield (none, ())) { s1 with heap := h' })
      (fun e s1 => ∃ vs, s1.heap.get? z = some (recO vs) ∧ 0 < vs.size ∧ ∀ h', Heap.SameBut z s1.heap h' → E e { s1 with heap := h' }) s → wpAny (model prog w) A (f (it, k) c) Q E s
/-- the cells lie apart -/
structure Apart (z TI TO : Addr) (r : List K3) : Prop where
  TIz : TI ≠ z
  TOz : TO ≠ z
  TITO : TI ≠ TO
  nd : (r.map (·.2.1)).Nodup
  iz : ∀ q ∈ r, q.2.1 ≠ z
  iTI : ∀ q ∈ r, q.2.1 ≠ TI
  iTO : ∀ q ∈ r, q.2.1 ≠ TO
  lz : ∀ q ∈ r, q.2.2 ≠ z
  lTO : ∀ q ∈ r, q.2.2 ≠ TO
  li : ∀ q ∈ r, ∀ p ∈ r, q.2.2 ≠ p.2.1
theorem Apart.tail {z TI TO : Addr} {q : K3} {r : List K3} (a : Apart z TI TO (q :: r)) : Apart z TI TO r :=
  ⟨a.TIz, a.TOz, a.TITO, (List.nodup_cons.mp a.nd).2, fun p hp => a.iz p (List.mem_cons_of_mem _ hp), fun p hp => a.iTI p (List.mem_cons_of_mem _ hp), fun p hp => a.iTO p (List.mem_cons_of_mem _ hp), fun p hp => a.lz p (List.mem_cons_of_mem _ hp),
    fun p hp => a.lTO p (List.mem_cons_of_mem _ hp), fun p hp p' hp' => a.li p (List.mem_cons_of_mem _ hp) p' (List.mem_cons_of_mem _ hp')⟩
theorem Apart.other {z TI TO : Addr} {q p : K3} {r : List K3} (a : Apart z TI TO (q :: r)) (hp : p ∈ r) : p.2.1 ≠ q.2.1 := fun e => (List.nodup_cons.mp a.nd).1 (List.mem_map.mpr ⟨p, hp, e⟩)
section
variable {prog : Program} {w : World} {A : Around} {f : Value × Nat → FR → Sem (ForInStep FR)} {z TI TO : Addr} {i : Nat}
theorem loop_item (hf : StepF prog w A f z TO) : ∀ (r : List K3) (xs : List Value) (k : Nat) (s : Shared) (os : Array Value) (Q : FR → Shared → Prop) (E : Value → Shared → Prop), Apart z TI TO r → Ready s.heap i r xs → s.heap.get? TO = some (tupO os) → os.size = k + r.length → os.size ≤ 100 →
    (∀ h' (os' : Array Value), h'.get? TO = some (tupO os') → os'.toList = os.toList.take k ++ xs → (∀ q ∈ r, ItAt h' q (i + 1)) → h'.objs.size = s.heap.objs.size → (∀ c o, c ≠ TO → (∀ q ∈ r, c ≠ q.2.1) → s.heap.get? c = some o → h'.get? c = some o) → Q (none, ()) { s with heap := h' }) →
    wpAny (model prog w) A (forIn ((r.map fun q => Value.ref q.2.1).zipIdx k) ((none, ()) : FR) f) Q E s := by
  intro r
  induction r with
  | nil =>
    intro xs k s os Q E D hr hT hk _ h
    cases xs with
    | cons x xs => exact hr.elim
    | nil =>
    rw [List.map_nil, List.zipIdx_nil, List.forIn_nil]
    refine wpAny_pure (h s.heap os hT ?_ (fun q hq => nomatch hq) rfl fun _ _ _ _ e => e)
    rw [List.append_nil, List.take_of_length_le (by simp at hk; simp [hk])]
  | cons q r ih =>
    intro xs k s os Q E D hr hT hk h100 h
    cases xs with
    | nil => exact hr.elim
    | cons x xs =>
    obtain ⟨h1, ⟨items, h2, h3⟩, h4⟩ := hr
    rw [List.map_cons, List.zipIdx_cons, List.forIn_cons]
    refine wpAny_bind (hf _ _ _ _ _ _ (nx_item h1 h2 h3 fun ha hia sa => ?_))
    have hTa : ha.get? TO = some (tupO os) := sa.extBut _ _ (D.iTO q List.mem_cons_self).symm hT
    refine ⟨os, h100, hTa, fun hb hTb sb => ?_⟩
    have kp : ∀ c o, c ≠ TO → c ≠ q.2.1 → s.heap.get? c = some o → hb.get? c = some o := fun c o c1 c2 e => sb.extBut c o c1 (sa.extBut c o c2 e)
    have hk' : k < os.size := by rw [hk, List.length_cons]; omega
    refine ih xs (k + 1) { s with heap := hb } (os.setIfInBounds k x) Q E D.tail ?_ hTb (by rw [Array.size_setIfInBounds, hk, List.length_cons]; omega) (by rw [Array.size_setIfInBounds]; exact h100) fun h' os' g1 g2 g3 g4 g5 => ?_
    · exact h4.at' (fun p hp o e => kp _ o (D.tail.iTO p hp) (D.other hp) e) fun p hp o e => kp _ o (D.tail.lTO p hp) (D.li p (List.mem_cons_of_mem _ hp) q List.mem_cons_self) e
    · refine h h' os' g1 ?_ (fun p hp => ?_) (by rw [g4]; show hb.objs.size = _; rw [sb.1, sa.1]) fun c o c1 c2 e => g5 c o c1 (fun p hp => c2 p (List.mem_cons_of_mem _ hp)) (kp c o c1 (c2 q List.mem_cons_self) e)
      · rw [g2]
        have hl : k < os.toList.length := by simpa using hk'
        rw [Array.toList_setIfInBounds, List.take_succ, List.take_set_of_le (Nat.le_refl _), List.getElem?_set_self hl]
        simp
      · rcases List.mem_cons.mp hp with rfl | hp
        · refine ItAt.at' hia fun o e => g5 _ o (D.iTO p List.mem_cons_self) (fun p' hp' z => D.other hp' z.symm) (sb.extBut _ o (D.iTO p List.mem_cons_self) e)
        · exact g3 p hp
theorem loop_end (hh : A.handled = none) (hf : StepF prog w A f z TO) : ∀ (r : List K3) (k : Nat) (s : Shared) (os : Array Value) (Q : FR → Shared → Prop) (E : Value → Shared → Prop) (f0 : Value), Apart z TI TO r → Short s.heap i r → IsZip s.heap z TI TO f0 → s.heap.get? TO = some (tupO os) → os.size ≤ 100 →
    (∀ h' e, (∀ c o, c ≠ z → c ≠ TO → (∀ q ∈ r, c ≠ q.2.1) → s.heap.get? c = some o → h'.get? c = some o) → (∃ o, h'.get? e = some o ∧ o.cls = .type "StopIteration") → E (.ref e) { s with heap := h' }) →
    wpAny (model prog w) A (forIn ((r.map fun q => Value.ref q.2.1).zipIdx k) ((none, ()) : FR) f) Q E s := by
  intro r
  induction r with
  | nil =>
    intro k s os Q E f0 D hs
    exact hs.elim
  | cons q r ih =>
    intro k s os Q E f0 D hs hz hT h100 h
    obtain ⟨h1, items, h2, h3⟩ := hs
    rw [List.map_cons, List.zipIdx_cons, List.forIn_cons]
    rcases h3 with h3 | ⟨⟨x, h3⟩, h4⟩
    · refine wpAny_bind (hf _ _ _ _ _ _ (nx_end hh h1 h2 h3 fun ha e sa he => ?_))
      have hz' : IsZip ha z TI TO f0 := sa _ _ (D.iz q List.mem_cons_self).symm hz
      refine ⟨_, hz', by simp, fun hb sb => h hb e (fun c o c1 c2 c3 g => sb.extBut _ _ c1 (sa _ _ (c3 q List.mem_cons_self) g)) ?_⟩
      obtain ⟨o, ho, hc⟩ := he
      refine ⟨o, sb.extBut _ _ (fun y => ?_) ho, hc⟩
      subst y
      rw [hz'] at ho
      cases ho
      simp at hc
    · refine wpAny_bind (hf _ _ _ _ _ _ (nx_item h1 h2 h3 fun ha hia sa => ?_))
      have hTa : ha.get? TO = some (tupO os) := sa.extBut _ _ (D.iTO q List.mem_cons_self).symm hT
      refine ⟨os, h100, hTa, fun hb hTb sb => ?_⟩
      have kp : ∀ c o, c ≠ TO → c ≠ q.2.1 → s.heap.get? c = some o → hb.get? c = some o := fun c o c1 c2 e => sb.extBut c o c1 (sa.extBut c o c2 e)
      refine ih (k + 1) { s with heap := hb } (os.setIfInBounds k x) Q E f0 D.tail ?_ (kp _ _ D.TOz.symm (D.iz q List.mem_cons_self).symm hz) hTb (by rw [Array.size_setIfInBounds]; exact h100) fun h' e g1 g2 => ?_
      · exact h4.at' (fun p hp o e => kp _ o (D.tail.iTO p hp) (D.other hp) e) fun p hp o e => kp _ o (D.tail.lTO p hp) (D.li p (List.mem_cons_of_mem _ hp) q List.mem_cons_self) e
      · exact h h' e (fun c o c1 c2 c3 g => g1 c o c1 c2 (fun p hp => c3 p (List.mem_cons_of_mem _ hp)) (kp c o c2 (c3 q List.mem_cons_self) g)) g2

end
section
variable {prog : Program} {w : World} {A : Around} {E : Value → Shared → Prop} {s : Shared} {z TI TO : Addr} {i : Nat}
theorem next_item {r : List K3} {xs : List Value} {os : Array Value} {Q : Value → Shared → Prop} (D : Apart z TI TO r) (hne : r ≠ []) (h100 : os.size ≤ 100) (hos : os.size = r.length)
    (hz : IsZip s.heap z TI TO .none) (hTI : s.heap.get? TI = some (tupO (r.map fun q => Value.ref q.2.1).toArray)) (hTO : s.heap.get? TO = some (tupO os)) (hr : Ready s.heap i r xs)
    (hQ : ∀ h', IsZip h' z TI TO (rawInt s.heap.objs.size) → h'.get? TI = some (tupO (r.map fun q => Value.ref q.2.1).toArray) → h'.get? TO = some (tupO xs.toArray) → (∀ q ∈ r, ItAt h' q (i + 1)) → h'.get? s.heap.objs.size = some (tupO xs.toArray) → h'.objs.size = s.heap.objs.size + 1 →
      (∀ c o, c ≠ z → c ≠ TO → (∀ q ∈ r, c ≠ q.2.1) → s.heap.get? c = some o → h'.get? c = some o) → Q (.ref s.heap.objs.size) { s with heap := h' }) :
    wpAny (model prog w) A (Builtin.«zip.__next__» ⟨[.ref z], []⟩) (fun fin s' => ∃ v, fin = .done (.ret v) ∧ Q v s') E s := by
  show wpAny _ _ (field (.ref z) 2 >>= _) _ _ _
  refine wpAny_bind (wpAny_field hz rfl (x := .bool false) rfl ?_)
  show wpAny _ _ (field (.ref z) 3 >>= _) _ _ _
  refine wpAny_bind (wpAny_field hz rfl (x := .ref TI) rfl ?_)
  refine wpAny_bind (wpAny_seqItems hTI rfl ?_)
  show wpAny _ _ (if (r.map fun q => Value.ref q.2.1).toArray.isEmpty = true then _ else _) _ _ _
  rw [if_neg (by cases r with | nil => exact absurd rfl hne | cons => simp)]
  show wpAny _ _ (Builtin.SmallTypes.ownedTupleIsFree (.ref z) >>= _) _ _ _
  refine wpAny_bind ?_
  unfold Builtin.SmallTypes.ownedTupleIsFree
  refine wpAny_bind (wpAny_field hz rfl (x := .none) rfl (wpAny_pure ?_))
  simp only [if_true]
  refine wpAny_bind (wpAny_rule ?_)
  refine wpAny_bind (wpAny_field hz rfl (x := .ref TO) rfl ?_)
  refine wpAny_bind (wpAny_setField_rec hz (by simp) fun h₁ hz₁ hs₁ => ?_)
  replace hz₁ : IsZip h₁ z TI TO .ellipsis := hz₁
  refine wpAny_bind ?_
  refine loop_item (i := i) (fun it k c Q E s h => by
    refine wpAny_bind (wpAny_onRaise ?_)
    show wpAny _ _ (Builtin.SmallTypes.nextOf it >>= _) _ _ _
    refine wpAny_bind (wpAny_mono h (fun x s1 hx => wpAny_pure ?_) fun e s1 he => ?_)
    · obtain ⟨os, h100, hT, hq⟩ := hx
      refine wpAny_bind (wpAny_seqItems hT rfl ?_)
      refine wpAny_bind (wpAny_updateSeq hT rfl ?_ (Nat.le_trans h100 (by decide)) (by rw [Array.size_setIfInBounds]; exact Nat.le_trans h100 (by decide)))
      refine wpAny_bind (wpAny_letGo (wpAny_pure (hq _ ?_ (Heap.SameBut.update ..))))
      rw [Heap.get?_update_self _ hT rfl]
      simp [Obj.mapSeq]
    · obtain ⟨vs, hz, h0, hq⟩ := he
      exact wpAny_setField_rec hz h0 fun h' _ sb => hq h' sb) r xs 0 { s with heap := h₁ } os _ _ D ?_ (hs₁.extBut _ _ D.TOz hTO) (by rw [hos, Nat.zero_add]) h100 fun h₂ os' g1 g2 g3 g4 g5 => ?_
  · exact hr.at' (fun q hq o e => hs₁.extBut _ o (D.iz q hq) e) fun q hq o e => hs₁.extBut _ o (D.lz q hq) e
  have eos : os' = xs.toArray := by
    rw [List.take_zero, List.nil_append] at g2
    rw [← g2]
  subst eos
  refine wpAny_bind (wpAny_seqItems g1 rfl ?_)
  have hxl : xs.length ≤ 100 := by
    have e1 : ∀ {h : Heap} {r : List K3} {xs : List Value}, Ready h i r xs → xs.length = r.length := by
      intro h r
      induction r with
      | nil =>
        intro xs hr
        cases xs with
        | nil => rfl
        | cons => exact hr.elim
      | cons q r ih =>
        intro xs hr
        cases xs with
        | nil => exact hr.elim
        | cons x xs => exact congrArg (· + 1) (ih hr.2.2)
    rw [e1 hr, ← hos]
    exact h100
  refine wpAny_bind (wpAny_newTuple ?_ (by show xs.length ≤ sizeLine; exact Nat.le_trans hxl (by decide)))
  have hsz : h₂.objs.size = s.heap.objs.size := by rw [g4]; exact hs₁.1
  have hz₂ : IsZip h₂ z TI TO .ellipsis := g5 _ _ D.TOz.symm (fun q hq => (D.iz q hq).symm) hz₁
  have kp : ∀ c o, c ≠ z → c ≠ TO → (∀ q ∈ r, c ≠ q.2.1) → s.heap.get? c = some o → h₂.get? c = some o := fun c o c1 c2 c3 e => g5 c o c2 c3 (hs₁.extBut _ _ c1 e)
  have hzlt : z < h₂.objs.size := Heap.lt_size hz₂
  show wpAny _ _ (Builtin.SmallTypes.ownedTupleHandOut (.ref z) (.ref h₂.objs.size) >>= _) _ _ _
  refine wpAny_bind ?_
  unfold Builtin.SmallTypes.ownedTupleHandOut
  have hz₆ : IsZip (h₂.push (tupO xs.toArray)) z TI TO .ellipsis := Heap.get?_push_of_some _ hz₂
  refine wpAny_bind (wpAny_setField_rec hz₆ (by simp) fun h₇ hz₇ hs₇ => ?_)
  replace hz₇ : IsZip h₇ z TI TO (rawInt h₂.objs.size) := hz₇
  refine wpAny_setField_rec hz₇ (by simp) fun h₈ hz₈ hs₈ => ?_
  replace hz₈ : IsZip h₈ z TI TO (rawInt h₂.objs.size) := hz₈
  have up : ∀ c o, c ≠ z → h₂.get? c = some o → h₈.get? c = some o := fun c o c1 e => hs₈.extBut _ _ c1 (hs₇.extBut _ _ c1 (Heap.get?_push_of_some _ e))
  have hT₈ : h₈.get? h₂.objs.size = some (tupO xs.toArray) := hs₈.extBut _ _ (Nat.ne_of_gt hzlt) (hs₇.extBut _ _ (Nat.ne_of_gt hzlt) (Heap.get?_push_size _ rfl))
  have hz8 : h₈.objs.size = h₂.objs.size + 1 := by rw [hs₈.1, hs₇.1, Heap.size_push]
  rw [hsz] at hz₈ hT₈ hz8
  refine wpAny_pure ⟨_, rfl, ?_⟩
  show Q (.ref h₂.objs.size) _
  rw [hsz]
  exact hQ h₈ hz₈ (up _ _ D.TIz (kp _ _ D.TIz D.TITO (fun q hq => (D.iTI q hq).symm) hTI)) (up _ _ D.TOz g1) (fun q hq => (g3 q hq).at' fun o e => up _ o (D.iz q hq) e) hT₈ hz8 fun c o c1 c2 c3 e => up c o c1 (kp c o c1 c2 c3 e)
theorem next_end {r : List K3} {os : Array Value} {Q : PySem.Fin → Shared → Prop} (hh : A.handled = none) (D : Apart z TI TO r) (hne : r ≠ []) (h100 : os.size ≤ 100)
    (hz : IsZip s.heap z TI TO .none) (hTI : s.heap.get? TI = some (tupO (r.map fun q => Value.ref q.2.1).toArray)) (hTO : s.heap.get? TO = some (tupO os)) (hr : Short s.heap i r)
    (hE : ∀ h' e, (∀ c o, c ≠ z → c ≠ TO → (∀ q ∈ r, c ≠ q.2.1) → s.heap.get? c = some o → h'.get? c = some o) → (∃ o, h'.get? e = some o ∧ o.cls = .type "StopIteration") → E (.ref e) { s with heap := h' }) :
    wpAny (model prog w) A (Builtin.«zip.__next__» ⟨[.ref z], []⟩) Q E s := by
  show wpAny _ _ (field (.ref z) 2 >>= _) _ _ _
  refine wpAny_bind (wpAny_field hz rfl (x := .bool false) rfl ?_)
  show wpAny _ _ (field (.ref z) 3 >>= _) _ _ _
  refine wpAny_bind (wpAny_field hz rfl (x := .ref TI) rfl ?_)
  refine wpAny_bind (wpAny_seqItems hTI rfl ?_)
  show wpAny _ _ (if (r.map fun q => Value.ref q.2.1).toArray.isEmpty = true then _ else _) _ _ _
  rw [if_neg (by cases r with | nil => exact absurd rfl hne | cons => simp)]
  show wpAny _ _ (Builtin.SmallTypes.ownedTupleIsFree (.ref z) >>= _) _ _ _
  refine wpAny_bind ?_
  unfold Builtin.SmallTypes.ownedTupleIsFree
  refine wpAny_bind (wpAny_field hz rfl (x := .none) rfl (wpAny_pure ?_))
  simp only [if_true]
  refine wpAny_bind (wpAny_rule ?_)
  refine wpAny_bind (wpAny_field hz rfl (x := .ref TO) rfl ?_)
  refine wpAny_bind (wpAny_setField_rec hz (by simp) fun h₁ hz₁ hs₁ => ?_)
  replace hz₁ : IsZip h₁ z TI TO .ellipsis := hz₁
  refine wpAny_bind ?_
  refine loop_end (i := i) hh (fun it k c Q E s h => by
    refine wpAny_bind (wpAny_onRaise ?_)
    show wpAny _ _ (Builtin.SmallTypes.nextOf it >>= _) _ _ _
    refine wpAny_bind (wpAny_mono h (fun x s1 hx => wpAny_pure ?_) fun e s1 he => ?_)
    · obtain ⟨os, h100, hT, hq⟩ := hx
      refine wpAny_bind (wpAny_seqItems hT rfl ?_)
      refine wpAny_bind (wpAny_updateSeq hT rfl ?_ (Nat.le_trans h100 (by decide)) (by rw [Array.size_setIfInBounds]; exact Nat.le_trans h100 (by decide)))
      refine wpAny_bind (wpAny_letGo (wpAny_pure (hq _ ?_ (Heap.SameBut.update ..))))
      rw [Heap.get?_update_self _ hT rfl]
      simp [Obj.mapSeq]
    · obtain ⟨vs, hz, h0, hq⟩ := he
      exact wpAny_setField_rec hz h0 fun h' _ sb => hq h' sb) r 0 { s with heap := h₁ } os _ _ .ellipsis D ?_ hz₁ (hs₁.extBut _ _ D.TOz hTO) h100 fun h₂ e g1 g2 => ?_
  · exact hr.at' (fun q hq o e => hs₁.extBut _ o (D.iz q hq) e) fun q hq o e => hs₁.extBut _ o (D.lz q hq) e
  · exact hE h₂ e (fun c o c1 c2 c3 x => g1 c o c1 c2 c3 (hs₁.extBut _ _ c1 x)) g2
end
end Zn
namespace Zn
open PySem PySem.Spec PyProof.Rows L2
/-! ### a zip made -/
abbrev K2 := Bool × Addr
def made : Nat → List K2 → List K3
  | _, [] => []
  | n, (b, l) :: r => (b, n, l) :: made (n + 1) r
theorem made_len : ∀ (ks : List K2) (n : Nat), (made n ks).length = ks.length
  | [], _ => rfl
  | _ :: r, n => congrArg (· + 1) (made_len r (n + 1))
theorem made_ge : ∀ (ks : List K2) (n : Nat) (q : K3), q ∈ made n ks → n ≤ q.2.1 ∧ @LT.lt Nat _ q.2.1 (n + ks.length)
  | (b, l) :: r, n, q, h => by
    rcases List.mem_cons.mp h with rfl | h
    · exact ⟨Nat.le_refl _, by simp⟩
    · have := made_ge r (n + 1) q h
      simp only [List.length_cons]
      omega
theorem made_src : ∀ (ks : List K2) (n : Nat) (q : K3), q ∈ made n ks → (q.1, q.2.2) ∈ ks
  | (b, l) :: r, n, q, h => by
    rcases List.mem_cons.mp h with rfl | h
    · exact List.mem_cons_self
    · exact List.mem_cons_of_mem _ (made_src r (n + 1) q h)
theorem made_nodup : ∀ (ks : List K2) (n : Nat), ((made n ks).map (·.2.1)).Nodup
  | [], _ => List.nodup_nil
  | (b, l) :: r, n => by
    refine List.nodup_cons.mpr ⟨fun h => ?_, made_nodup r (n + 1)⟩
    obtain ⟨q, hq, e⟩ := List.mem_map.mp h
    have := (made_ge r (n + 1) q hq).1
    have e : @Eq Nat q.2.1 n := e
    omega
def Sq0 (h : Heap) (q : K2) : Prop := ∃ items, SqAt h (q.1, 0, q.2) items
theorem Sq0.lt {h : Heap} {q : K2} (x : Sq0 h q) : q.2 < h.objs.size := by
  obtain ⟨b, l⟩ := q
  obtain ⟨items, x⟩ := x
  cases b
  · obtain ⟨o, e, _⟩ := x
    exact Heap.lt_size e
  · obtain ⟨o, e, _⟩ := x
    exact Heap.lt_size e
theorem Sq0.keep {h h' : Heap} {q : K2} (x : Sq0 h q) (k : ∀ b o, h.get? b = some o → h'.get? b = some o) : Sq0 h' q := by
  obtain ⟨items, x⟩ := x
  exact ⟨items, x.at' fun o e => k _ o e⟩
section
variable {prog : Program} {w : World} {A : Around} {E : Value → Shared → Prop}
theorem iter_one {q : K2} {s : Shared} {Q : Value → Shared → Prop} (hq : Sq0 s.heap q) (h : ∀ h', (∀ b o, s.heap.get? b = some o → h'.get? b = some o) → h'.objs.size = s.heap.objs.size + 1 → ItAt h' (q.1, s.heap.objs.size, q.2) 0 → Q (.ref s.heap.objs.size) { s with heap := h' }) :
    wpAny (model prog w) A (pyIter (.ref q.2)) Q E s := by
  obtain ⟨b, l⟩ := q
  obtain ⟨items, hq⟩ := hq
  cases b
  · exact wpAny_pyIter_tuple hq (h _ (fun b o e => Heap.get?_push_of_some _ e) (Heap.size_push ..) ⟨_, Heap.get?_push_size _ rfl, rfl, rfl⟩)
  · exact wpAny_pyIter_list hq (h _ (fun b o e => Heap.get?_push_of_some _ e) (Heap.size_push ..) ⟨_, Heap.get?_push_size _ rfl, rfl, rfl⟩)
theorem iter_all : ∀ (ks : List K2) (acc : Array Value) (s : Shared) (Q : Array Value → Shared → Prop), (∀ q ∈ ks, Sq0 s.heap q) →
    (∀ h', (∀ b o, s.heap.get? b = some o → h'.get? b = some o) → h'.objs.size = s.heap.objs.size + ks.length → (∀ q ∈ made s.heap.objs.size ks, ItAt h' q 0) → Q (acc ++ ((made s.heap.objs.size ks).map fun q => Value.ref q.2.1).toArray) { s with heap := h' }) →
    wpAny (model prog w) A (forIn (ks.map fun q => Value.ref q.2) acc fun x r => do
      let v ← holding r.toList (pyIter x)
      pure (ForInStep.yield (r.push v))) Q E s := by
  intro ks
  induction ks with
  | nil =>
    intro acc s Q _ h
    rw [List.map_nil, List.forIn_nil]
    have := h s.heap (fun _ _ e => e) rfl (fun q hq => nomatch hq)
    refine wpAny_pure ?_
    simpa [made] using this
  | cons q ks ih =>
    intro acc s Q hq h
    rw [List.map_cons, List.forIn_cons]
    refine wpAny_bind (wpAny_bind (wpAny_holding (iter_one (hq q List.mem_cons_self) fun h1 k1 z1 i1 => wpAny_pure ?_)))
    refine ih _ { s with heap := h1 } Q (fun p hp => (hq p (List.mem_cons_of_mem _ hp)).keep k1) fun h2 k2 z2 i2 => ?_
    have e := h h2 (fun b o e => k2 b o (k1 b o e)) (by rw [z2]; show h1.objs.size + _ = _; rw [z1, List.length_cons]; omega) (fun p hp => ?_)
    · have e2 : acc ++ ((made s.heap.objs.size (q :: ks)).map fun q => Value.ref q.2.1).toArray = acc.push (.ref s.heap.objs.size) ++ ((made h1.objs.size ks).map fun q => Value.ref q.2.1).toArray := by
        rw [z1]
        obtain ⟨b, l⟩ := q
        simp [made]
      rw [e2] at e
      exact e
    · obtain ⟨b, l⟩ := q
      rcases List.mem_cons.mp hp with rfl | hp
      · exact i1.at' fun o e => k2 _ o e
      · have z1 : h1.objs.size = s.heap.objs.size + 1 := z1
        refine i2 p ?_
        show p ∈ made h1.objs.size ks
        rw [z1]
        exact hp
/-- what zip leaves -/
structure Zip0 (n : Nat) (ks : List K2) (h h' : Heap) : Prop where
  z : IsZip h' (n + ks.length + 2) (n + ks.length) (n + ks.length + 1) .none
  ti : h'.get? (n + ks.length) = some (tupO ((made n ks).map fun q => Value.ref q.2.1).toArray)
  to : h'.get? (n + ks.length + 1) = some (tupO (Array.replicate ks.length Value.none))
  its : ∀ q ∈ made n ks, ItAt h' q 0
  keep : ∀ b o, h.get? b = some o → h'.get? b = some o
theorem meets_new (ks : List K2) (h100 : ks.length ≤ 100) : Meets (Builtin.«zip.__new__» ⟨.type "zip" :: ks.map (fun q => Value.ref q.2), []⟩) (fun _ R s => (∀ q ∈ ks, Sq0 s.heap q) ∧ ∀ h', Zip0 s.heap.objs.size ks s.heap h' → R (.ok (.ret (.ref (s.heap.objs.size + ks.length + 2)))) { s with heap := h' }) :=
  .of_wp fun prog w A R s h => by
    obtain ⟨hq, h⟩ := h
    unfold Builtin.«zip.__new__»
    refine wpAny_bind (m := Builtin.SmallTypes.newClass _ _) ?_
    unfold Builtin.SmallTypes.newClass
    refine wpAny_bind (wpAny_of_eq (a := true) (by first | rfl | kernel_rfl) ?_)
    refine wpAny_bind (wpAny_of_eq (a := true) sub_zip ?_)
    refine wpAny_pure ?_
    show wpAny _ _ (Builtin.SmallTypes.iterAll (ks.map fun q => Value.ref q.2) >>= _) _ _ _
    unfold Builtin.SmallTypes.iterAll
    refine wpAny_bind (wpAny_bind (iter_all ks #[] s _ hq fun h1 k1 z1 i1 => wpAny_pure ?_))
    have el : ((#[] : Array Value) ++ ((made s.heap.objs.size ks).map fun (q : K3) => Value.ref q.2.1).toArray).toList = (made s.heap.objs.size ks).map fun (q : K3) => Value.ref q.2.1 := by simp
    rw [el]
    have hl := made_len ks s.heap.objs.size
    refine wpAny_bind (wpAny_newTuple ?_ (by rw [List.length_map, hl]; exact Nat.le_trans h100 (by decide)))
    refine wpAny_bind (wpAny_newTuple ?_ (by rw [List.length_map, List.length_map, hl]; exact Nat.le_trans h100 (by decide)))
    refine wpAny_bind ?_
    unfold Builtin.SmallTypes.newRecord
    refine wpAny_newObj_type ?_ (by show 5 ≤ sizeLine + 2; decide)
    refine wpAny_pure ⟨_, rfl, ?_⟩
    have z1 : h1.objs.size = s.heap.objs.size + ks.length := z1
    have en : ((made s.heap.objs.size ks).map fun q => Value.ref q.2.1).map (fun _ => Value.none) = List.replicate ks.length Value.none := by
      rw [List.map_map]
      have e9 : ∀ l : List K3, l.map ((fun _ => Value.none) ∘ fun (q : K3) => Value.ref q.2.1) = List.replicate l.length Value.none := by
        intro l
        induction l with
        | nil => rfl
        | cons a l ih => rw [List.map_cons, ih]; rfl
      rw [e9, hl]
    rw [en]
    generalize hm : (made s.heap.objs.size ks).map (fun q => Value.ref q.2.1) = ms at *
    have zz1 : (h1.push (tupO ms.toArray)).objs.size = s.heap.objs.size + ks.length + 1 := by rw [Heap.size_push, z1]
    have zz2 : ((h1.push (tupO ms.toArray)).push (tupO (List.replicate ks.length Value.none).toArray)).objs.size = s.heap.objs.size + ks.length + 2 := by rw [Heap.size_push, zz1]
    have g1 : (h1.push (tupO ms.toArray)).get? (s.heap.objs.size + ks.length) = some (tupO ms.toArray) := by rw [← z1]; exact Heap.get?_push_size _ rfl
    have g2 : ((h1.push (tupO ms.toArray)).push (tupO (List.replicate ks.length Value.none).toArray)).get? (s.heap.objs.size + ks.length + 1) = some (tupO (List.replicate ks.length Value.none).toArray) := by rw [← zz1]; exact Heap.get?_push_size _ rfl
    show R (.ok (.ret (.ref ((h1.push (tupO ms.toArray)).push (tupO (List.replicate ks.length Value.none).toArray)).objs.size))) _
    rw [zz2]
    refine h _ ⟨?_, ?_, ?_, fun q hq => (i1 q hq).at' fun o e => Heap.get?_push_of_some _ (Heap.get?_push_of_some _ (Heap.get?_push_of_some _ e)), fun b o e => Heap.get?_push_of_some _ (Heap.get?_push_of_some _ (Heap.get?_push_of_some _ (k1 b o e)))⟩
    · rw [← zz2, ← zz1, ← z1]
      exact Heap.get?_push_size _ rfl
    · rw [hm]
      exact Heap.get?_push_of_some _ (Heap.get?_push_of_some _ g1)
    · have e3 : Array.replicate ks.length Value.none = (List.replicate ks.length Value.none).toArray := by simp
      rw [e3]
      exact Heap.get?_push_of_some _ g2

theorem call_zipN {ks : List K2} {s : Shared} {Q : Value → Shared → Prop} (h100 : ks.length ≤ 100) (h1 : checkTypeCall "zip" ⟨ks.map (fun q => Value.ref q.2), []⟩ = pure ()) (h2 : checkBuiltinCall "zip.__new__" ⟨.type "zip" :: ks.map (fun q => Value.ref q.2), []⟩ = pure ())
    (h3 : ∀ obj, argsOk "object.__init__" ⟨obj :: ks.map (fun q => Value.ref q.2), []⟩) (hq : ∀ q ∈ ks, Sq0 s.heap q) (h : ∀ h', Zip0 s.heap.objs.size ks s.heap h' → Q (.ref (s.heap.objs.size + ks.length + 2)) { s with heap := h' }) :
    wpAny (model prog w) A (call (.type "zip") (ks.map fun q => Value.ref q.2)) Q E s := by
  refine callType_new F.called_zip (by decide) h1 h2 h3 F.entry_zip_new (meets_new ks h100) ⟨hq, fun h' z => ?_⟩
  exact ⟨⟨_, z.z, rfl⟩, h h' z⟩
theorem apart_made {n : Nat} {ks : List K2} (hl : ∀ q ∈ ks, @LT.lt Nat _ q.2 n) : Apart (n + ks.length + 2) (n + ks.length) (n + ks.length + 1) (made n ks) := by
  have lt : ∀ q ∈ made n ks, @LT.lt Nat _ q.2.2 n := fun q hq => hl _ (made_src ks n q hq)
  have ge : ∀ q ∈ made n ks, n ≤ q.2.1 ∧ @LT.lt Nat _ q.2.1 (n + ks.length) := made_ge ks n
  refine ⟨?_, ?_, ?_, made_nodup ks n, fun q hq e => ?_, fun q hq e => ?_, fun q hq e => ?_, fun q hq e => ?_, fun q hq e => ?_, fun q hq p hp e => ?_⟩
  · exact Nat.ne_of_lt (by omega)
  · exact Nat.ne_of_lt (by omega)
  · exact Nat.ne_of_lt (by omega)
  · have e : @Eq Nat q.2.1 _ := e
    have := ge q hq
    omega
  · have e : @Eq Nat q.2.1 _ := e
    have := ge q hq
    omega
  · have e : @Eq Nat q.2.1 _ := e
    have := ge q hq
    omega
  · have e : @Eq Nat q.2.2 _ := e
    have := lt q hq
    omega
  · have e : @Eq Nat q.2.2 _ := e
    have := lt q hq
    omega
  · have e : @Eq Nat q.2.2 _ := e
    have := lt q hq
    have := ge p hp
    omega
end
/-! ### the walk -/
def Sq (K : PySem.W.Frag) (H : Hp) (q : K2) (xs : List V) : Prop := match q with
  | (true, a) => SqL K H a xs
  | (false, a) => SqT K H a xs
/-- row i: an item of each -/
def Row (K : PySem.W.Frag) (H : Hp) (i : Nat) : List K2 → List V → Prop
  | [], [] => True
  | q :: r, x :: xs => (∃ ys, Sq K H q ys ∧ ys[i]? = some x) ∧ Row K H i r xs
  | _, _ => False
def Out (K : PySem.W.Frag) (H : Hp) (i : Nat) : List K2 → Prop
  | [] => False
  | q :: r => ∃ ys, Sq K H q ys ∧ (ys.length ≤ i ∨ i < ys.length ∧ Out K H i r)
def Itn (K : PySem.W.Frag) (ks : List K2) : It :=
  ⟨fun i H => ∃ xs, Row K H i ks xs, fun i H v H' => ∃ T xs, v = .ref T ∧ H T = none ∧ H' = upd H T (.tup xs) ∧ ∀ xs', Row K H i ks xs' → xs' = xs, fun i H => Out K H i ks⟩
section
variable {X : Cx} {pins : List (Addr × Obj)} {σ : L2.St} {H : Hp} {s : Shared}
theorem sq_at (I : Inv X pins σ H s) {q : K2} {xs : List V} (h : Sq X.K H q xs) : ∃ its : List Value, Vals xs its ∧ ∀ n, SqAt s.heap (q.1, n, q.2) its.toArray := by
  obtain ⟨b, a⟩ := q
  cases b
  · obtain ⟨its, r, p, _⟩ := I.tuple h
    exact ⟨its, r, fun _ => p⟩
  · obtain ⟨its, r, p, _⟩ := I.list h
    exact ⟨its, r, fun _ => p.isList⟩
theorem sq_inj (I : Inv X pins σ H s) {q : K2} {xs ys : List V} (h : Sq X.K H q xs) (h' : Sq X.K H q ys) : xs = ys := by
  obtain ⟨b, a⟩ := q
  cases b
  · exact I.tuple_inj h h'
  · exact I.list_inj h h'
theorem row_inj (I : Inv X pins σ H s) {i : Nat} : ∀ {ks : List K2} {xs ys : List V}, Row X.K H i ks xs → Row X.K H i ks ys → xs = ys := by
  intro ks
  induction ks with
  | nil =>
    intro xs ys h1 h2
    cases xs with
    | cons => exact h1.elim
    | nil =>
      cases ys with
      | cons => exact h2.elim
      | nil => rfl
  | cons q ks ih =>
    intro xs ys h1 h2
    cases xs with
    | nil => exact h1.elim
    | cons x xs =>
      cases ys with
      | nil => exact h2.elim
      | cons y ys =>
        obtain ⟨⟨u, a1, a2⟩, a3⟩ := h1
        obtain ⟨⟨v, b1, b2⟩, b3⟩ := h2
        rw [sq_inj I a1 b1, b2] at a2
        rw [Option.some.inj a2, ih a3 b3]
theorem ready_of (I : Inv X pins σ H s) {i : Nat} : ∀ {ks : List K2} {n : Nat} {xs : List V}, (∀ q ∈ made n ks, ItAt s.heap q i) → Row X.K H i ks xs → ∃ us, Vals xs us ∧ Ready s.heap i (made n ks) us := by
  intro ks
  induction ks with
  | nil =>
    intro n xs _ h
    cases xs with
    | cons => exact h.elim
    | nil => exact ⟨[], .nil, True.intro⟩
  | cons q ks ih =>
    intro n xs hi h
    cases xs with
    | nil => exact h.elim
    | cons x xs =>
      obtain ⟨b, l⟩ := q
      obtain ⟨⟨u, a1, a2⟩, a3⟩ := h
      obtain ⟨its, r, p⟩ := sq_at I a1
      obtain ⟨v, hv, rv⟩ := r.get a2
      obtain ⟨us, h1, h2⟩ := ih (n := n + 1) (fun q hq => hi q (List.mem_cons_of_mem _ hq)) a3
      exact ⟨v :: us, .cons rv h1, hi _ List.mem_cons_self, ⟨_, p n, by simpa using hv⟩, h2⟩
theorem short_of (I : Inv X pins σ H s) {i : Nat} : ∀ {ks : List K2} {n : Nat}, (∀ q ∈ made n ks, ItAt s.heap q i) → Out X.K H i ks → Short s.heap i (made n ks) := by
  intro ks
  induction ks with
  | nil =>
    intro n _ h
    exact h.elim
  | cons q ks ih =>
    intro n hi h
    obtain ⟨b, l⟩ := q
    obtain ⟨ys, a1, a2⟩ := h
    obtain ⟨its, r, p⟩ := sq_at I a1
    have hl := r.length
    refine ⟨hi _ List.mem_cons_self, _, p n, ?_⟩
    rcases a2 with a2 | ⟨a2, a3⟩
    · exact .inl (by simp; omega)
    · refine .inr ⟨⟨its[i]'(by omega), by simp⟩, ih (n := n + 1) (fun q hq => hi q (List.mem_cons_of_mem _ hq)) a3⟩
theorem row_len {K : PySem.W.Frag} {i : Nat} : ∀ {ks : List K2} {xs : List V}, Row K H i ks xs → xs.length = ks.length := by
  intro ks
  induction ks with
  | nil =>
    intro xs h
    cases xs with
    | nil => rfl
    | cons => exact h.elim
  | cons q ks ih =>
    intro xs h
    cases xs with
    | nil => exact h.elim
    | cons x xs => exact congrArg (· + 1) (ih h.2)
end
end Zn
namespace Zn
open PySem PySem.Spec PyProof.Rows L2
abbrev fpZ (n : Nat) (ks : List K2) : List Addr := (n + ks.length + 2) :: (n + ks.length) :: (n + ks.length + 1) :: (made n ks).map (·.2.1)
def tnZ (n : Nat) (ks : List K2) (i : Nat) (h : Heap) : Prop :=
  IsZip h (n + ks.length + 2) (n + ks.length) (n + ks.length + 1) .none ∧ h.get? (n + ks.length) = some (tupO ((made n ks).map fun q => Value.ref q.2.1).toArray) ∧ (∃ os : Array Value, os.size = ks.length ∧ h.get? (n + ks.length + 1) = some (tupO os)) ∧ ∀ q ∈ made n ks, ItAt h q i
theorem fpz_cases {n : Nat} {ks : List K2} {c : Addr} (h : c ∈ fpZ n ks) : c = n + ks.length + 2 ∨ c = n + ks.length ∨ c = n + ks.length + 1 ∨ ∃ q ∈ made n ks, c = q.2.1 := by
  rcases List.mem_cons.mp h with h | h
  · exact .inl h
  · rcases List.mem_cons.mp h with h | h
    · exact .inr (.inl h)
    · rcases List.mem_cons.mp h with h | h
      · exact .inr (.inr (.inl h))
      · obtain ⟨q, hq, e⟩ := List.mem_map.mp h
        exact .inr (.inr (.inr ⟨q, hq, e.symm⟩))
theorem fpz_it {n : Nat} {ks : List K2} {q : K3} (h : q ∈ made n ks) : q.2.1 ∈ fpZ n ks := List.mem_cons_of_mem _ (List.mem_cons_of_mem _ (List.mem_cons_of_mem _ (List.mem_map.mpr ⟨q, h, rfl⟩)))
theorem turnN {P : Program} {w : World} {K : PySem.W.Frag} {elts : List Expr} {kk : Nat} {tpos : Pos} {n : Nat} {ks : List K2} (hne : ks ≠ []) (h100 : ks.length ≤ 100) (hl : ∀ q ∈ ks, @LT.lt Nat _ q.2 n) :
    Turn P w K (.Tuple elts kk tpos) (Itn K ks) (fpZ n ks) (n + ks.length + 2) (tnZ n ks) := by
  have D := apart_made (n := n) (ks := ks) hl
  have hne' : made n ks ≠ [] := fun e => hne (List.eq_nil_of_length_eq_zero (by rw [← made_len ks n, e]; rfl))
  have pyn : ∀ {A : Around} {s : Shared} {E : Value → Shared → Prop} {Q : Option Value → Shared → Prop}, IsZip s.heap (n + ks.length + 2) (n + ks.length) (n + ks.length + 1) .none →
      wpAny (model P w) A.in1 (Builtin.«zip.__next__» ⟨[.ref (n + ks.length + 2)], []⟩) (fun fin s' => ∃ v, fin = .done (.ret v) ∧ Q (some v) s') (fun e s' => wpAny (model P w) A (isInstance e (.type "StopIteration") >>= fun b => if b = true then pure none else throw e) Q E s') s → wpAny (model P w) A (pyNext (.ref (n + ks.length + 2))) Q E s := by
    intro A s E Q hz h
    have hT : s.TypeIs (.ref (n + ks.length + 2)) "zip" := ⟨_, hz, rfl⟩
    unfold pyNext
    refine wpAny_bind (wpAny_attempt (wpAny_callSpecial?_slot (name := Str.ofString "__next__") hT F.slot_zip_next
      (wpAny_call_entry F.slot_zip_next hT F.entry_zip_next (wpAny_mono h (fun fin s' hf => ?_) fun e s' he => he) (F.args_zip_next_1 _))))
    obtain ⟨v, e, q⟩ := hf
    exact ⟨v, e, wpAny_pure q⟩
  refine ⟨List.mem_cons_self, ?_, ?_, ?_, ?_, ?_⟩
  · rintro i h ⟨hz, hTI, ⟨os, ho, hTO⟩, hi⟩ c hc
    rcases fpz_cases hc with rfl | rfl | rfl | ⟨q, hq, rfl⟩
    · exact ⟨_, hz, fun v z => nomatch z⟩
    · exact ⟨_, hTI, fun v z => nomatch z⟩
    · exact ⟨_, hTO, fun v z => nomatch z⟩
    · obtain ⟨o, e, vs, d⟩ := (hi q hq).some
      exact ⟨o, e, fun v z => by rw [d] at z; cases z⟩
  · rintro i h h' ⟨hz, hTI, ⟨os, ho, hTO⟩, hi⟩ k
    exact ⟨k _ List.mem_cons_self _ hz, k _ (List.mem_cons_of_mem _ List.mem_cons_self) _ hTI, ⟨os, ho, k _ (List.mem_cons_of_mem _ (List.mem_cons_of_mem _ List.mem_cons_self)) _ hTO⟩, fun q hq => (hi q hq).at' fun o e => k _ (fpz_it hq) o e⟩
  · intro X hP hw hK hc i pins s σ H E I hf st hg
    subst hP hw hK
    obtain ⟨hz, hTI, ⟨os, ho, hTO⟩, hi⟩ := st
    obtain ⟨xs, hrow⟩ := hg
    obtain ⟨us, rv, rd⟩ := ready_of I (n := n) hi hrow
    have hlx := row_len hrow
    have hlu : us.length = ks.length := by rw [← hlx]; exact rv.length.symm
    have hzl : @LT.lt Nat _ (n + ks.length + 2) s.heap.objs.size := Heap.lt_size hz
    refine pyn hz (next_item D hne' (by rw [ho]; exact h100) (by rw [ho, made_len]) hz hTI hTO rd fun h' z' TI' TO' i' T' sz' k' => ?_)
    refine ⟨_, rfl, wpAny_letOwnedTupleGo_zip (s := { s with heap := h' }) z' fun h2 z2 sb => ?_⟩
    have neZ : s.heap.objs.size ≠ n + ks.length + 2 := Nat.ne_of_gt hzl
    have hT2 : h2.get? s.heap.objs.size = some (tupO us.toArray) := (sb.2 _ neZ).trans T'
    have new : ObjOk X.prog X.w (upd H s.heap.objs.size (.tup xs)) h2 s.heap.objs.size (.tup xs) :=
      ⟨by rw [hlx]; exact Nat.le_trans h100 (by decide), us, rv, ⟨_, hT2, rfl, _, rfl⟩⟩
    have I1 : Inv X pins σ (upd H s.heap.objs.size (.tup xs)) { s with heap := h2 } :=
      I.turnedNew (t' := s.toks) (ch := fpZ n ks) (fun c o hb q => (sb.2 c (fun q' => hb (by rw [q']; exact List.mem_cons_self))).trans (k' c o (fun q' => hb (by rw [q']; exact List.mem_cons_self)) (fun q' => hb (by rw [q']; exact List.mem_cons_of_mem _ (List.mem_cons_of_mem _ List.mem_cons_self))) (fun p hp q' => hb (by rw [q']; exact fpz_it hp)) q)) hf (Nat.le_refl _) new
    refine ⟨.ref s.heap.objs.size, _, I1, rfl, ⟨_, xs, rfl, I.hok.fresh (Nat.le_refl _), rfl, fun xs' hx' => row_inj I hx' hrow⟩, ⟨z2, (sb.2 _ D.TIz).trans TI', ⟨us.toArray, by simpa using hlu, (sb.2 _ D.TOz).trans TO'⟩, fun q hq => (i' q hq).at' fun o e => (sb.2 _ (D.iz q hq)).trans e⟩, fun c hcm => ?_⟩
    have hlt : @LT.lt Nat _ c s.heap.objs.size := by
      rcases fpz_cases hcm with rfl | rfl | rfl | ⟨q, hq, rfl⟩
      · exact hzl
      · exact Heap.lt_size hTI
      · exact Heap.lt_size hTO
      · obtain ⟨o, e, _⟩ := (hi q hq).some
        exact Heap.lt_size e
    show upd H s.heap.objs.size (.tup xs) c = none
    rw [upd_ne (Nat.ne_of_lt hlt)]
    exact (hf c hcm).1
  · intro X hP hw hK hc i pins s σ H E I hf st hg
    subst hP hw hK
    obtain ⟨hz, hTI, ⟨os, ho, hTO⟩, hi⟩ := st
    refine pyn hz (next_end (I.ok.hd hc) D hne' (by rw [ho]; exact h100) hz hTI hTO (short_of I hi hg) fun h' e k he => ?_)
    obtain ⟨o, heo, hce⟩ := he
    refine wpAny_bind (wpAny_isInstance (T := "StopIteration") (b := true) ⟨o, heo, hce⟩ isSubtype_stop (wpAny_pure ⟨rfl, ?_⟩))
    exact I.turnedL (t' := s.toks) (ch := fpZ n ks) (fun c o hb q => k c o (fun q' => hb (by rw [q']; exact List.mem_cons_self)) (fun q' => hb (by rw [q']; exact List.mem_cons_of_mem _ (List.mem_cons_of_mem _ List.mem_cons_self))) (fun p hp q' => hb (by rw [q']; exact fpz_it hp)) q) hf
  · intro A i s Q E st h
    exact wpAny_pyIter_zip st.1 h

/-! ### zip(a, b, ..) as what is walked -/
def iZipN (K : PySem.W.Frag) (N : Nat) (ta : TA) : TI := fun σ H R => ta σ H fun vs H1 => ∃ ks : List K2, ks.length = N ∧ vs = ks.map (fun q => V.ref q.2) ∧ (∀ q ∈ ks, ∃ xs, Sq K H1 q xs) ∧ R (Itn K ks) H1
theorem vals_refs : ∀ {ks : List K2} {us : List Value}, Vals (ks.map fun q => V.ref q.2) us → us = ks.map fun q => Value.ref q.2 := by
  intro ks
  induction ks with
  | nil =>
    intro us h
    cases h
    rfl
  | cons q ks ih =>
    intro us h
    cases h with
    | cons a b =>
      cases a
      rw [ih b]
      rfl
section
variable {X : Cx} {pins : List (Addr × Obj)} {σ : L2.St} {H : Hp} {s : Shared}
theorem sq0_of (I : Inv X pins σ H s) {q : K2} {xs : List V} (h : Sq X.K H q xs) : Sq0 s.heap q := by
  obtain ⟨its, _, p⟩ := sq_at I h
  exact ⟨_, p 0⟩
theorem zip_it {ks : List K2} {R : It → Hp → Prop} {elts : List Expr} {kk : Nat} {tpos : Pos} {E : Value → Shared → Prop} (I : Inv X pins σ H s) (hne : ks ≠ []) (h100 : ks.length ≤ 100) (h1 : checkTypeCall "zip" ⟨ks.map (fun q => Value.ref q.2), []⟩ = pure ()) (h2 : checkBuiltinCall "zip.__new__" ⟨.type "zip" :: ks.map (fun q => Value.ref q.2), []⟩ = pure ())
    (h3 : ∀ obj, argsOk "object.__init__" ⟨obj :: ks.map (fun q => Value.ref q.2), []⟩) (hq : ∀ q ∈ ks, ∃ xs, Sq X.K H q xs) (q : R (Itn X.K ks) H) :
    wpAny (model X.prog X.w) X.A (call (.type "zip") (ks.map fun q => Value.ref q.2)) (fun v s1 => wpAny (model X.prog X.w) X.A (pyIter v) (PIE X pins σ (.Tuple elts kk tpos) R) E s1) E s := by
  have h0 : ∀ q ∈ ks, Sq0 s.heap q := fun q hm => by
    obtain ⟨xs, hx⟩ := hq q hm
    exact sq0_of I hx
  refine call_zipN h100 h1 h2 h3 h0 fun h' z => wpAny_pyIter_zip z.z ?_
  have I2 : Inv X pins σ H { s with heap := h' } := I.kept (t' := s.toks) z.keep
  refine ⟨_, fpZ s.heap.objs.size ks, _, _, H, rfl, I2, turnN hne h100 fun q hm => (h0 q hm).lt, ⟨z.z, z.ti, ⟨_, by simp, z.to⟩, z.its⟩, fun c hc => ?_, q⟩
  have hle : @LE.le Nat _ s.heap.objs.size c := by
    rcases fpz_cases hc with rfl | rfl | rfl | ⟨q, hq, rfl⟩
    · show s.heap.objs.size ≤ s.heap.objs.size + ks.length + 2
      omega
    · show s.heap.objs.size ≤ s.heap.objs.size + ks.length
      omega
    · show s.heap.objs.size ≤ s.heap.objs.size + ks.length + 1
      omega
    · exact (made_ge ks _ q hq).1
  exact I.fpOk hle (I.hok.fresh hle)
end
theorem init4 (a b c d : Value) : argsOk "object.__init__" ⟨[a, b, c, d], []⟩ := by
  unfold argsOk; rw [signature?_of (id := "object.__init__") (n := ['_', '_', 't', 'i', 'n', 'i', '_', '_']) (o := ['t', 'c', 'e', 'j', 'b', 'o']) (by kernel_rfl) PySem.F.owner_object]; kernel_rfl
theorem init5 (a b c d e : Value) : argsOk "object.__init__" ⟨[a, b, c, d, e], []⟩ := by
  unfold argsOk; rw [signature?_of (id := "object.__init__") (n := ['_', '_', 't', 'i', 'n', 'i', '_', '_']) (o := ['t', 'c', 'e', 'j', 'b', 'o']) (by kernel_rfl) PySem.F.owner_object]; kernel_rfl
theorem tc3 (a b c : Value) : checkTypeCall "zip" ⟨[a, b, c], []⟩ = pure () := by kernel_rfl
theorem tc4 (a b c d : Value) : checkTypeCall "zip" ⟨[a, b, c, d], []⟩ = pure () := by kernel_rfl
theorem nc3 (a b c : Value) : checkBuiltinCall "zip.__new__" ⟨[.type "zip", a, b, c], []⟩ = pure () := by kernel_rfl
theorem nc4 (a b c d : Value) : checkBuiltinCall "zip.__new__" ⟨[.type "zip", a, b, c, d], []⟩ = pure () := by kernel_rfl
section
variable {X : Cx} {K : PySem.W.Frag} {ta : TA} {p pos tpos : Pos} {elts : List Expr} {kk : Nat} {e1 e2 e3 e4 : Expr}
theorem zip2 (hK : X.K = K) (hg : Gl X "zip") (hm : X.mg "zip" = none) (ha : PA X [e1, e2] ta)
    (hs : starEach [e1, e2] X.env = (false, eval e1 X.env) :: starEach [e2] X.env := by rfl) (hpl : (backTo pos (starEach [e2] X.env)).any (·.1) = false := by rfl) :
    PI X (.Tuple elts kk tpos) (.Call (.Name "zip" p) [e1, e2] [] pos) (iZipN K 2 ta) := by
  subst hK
  refine ⟨fun pins s σ H R I h => ?_⟩
  refine Call_ (ld_blt I hg hm PyProof.Rows.boot_zip (PyProof.Rows.callWith_type1 (thn (ha.run pos pins s σ H _ I h) fun us s1 ⟨vs, H1, I1, r1, q1⟩ => ?_) hs hpl))
  obtain ⟨ks, hl, rfl, hq, q⟩ := q1
  rw [vals_refs r1]
  match ks, hl with
  | [(b1, a1), (b2, a2)], _ => exact zip_it I1 (fun z => nomatch z) (by show 2 ≤ 100; decide) (F.typeCall_zip_2 _ _) (F.newCall_zip_2 _ _) (fun o => F.args_object_init_3 o _ _) hq q
theorem zip3 (hK : X.K = K) (hg : Gl X "zip") (hm : X.mg "zip" = none) (ha : PA X [e1, e2, e3] ta)
    (hs : starEach [e1, e2, e3] X.env = (false, eval e1 X.env) :: starEach [e2, e3] X.env := by rfl) (hpl : (backTo pos (starEach [e2, e3] X.env)).any (·.1) = false := by rfl) :
    PI X (.Tuple elts kk tpos) (.Call (.Name "zip" p) [e1, e2, e3] [] pos) (iZipN K 3 ta) := by
  subst hK
  refine ⟨fun pins s σ H R I h => ?_⟩
  refine Call_ (ld_blt I hg hm PyProof.Rows.boot_zip (PyProof.Rows.callWith_type1 (thn (ha.run pos pins s σ H _ I h) fun us s1 ⟨vs, H1, I1, r1, q1⟩ => ?_) hs hpl))
  obtain ⟨ks, hl, rfl, hq, q⟩ := q1
  rw [vals_refs r1]
  match ks, hl with
  | [(b1, a1), (b2, a2), (b3, a3)], _ => exact zip_it I1 (fun z => nomatch z) (by show 3 ≤ 100; decide) (tc3 _ _ _) (nc3 _ _ _) (fun o => init4 o _ _ _) hq q
theorem zip4 (hK : X.K = K) (hg : Gl X "zip") (hm : X.mg "zip" = none) (ha : PA X [e1, e2, e3, e4] ta)
    (hs : starEach [e1, e2, e3, e4] X.env = (false, eval e1 X.env) :: starEach [e2, e3, e4] X.env := by rfl) (hpl : (backTo pos (starEach [e2, e3, e4] X.env)).any (·.1) = false := by rfl) :
    PI X (.Tuple elts kk tpos) (.Call (.Name "zip" p) [e1, e2, e3, e4] [] pos) (iZipN K 4 ta) := by
  subst hK
  refine ⟨fun pins s σ H R I h => ?_⟩
  refine Call_ (ld_blt I hg hm PyProof.Rows.boot_zip (PyProof.Rows.callWith_type1 (thn (ha.run pos pins s σ H _ I h) fun us s1 ⟨vs, H1, I1, r1, q1⟩ => ?_) hs hpl))
  obtain ⟨ks, hl, rfl, hq, q⟩ := q1
  rw [vals_refs r1]
  match ks, hl with
  | [(b1, a1), (b2, a2), (b3, a3), (b4, a4)], _ => exact zip_it I1 (fun z => nomatch z) (by show 4 ≤ 100; decide) (tc4 _ _ _ _) (nc4 _ _ _ _) (fun o => init5 o _ _ _ _) hq q
end
/-! ### loops over columns -/
def SqAll (K : PySem.W.Frag) (H : Hp) : List K2 → List (List V) → Prop
  | [], [] => True
  | q :: r, y :: ys => Sq K H q y ∧ SqAll K H r ys
  | _, _ => False
def rowAt (i : Nat) (yss : List (List V)) : List V := yss.map fun ys => ys.getD i .non
theorem row_at {K : PySem.W.Frag} {H : Hp} {i : Nat} : ∀ {ks : List K2} {yss : List (List V)}, SqAll K H ks yss → (∀ ys ∈ yss, i < ys.length) → Row K H i ks (rowAt i yss) := by
  intro ks
  induction ks with
  | nil =>
    intro yss h _
    cases yss with
    | nil => exact True.intro
    | cons => exact h.elim
  | cons q ks ih =>
    intro yss h hl
    cases yss with
    | nil => exact h.elim
    | cons y yss =>
      refine ⟨⟨y, h.1, ?_⟩, ih h.2 fun ys hy => hl ys (List.mem_cons_of_mem _ hy)⟩
      show y[i]? = some (y.getD i V.non)
      rw [List.getD_eq_getElem?_getD, List.getElem?_eq_getElem (hl y List.mem_cons_self)]
      rfl
theorem out_at {K : PySem.W.Frag} {H : Hp} {n : Nat} : ∀ {ks : List K2} {yss : List (List V)}, SqAll K H ks yss → (∀ ys ∈ yss, n ≤ ys.length) → (∃ ys ∈ yss, ys.length = n) → Out K H n ks := by
  intro ks
  induction ks with
  | nil =>
    intro yss h _ hm
    cases yss with
    | nil =>
      obtain ⟨_, z, _⟩ := hm
      cases z
    | cons => exact h.elim
  | cons q ks ih =>
    intro yss h hl hm
    cases yss with
    | nil => exact h.elim
    | cons y yss =>
      refine ⟨y, h.1, ?_⟩
      by_cases hy : y.length ≤ n
      · exact .inl hy
      · refine .inr ⟨by omega, ih h.2 (fun ys hy => hl ys (List.mem_cons_of_mem _ hy)) ?_⟩
        obtain ⟨z, hz, e⟩ := hm
        rcases List.mem_cons.mp hz with rfl | hz
        · omega
        · exact ⟨z, hz, e⟩
theorem for_zipN {K : PySem.W.Frag} {ks : List K2} {yss : List (List V)} {n : Nat} {g : TG} {tb : TS} {D : Ends} {σ : L2.St} {H : Hp} (hlen : ∀ ys ∈ yss, n ≤ ys.length) (hmin : ∃ ys ∈ yss, ys.length = n) (Pv : Nat → L2.St → Hp → Prop) (h0 : Pv 0 σ H) (hq : ∀ i σ H, Pv i σ H → SqAll K H ks yss)
    (hs : ∀ (i : Nat) (T : Addr) (σ : L2.St) (H : Hp), i < n → Pv i σ H → H T = none → g (.ref T) σ (upd H T (.tup (rowAt i yss))) fun σ2 H2 => tb { D with nx := Pv (i + 1), ct := Pv (i + 1), bk := D.nx } σ2 H2) (hd : ∀ σ H, Pv n σ H → D.nx σ H) :
    ∃ W : Nat → Nat → L2.St → Hp → Prop, (∃ m, W 0 m σ H) ∧ ∀ i m σ H, W i m σ H →
      ((Itn K ks).stop i H ∧ D.nx σ H) ∨ ((Itn K ks).go i H ∧ ∃ N : L2.St → Hp → Prop, (∀ σ' H', N σ' H' → ∃ m', m' < m ∧ W (i + 1) m' σ' H') ∧ ∀ v H', (Itn K ks).yld i H v H' → g v σ H' fun σ2 H2 => tb { D with nx := N, ct := N, bk := D.nx } σ2 H2) := by
  refine ⟨fun i m σ H => m = n - i ∧ i ≤ n ∧ Pv i σ H, ⟨n, rfl, Nat.zero_le _, h0⟩, fun i m σ H ⟨em, hi, p⟩ => ?_⟩
  have hS := hq i σ H p
  by_cases hlt : i < n
  · have hrow := row_at hS fun ys hy => Nat.lt_of_lt_of_le hlt (hlen ys hy)
    refine .inr ⟨⟨_, hrow⟩, Pv (i + 1), fun σ' H' p' => ⟨n - (i + 1), by omega, rfl, hlt, p'⟩, fun v H' y => ?_⟩
    obtain ⟨T, xs, rfl, hT, rfl, hx⟩ := y
    rw [← hx _ hrow]
    exact hs i T σ H hlt p hT
  · have e : i = n := by omega
    subst e
    exact .inl ⟨out_at hS hlen hmin, hd σ H p⟩
end Zn
namespace Fr
open PySem PySem.Spec PyProof.Rows L2
/-- a comprehension without a test: one item for each -/
theorem lc_all {K : PySem.W.Frag} {J : It} {n : Nat} {G : Hp → Prop} {Y : Nat → Hp → V → Hp → Prop} (w : Walk J n G Y) {g : TG} {tt : TT} {te : TE} {vs : List Nat} {σ : L2.St} {H1 : Hp} {D : Addr} {Qd : Hp → Prop}
    (hD : H1 D = none) (hn : n ≤ 100000) (hG : ∀ H', Same H1 H' → G H') (S : Nat → PyData → Prop) (hS : ∀ i d, S i d → noL d = true)
    (hs : ∀ i x H' H'' (A : V → Hp → Prop) (B : Hp → Prop), i < n → Same H1 H' → Y i H' x H'' → (∀ y d H4, S i d → Same H' H4 → Dp K H4 y d → A y H4) →
      g x (wipe σ vs) H'' fun σ2 H2 => wipe σ2 vs = wipe σ vs ∧ tt σ2 H2 fun b H3 => if b = true then te σ2 H3 A else B H3)
    (hd : ∀ H' ys ds, Same H1 H' → H' D = some (.lst ys) → DpAll K H' ys ds → ds.length = n → (∀ i d, ds[i]? = some d → S i d) → Qd H') :
    ∃ W : Nat → Nat → Hp → Prop, (∃ m, W 0 m (upd H1 D (.lst []))) ∧ ∀ i m H, W i m H →
      (J.stop i H ∧ Qd H) ∨ (J.go i H ∧ ∃ Nx : Hp → Prop, (∀ H', Nx H' → ∃ m', m' < m ∧ W (i + 1) m' H') ∧ ∀ x H', J.yld i H x H' → g x (wipe σ vs) H' fun σ2 H2 => wipe σ2 vs = wipe σ vs ∧ tt σ2 H2 fun b H3 =>
        if b = true then te σ2 H3 fun y H4 => ∃ acc, H4 D = some (.lst acc) ∧ acc.length < sizeLine ∧ Nx (upd H4 D (.lst (acc ++ [y]))) else Nx H3) := by
  refine lc_it w (fun i H' => Same H1 H' ∧ i ≤ n ∧ ∃ ys ds, H' D = some (.lst ys) ∧ DpAll K H' ys ds ∧ ds.length = i ∧ ∀ j d, ds[j]? = some d → S j d) ⟨same_new hD, Nat.zero_le _, [], [], upd_same, .nil, rfl, fun j d h => by simp at h⟩ (fun i H' _ p => hG H' p.1) (fun i x H' H'' hi p hY => ?_) (fun H' p => ?_)
  · obtain ⟨sm, hin, ys, ds, hy, hA, hl, hAS⟩ := p
    refine hs i x H' H'' _ _ hi sm hY (fun y d H4 hSd s4 hdp => ?_)
    refine ⟨ys, s4 _ _ hy, ?_, ?_, by omega, ys ++ [y], ds ++ [d], upd_same, ?_, ?_, ?_⟩
    · have h2 := dps_len hA
      exact Nat.lt_of_lt_of_le (show ys.length < 100000 by omega) (by decide)
    · exact same_put (sm.trans s4) hD
    · exact dps_app (dps_upd (s4 _ _ hy) (noLs_of fun e he => by
        obtain ⟨j, hj⟩ := List.mem_iff_getElem?.mp he
        exact hS j e (hAS j e hj)) (same_dps s4 hA)) (.cons (dp_upd (s4 _ _ hy) (hS i d hSd) hdp) .nil)
    · rw [List.length_append, hl]
      rfl
    · intro j d' e
      by_cases hj : j < ds.length
      · rw [List.getElem?_append_left hj] at e
        exact hAS j d' e
      · rw [List.getElem?_append_right (by omega)] at e
        have hj2 : j - ds.length = 0 := by
          by_cases z : j - ds.length = 0
          · exact z
          · rw [List.getElem?_eq_none (by simp; omega)] at e
            cases e
        rw [hj2] at e
        cases e
        have : j = i := by omega
        rw [this]
        exact hSd
  · obtain ⟨sm, _, ys, ds, hy, hA, hl, hAS⟩ := p
    exact hd H' ys ds sm hy hA hl hAS
end Fr
namespace Fr
open PySem PySem.Spec PyProof.Rows L2
/-! ### written data -/
def tDat (K : PySem.W.Frag) (d : PyData) : TE := fun _ H Q => ∀ v H', Same H H' → Dp K H' v d → Q v H'
def tDats (K : PySem.W.Frag) (ds : List PyData) : TA := fun _ H Q => ∀ vs H', Same H H' → DpAll K H' vs ds → Q vs H'
theorem PE.imp {X : Cx} {e : Expr} {t t' : TE} (h : PE X e t) (i : ∀ σ H Q, t' σ H Q → t σ H Q) : PE X e t' := ⟨fun pins s σ H Q I q => h.run pins s σ H Q I (i σ H Q q)⟩
theorem PA.imp {X : Cx} {es : List Expr} {t t' : TA} (h : PA X es t) (i : ∀ σ H Q, t' σ H Q → t σ H Q) : PA X es t' := ⟨fun pos pins s σ H Q I q => h.run pos pins s σ H Q I (i σ H Q q)⟩
section
variable {X : Cx} {K : PySem.W.Frag} {pos : Pos} {j : Nat}
theorem dl_int {i : Int} : PE X (.Constant (.int i) j pos) (tDat K (.int i)) := PE.imp pe_int fun σ H Q q => q _ H (Same.refl H) (.int i)
theorem dl_neg {i : Int} {p : Pos} : PE X (.UnaryOp .USub (.Constant (.int i) j p) pos) (tDat K (.int (-i))) := PE.imp (pe_un un_neg pe_int) fun σ H Q q => ⟨i, rfl, q _ H (Same.refl H) (.int (-i))⟩
theorem dl_bl {b : Bool} : PE X (.Constant (.bool b) j pos) (tDat K (.bool b)) := PE.imp pe_bl fun σ H Q q => q _ H (Same.refl H) (.bl b)
theorem dl_non : PE X (.Constant .none j pos) (tDat K .none) := PE.imp pe_non fun σ H Q q => q _ H (Same.refl H) .non
theorem dl_str {x : Str} : PE X (.Constant (.str x) j pos) (tDat K (.str x)) := PE.imp pe_str fun σ H Q q => q _ H (Same.refl H) (.str x)
theorem dl_nil : PA X [] (tDats K []) := PA.imp pa_nil fun σ H Q q => q [] H (Same.refl H) .nil
theorem dl_cons {e : Expr} {es : List Expr} {d : PyData} {ds : List PyData} (h : PE X e (tDat K d)) (t : PA X es (tDats K ds)) (hs : starEach (e :: es) X.env = (false, eval e X.env) :: starEach es X.env := by rfl) : PA X (e :: es) (tDats K (d :: ds)) :=
  PA.imp (pa_cons h t hs) fun σ H Q q v H1 s1 h1 vs H2 s2 h2 => q (v :: vs) H2 (s1.trans s2) (.cons (same_dp s2 h1) h2)
theorem dl_tup {es : List Expr} {ds : List PyData} {x1 : Nat} (hl : ds.length ≤ 1000) (h : PA X es (tDats K ds)) : PE X (.Tuple es x1 pos) (tDat K (.tuple ds)) :=
  PE.imp (pe_tup h) fun σ H Q q vs H1 s1 h1 => ⟨by rw [dps_len h1]; exact Nat.le_trans hl (by decide), fun p np => q (.ref p) _ (s1.trans (same_new np)) (.tup (SqT.of upd_same) (same_dps (same_new np) h1))⟩
theorem dl_lst {es : List Expr} {ds : List PyData} (hl : ds.length ≤ 1000) (h : PA X es (tDats K ds)) : PE X (.List es pos) (tDat K (.list ds)) :=
  PE.imp (pe_lst h) fun σ H Q q vs H1 s1 h1 => ⟨by rw [dps_len h1]; exact Nat.le_trans hl (by decide), fun p np => q (.ref p) _ (s1.trans (same_new np)) (.lst (SqL.of upd_same) (same_dps (same_new np) h1))⟩
end
/-! ### zip, walked -/
theorem same_sqAll {K : PySem.W.Frag} {H H' : Hp} (s : Same H H') : ∀ {ks : List Zn.K2} {yss : List (List V)}, Zn.SqAll K H ks yss → Zn.SqAll K H' ks yss := by
  intro ks
  induction ks with
  | nil =>
    intro yss h
    cases yss with
    | nil => exact True.intro
    | cons => exact h.elim
  | cons q ks ih =>
    intro yss h
    cases yss with
    | nil => exact h.elim
    | cons y yss =>
      refine ⟨?_, ih h.2⟩
      obtain ⟨b, a⟩ := q
      cases b
      · exact same_tup s h.1
      · exact s.seq h.1
theorem walk_zipN {K : PySem.W.Frag} {ks : List Zn.K2} {yss : List (List V)} {n : Nat} (hlen : ∀ ys ∈ yss, n ≤ ys.length) (hmin : ∃ ys ∈ yss, ys.length = n) :
    Walk (Zn.Itn K ks) n (fun H => Zn.SqAll K H ks yss) (fun i H x H' => ∃ T, x = .ref T ∧ H T = none ∧ H' = upd H T (.tup (Zn.rowAt i yss))) := by
  refine ⟨fun i H hi q => ⟨_, Zn.row_at q fun ys hy => Nat.lt_of_lt_of_le hi (hlen ys hy)⟩, fun H q => Zn.out_at q hlen hmin, fun i H x H' hi q y => ?_⟩
  obtain ⟨T, xs, rfl, hT, rfl, hx⟩ := y
  refine ⟨T, rfl, hT, ?_⟩
  rw [← hx _ (Zn.row_at q fun ys hy => Nat.lt_of_lt_of_le hi (hlen ys hy))]
end Fr
namespace Fr
open PySem PySem.Spec PyProof.Rows L2
/-! ### a list of one's own that grows -/
theorem app_dp {K : PySem.W.Frag} {H : Hp} {o : Addr} {ys : List V} {ds : List PyData} {y : V} {d : PyData} (ho : H o = some (.lst ys)) (hA : DpAll K H ys ds) (hn : noLs ds = true) (hd : Dp K H y d) (hnd : noL d = true) :
    DpAll K (upd H o (.lst (ys ++ [y]))) (ys ++ [y]) (ds ++ [d]) :=
  dps_app (dps_upd ho hn hA) (.cons (dp_upd ho hnd hd) .nil)
theorem noL_opt (x : Option Nat) : noL (optD x) = true := by cases x <;> rfl
theorem noLs_nats (ns : List Nat) : noLs (ns.map nD) = true := noLs_of fun d hd => by
  obtain ⟨n, _, rfl⟩ := List.mem_map.mp hd
  rfl
theorem cut_take (xs : List V) (i : Nat) : cutV xs none (some (i : Int)) = xs.take i := by
  unfold cutV
  rw [show HT.sIx xs.length xs.length (some (i : Int)) = min i xs.length from HT.sIx_nat xs.length xs.length i, HT.sIx_none]
  rw [List.drop_zero, Nat.sub_zero]
  rcases Nat.le_total i xs.length with h | h
  · rw [Nat.min_eq_left h]
  · rw [Nat.min_eq_right h, List.take_of_length_le (Nat.le_refl _), List.take_of_length_le h]
/-- the least of a list -/
theorem min_int {as : List Nat} {m : Int} (hm : m ∈ as.map fun (x : Nat) => (x : Int)) (hle : ∀ y, y ∈ (as.map fun (x : Nat) => (x : Int)) → m ≤ y) : ∃ k : Nat, m = k ∧ as.min? = some k := by
  obtain ⟨k, hk, rfl⟩ := List.mem_map.mp hm
  refine ⟨k, rfl, ?_⟩
  rw [List.min?_eq_some_iff]
  refine ⟨hk, fun y hy => ?_⟩
  have := hle (y : Int) (List.mem_map.mpr ⟨y, hy, rfl⟩)
  omega
end Fr
namespace Fr
open PySem PySem.Spec PyProof.Rows L2
theorem opNotBl {X : Cx} : OpR X (compareOp .IsNot) (fun x y H Q => ∃ a b, x = .bl a ∧ y = .bl b ∧ Q (.bl (!decide (a = b))) H) := op_isnot_bl
end Fr
namespace Zn
open PySem PySem.Spec PyProof.Rows L2
open AutoSeq1 (wpAny_loadPart')
/-! ### enumerate of a tuple -/
theorem meets_enumT (l : Addr) (items : Array Value) (n : Nat) (dct : Option Addr) (sl : Array (Option Value)) :
    Meets (Builtin.«enumerate.__new__» ⟨[.type "enumerate", .ref l], []⟩) (fun _ R s => s.heap.get? l = some { cls := .type "tuple", dict := dct, data := .seq items n, slots := sl } ∧
      R (.ok (.ret (.ref (s.heap.push { cls := .type "tuple_iterator", data := .fields #[.ref l, .int 0 0] }).objs.size)))
        { s with heap := (s.heap.push { cls := .type "tuple_iterator", data := .fields #[.ref l, .int 0 0] }).push { cls := .type "enumerate", data := .fields #[.none, .bool false, .ref s.heap.objs.size, rawInt 0, .none, .none] } }) :=
  .of_wp fun prog w A R s h => by
    obtain ⟨hp, g, d, tk, os⟩ := s; obtain ⟨hl, h⟩ := h
    have hsub := sub_enumerate
    have hL : Heap.IsTuple (Shared.heap ⟨hp, g, d, tk, os⟩) l items := ⟨_, hl, rfl, n, rfl⟩
    wp_walk using wpAny_loadPart' hl
    refine wpAny_stack_any fun st => wpAny_pure ?_
    split
    · rename_i c _ _ _ _ _
      cases (c == Value.type "enumerate")
      · wp_walk using wpAny_loadPart' hl, wpAny_pyIter_tuple hL
        exact ⟨_, rfl, h⟩
      · wp_walk using wpAny_loadPart' hl, wpAny_pyIter_tuple hL
        exact ⟨_, rfl, h⟩
    · wp_walk using wpAny_loadPart' hl, wpAny_pyIter_tuple hL
      exact ⟨_, rfl, h⟩
theorem call_enumT {prog : Program} {w : World} {A : Around} {E : Value → Shared → Prop} {s : Shared} {l : Addr} {items : Array Value} {Q : Value → Shared → Prop} (hL : s.heap.IsTuple l items)
    (h : ∀ h', IsEnum h' (s.heap.objs.size + 1) s.heap.objs.size 0 .none → h'.IsTupleIter s.heap.objs.size l 0 → h'.objs.size = s.heap.objs.size + 2 →
      (∀ b o, s.heap.get? b = some o → h'.get? b = some o) → Q (.ref (s.heap.objs.size + 1)) { s with heap := h' }) :
    wpAny (model prog w) A (call (.type "enumerate") [.ref l]) Q E s := by
  obtain ⟨⟨c, dct, dt, sl⟩, hl, hc, n, hd⟩ := hL
  replace hc : c = .type "tuple" := hc
  replace hd : dt = .seq items n := hd
  subst hc hd
  refine callType_new F.called_enumerate (by decide) (F.typeCall_enumerate_1 _) (F.newCall_enumerate_1 _) (fun obj => F.args_object_init_2 obj _) F.entry_enumerate_new
    (meets_enumT l items n dct sl) ⟨hl, ?_⟩
  have hz : (s.heap.push { cls := .type "tuple_iterator", data := .fields #[.ref l, .int 0 0] }).objs.size = s.heap.objs.size + 1 := Heap.size_push ..
  show _ ∧ _
  rw [hz]
  have he : IsEnum ((s.heap.push { cls := .type "tuple_iterator", data := .fields #[.ref l, .int 0 0] }).push
      { cls := .type "enumerate", data := .fields #[.none, .bool false, .ref s.heap.objs.size, rawInt 0, .none, .none] }) (s.heap.objs.size + 1) s.heap.objs.size 0 .none := by
    have := Heap.get?_push_size (s.heap.push { cls := .type "tuple_iterator", data := .fields #[.ref l, .int 0 0] })
      (o := { cls := .type "enumerate", data := .fields #[.none, .bool false, .ref s.heap.objs.size, rawInt 0, .none, .none] }) rfl
    rw [hz] at this; exact this
  refine ⟨⟨_, he, rfl⟩, h _ he ⟨_, Heap.get?_push_of_some _ (Heap.get?_push_size _ rfl), rfl, rfl⟩ (by rw [Heap.size_push, hz]) fun b o x => Heap.get?_push_of_some _ (Heap.get?_push_of_some _ x)⟩
/-- the tuple at a, each item in a new pair -/
def IteT (K : PySem.W.Frag) (a : Addr) : It :=
  ⟨fun i H => ∃ (xs : List V) (x : V), SqT K H a xs ∧ xs[i]? = some x, fun i H v H' => ∃ T x, v = .ref T ∧ H T = none ∧ H' = upd H T (.tup [.int (i : Nat), x]) ∧ ∀ xs, SqT K H a xs → xs[i]? = some x, fun i H => ∃ xs : List V, SqT K H a xs ∧ xs.length = i⟩
theorem tup_inj {X : Cx} {pins : List (Addr × Obj)} {σ : L2.St} {H : Hp} {s : Shared} (I : Inv X pins σ H s) {a : Addr} {xs ys : List V} (h : SqT X.K H a xs) (h' : SqT X.K H a ys) : xs = ys := sq_inj I (q := (false, a)) h h'
theorem turn_enumT {P : Program} {w : World} {K : PySem.W.Frag} {elts : List Expr} {kk : Nat} {tpos : Pos} (a e it : Addr) (hai : a ≠ it) (hea : e ≠ a) :
    Turn P w K (.Tuple elts kk tpos) (IteT K a) [e, it] e (fun i h => (∃ old, IsEnum h e it ((i : Nat) : Int) old) ∧ h.IsTupleIter it a i ∧ e ≠ it) where
  mem := by simp
  obj := fun i h st b hb => by
    obtain ⟨⟨old, he⟩, ⟨o, ho, hc, hd⟩, _⟩ := st
    have e' : b = e ∨ b = it := by simpa using hb
    rcases e' with z | z
    · rw [z]; exact ⟨_, he, fun v q => nomatch q⟩
    · rw [z]; exact ⟨o, ho, fun v q => by rw [hd] at q; cases q⟩
  keep := fun i h h' st k => let ⟨⟨old, he⟩, hi, hne⟩ := st; ⟨⟨old, k e (by simp) _ he⟩, hi.at fun o q => k it (by simp) o q, hne⟩
  item := by
    intro X hP hw hK hc i pins s σ H E I hf st hg
    subst hP hw hK
    obtain ⟨⟨old, he⟩, hit, hne⟩ := st
    obtain ⟨xs, x, hq, hx⟩ := hg
    obtain ⟨its, rv, p, hz⟩ := I.tuple hq
    obtain ⟨u, hu, ru⟩ := rv.get hx
    have hlt : i < its.toArray.size := by
      have := (List.getElem?_eq_some_iff.mp hu).1
      simpa using this
    have hel : e < s.heap.objs.size := Heap.lt_size he
    have hil : it < s.heap.objs.size := by obtain ⟨_, q, _⟩ := hit; exact Heap.lt_size q
    refine wpAny_pyNext_enum_itemD (Draws.tuple (A := X.A.in1) (I.ok.hd hc) it a hai its.toArray) he ⟨hit, p⟩ hlt hne (by simp [hne, hea]) fun x' h' tk hx' ho hit' hT hsz hk => ?_
    have ex : x' = u := by
      rw [show its.toArray[i]? = some u by simpa using hu] at hx'
      exact (Option.some.inj hx').symm
    subst ex
    refine ⟨_, rfl, wpAny_letOwnedTupleGo_enum (s := { s with heap := h', toks := tk + 1 }) ho fun h'' he' sb => ?_⟩
    have hT2 : h''.get? s.heap.objs.size = some { cls := .type "tuple", data := .seq #[.int i tk, x'] } := (sb.2 _ (Nat.ne_of_gt hel)).trans hT
    have new : ObjOk X.prog X.w (upd H s.heap.objs.size (.tup [.int (i : Nat), x])) h'' s.heap.objs.size (.tup [.int (i : Nat), x]) :=
      ⟨by show 2 ≤ sizeLine; decide, [.int i tk, x'], .cons ⟨_, rfl⟩ (.cons ru .nil), ⟨_, hT2, rfl, _, rfl⟩⟩
    have I1 : Inv X pins σ (upd H s.heap.objs.size (.tup [.int (i : Nat), x])) { s with heap := h'', toks := tk + 1 } :=
      I.turnedNew (ch := [e, it]) (fun b ob hb q => (sb.2 b (fun z => hb (by simp [z]))).trans (hk b ob (fun z => hb (by simp [z])) (fun z => hb (by simp [z])) q)) hf (Nat.le_refl _) new
    refine ⟨.ref s.heap.objs.size, _, I1, rfl, ⟨_, x, rfl, I.hok.fresh (Nat.le_refl _), rfl, fun ys hy => by rw [tup_inj I hy hq]; exact hx⟩, ⟨⟨x', ?_⟩, hit'.1.at fun o q => (sb.2 it (Ne.symm hne)).trans q, hne⟩, fun b hb => ?_⟩
    · have e1 : ((i + 1 : Nat) : Int) = (i : Int) + 1 := by omega
      rw [e1]; exact he'
    · have hb' : b < s.heap.objs.size := by
        have e' : b = e ∨ b = it := by simpa using hb
        rcases e' with z | z
        · rw [z]; exact hel
        · rw [z]; exact hil
      rw [upd_ne (Nat.ne_of_lt hb')]
      exact (hf b hb).1
  done := by
    intro X hP hw hK hc i pins s σ H E I hf st hg
    subst hP hw hK
    obtain ⟨⟨old, he⟩, hit, hne⟩ := st
    obtain ⟨xs, hq, hx⟩ := hg
    obtain ⟨its, rv, p, hz⟩ := I.tuple hq
    obtain ⟨f0, f1, f2, f3, f4, f5⟩ := hf it (by simp)
    have hl : its.toArray.size = i := by
      have := rv.length
      simp only [List.size_toArray]
      omega
    exact wpAny_pyNext_enum_endD (Draws.tuple (A := X.A.in1) (I.ok.hd hc) it a hai its.toArray) he (by rw [hl]; exact ⟨hit, p⟩) fun h' eb => ⟨rfl, I.turned (t' := s.toks) (fun b o hb q => eb b o hb q) f0 f1 f3 f4 f5⟩
  self := fun A i s Q E st h => let ⟨⟨_, he⟩, _⟩ := st; wpAny_pyIter_enum he h
def iEnumT (K : PySem.W.Frag) (ta : TA) : TI := fun σ H R => ta σ H fun vs H1 => ∃ a xs, vs = [.ref a] ∧ SqT K H1 a xs ∧ R (IteT K a) H1
theorem piET {X : Cx} {K : PySem.W.Frag} {e : Expr} {ta : TA} {p pos tpos : Pos} {elts : List Expr} {kk : Nat} (hK : X.K = K) (hg : Gl X "enumerate") (hm : X.mg "enumerate" = none) (ha : PA X [e] ta) (hs : starEach [e] X.env = [(false, eval e X.env)] := by rfl) :
    PI X (.Tuple elts kk tpos) (.Call (.Name "enumerate" p) [e] [] pos) (iEnumT K ta) := by
  subst hK
  refine ⟨fun pins s σ H R I h => ?_⟩
  refine Call_ (ld_blt I hg hm boot_enumerate (PyProof.Rows.callWith_type1 (thn (ha.run pos pins s σ H _ I h) fun us s1 ⟨vs, H1, I1, r1, q1⟩ => ?_) hs rfl))
  obtain ⟨a, xs, ex, hq, q⟩ := q1
  subst ex
  cases r1 with
  | cons r rr =>
    cases rr
    cases r
    obtain ⟨its, rv, p', hz⟩ := I1.tuple hq
    have hal : a < s1.heap.objs.size := by
      obtain ⟨o, e, _⟩ := p'
      exact Heap.lt_size e
    refine call_enumT p' fun h' he hit hsz hk => wpAny_pyIter_enum he ?_
    have I2 : Inv X pins σ H1 { s1 with heap := h' } := I1.kept (t' := s1.toks) hk
    refine ⟨s1.heap.objs.size + 1, [s1.heap.objs.size + 1, s1.heap.objs.size], _, _, H1, rfl, I2, turn_enumT a (s1.heap.objs.size + 1) s1.heap.objs.size (Nat.ne_of_lt hal) (Nat.ne_of_gt (Nat.lt_succ_of_lt hal)), ⟨⟨.none, he⟩, hit, Nat.succ_ne_self _⟩, fun b hb => ?_, q⟩
    have e' : b = s1.heap.objs.size + 1 ∨ b = s1.heap.objs.size := by simpa using hb
    have hle : s1.heap.objs.size ≤ b := by
      rcases e' with z | z
      · rw [z]; exact Nat.le_add_right _ _
      · rw [z]; exact Nat.le_refl _
    exact I1.fpOk hle (I1.hok.fresh hle)
theorem walk_enumT {K : PySem.W.Frag} {a : Addr} {xs : List V} : Walk (IteT K a) xs.length (fun H => SqT K H a xs) (fun i H v H' => ∃ T x, v = .ref T ∧ H T = none ∧ H' = upd H T (.tup [.int (i : Nat), x]) ∧ xs[i]? = some x) := by
  refine ⟨fun i _ hi q => ⟨xs, xs[i], q, by simp [hi]⟩, fun _ q => ⟨xs, q, rfl⟩, fun i H v H' _ q y => ?_⟩
  obtain ⟨T, x, h1, h2, h3, h4⟩ := y
  exact ⟨T, x, h1, h2, h3, h4 xs q⟩
end Zn
namespace Fr
open PySem PySem.Spec PyProof.Rows L2
/-! ### len(set(t)) of a tuple of ints -/
theorem len_sub {α : Type} [DecidableEq α] : ∀ {l m : List α}, l.Nodup → (∀ x ∈ l, x ∈ m) → l.length ≤ m.length
  | [], _, _, _ => Nat.zero_le _
  | a :: l, m, hn, hs => by
    have ha := hs a List.mem_cons_self
    have hn' := List.nodup_cons.mp hn
    have := len_sub (m := m.erase a) hn'.2 fun x hx => (List.mem_erase_of_ne (fun e : x = a => hn'.1 (by rw [← e]; exact hx))).mpr (hs x (List.mem_cons_of_mem _ hx))
    rw [List.length_erase_of_mem ha] at this
    have h0 : 0 < m.length := List.length_pos_of_mem ha
    simp only [List.length_cons]
    omega
theorem dup_at {α : Type} [DecidableEq α] : ∀ {l : List α}, ¬ l.Nodup → ∃ a, a ∈ l.erase a ∧ a ∈ l
  | [], h => absurd List.nodup_nil h
  | b :: l, h => by
    by_cases hb : b ∈ l
    · exact ⟨b, by simp [hb], List.mem_cons_self⟩
    · have hl : ¬ l.Nodup := fun z => h (List.nodup_cons.mpr ⟨hb, z⟩)
      obtain ⟨a, h1, h2⟩ := dup_at hl
      refine ⟨a, ?_, List.mem_cons_of_mem _ h2⟩
      have hne : b ≠ a := fun e => hb (e ▸ h2)
      rw [List.erase_cons_tail (by simpa using hne)]
      exact List.mem_cons_of_mem _ h1
theorem nodup_of_len {α : Type} [DecidableEq α] {out ns : List α} (hn : out.Nodup) (hs : ∀ x ∈ out, x ∈ ns) (hl : ns.length ≤ out.length) : ns.Nodup := by
  by_cases z : ns.Nodup
  · exact z
  · obtain ⟨a, h1, h2⟩ := dup_at z
    have := len_sub (m := ns.erase a) hn fun x hx => by
      by_cases e : x = a
      · rw [e]
        exact h1
      · exact (List.mem_erase_of_ne e).mpr (hs x hx)
    rw [List.length_erase_of_mem h2] at this
    have := List.length_pos_of_mem h2
    omega
def tLenSetT (K : PySem.W.Frag) (ta : TE) : TE := fun σ H Q => ta σ H fun x H1 => ∃ (l : Addr) (ns : List Int), x = .ref l ∧ SqT K H1 l (ns.map V.int) ∧ ns.length ≤ 1000 ∧ ∀ c : Nat, (ns.Nodup → c = ns.length) → (¬ ns.Nodup → c ≠ ns.length) → Q (.int (c : Nat)) H1
theorem pe_lenSetT {X : Cx} {K : PySem.W.Frag} {a : Expr} {ta : TE} {p p2 q pos : Pos} (hK : X.K = K) (hg : Gl X "len") (hm : X.mg "len" = none) (hg2 : Gl X "set") (hm2 : X.mg "set" = none) (ha : PE X a ta) (hc : X.calm = true := by rfl)
    (na : starEach [a] X.env = (false, eval a X.env) :: starEach [] X.env := by rfl) : PE X (.Call (.Name "len" p) [.Call (.Name "set" p2) [a] [] q] [] pos) (tLenSetT K ta) := by
  subst hK
  refine ⟨fun pins s σ H Q I h => ?_⟩
  refine Call_ (ld_blt I hg hm boot_len ?_)
  refine PyProof.Rows.callWith_builtin1 (PyProof.Rows.args_cons ?_ rfl) rfl rfl
  refine Call_ (ld_blt I hg2 hm2 boot_set ?_)
  refine PyProof.Rows.callWith_type1 (PyProof.Rows.args_cons (thn (ha.run pins s σ H _ I h) fun v s1 ⟨x, H1, I1, r1, q1⟩ => PyProof.Rows.args_nil ?_) na) na rfl
  obtain ⟨l, ns, rfl, hq, hl, q1⟩ := q1
  cases r1
  obtain ⟨its, rv, pt, hz⟩ := I1.tuple hq
  have hi : IntsAre its.toArray.toList ns := ints_of_vals rv
  refine call_set_tupI ns (I1.ok.hd hc) (show s1.heap.IsTuple l its.toArray from pt) hi (by unfold scanBound; omega) fun h' tk c R1 hcn k => ?_
  refine PyProof.Rows.args_nil ?_
  obtain ⟨o, es, ep, t, ho, hex, hdt, g, nd, hm2, hb, hf, hn, hr, hl2⟩ := R1
  have I2 : Inv X pins σ H1 { s1 with heap := h', toks := tk } := I1.kept k
  have hmem : ∀ j, j ∈ es.toList.map keyOf ↔ j ∈ ns := fun j => by rw [← hm2 j, decide_eq_true_eq]
  have hlen : (es.toList.map keyOf).length = c := by rw [List.length_map, Array.length_toList, hn]
  have h1 : c ≤ ns.length := by rw [← hlen]; exact len_sub nd fun x hx => (hmem x).mp hx
  refine call_len_set ho hex hdt hf (by rw [hn]; omega) ⟨.int c, H1, I2.tok _, ⟨_, by rw [hn]⟩, q1 c (fun hnd => ?_) (fun hnd e => hnd ?_)⟩
  · have h2 := len_sub hnd fun x hx => (hmem x).mpr hx
    omega
  · exact nodup_of_len nd (fun x hx => (hmem x).mp hx) (by omega)
end Fr
namespace Fr
open PySem PySem.Spec PyProof.Rows L2
/-! ### t.index(x) of a tuple of flat things -/
def rIndexT (K : PySem.W.Frag) : V → List V → Hp → VK → Prop := fun x xs H Q => ∃ (a : Addr) (ys : List V) (y : V) (j : Nat) (z : V), x = V.ref a ∧ xs = [y] ∧ SqT K H a ys ∧ flatV y = true ∧ ys.all flatV = true ∧ ys[j]? = some z ∧ eqV z y = true ∧
  (∀ (m : Nat) (z' : V), m < j → ys[m]? = some z' → eqV z' y = false) ∧ Q (.int (j : Nat)) H
theorem mt_tidx {X : Cx} {K : PySem.W.Frag} (hK : X.K = K) : MtR X "tuple.index" (rIndexT K) := by
  subst hK
  intro pins s σ H x xs v us Q I rx rxs h
  obtain ⟨a, ys, y, j, z, rfl, rfl, hs, fy, fys, hz, hzj, hno, q⟩ := h
  cases rx
  cases rxs with
  | cons ry rt =>
    rename_i uy ut
    cases rt
    obtain ⟨its, rv, ⟨⟨cls, dd, data, sl⟩, ho, hc, n, hd⟩, hlen⟩ := I.tuple hs
    simp only at hc hd
    subst hc hd
    obtain ⟨u, hu, ru⟩ := rv.get hz
    obtain ⟨hjl, hje⟩ := List.getElem?_eq_some_iff.mp hu
    have hvl := rv.length
    have hj : j < its.toArray.size := by simpa using hjl
    refine call_meets PySem.F.slot_tuple_index ⟨_, ho, rfl⟩ PySem.F.entry_tuple_index (PySem.F.args_tuple_index_2 _ _)
      (TI.tuple_indexAt a its.toArray n dd sl uy (eqU y) j hj ?_ ?_) ⟨ho, fun u' hu' => mem_eqAt ry fy rv fys u' (by simpa using hu'), ?_⟩
    · have e1 : its.toArray[j] = u := by simpa using hje
      rw [e1, eqU_of ru (flat_at fys hz)]
      exact hzj
    · intro m hm hmj
      have hml : m < its.length := by simpa using hm
      have hmy : m < ys.length := by omega
      have hy' : ys[m]? = some ys[m] := List.getElem?_eq_getElem hmy
      obtain ⟨u2, hu2, ru2⟩ := rv.get hy'
      obtain ⟨_, hme⟩ := List.getElem?_eq_some_iff.mp hu2
      have e1 : its.toArray[m] = u2 := by simpa using hme
      rw [e1, eqU_of ru2 (flat_at fys hy')]
      exact hno m _ hmj hy'
    · exact ⟨.int (j : Nat), H, I.tok _, ⟨_, rfl⟩, q⟩
theorem mt_lidx {X : Cx} {K : PySem.W.Frag} (hK : X.K = K) : MtR X "list.index" (rIndex K) := by
  subst hK
  exact mt_index
end Fr
namespace Fr
open PySem PySem.Spec PyProof.Rows L2
/-! ### the texts by their places -/
def topS (i : Nat) : Stmt := PySem.Challenge.pw_fractrows_k50_whole_machines.main.body.getD i (.Pass ⟨0, 0, 0, 0⟩)
abbrev s_is_count : Stmt := topS 10
theorem sc_is_count : FnScope ["thing", "low", "high"] ["thing", "low", "high"] (defScope s_is_count) := ⟨rfl, rfl, rfl, by decide +kernel, rfl, by decide +kernel, by decide +kernel⟩
abbrev s_need_count : Stmt := topS 11
theorem sc_need_count : FnScope ["thing", "low", "high"] ["thing", "low", "high"] (defScope s_need_count) := ⟨rfl, rfl, rfl, by decide +kernel, rfl, by decide +kernel, by decide +kernel⟩
abbrev s_parted : Stmt := topS 12
theorem sc_parted : FnScope ["number", "found", "prime", "many"] ["number"] (defScope s_parted) := ⟨rfl, rfl, rfl, by decide +kernel, rfl, by decide +kernel, by decide +kernel⟩
abbrev s_is_number : Stmt := topS 13
theorem sc_is_number : FnScope ["thing", "found", "left", "many"] ["thing"] (defScope s_is_number) := ⟨rfl, rfl, rfl, by decide +kernel, rfl, by decide +kernel, by decide +kernel⟩
abbrev s_need_number : Stmt := topS 14
theorem sc_need_number : FnScope ["number"] ["number"] (defScope s_need_number) := ⟨rfl, rfl, rfl, by decide +kernel, rfl, by decide +kernel, by decide +kernel⟩
abbrev s_made : Stmt := topS 15
theorem sc_made : FnScope ["rooms", "found", "prime", "many", "turn"] ["rooms"] (defScope s_made) := ⟨rfl, rfl, rfl, by decide +kernel, rfl, by decide +kernel, by decide +kernel⟩
abbrev s_is_line : Stmt := topS 22
theorem sc_is_line : FnScope ["thing", "lines", "goal"] ["thing", "lines"] (defScope s_is_line) := ⟨rfl, rfl, rfl, by decide +kernel, rfl, by decide +kernel, by decide +kernel⟩
abbrev s_need_machine : Stmt := topS 23
theorem sc_need_machine : FnScope ["machine", "line"] ["machine"] (defScope s_need_machine) := ⟨rfl, rfl, rfl, by decide +kernel, rfl, by decide +kernel, by decide +kernel⟩
abbrev s_need_counters : Stmt := topS 24
theorem sc_need_counters : FnScope ["counters", "good", "one"] ["counters"] (defScope s_need_counters) := ⟨rfl, rfl, rfl, by decide +kernel, rfl, by decide +kernel, by decide +kernel⟩
abbrev s_changed : Stmt := topS 25
theorem sc_changed : FnScope ["counters", "place", "by"] ["counters", "place", "by"] (defScope s_changed) := ⟨rfl, rfl, rfl, by decide +kernel, rfl, by decide +kernel, by decide +kernel⟩
abbrev s_went : Stmt := topS 26
theorem sc_went : FnScope ["machine", "state", "at", "counters", "line"] ["machine", "state"] (defScope s_went) := ⟨rfl, rfl, rfl, by decide +kernel, rfl, by decide +kernel, by decide +kernel⟩
abbrev s_machine_run : Stmt := topS 27
theorem sc_machine_run : FnScope ["machine", "counters", "most", "found", "later"] ["machine", "counters", "most"] (defScope s_machine_run) := ⟨rfl, rfl, rfl, by decide +kernel, rfl, by decide +kernel, by decide +kernel⟩
abbrev s_at_line : Stmt := topS 28
theorem sc_at_line : FnScope ["place"] ["place"] (defScope s_at_line) := ⟨rfl, rfl, rfl, by decide +kernel, rfl, by decide +kernel, by decide +kernel⟩
abbrev s_program_of : Stmt := topS 29
theorem sc_program_of : FnScope ["machine", "found", "place", "line", "own"] ["machine"] (defScope s_program_of) := ⟨rfl, rfl, rfl, by decide +kernel, rfl, by decide +kernel, by decide +kernel⟩
abbrev s_start : Stmt := topS 30
theorem sc_start : FnScope ["counters"] ["counters"] (defScope s_start) := ⟨rfl, rfl, rfl, by decide +kernel, rfl, by decide +kernel, by decide +kernel⟩
abbrev s_counters_in : Stmt := topS 31
theorem sc_counters_in : FnScope ["number", "rooms", "lines", "place"] ["number"] (defScope s_counters_in) := ⟨rfl, rfl, rfl, by decide +kernel, rfl, by decide +kernel, by decide +kernel⟩
abbrev s_common : Stmt := topS 36
theorem sc_common : FnScope ["one", "other"] ["one", "other"] (defScope s_common) := ⟨rfl, rfl, rfl, by decide +kernel, rfl, by decide +kernel, by decide +kernel⟩
abbrev s_is_fraction : Stmt := topS 37
theorem sc_is_fraction : FnScope ["thing", "one"] ["thing"] (defScope s_is_fraction) := ⟨rfl, rfl, rfl, by decide +kernel, rfl, by decide +kernel, by decide +kernel⟩
abbrev s_is_program : Stmt := topS 38
theorem sc_is_program : FnScope ["thing", "one"] ["thing"] (defScope s_is_program) := ⟨rfl, rfl, rfl, by decide +kernel, rfl, by decide +kernel, by decide +kernel⟩
abbrev s_need_program : Stmt := topS 39
theorem sc_need_program : FnScope ["program"] ["program"] (defScope s_need_program) := ⟨rfl, rfl, rfl, by decide +kernel, rfl, by decide +kernel, by decide +kernel⟩
abbrev s_first_at : Stmt := topS 40
theorem sc_first_at : FnScope ["program", "number", "place", "fraction"] ["program", "number"] (defScope s_first_at) := ⟨rfl, rfl, rfl, by decide +kernel, rfl, by decide +kernel, by decide +kernel⟩
abbrev s_led : Stmt := topS 41
theorem sc_led : FnScope ["program", "number", "place"] ["program", "number"] (defScope s_led) := ⟨rfl, rfl, rfl, by decide +kernel, rfl, by decide +kernel, by decide +kernel⟩
abbrev s_need_room : Stmt := topS 42
theorem sc_need_room : FnScope ["number"] ["number"] (defScope s_need_room) := ⟨rfl, rfl, rfl, by decide +kernel, rfl, by decide +kernel, by decide +kernel⟩
abbrev s_look : Stmt := topS 43
theorem sc_look : FnScope ["program", "number"] ["program", "number"] (defScope s_look) := ⟨rfl, rfl, rfl, by decide +kernel, rfl, by decide +kernel, by decide +kernel⟩
abbrev s_run : Stmt := topS 44
theorem sc_run : FnScope ["program", "number", "most", "found", "later"] ["program", "number", "most"] (defScope s_run) := ⟨rfl, rfl, rfl, by decide +kernel, rfl, by decide +kernel, by decide +kernel⟩
abbrev s_end : Stmt := topS 45
theorem sc_end : FnScope ["program", "number", "most", "found"] ["program", "number", "most"] (defScope s_end) := ⟨rfl, rfl, rfl, by decide +kernel, rfl, by decide +kernel, by decide +kernel⟩
abbrev s__law_cell : Stmt := topS 47
theorem sc__law_cell : FnScope ["script", "k"] ["script", "k"] (defScope s__law_cell) := ⟨rfl, rfl, rfl, by decide +kernel, rfl, by decide +kernel, by decide +kernel⟩
abbrev s__law_drawn : Stmt := topS 48
theorem sc__law_drawn : FnScope ["cell", "k", "more"] ["cell", "k"] (defScope s__law_drawn) := ⟨rfl, rfl, rfl, by decide +kernel, rfl, by decide +kernel, by decide +kernel⟩
abbrev s__law_word : Stmt := topS 49
theorem sc__law_word : FnScope ["e", "flags", "flag"] ["e"] (defScope s__law_word) := ⟨rfl, rfl, rfl, by decide +kernel, rfl, by decide +kernel, by decide +kernel⟩
abbrev s__law_told : Stmt := topS 50
theorem sc__law_told : FnScope ["deed", "e"] ["deed"] (defScope s__law_told) := ⟨rfl, rfl, rfl, by decide +kernel, rfl, by decide +kernel, by decide +kernel⟩
abbrev s__law_primes : Stmt := topS 51
theorem sc__law_primes : FnScope [] [] (defScope s__law_primes) := ⟨rfl, rfl, rfl, by decide +kernel, rfl, by decide +kernel, by decide +kernel⟩
abbrev s__law_number : Stmt := topS 52
theorem sc__law_number : FnScope ["rooms", "found", "prime", "many", "turn"] ["rooms"] (defScope s__law_number) := ⟨rfl, rfl, rfl, by decide +kernel, rfl, by decide +kernel, by decide +kernel⟩
abbrev s__law_machine : Stmt := topS 53
theorem sc__law_machine : FnScope ["more", "lines", "found", "j", "here", "one", "other", "word"] ["more"] (defScope s__law_machine) := ⟨rfl, rfl, rfl, by decide +kernel, rfl, by decide +kernel, by decide +kernel⟩
abbrev s__law_machine_run : Stmt := topS 54
theorem sc__law_machine_run : FnScope ["machine", "counters", "most", "found", "at", "row", "line"] ["machine", "counters", "most"] (defScope s__law_machine_run) := ⟨rfl, rfl, rfl, by decide +kernel, rfl, by decide +kernel, by decide +kernel⟩
abbrev s__law_own : Stmt := topS 55
theorem sc__law_own : FnScope ["line", "primes"] ["line"] (defScope s__law_own) := ⟨rfl, rfl, rfl, by decide +kernel, rfl, by decide +kernel, by decide +kernel⟩
abbrev s__law_made : Stmt := topS 56
theorem sc__law_made : FnScope ["machine", "found", "line", "one", "own"] ["machine"] (defScope s__law_made) := ⟨rfl, rfl, rfl, by decide +kernel, rfl, by decide +kernel, by decide +kernel⟩
abbrev s__law_refused : Stmt := topS 57
theorem sc__law_refused : FnScope ["machine", "none", "bad", "some"] ["machine"] (defScope s__law_refused) := ⟨rfl, rfl, rfl, by decide +kernel, rfl, by decide +kernel, by decide +kernel⟩
abbrev s_law : Stmt := topS 58
theorem sc_law : FnScope ["script", "k", "more", "j", "here", "machine", "counters", "most", "row", "program", "numbers", "at", "line", "own", "number", "goal", "n"] ["script"] (defScope s_law) := ⟨rfl, rfl, rfl, by decide +kernel, rfl, by decide +kernel, by decide +kernel⟩
/-! ### what stands behind the top -/
structure Txt (K : PySem.W.Frag) (mg : Str → Option Value) : Prop where
  b_isinstance : mg "isinstance" = none
  b_int : mg "int" = none
  b_bool : mg "bool" = none
  b_str : mg "str" = none
  b_list : mg "list" = none
  b_tuple : mg "tuple" = none
  b_len : mg "len" = none
  b_all : mg "all" = none
  b_max : mg "max" = none
  b_min : mg "min" = none
  b_sum : mg "sum" = none
  b_range : mg "range" = none
  b_zip : mg "zip" = none
  b_enumerate : mg "enumerate" = none
  b_ValueError : mg "ValueError" = none
  d_is_count : FnP K "is_count" s_is_count
  m_is_count : mg "is_count" = some (.ref (ga K "is_count"))
  d_need_count : FnP K "need_count" s_need_count
  m_need_count : mg "need_count" = some (.ref (ga K "need_count"))
  d_parted : FnP K "parted" s_parted
  m_parted : mg "parted" = some (.ref (ga K "parted"))
  d_is_number : FnP K "is_number" s_is_number
  m_is_number : mg "is_number" = some (.ref (ga K "is_number"))
  d_need_number : FnP K "need_number" s_need_number
  m_need_number : mg "need_number" = some (.ref (ga K "need_number"))
  d_made : FnP K "made" s_made
  m_made : mg "made" = some (.ref (ga K "made"))
  d_is_line : FnP K "is_line" s_is_line
  m_is_line : mg "is_line" = some (.ref (ga K "is_line"))
  d_need_machine : FnP K "need_machine" s_need_machine
  m_need_machine : mg "need_machine" = some (.ref (ga K "need_machine"))
  d_need_counters : FnP K "need_counters" s_need_counters
  m_need_counters : mg "need_counters" = some (.ref (ga K "need_counters"))
  d_changed : FnP K "changed" s_changed
  m_changed : mg "changed" = some (.ref (ga K "changed"))
  d_went : FnP K "went" s_went
  m_went : mg "went" = some (.ref (ga K "went"))
  d_machine_run : FnP K "machine_run" s_machine_run
  m_machine_run : mg "machine_run" = some (.ref (ga K "machine_run"))
  d_at_line : FnP K "at_line" s_at_line
  m_at_line : mg "at_line" = some (.ref (ga K "at_line"))
  d_program_of : FnP K "program_of" s_program_of
  m_program_of : mg "program_of" = some (.ref (ga K "program_of"))
  d_start : FnP K "start" s_start
  m_start : mg "start" = some (.ref (ga K "start"))
  d_counters_in : FnP K "counters_in" s_counters_in
  m_counters_in : mg "counters_in" = some (.ref (ga K "counters_in"))
  d_common : FnP K "common" s_common
  m_common : mg "common" = some (.ref (ga K "common"))
  d_is_fraction : FnP K "is_fraction" s_is_fraction
  m_is_fraction : mg "is_fraction" = some (.ref (ga K "is_fraction"))
  d_is_program : FnP K "is_program" s_is_program
  m_is_program : mg "is_program" = some (.ref (ga K "is_program"))
  d_need_program : FnP K "need_program" s_need_program
  m_need_program : mg "need_program" = some (.ref (ga K "need_program"))
  d_first_at : FnP K "first_at" s_first_at
  m_first_at : mg "first_at" = some (.ref (ga K "first_at"))
  d_led : FnP K "led" s_led
  m_led : mg "led" = some (.ref (ga K "led"))
  d_need_room : FnP K "need_room" s_need_room
  m_need_room : mg "need_room" = some (.ref (ga K "need_room"))
  d_look : FnP K "look" s_look
  m_look : mg "look" = some (.ref (ga K "look"))
  d_run : FnP K "run" s_run
  m_run : mg "run" = some (.ref (ga K "run"))
  d_end : FnP K "end" s_end
  m_end : mg "end" = some (.ref (ga K "end"))
  d__law_cell : FnP K "_law_cell" s__law_cell
  m__law_cell : mg "_law_cell" = some (.ref (ga K "_law_cell"))
  d__law_drawn : FnP K "_law_drawn" s__law_drawn
  m__law_drawn : mg "_law_drawn" = some (.ref (ga K "_law_drawn"))
  d__law_word : FnP K "_law_word" s__law_word
  m__law_word : mg "_law_word" = some (.ref (ga K "_law_word"))
  d__law_told : FnP K "_law_told" s__law_told
  m__law_told : mg "_law_told" = some (.ref (ga K "_law_told"))
  d__law_primes : FnP K "_law_primes" s__law_primes
  m__law_primes : mg "_law_primes" = some (.ref (ga K "_law_primes"))
  d__law_number : FnP K "_law_number" s__law_number
  m__law_number : mg "_law_number" = some (.ref (ga K "_law_number"))
  d__law_machine : FnP K "_law_machine" s__law_machine
  m__law_machine : mg "_law_machine" = some (.ref (ga K "_law_machine"))
  d__law_machine_run : FnP K "_law_machine_run" s__law_machine_run
  m__law_machine_run : mg "_law_machine_run" = some (.ref (ga K "_law_machine_run"))
  d__law_own : FnP K "_law_own" s__law_own
  m__law_own : mg "_law_own" = some (.ref (ga K "_law_own"))
  d__law_made : FnP K "_law_made" s__law_made
  m__law_made : mg "_law_made" = some (.ref (ga K "_law_made"))
  d__law_refused : FnP K "_law_refused" s__law_refused
  m__law_refused : mg "_law_refused" = some (.ref (ga K "_law_refused"))
  d_law : FnP K "law" s_law
  m_law : mg "law" = some (.ref (ga K "law"))
  m_RowError : mg "RowError" = some (.ref (ga K "RowError"))
  x_RowError : PySem.W.excIn K (ga K "RowError") He.veBase "ValueError.__new__" = true ∧ PySem.W.keepIn K (.ref (ga K "RowError")) = true ∧ PySem.W.subIn K (.ref (ga K "RowError")) (.type "BaseException") = some true ∧ PySem.W.typeIn K (.ref (ga K "RowError")) = some (.type "type")
  m_BadNumber : mg "BadNumber" = some (.ref (ga K "BadNumber"))
  x_BadNumber : PySem.W.excIn K (ga K "BadNumber") He.veBase "ValueError.__new__" = true ∧ PySem.W.keepIn K (.ref (ga K "BadNumber")) = true ∧ PySem.W.subIn K (.ref (ga K "BadNumber")) (.type "BaseException") = some true ∧ PySem.W.typeIn K (.ref (ga K "BadNumber")) = some (.type "type")
  m_BadProgram : mg "BadProgram" = some (.ref (ga K "BadProgram"))
  x_BadProgram : PySem.W.excIn K (ga K "BadProgram") He.veBase "ValueError.__new__" = true ∧ PySem.W.keepIn K (.ref (ga K "BadProgram")) = true ∧ PySem.W.subIn K (.ref (ga K "BadProgram")) (.type "BaseException") = some true ∧ PySem.W.typeIn K (.ref (ga K "BadProgram")) = some (.type "type")
  m_BadMachine : mg "BadMachine" = some (.ref (ga K "BadMachine"))
  x_BadMachine : PySem.W.excIn K (ga K "BadMachine") He.veBase "ValueError.__new__" = true ∧ PySem.W.keepIn K (.ref (ga K "BadMachine")) = true ∧ PySem.W.subIn K (.ref (ga K "BadMachine")) (.type "BaseException") = some true ∧ PySem.W.typeIn K (.ref (ga K "BadMachine")) = some (.type "type")
  m_TooGreat : mg "TooGreat" = some (.ref (ga K "TooGreat"))
  x_TooGreat : PySem.W.excIn K (ga K "TooGreat") He.veBase "ValueError.__new__" = true ∧ PySem.W.keepIn K (.ref (ga K "TooGreat")) = true ∧ PySem.W.subIn K (.ref (ga K "TooGreat")) (.type "BaseException") = some true ∧ PySem.W.typeIn K (.ref (ga K "TooGreat")) = some (.type "type")
  m_BadText : mg "BadText" = some (.ref (ga K "BadText"))
  x_BadText : PySem.W.excIn K (ga K "BadText") He.veBase "ValueError.__new__" = true ∧ PySem.W.keepIn K (.ref (ga K "BadText")) = true ∧ PySem.W.subIn K (.ref (ga K "BadText")) (.type "BaseException") = some true ∧ PySem.W.typeIn K (.ref (ga K "BadText")) = some (.type "type")
  m_PRIMES : mg "PRIMES" = some (.ref (ga K "PRIMES"))
  t_PRIMES : ∀ H : Hp, SqT K H (ga K "PRIMES") [.int 2, .int 3, .int 5, .int 7, .int 11, .int 13, .int 17, .int 19, .int 23, .int 29, .int 31, .int 37]
  c_MOST_ROOM : ∃ t, mg "MOST_ROOM" = some (.int 400 t)
  c_COUNTERS : ∃ t, mg "COUNTERS" = some (.int 3 t)
  c_MOST_LINES : ∃ t, mg "MOST_LINES" = some (.int 4 t)
  c_MOST_COUNTER : ∃ t, mg "MOST_COUNTER" = some (.int 100 t)
  c_MOST_STEPS_machines : ∃ t, mg "MOST_STEPS_machines" = some (.int 500 t)
  m_SIZES : mg "SIZES" = some (.ref (ga K "SIZES"))
  v_SIZES : He.valsB K (ga K "SIZES") [("add", .int 3), ("take", .int 4), ("end", .int 1)] = true
  n_SIZES : PySem.W.nsIn K (ga K "SIZES") "stop" = some none
  c_MOST_FRACTIONS : ∃ t, mg "MOST_FRACTIONS" = some (.int 16 t)
  c_MOST_STEPS_programs : ∃ t, mg "MOST_STEPS_programs" = some (.int 2000 t)
  c_MOST_PART : ∃ t, mg "MOST_PART" = some (.int 1000000 t)
  w_exc : excB K ["BadMachine", "BadNumber", "BadProgram", "BadText", "TooGreat"] = true
  w_tab : tabsD K ["_law_refused"] = true
end Fr
namespace Fr
open PySem PySem.Spec PyProof.Rows L2
section
variable {P : Program} {w : World} {K : PySem.W.Frag} {mg : Str → Option Value} {base : Heap}
theorem Cal.mk0 {x : Str} {st : Stmt} {N ps : List Str} {k : Nat} {sp : Sp} (D : FnP K x st) (m : mg x = some (.ref (ga K x))) (S : FnScope N ps (defScope st))
    (hb : ∀ (kV doc pm : Value) (an : Option Addr) (cdv ct : Value) (us : List Value), us.length = ps.length → bindArgs (PySem.W.fnOf x x (defArgs st) (defBody st) (defScope st) .none kV doc pm an cdv ct) ⟨us, []⟩ = pure (ps.zip us))
    (len : ∀ vs H Q E, sp vs H Q E → vs.length = ps.length)
    (hbody : ∀ (cdv : Value) (A : Around) (outer : List Env) (s : Shared) (H : Hp) (vs : List V) (Q : VK) (E : XK), Room k (A.deeper (envOfC x (defScope st) s.heap.objs.size (ga K x) cdv)) → sp vs H Q E →
      ∃ t, PSs (cxOf L2.CX0 P w K mg base N x (defScope st) (ga K x) cdv A outer s H E).nox (defBody st) t ∧ t { nx := fun _ H' => Q .non H', rt := Q } (start N vs) H) : Cal P w K mg base L2.CX0 (k + 1) x ps sp := by
  refine ⟨D.ok S len fun cdv A outer s H vs Q E hr h => ?_, m, D.kp, D.bindsN hb⟩
  obtain ⟨t, h1, h2⟩ := hbody cdv A outer s H vs Q E hr h
  exact ⟨t, h1.nox, h2⟩
theorem Cal.mkX {x : Str} {st : Stmt} {N ps : List Str} {k : Nat} {sp : Sp} (D : FnP K x st) (m : mg x = some (.ref (ga K x))) (S : FnScope N ps (defScope st))
    (hb : ∀ (kV doc pm : Value) (an : Option Addr) (cdv ct : Value) (us : List Value), us.length = ps.length → bindArgs (PySem.W.fnOf x x (defArgs st) (defBody st) (defScope st) .none kV doc pm an cdv ct) ⟨us, []⟩ = pure (ps.zip us))
    (len : ∀ vs H Q E, sp vs H Q E → vs.length = ps.length)
    (hbody : ∀ (cdv : Value) (A : Around) (outer : List Env) (s : Shared) (H : Hp) (vs : List V) (Q : VK) (E : XK), Room k (A.deeper (envOfC x (defScope st) s.heap.objs.size (ga K x) cdv)) → sp vs H Q E →
      ∃ t, PSs (cxOf (L2N.CX P w) P w K mg base N x (defScope st) (ga K x) cdv A outer s H E) (defBody st) t ∧ t { nx := fun _ H' => Q .non H', rt := Q } (start N vs) H) : Cal P w K mg base (L2N.CX P w) (k + 1) x ps sp :=
  ⟨D.ok S len hbody, m, D.kp, D.bindsN hb⟩

/-! ### parted -/
def spParted : Sp := fun vs H Q _ => ∃ n : Nat, vs = [nI n] ∧ 0 < n ∧ ∀ p t H', Same H H' → H' t = some (.tup ((rooms n).map nI)) → H' p = some (.tup [.ref t, nI (left n)]) → Q (.ref p) H'
theorem ok_parted (T : Txt K mg) : Cal P w K mg base L2.CX0 1 "parted" ["number"] spParted := by
  refine Cal.mk0 T.d_parted T.m_parted sc_parted (fun _ _ _ _ _ _ us hl => match us, hl with | [_], _ => rfl) (fun vs H Q E h => ?_) (fun cdv A outer s H vs Q E hr h => ?_)
  · obtain ⟨n, rfl, _⟩ := h
    rfl
  obtain ⟨n, rfl, hn, q⟩ := h
  refine ⟨_, (pss_cons (ps_set (i := 1) sc_parted.nd rfl (.inl rfl) (pe_lst pa_nil))
      (pss_cons (ps_for PassesOwn.never rfl (piT rfl (pe_glob (v := .ref (ga K "PRIMES")) (by rfl) T.m_PRIMES rfl)) (pg_name (i := 2) sc_parted.nd rfl (.inl rfl)) (pss_cons (ps_set (i := 3) sc_parted.nd rfl (.inl rfl) pe_int)
      (pss_cons (ps_while PassesOwn.never (pt_cmpR opN_eq (pe_op opN_mod (pv 0) (pv 2)) pe_int (nomark _)) (pss_cons (ps_set (i := 0) sc_parted.nd rfl (.inl rfl) (pe_op opN_div (pv 0) (pv 2)))
      (pss_one (ps_set (i := 3) sc_parted.nd rfl (.inl rfl) (pe_op opN_add (pv 3) pe_int)))))
      (pss_one (ps_expr (bm rfl PySem.F.plainAttrs_list PySem.F.slot_list_append PySem.F.type_list_append mt_append (pv 1) (pa_cons (pv 3) pa_nil)))))))
      (pss_one (ps_ret (pe_tup (pa_cons (pe_callTy (tupleOf rfl) (by rfl) T.b_tuple boot_tuple (pa_cons (pv 1) pa_nil)) (pa_cons (pv 0) pa_nil))))))), ?_⟩
  refine ⟨Nat.zero_le _, fun o no => ?_⟩
  have hP : SqT K (upd H o (.lst [])) (ga K "PRIMES") (primes.map nI) := T.t_PRIMES _
  refine ⟨_, rfl, ⟨_, hP⟩, for_tup (xs := primes.map nI) (fun i σ H3 => ∃ y2 y3, σ = [some (nI (partL (primes.take i) n).2), some (.ref o), y2, y3] ∧ Same H H3 ∧ H3 o = some (.lst ((partL (primes.take i) n).1.map nI))) ?_ ?_ ?_ ?_⟩
  · exact ⟨none, none, rfl, same_new no, upd_same⟩
  · rintro i σ H3 _ _
    exact T.t_PRIMES _
  · rintro i x σ H3 hx ⟨y2, y3, rfl, sm, ho⟩
    rw [List.getElem?_map] at hx
    obtain ⟨p, hp, rfl⟩ := Option.map_eq_some_iff.mp hx
    have hp2 : 2 ≤ p := primes_two p (List.mem_of_getElem? hp)
    have hps : p < 64 := primes_small p (List.mem_of_getElem? hp)
    have hm : 0 < (partL (primes.take i) n).2 := partL_pos _ (fun r hr => primes_two r (List.mem_of_mem_take hr)) n hn
    rw [take_at hp, partL_snoc]
    generalize hA : partL (primes.take i) n = A at *
    refine ⟨fun m σ H4 => ∃ x k : Nat, σ = [some (nI x), some (.ref o), some (nI p), some (nI k)] ∧ H4 = H3 ∧ 0 < x ∧ x = m ∧ (strip p A.2).1 = k + (strip p x).1 ∧ (strip p A.2).2 = (strip p x).2, ⟨_, A.2, 0, rfl, rfl, hm, rfl, by omega, rfl⟩, ?_⟩
    rintro m σ H4 ⟨x, k, rfl, rfl, hx0, rfl, e1, e2⟩
    refine ⟨_, rfl, _, rfl, x, p, rfl, rfl, by omega, _, 0, rfl, rfl, _, rfl, ite2 (fun hd => ?_) (fun hd => ?_)⟩
    · have hd := of_decide_eq_true hd
      obtain ⟨f1, f2, f3⟩ := strip_yes hd hp2 hx0
      refine ⟨fun σ' H' => ∃ x' k' : Nat, x' < x ∧ σ' = [some (nI x'), some (.ref o), some (nI p), some (nI k')] ∧ H' = H4 ∧ 0 < x' ∧ (strip p A.2).1 = k' + (strip p x').1 ∧ (strip p A.2).2 = (strip p x').2, ?_, ?_⟩
      · rintro σ' H' ⟨x', k', h1, h2, h3, h4, h5, h6⟩
        exact ⟨x', h1, x', k', h2, h3, h4, rfl, h5, h6⟩
      · refine ⟨_, rfl, _, rfl, x, p, rfl, rfl, ⟨by omega, ?_⟩, _, rfl, k, 1, rfl, rfl, x / p, k + 1, f3, rfl, rfl, f2, ?_, ?_⟩
        · exact Nat.lt_of_lt_of_le (PySem.Flt.log2_lt_of (by decide) (show p < 2 ^ 6 by omega)) (by decide)
        · rw [e1, f1]; show k + ((strip p (x / p)).1 + 1) = _; omega
        · rw [e2, f1]
    · have hd : ¬ x % p = 0 := fun z => hd (decide_eq_true z)
      rw [strip_no hd hp2] at e1 e2
      refine ⟨_, rfl, .inl ⟨rfl, _, SqL.of ho⟩, _, rfl, o, _, _, rfl, rfl, ho, ?_, ?_⟩
      · rw [List.length_map, ← hA, partL_len]
        exact Nat.lt_of_le_of_lt (List.length_take_le' _ _) (by decide)
      · refine ⟨some (nI p), some (nI k), ?_, same_put sm no, ?_⟩
        · rw [e2]
        · rw [upd_same, e1, List.map_append]
          rfl
  · rintro σ H3 ⟨y2, y3, rfl, sm, ho⟩
    have ep : primes.take (primes.map nI).length = primes := rfl
    rw [ep] at ho ⊢
    refine ⟨_, rfl, o, _, rfl, .inl ⟨SqL.of ho, fun t nt => ?_⟩⟩
    refine ⟨_, rfl, (by show 2 ≤ sizeLine; decide), fun p np => ?_⟩
    have ntp : t ≠ p := ne_of_none upd_same np
    exact q p t _ ((sm.trans (same_new nt)).trans (same_new np)) (by rw [upd_ne ntp, upd_same, rooms_def]) (by rw [upd_same, left_def])
end
end Fr
namespace Fr
open PySem PySem.Spec PyProof.Rows L2
section
variable {P : Program} {w : World} {K : PySem.W.Frag} {mg : Str → Option Value} {base : Heap}
/-! ### is_number -/
def spIsNumber (K : PySem.W.Frag) : Sp := fun vs H Q _ => ∃ (v : V) (d : PyData), vs = [v] ∧ Dp K H v d ∧ ∀ H', Same H H' → Q (.bl (isNumD d)) H'
theorem all_le (as : List Nat) : ((as.map fun a => decide (a ≤ 400)).all id) = as.all fun a => decide (a ≤ 400) := by
  rw [List.all_map]
  rfl
theorem isNum_eq {n : Nat} (h : 1 ≤ n) : isNum n = (decide (left n = 1) && (rooms n).all fun a => decide (a ≤ 400)) := by
  unfold isNum
  rw [decide_eq_true h, Bool.true_and]
theorem ok_is_number (T : Txt K mg) : Cal P w K mg base L2.CX0 2 "is_number" ["thing"] (spIsNumber K) := by
  have c_parted := ok_parted (P := P) (w := w) (base := base) T
  refine Cal.mk0 T.d_is_number T.m_is_number sc_is_number (fun _ _ _ _ _ _ us hl => match us, hl with | [_], _ => rfl) (fun vs H Q E h => ?_) (fun cdv A outer s H vs Q E hr h => ?_)
  · obtain ⟨v, d, rfl, _⟩ := h
    rfl
  obtain ⟨v, d, rfl, hd, q⟩ := h
  refine ⟨_, (pss_cons (ps_if (PW.pt (pw_or (pt_not (pt_val (pe_callB (isInt rfl) (by rfl) T.b_isinstance boot_isinstance (pa_cons (pv 0) (pa_cons (pe_bltn (v := .ty "int") (by rfl) T.b_int boot_int rfl) pa_nil))))) (pw_or (pt_val (pe_callB (isBool rfl) (by rfl) T.b_isinstance boot_isinstance (pa_cons (pv 0) (pa_cons (pe_bltn (v := .ty "bool") (by rfl) T.b_bool boot_bool rfl) pa_nil)))) (pw_or1 (pt_cmpR op_lt (pv 0) pe_int (nomark _)))))) (pss_one (ps_ret pe_bl)) pss_nil)
      (pss_cons (ps_asg (pe_cal c_parted (hr.mono (by decide)) (by rfl) pass0 (pa_cons (pv 0) pa_nil)) (pgT (n := 2) rfl rfl (pgs_cons (pg_name (i := 1) sc_is_number.nd rfl (.inl rfl)) (pgs_cons (pg_name (i := 2) sc_is_number.nd rfl (.inl rfl)) pgs_nil))))
      (pss_one (ps_ret (pe_and (pe_cmpR opN_eq (pv 2) pe_int (nomark _)) (pe_one (pe_callB (crAll rfl rfl) (by rfl) T.b_all boot_all (pa_cons (pe_lc (own := [("many", 3)]) rfl sc_is_number.nd (piT rfl (pv 1)) (blkOk_by (own := [("many", 3)]) (N := ["thing", "found", "left", "many"]) (sc := defScope s_is_number) (by decide +kernel)) (fun _ _ _ _ _ => (pg_name (i := 3) sc_is_number.nd rfl (.inl rfl))) (fun _ _ _ _ _ => pts_nil) (fun _ _ _ _ _ => (pe_cmpR opN_le (pv 3) (pe_glob (v := .int 400) (by rfl) T.c_MOST_ROOM.choose_spec ⟨_, rfl⟩) (nomark _)))) pa_nil)))))))), ?_⟩
  refine ⟨_, rfl, _, _, rfl, hd, _, rfl, ?_⟩
  have q0 := q H (Same.refl H)
  cases d with
  | int i =>
    cases hd
    refine iteF ⟨_, rfl, _, _, rfl, .int i, _, rfl, iteF ⟨_, rfl, i, 1, rfl, rfl, _, rfl, ite2 (fun h1 => ?_) (fun h1 => ?_)⟩⟩
    · have h1 := of_decide_eq_true h1
      have e : isNumD (.int i) = false := by
        show (decide (1 ≤ i) && isNum i.toNat) = false
        rw [decide_eq_false (by omega), Bool.false_and]
      rw [e] at q0
      exact q0
    · have h1 : 1 ≤ i := by
        have : ¬ i < 1 := fun z => h1 (decide_eq_true z)
        omega
      obtain ⟨n, rfl⟩ : ∃ n : Nat, i = n := ⟨i.toNat, by omega⟩
      refine ⟨_, rfl, n, rfl, by omega, fun p t H1 sm ht hp => ?_⟩
      have e : isNumD (.int (n : Int)) = (decide (left n = 1) && (rooms n).all fun a => decide (a ≤ 400)) := by
        show (decide (1 ≤ (n : Int)) && isNum (n : Int).toNat) = _
        rw [decide_eq_true h1, Bool.true_and, Int.toNat_natCast, isNum_eq (by omega)]
      rw [e] at q
      refine ⟨p, _, rfl, SqT.of hp, rfl, _, _, rfl, _, _, rfl, rfl, ?_⟩
      refine ⟨_, rfl, left n, 1, rfl, rfl, _, rfl, ite2 (fun h2 => ?_) (fun h2 => ?_)⟩
      · rw [h2, Bool.true_and] at q
        refine ⟨_, rfl, t, rfl, ⟨_, SqT.of ht⟩, fun D hD => ?_⟩
        refine lc_dp (K := K) walk_tup hD (by rw [List.length_map, rooms_len]; decide) (fun H' s' => same_tup s' (SqT.of ht)) (fun i => ((rooms n)[i]?).map fun a => PyData.bool (decide (a ≤ 400))) ?_ ?_ ?_
        · intro i d e
          obtain ⟨a, _, rfl⟩ := Option.map_eq_some_iff.mp e
          rfl
        · rintro i x H' H'' A B hi s' ⟨rfl, hx⟩ hA hB
          rw [List.getElem?_map] at hx
          obtain ⟨a, ha, rfl⟩ := Option.map_eq_some_iff.mp hx
          exact ⟨rfl, _, rfl, a, 400, rfl, rfl, hA _ _ _ (by rw [ha]; rfl) (Same.refl _) (.bl _)⟩
        · intro H' ys s' hD' hA
          rw [List.length_map, gath_map] at hA
          have e2 : ys = ((rooms n).map fun a => decide (a ≤ 400)).map V.bl := dps_bools (by rw [List.map_map]; exact hA)
          rw [e2] at hD'
          refine ⟨D, _, rfl, SqL.of hD', ?_⟩
          rw [all_le]
          exact q H' (sm.trans s')
      · rw [show decide (left n = 1) = false by simpa using h2, Bool.false_and] at q
        exact q H1 sm
  | bool b =>
    cases hd
    exact iteF ⟨_, rfl, _, _, rfl, .bl b, _, rfl, iteT (iteT q0)⟩
  | none => exact iteT (iteT q0)
  | str x => exact iteT (iteT q0)
  | list xs => exact iteT (iteT q0)
  | tuple xs => exact iteT (iteT q0)
  | dict xs => exact iteT (iteT q0)
end
end Fr
namespace Fr
open PySem PySem.Spec PyProof.Rows L2
section
variable {P : Program} {w : World} {K : PySem.W.Frag} {mg : Str → Option Value} {base : Heap}
theorem ok_need_number (T : Txt K mg) : Cal P w K mg base (L2N.CX P w) 3 "need_number" ["number"] (spNeed K (ga K "BadNumber") isNumD) := by
  have c_is_number := ok_is_number (P := P) (w := w) (base := base) T
  refine Cal.mkX T.d_need_number T.m_need_number sc_need_number (fun _ _ _ _ _ _ us hl => match us, hl with | [_], _ => rfl) (fun vs H Q E h => ?_) (fun cdv A outer s H vs Q E hr h => ?_)
  · obtain ⟨v, d, rfl, _⟩ := h
    rfl
  obtain ⟨v, d, rfl, hd, q1, q2⟩ := h
  refine ⟨_, (pss_one (ps_if (pt_not (pt_val (pe_cal c_is_number (hr.mono (by decide)) (by rfl) pass0 (pa_cons (pv 0) pa_nil)))) (pss_one (L2N.ps_raise rfl (L2N.takes_of rfl rfl rfl rfl) (L2N.pmk_own PySem.F.excBase_ValueError T.x_BadNumber.1 T.m_BadNumber T.x_BadNumber.2.1 (raises_own T.x_BadNumber.2.2.1 T.x_BadNumber.2.2.2) (by rfl)))) pss_nil)), ?_⟩
  refine ⟨_, rfl, v, d, rfl, hd, fun H1 s1 => ⟨_, rfl, ?_⟩⟩
  cases e : isNumD d with
  | true => exact iteF (q1 e H1 s1)
  | false => exact iteT (q2 e H1 s1)
end
end Fr
namespace Fr
open PySem PySem.Spec PyProof.Rows L2
section
variable {P : Program} {w : World} {K : PySem.W.Frag} {mg : Str → Option Value} {base : Heap}
/-! ### made -/
def spMade (K : PySem.W.Frag) : Sp := fun vs H Q _ => ∃ (b : Bool) (a : Addr) (as : List Nat), vs = [.ref a] ∧ Zn.Sq K H (b, a) (as.map nI) ∧ as.length ≤ 12 ∧ (∀ x ∈ as, x ≤ 401) ∧ ∀ H', Same H H' → Q (nI (make as)) H'
theorem same_sq {H H' : Hp} {q : Zn.K2} {xs : List V} (s : Same H H') (h : Zn.Sq K H q xs) : Zn.Sq K H' q xs := by
  obtain ⟨b, a⟩ := q
  cases b
  · exact same_tup s h
  · exact s.seq h
theorem row2 {as : List Nat} {i : Nat} {p x : Nat} (hp : primes[i]? = some p) (hx : as[i]? = some x) : Zn.rowAt i [primes.map nI, as.map nI] = [nI p, nI x] := by
  show [(primes.map nI).getD i .non, (as.map nI).getD i .non] = _
  rw [List.getD_eq_getElem?_getD, List.getD_eq_getElem?_getD, List.getElem?_map, List.getElem?_map, hp, hx]
  rfl
theorem ok_made (T : Txt K mg) : Cal P w K mg base L2.CX0 1 "made" ["rooms"] (spMade K) := by
  refine Cal.mk0 T.d_made T.m_made sc_made (fun _ _ _ _ _ _ us hl => match us, hl with | [_], _ => rfl) (fun vs H Q E h => ?_) (fun cdv A outer s H vs Q E hr h => ?_)
  · obtain ⟨b, a, as, rfl, _⟩ := h
    rfl
  obtain ⟨b, a, as, rfl, hs, hl, hb, q⟩ := h
  refine ⟨_, (pss_cons (ps_set (i := 1) sc_made.nd rfl (.inl rfl) pe_int)
      (pss_cons (ps_for PassesOwn.never rfl (Zn.zip2 rfl (by rfl) T.b_zip (pa_cons (pe_glob (v := .ref (ga K "PRIMES")) (by rfl) T.m_PRIMES rfl) (pa_cons (pv 0) pa_nil))) (pgT (n := 2) rfl rfl (pgs_cons (pg_name (i := 2) sc_made.nd rfl (.inl rfl)) (pgs_cons (pg_name (i := 3) sc_made.nd rfl (.inl rfl)) pgs_nil))) (pss_one (ps_for PassesOwn.never rfl (pi_range1 (by rfl) T.b_range (pa_cons (pv 3) pa_nil)) (pg_name (i := 4) sc_made.nd rfl (.inl rfl)) (pss_one (ps_set (i := 1) sc_made.nd rfl (.inl rfl) (pe_op opN_mul (pv 1) (pv 2)))))))
      (pss_one (ps_ret (pv 1))))), ?_⟩
  refine ⟨_, rfl, [(false, ga K "PRIMES"), (b, a)], rfl, rfl, ?_, Zn.for_zipN (n := as.length) (yss := [primes.map nI, as.map nI]) ?_ ?_ (fun i σ H1 => ∃ y2 y3 y4, σ = [some (.ref a), some (nI (makeL (primes.take i) (as.take i))), y2, y3, y4] ∧ Same H H1) ?_ ?_ ?_ ?_⟩
  · intro q hq
    rcases List.mem_cons.mp hq with rfl | hq
    · exact ⟨_, T.t_PRIMES _⟩
    · rcases List.mem_cons.mp hq with rfl | hq
      · exact ⟨_, hs⟩
      · cases hq
  · intro ys hy
    rcases List.mem_cons.mp hy with rfl | hy
    · rw [List.length_map]
      exact hl
    · rcases List.mem_cons.mp hy with rfl | hy
      · rw [List.length_map]
        exact Nat.le_refl _
      · cases hy
  · exact ⟨as.map nI, by simp, by simp⟩
  · exact ⟨none, none, none, rfl, Same.refl H⟩
  · rintro i σ H1 ⟨y2, y3, y4, rfl, sm⟩
    exact ⟨T.t_PRIMES _, same_sq sm hs, True.intro⟩
  · rintro i Tt σ H1 hi ⟨y2, y3, y4, rfl, sm⟩ hT
    obtain ⟨p, hp⟩ : ∃ p, primes[i]? = some p := ⟨_, List.getElem?_eq_getElem (show i < primes.length by show i < 12; omega)⟩
    have hx : as[i]? = some as[i] := List.getElem?_eq_getElem hi
    have hxb : as[i] ≤ 401 := hb _ (List.getElem_mem hi)
    have hps : p < 64 := primes_small p (List.mem_of_getElem? hp)
    rw [row2 hp hx]
    generalize as[i] = x at hx hxb
    refine ⟨Tt, _, rfl, SqT.of upd_same, rfl, _, _, rfl, _, _, rfl, rfl, ?_⟩
    refine ⟨_, rfl, (x : Int), rfl, by omega, by omega, ?_⟩
    refine for_range (fun j σ H2 => ∃ y5, σ = [some (.ref a), some (nI (makeL (primes.take i) (as.take i) * p ^ j)), some (nI p), some (nI x), y5] ∧ Same H H2) ⟨y4, by rw [Nat.pow_zero, Nat.mul_one]; rfl, sm.trans (same_new hT)⟩ ?_ ?_
    · rintro j σ H2 hj ⟨y5, rfl, sm2⟩
      have hj2 : j < x := by simpa using hj
      have h1 := make_part_lt hb hl i p j hps (by omega)
      have h2 : (makeL (primes.take i) (as.take i) * p ^ j).log2 < 40000 := lt_log2 (k := 40000) h1 (by decide) (by decide)
      have h3 : p.log2 < 6 := lt_log2 (k := 6) (by omega) (by decide) (by decide)
      refine ⟨_, rfl, _, rfl, _, p, rfl, rfl, by omega, some (.int (0 + (j : Int))), ?_, sm2⟩
      rw [Nat.pow_succ, ← Nat.mul_assoc]
      rfl
    · rintro σ H2 ⟨y5, rfl, sm2⟩
      refine ⟨some (nI p), some (nI x), y5, ?_, sm2⟩
      rw [makeL_snoc primes as i p x hp hx]
      simp
  · rintro σ H1 ⟨y2, y3, y4, rfl, sm⟩
    refine ⟨_, rfl, ?_⟩
    rw [← make_take as]
    exact q H1 sm
end
end Fr
namespace Fr
open PySem PySem.Spec PyProof.Rows L2
section
variable {P : Program} {w : World} {K : PySem.W.Frag} {mg : Str → Option Value} {base : Heap}
/-! ### is_count -/
def isCountD (lo hi : Int) : PyData → Bool
  | .int i => decide (lo ≤ i) && decide (i ≤ hi)
  | _ => false
def spCount (K : PySem.W.Frag) : Sp := fun vs H Q _ => ∃ (v : V) (d : PyData) (lo hi : Int), vs = [v, .int lo, .int hi] ∧ Dp K H v d ∧ Q (.bl (isCountD lo hi d)) H
theorem ok_is_count (T : Txt K mg) : Cal P w K mg base L2.CX0 1 "is_count" ["thing", "low", "high"] (spCount K) := by
  refine Cal.mk0 T.d_is_count T.m_is_count sc_is_count (fun _ _ _ _ _ _ us hl => match us, hl with | [_, _, _], _ => rfl) (fun vs H Q E h => ?_) (fun cdv A outer s H vs Q E hr h => ?_)
  · obtain ⟨v, d, lo, hi, rfl, _⟩ := h
    rfl
  obtain ⟨v, d, lo, hi, rfl, hd, q⟩ := h
  refine ⟨_, (pss_one (ps_ret (pe_and (pe_callB (isInt rfl) (by rfl) T.b_isinstance boot_isinstance (pa_cons (pv 0) (pa_cons (pe_bltn (v := .ty "int") (by rfl) T.b_int boot_int rfl) pa_nil))) (pe_and (pe_not (pe_callB (isBool rfl) (by rfl) T.b_isinstance boot_isinstance (pa_cons (pv 0) (pa_cons (pe_bltn (v := .ty "bool") (by rfl) T.b_bool boot_bool rfl) pa_nil)))) (pe_one (pe_chain op_le op_le (pv 1) (pv 0) (pv 2))))))), ?_⟩
  refine ⟨_, rfl, _, _, rfl, hd, _, rfl, ?_⟩
  cases d with
  | int i =>
    cases hd
    refine iteT ⟨_, rfl, _, _, rfl, .int i, _, rfl, _, rfl, iteT ⟨_, rfl, _, rfl, lo, i, rfl, rfl, _, rfl, ?_⟩⟩
    refine ite2 (fun h => ?_) (fun h => ?_)
    · refine ⟨_, rfl, i, hi, rfl, rfl, ?_⟩
      have e : isCountD lo hi (.int i) = decide (i ≤ hi) := by
        show (decide (lo ≤ i) && decide (i ≤ hi)) = _
        rw [h, Bool.true_and]
      rw [e] at q
      exact q
    · have e : isCountD lo hi (.int i) = false := by
        show (decide (lo ≤ i) && decide (i ≤ hi)) = _
        rw [Bool.eq_false_iff.mpr h, Bool.false_and]
      rw [e] at q
      exact q
  | bool b =>
    cases hd
    exact iteT ⟨_, rfl, _, _, rfl, .bl b, _, rfl, _, rfl, iteF q⟩
  | none => exact iteF q
  | str x => exact iteF q
  | list xs => exact iteF q
  | tuple xs => exact iteF q
  | dict xs => exact iteF q
def spNeedC (K : PySem.W.Frag) (C : Addr) : Sp := fun vs H Q E => ∃ (v : V) (d : PyData) (lo hi : Int), vs = [v, .int lo, .int hi] ∧ Dp K H v d ∧ (isCountD lo hi d = true → Q .non H) ∧ (isCountD lo hi d = false → E (.ref C) none H)
theorem ok_need_count (T : Txt K mg) : Cal P w K mg base (L2N.CX P w) 2 "need_count" ["thing", "low", "high"] (spNeedC K (ga K "BadNumber")) := by
  have c_is_count := ok_is_count (P := P) (w := w) (base := base) T
  refine Cal.mkX T.d_need_count T.m_need_count sc_need_count (fun _ _ _ _ _ _ us hl => match us, hl with | [_, _, _], _ => rfl) (fun vs H Q E h => ?_) (fun cdv A outer s H vs Q E hr h => ?_)
  · obtain ⟨v, d, lo, hi, rfl, _⟩ := h
    rfl
  obtain ⟨v, d, lo, hi, rfl, hd, q1, q2⟩ := h
  refine ⟨_, (pss_one (ps_if (pt_not (pt_val (pe_cal c_is_count (hr.mono (by decide)) (by rfl) pass0 (pa_cons (pv 0) (pa_cons (pv 1) (pa_cons (pv 2) pa_nil)))))) (pss_one (L2N.ps_raise rfl (L2N.takes_of rfl rfl rfl rfl) (L2N.pmk_own PySem.F.excBase_ValueError T.x_BadNumber.1 T.m_BadNumber T.x_BadNumber.2.1 (raises_own T.x_BadNumber.2.2.1 T.x_BadNumber.2.2.2) (by rfl)))) pss_nil)), ?_⟩
  refine ⟨_, rfl, _, rfl, _, rfl, v, d, lo, hi, rfl, hd, _, rfl, ?_⟩
  cases e : isCountD lo hi d with
  | true => exact iteF (q1 e)
  | false => exact iteT (q2 e)
end
end Fr
namespace Fr
open PySem PySem.Spec PyProof.Rows L2
section
variable {P : Program} {w : World} {K : PySem.W.Frag} {mg : Str → Option Value} {base : Heap}
/-! ### common -/
def spCommon : Sp := fun vs H Q _ => ∃ a b : Nat, vs = [nI a, nI b] ∧ Q (nI (Nat.gcd a b)) H
theorem gcd_step (a b : Nat) : Nat.gcd b (a % b) = Nat.gcd a b := by
  rw [Nat.gcd_comm b (a % b), ← Nat.gcd_rec, Nat.gcd_comm]
theorem ok_common (T : Txt K mg) : Cal P w K mg base L2.CX0 1 "common" ["one", "other"] spCommon := by
  refine Cal.mk0 T.d_common T.m_common sc_common (fun _ _ _ _ _ _ us hl => match us, hl with | [_, _], _ => rfl) (fun vs H Q E h => ?_) (fun cdv A outer s H vs Q E hr h => ?_)
  · obtain ⟨a, b, rfl, _⟩ := h
    rfl
  obtain ⟨a, b, rfl, q⟩ := h
  refine ⟨_, (pss_cons (ps_while PassesOwn.never (pt_cmpR opN_ne (pv 1) pe_int (nomark _)) (pss_one (ps_par (i := 0) (j := 1) (by rfl) sc_common.nd rfl rfl (by decide) rfl rfl (pa_cons (pv 1) (pa_cons (pe_op opN_mod (pv 0) (pv 1)) pa_nil)) (by rfl))))
      (pss_one (ps_ret (pv 0)))), ?_⟩
  refine ⟨fun m σ H3 => ∃ x : Nat, σ = [some (nI x), some (nI m)] ∧ H3 = H ∧ Nat.gcd x m = Nat.gcd a b, ⟨b, a, rfl, rfl, rfl⟩, ?_⟩
  rintro m σ H3 ⟨x, rfl, rfl, e⟩
  refine ⟨_, rfl, m, 0, rfl, rfl, _, rfl, ?_⟩
  by_cases h : m = 0
  · subst h
    refine iteF ⟨_, rfl, ?_⟩
    rw [Nat.gcd_zero_right] at e
    show Q (nI x) H3
    rw [e]
    exact q
  · rw [decide_eq_false h]
    refine iteT ⟨fun σ' H' => σ' = [some (nI m), some (nI (x % m))] ∧ H' = H3, ?_, ?_⟩
    · rintro σ' H' ⟨h1, h2⟩
      exact ⟨x % m, Nat.mod_lt _ (by omega), m, h1, h2, by rw [gcd_step, e]⟩
    · exact ⟨_, rfl, _, rfl, _, rfl, x, m, rfl, rfl, by omega, _, _, rfl, rfl, rfl⟩
/-! ### is_fraction -/
def spIs (K : PySem.W.Frag) (f : PyData → Bool) : Sp := fun vs H Q _ => ∃ (v : V) (d : PyData), vs = [v] ∧ Dp K H v d ∧ ∀ H', Same H H' → Q (.bl (f d)) H'
theorem ok_is_fraction (T : Txt K mg) : Cal P w K mg base L2.CX0 3 "is_fraction" ["thing"] (spIs K isFracD) := by
  have c_is_number := ok_is_number (P := P) (w := w) (base := base) T
  have c_common := ok_common (P := P) (w := w) (base := base) T
  refine Cal.mk0 T.d_is_fraction T.m_is_fraction sc_is_fraction (fun _ _ _ _ _ _ us hl => match us, hl with | [_], _ => rfl) (fun vs H Q E h => ?_) (fun cdv A outer s H vs Q E hr h => ?_)
  · obtain ⟨v, d, rfl, _⟩ := h
    rfl
  obtain ⟨v, d, rfl, hd, q⟩ := h
  refine ⟨_, (pss_cons (ps_if (PW.pt (pw_or (pt_not (pt_val (pe_callB (isTuple rfl) (by rfl) T.b_isinstance boot_isinstance (pa_cons (pv 0) (pa_cons (pe_bltn (v := .ty "tuple") (by rfl) T.b_tuple boot_tuple rfl) pa_nil))))) (pw_or (pt_cmpR opN_ne (pe_callB (lenS rfl) (by rfl) T.b_len PySem.boot_len (pa_cons (pv 0) pa_nil)) pe_int (nomark _)) (pw_or1 (pt_not (pt_val (pe_callB (crAll rfl rfl) (by rfl) T.b_all boot_all (pa_cons (pe_lc (own := [("one", 1)]) rfl sc_is_fraction.nd (piT rfl (pv 0)) (blkOk_by (own := [("one", 1)]) (N := ["thing", "one"]) (sc := defScope s_is_fraction) (by decide +kernel)) (fun _ _ _ _ _ => (pg_name (i := 1) sc_is_fraction.nd rfl (.inl rfl))) (fun _ _ _ _ _ => pts_nil) (fun _ _ _ _ _ => (pe_cal c_is_number (hr.mono (by decide)) (by rfl) pass0 (pa_cons (pv 1) pa_nil)))) pa_nil)))))))) (pss_one (ps_ret pe_bl)) pss_nil)
      (pss_one (ps_ret (pe_and (pe_cmpR opN_le (pe_callB (crMaxT rfl rfl (hu_of hr)) (by rfl) T.b_max boot_max (pa_cons (pv 0) pa_nil)) (pe_glob (v := .int 1000000) (by rfl) T.c_MOST_PART.choose_spec ⟨_, rfl⟩) (nomark _)) (pe_one (pe_cmpR opN_eq (pe_cal c_common (hr.mono (by decide)) (by rfl) pass0 (pa_cons (pe_ix (ixT rfl) (pv 0) pe_int (fun _ _ => rfl)) (pa_cons (pe_ix (ixT rfl) (pv 0) pe_int (fun _ _ => rfl)) pa_nil))) pe_int (nomark _))))))), ?_⟩
  refine ⟨_, rfl, _, _, rfl, hd, _, rfl, ?_⟩
  have q0 := q H (Same.refl H)
  cases d with
  | tuple ds =>
    cases hd with
    | @tup a xs _ hs ha =>
      have hlen := dps_len ha
      refine iteF ⟨_, rfl, a, xs, rfl, .inr hs, xs.length, 2, rfl, rfl, _, rfl, ?_⟩
      by_cases h2 : xs.length = 2
      · rw [decide_eq_true h2]
        refine iteF ⟨_, rfl, a, rfl, ⟨_, hs⟩, fun D hD => ?_⟩
        refine lc_dp (K := K) walk_tup hD (by rw [h2]; decide) (fun H' s' => same_tup s' hs) (fun i => ds[i]?.map fun d => PyData.bool (isNumD d)) ?_ ?_ ?_
        · intro i d e
          obtain ⟨a, _, rfl⟩ := Option.map_eq_some_iff.mp e
          rfl
        · rintro i x H' H'' A B hi s' ⟨rfl, hx⟩ hA hB
          obtain ⟨d, hd, hp⟩ := dps_at2 ha hx
          exact ⟨rfl, _, rfl, x, d, rfl, same_dp s' hp, fun H4 s4 => hA _ _ _ (by rw [hd]; rfl) s4 (.bl _)⟩
        · intro H' ys s' hD' hA
          rw [hlen, gath_map] at hA
          have e2 : ys = (ds.map isNumD).map V.bl := dps_bools (by rw [List.map_map]; exact hA)
          rw [e2] at hD'
          obtain ⟨x, y, rfl⟩ : ∃ x y, ds = [x, y] := by
            match ds, hlen with
            | [x, y], _ => exact ⟨x, y, rfl⟩
            | [], h => rw [h2] at h; cases h
            | [_], h => rw [h2] at h; cases h
            | _ :: _ :: _ :: _, h => rw [h2] at h; simp at h
          refine ⟨D, [isNumD x, isNumD y], rfl, SqL.of hD', _, rfl, ?_⟩
          have e3 : ([isNumD x, isNumD y].all id) = (isNumD x && isNumD y) := by simp
          rw [e3]
          cases hxy : (isNumD x && isNumD y) with
          | false =>
            have e4 : isFracD (.tuple [x, y]) = false := by
              show ((isNumD x && isNumD y) && _) = false
              rw [hxy, Bool.false_and]
            rw [e4] at q
            exact iteT (q H' s')
          | true =>
            obtain ⟨hx, hy⟩ := Bool.and_eq_true_iff.mp hxy
            obtain ⟨n, rfl, _⟩ := isNumD_is hx
            obtain ⟨m, rfl, _⟩ := isNumD_is hy
            have exs : xs = [n, m].map nI := dps_nats (ns := [n, m]) ha
            have hs' : SqT K H' a ([n, m].map nI) := by rw [← exs]; exact same_tup s' hs
            have e4 : isFracD (.tuple [nD n, nD m]) = (decide (max n m ≤ 1000000) && decide (Nat.gcd n m = 1)) := by
              show ((isNumD (nD n) && isNumD (nD m)) && (decide (max (n : Int).toNat (m : Int).toNat ≤ 1000000) && decide (Nat.gcd (n : Int).toNat (m : Int).toNat = 1))) = _
              rw [hxy, Bool.true_and, Int.toNat_natCast, Int.toNat_natCast]
            rw [e4] at q
            refine iteF ⟨_, rfl, a, [n, m], rfl, hs', by simp, maxN [n, m], 1000000, rfl, rfl, _, rfl, ?_⟩
            have e5 : maxN [n, m] = max n m := by simp [maxN]
            rw [e5]
            cases hmx : decide (max n m ≤ 1000000) with
            | false =>
              rw [hmx, Bool.false_and] at q
              exact iteF (q H' s')
            | true =>
              rw [hmx, Bool.true_and] at q
              refine iteT ⟨_, rfl, a, _, 0, _, rfl, rfl, hs', atI0, _, rfl, a, _, 1, _, rfl, rfl, hs', atI1, n, m, rfl, Nat.gcd n m, 1, rfl, rfl, ?_⟩
              exact q H' s'
      · rw [decide_eq_false h2]
        have e : isFracD (.tuple ds) = false := by
          match ds, hlen with
          | [], _ => rfl
          | [_], _ => rfl
          | [_, _], h => exact absurd h h2
          | _ :: _ :: _ :: _, _ => rfl
        rw [e] at q0
        exact iteT (iteT q0)
  | none => exact iteT (iteT q0)
  | bool b => exact iteT (iteT q0)
  | int i => exact iteT (iteT q0)
  | str x => exact iteT (iteT q0)
  | list xs => exact iteT (iteT q0)
  | dict xs => exact iteT (iteT q0)
/-! ### is_program -/
theorem ok_is_program (T : Txt K mg) : Cal P w K mg base L2.CX0 4 "is_program" ["thing"] (spIs K isProgD) := by
  have c_is_fraction := ok_is_fraction (P := P) (w := w) (base := base) T
  refine Cal.mk0 T.d_is_program T.m_is_program sc_is_program (fun _ _ _ _ _ _ us hl => match us, hl with | [_], _ => rfl) (fun vs H Q E h => ?_) (fun cdv A outer s H vs Q E hr h => ?_)
  · obtain ⟨v, d, rfl, _⟩ := h
    rfl
  obtain ⟨v, d, rfl, hd, q⟩ := h
  refine ⟨_, (pss_cons (ps_if (PW.pt (pw_or (pt_not (pt_val (pe_callB (isList rfl) (by rfl) T.b_isinstance boot_isinstance (pa_cons (pv 0) (pa_cons (pe_bltn (v := .ty "list") (by rfl) T.b_list boot_list rfl) pa_nil))))) (pw_or1 (pt_cmpR opN_gt (pe_callB (lenS rfl) (by rfl) T.b_len PySem.boot_len (pa_cons (pv 0) pa_nil)) (pe_glob (v := .int 16) (by rfl) T.c_MOST_FRACTIONS.choose_spec ⟨_, rfl⟩) (nomark _))))) (pss_one (ps_ret pe_bl)) pss_nil)
      (pss_one (ps_ret (pe_callB (crAll rfl rfl) (by rfl) T.b_all boot_all (pa_cons (pe_lc (own := [("one", 1)]) rfl sc_is_program.nd (piL rfl (pv 0)) (blkOk_by (own := [("one", 1)]) (N := ["thing", "one"]) (sc := defScope s_is_program) (by decide +kernel)) (fun _ _ _ _ _ => (pg_name (i := 1) sc_is_program.nd rfl (.inl rfl))) (fun _ _ _ _ _ => pts_nil) (fun _ _ _ _ _ => (pe_cal c_is_fraction (hr.mono (by decide)) (by rfl) pass0 (pa_cons (pv 1) pa_nil)))) pa_nil))))), ?_⟩
  refine ⟨_, rfl, _, _, rfl, hd, _, rfl, ?_⟩
  have q0 := q H (Same.refl H)
  cases d with
  | list ds =>
    cases hd with
    | @lst a xs _ hs ha =>
      have hlen := dps_len ha
      refine iteF ⟨_, rfl, a, xs, rfl, .inl hs, xs.length, 16, rfl, rfl, _, rfl, ?_⟩
      have e0 : isProgD (.list ds) = (decide (ds.length ≤ 16) && ds.all isFracD) := rfl
      by_cases h2 : 16 < xs.length
      · rw [decide_eq_true h2]
        rw [e0, decide_eq_false (by omega), Bool.false_and] at q0
        exact iteT q0
      · rw [decide_eq_false h2]
        rw [e0, decide_eq_true (by omega), Bool.true_and] at q
        refine iteF ⟨_, rfl, a, rfl, ⟨_, hs⟩, fun D hD => ?_⟩
        refine lc_dp (K := K) walk_list hD (by omega) (fun H' s' => s'.seq hs) (fun i => ds[i]?.map fun d => PyData.bool (isFracD d)) ?_ ?_ ?_
        · intro i d e
          obtain ⟨a, _, rfl⟩ := Option.map_eq_some_iff.mp e
          rfl
        · rintro i x H' H'' A B hi s' ⟨rfl, hx⟩ hA hB
          obtain ⟨d, hd, hp⟩ := dps_at2 ha hx
          exact ⟨rfl, _, rfl, x, d, rfl, same_dp s' hp, fun H4 s4 => hA _ _ _ (by rw [hd]; rfl) s4 (.bl _)⟩
        · intro H' ys s' hD' hA
          rw [hlen, gath_map] at hA
          have e2 : ys = (ds.map isFracD).map V.bl := dps_bools (by rw [List.map_map]; exact hA)
          rw [e2] at hD'
          refine ⟨D, ds.map isFracD, rfl, SqL.of hD', ?_⟩
          have e3 : ((ds.map isFracD).all id) = ds.all isFracD := by rw [List.all_map]; rfl
          rw [e3]
          exact q H' s'
  | none => exact iteT (iteT q0)
  | bool b => exact iteT (iteT q0)
  | int i => exact iteT (iteT q0)
  | str x => exact iteT (iteT q0)
  | tuple xs => exact iteT (iteT q0)
  | dict xs => exact iteT (iteT q0)
theorem ok_need_program (T : Txt K mg) : Cal P w K mg base (L2N.CX P w) 5 "need_program" ["program"] (spNeed K (ga K "BadProgram") isProgD) := by
  have c_is_program := ok_is_program (P := P) (w := w) (base := base) T
  refine Cal.mkX T.d_need_program T.m_need_program sc_need_program (fun _ _ _ _ _ _ us hl => match us, hl with | [_], _ => rfl) (fun vs H Q E h => ?_) (fun cdv A outer s H vs Q E hr h => ?_)
  · obtain ⟨v, d, rfl, _⟩ := h
    rfl
  obtain ⟨v, d, rfl, hd, q1, q2⟩ := h
  refine ⟨_, (pss_one (ps_if (pt_not (pt_val (pe_cal c_is_program (hr.mono (by decide)) (by rfl) pass0 (pa_cons (pv 0) pa_nil)))) (pss_one (L2N.ps_raise rfl (L2N.takes_of rfl rfl rfl rfl) (L2N.pmk_own PySem.F.excBase_ValueError T.x_BadProgram.1 T.m_BadProgram T.x_BadProgram.2.1 (raises_own T.x_BadProgram.2.2.1 T.x_BadProgram.2.2.2) (by rfl)))) pss_nil)), ?_⟩
  refine ⟨_, rfl, v, d, rfl, hd, fun H1 s1 => ⟨_, rfl, ?_⟩⟩
  cases e : isProgD d with
  | true => exact iteF (q1 e H1 s1)
  | false => exact iteT (q2 e H1 s1)
end
end Fr
namespace Fr
open PySem PySem.Spec PyProof.Rows L2
section
variable {P : Program} {w : World} {K : PySem.W.Frag} {mg : Str → Option Value} {base : Heap}
/-! ### first_at -/
def spFirst (K : PySem.W.Frag) : Sp := fun vs H Q _ => ∃ (v : V) (l : Prog) (n : Nat), vs = [v, nI n] ∧ Dp K H v (progD l) ∧ (∀ p ∈ l, 0 < p.2) ∧ ∀ H', Same H H' → Q (optV (firstAt l n)) H'
theorem ok_first_at (T : Txt K mg) : Cal P w K mg base L2.CX0 1 "first_at" ["program", "number"] (spFirst K) := by
  refine Cal.mk0 T.d_first_at T.m_first_at sc_first_at (fun _ _ _ _ _ _ us hl => match us, hl with | [_, _], _ => rfl) (fun vs H Q E h => ?_) (fun cdv A outer s H vs Q E hr h => ?_)
  · obtain ⟨v, l, n, rfl, _⟩ := h
    rfl
  obtain ⟨v, l, n, rfl, hd, hpos, q⟩ := h
  obtain ⟨a, xs, rfl, hs, ha, hlen⟩ := prog_at hd
  refine ⟨_, (pss_cons (ps_for PassesOwn.never rfl (piE rfl (by rfl) T.b_enumerate (pa_cons (pv 0) pa_nil)) (pgT (n := 2) rfl rfl (pgs_cons (pg_name (i := 2) sc_first_at.nd rfl (.inl rfl)) (pgs_cons (pg_name (i := 3) sc_first_at.nd rfl (.inl rfl)) pgs_nil))) (pss_one (ps_if (pt_cmpR opN_eq (pe_op opN_mod (pv 1) (pe_ix (ixT rfl) (pv 3) pe_int (fun _ _ => rfl))) pe_int (nomark _)) (pss_one (ps_ret (pv 2))) pss_nil)))
      (pss_one (ps_ret pe_non))), ?_⟩
  refine ⟨_, rfl, a, xs, rfl, hs, for_it walk_enum (fun i σ H3 => (∃ y2 y3, σ = [some (.ref a), some (nI n), y2, y3]) ∧ Same H H3 ∧ ∀ (j : Nat) (hj : j < l.length), j < i → n % (l[j]).2 ≠ 0) ⟨⟨none, none, rfl⟩, Same.refl H, fun j hj h => absurd h (by omega)⟩ (fun i σ H3 _ p => p.2.1.seq hs) ?_ ?_⟩
  · rintro i x σ H3 H4 hi ⟨⟨y2, y3, rfl⟩, sm, hb⟩ ⟨T', x1, x2, rfl, nT, rfl, e1, e2⟩
    have e1 : x1 = nI i := (Option.some.inj e1).symm
    subst e1
    have sT : Same H3 (upd H3 T' (.tup [nI i, x2])) := same_new nT
    obtain ⟨hi', b, rfl, hb2, _⟩ := prog_item (same_dps (sm.trans sT) ha) e2
    refine ⟨T', _, rfl, SqT.of upd_same, rfl, _, _, rfl, _, _, rfl, rfl, ?_⟩
    refine ⟨_, rfl, _, rfl, b, _, 1, _, rfl, rfl, hb2, atI1, n, (l[i]).2, rfl, rfl, hpos _ (List.getElem_mem hi'), _, 0, rfl, rfl, _, rfl, ?_⟩
    by_cases hf : n % (l[i]).2 = 0
    · rw [decide_eq_true hf]
      refine iteT ⟨_, rfl, ?_⟩
      have e := firstAt_some hi' hf fun j hj hji => hb j hj hji
      rw [e] at q
      exact q _ (sm.trans sT)
    · rw [decide_eq_false hf]
      refine iteF ⟨⟨_, _, rfl⟩, sm.trans sT, fun j hj hji => ?_⟩
      by_cases hji2 : j = i
      · subst hji2
        exact hf
      · exact hb j hj (by omega)
  · rintro σ H3 ⟨⟨y2, y3, rfl⟩, sm, hb⟩
    have e : firstAt l n = none := firstAt_none fun j hj => hb j hj (by omega)
    rw [e] at q
    exact q H3 sm
/-! ### led -/
def spLed (K : PySem.W.Frag) : Sp := fun vs H Q _ => ∃ (v : V) (l : Prog) (n : Nat), vs = [v, nI n] ∧ Dp K H v (progD l) ∧ isProg l = true ∧ n < 2 ^ 30000 ∧ ∀ H', Same H H' → Q (optV (led l n)) H'
theorem ok_led (T : Txt K mg) : Cal P w K mg base L2.CX0 2 "led" ["program", "number"] (spLed K) := by
  have c_first_at := ok_first_at (P := P) (w := w) (base := base) T
  refine Cal.mk0 T.d_led T.m_led sc_led (fun _ _ _ _ _ _ us hl => match us, hl with | [_, _], _ => rfl) (fun vs H Q E h => ?_) (fun cdv A outer s H vs Q E hr h => ?_)
  · obtain ⟨v, l, n, rfl, _⟩ := h
    rfl
  obtain ⟨v, l, n, rfl, hd, hP, hn, q⟩ := h
  refine ⟨_, (pss_cons (ps_set (i := 2) sc_led.nd rfl (.inl rfl) (pe_cal c_first_at (hr.mono (by decide)) (by rfl) pass0 (pa_cons (pv 0) (pa_cons (pv 1) pa_nil))))
      (pss_one (ps_ret (pe_ifExp (pt_cmpR op_isN (pv 2) pe_non (nomark _)) pe_non (pe_op opN_mul (pe_op opN_div (pv 1) (pe_ix (ixT rfl) (pe_ix (ixL rfl) (pv 0) (pv 2) (fun _ _ => rfl)) pe_int (fun _ _ => rfl))) (pe_ix (ixT rfl) (pe_ix (ixL rfl) (pv 0) (pv 2) (fun _ _ => rfl)) pe_int (fun _ _ => rfl))))))), ?_⟩
  refine ⟨_, rfl, _, rfl, v, l, n, rfl, hd, isProg_pos hP, fun H1 s1 => ?_⟩
  cases e : firstAt l n with
  | none =>
    have e2 : led l n = none := by unfold led; rw [e]; rfl
    rw [e2] at q
    exact ⟨_, rfl, rfl, _, rfl, iteT (q H1 s1)⟩
  | some i =>
    have hi := firstAt_lt e
    have e2 : led l n = some (n / (l[i]).2 * (l[i]).1) := by
      unfold led
      rw [e, Option.map_some, unAt_eq hi, upAt_eq hi]
    rw [e2] at q
    obtain ⟨a, xs, rfl, hs, ha, hlen⟩ := prog_at (same_dp s1 hd)
    obtain ⟨b, hb, hbs⟩ := prog_get ha hi
    obtain ⟨f1, f2, f3, f4, f5⟩ := isFrac_iff.mp ((isProg_iff.mp hP).2 _ (List.getElem_mem hi))
    refine ⟨_, rfl, rfl, _, rfl, iteF ?_⟩
    refine ⟨_, rfl, _, rfl, _, rfl, a, xs, i, _, rfl, rfl, hs, atIn hb, b, _, 1, _, rfl, rfl, hbs, atI1, n, (l[i]).2, rfl, rfl, ⟨isNum_pos f2, lt_log2 (mil_lt f4) (by decide) (by decide)⟩, ?_⟩
    refine ⟨_, rfl, _, rfl, a, xs, i, _, rfl, rfl, hs, atIn hb, b, _, 0, _, rfl, rfl, hbs, atI0, n / (l[i]).2, (l[i]).1, rfl, rfl, ?_, q H1 s1⟩
    have h1 : n / (l[i]).2 < 2 ^ 30000 := Nat.lt_of_le_of_lt (Nat.div_le_self _ _) hn
    have h2 := lt_log2 (j := 30000) h1 (by decide) (by decide)
    have h3 := lt_log2 (j := 20) (mil_lt f3) (by decide) (by decide)
    omega
/-! ### need_room -/
def spRoom (K : PySem.W.Frag) (C : Addr) : Sp := fun vs H Q E => ∃ n : Nat, vs = [nI n] ∧ 0 < n ∧ (maxN (rooms n) ≤ 400 → ∀ H', Same H H' → Q .non H') ∧ (400 < maxN (rooms n) → ∀ H', Same H H' → E (.ref C) none H')
theorem rooms_ne (n : Nat) : rooms n ≠ [] := fun z => by
  have h := rooms_len n
  rw [z] at h
  cases h
theorem ok_need_room (T : Txt K mg) : Cal P w K mg base (L2N.CX P w) 3 "need_room" ["number"] (spRoom K (ga K "TooGreat")) := by
  have c_parted := ok_parted (P := P) (w := w) (base := base) T
  refine Cal.mkX T.d_need_room T.m_need_room sc_need_room (fun _ _ _ _ _ _ us hl => match us, hl with | [_], _ => rfl) (fun vs H Q E h => ?_) (fun cdv A outer s H vs Q E hr h => ?_)
  · obtain ⟨n, rfl, _⟩ := h
    rfl
  obtain ⟨n, rfl, hn, q1, q2⟩ := h
  refine ⟨_, (pss_one (ps_if (PW.pt (pw_and (pt_cmpR opN_gt (pe_op opN_div (pe_op opN_div (pv 0) (pe_op opN_pow pe_int pe_int)) (pe_op opN_pow pe_int pe_int)) pe_int (nomark _)) (pw_and1 (pt_cmpR opN_gt (pe_callB (crMaxT rfl rfl (hu_of hr)) (by rfl) T.b_max boot_max (pa_cons (pe_ix (ixT rfl) (pe_cal c_parted (hr.mono (by decide)) (by rfl) pass0 (pa_cons (pv 0) pa_nil)) pe_int (fun _ _ => rfl)) pa_nil)) (pe_glob (v := .int 400) (by rfl) T.c_MOST_ROOM.choose_spec ⟨_, rfl⟩) (nomark _))))) (pss_one (L2N.ps_raise rfl (L2N.takes_of rfl rfl rfl rfl) (L2N.pmk_own PySem.F.excBase_ValueError T.x_TooGreat.1 T.m_TooGreat T.x_TooGreat.2.1 (raises_own T.x_TooGreat.2.2.1 T.x_TooGreat.2.2.2) (by rfl)))) pss_nil)), ?_⟩
  have hT : ((10 : Nat) ^ 60).log2 < 9000 := by decide +kernel
  have hp : 0 < (10 : Nat) ^ 60 := by decide +kernel
  generalize hB : (10 : Nat) ^ 60 = B at hT hp
  refine ⟨_, rfl, 10, 60, rfl, rfl, ⟨by decide, by decide⟩, n, B, rfl, congrArg nI hB, ⟨hp, hT⟩, 10, 60, rfl, rfl, ⟨by decide, by decide⟩, n / B, B, rfl, congrArg nI hB, ⟨hp, hT⟩, n / B / B, 0, rfl, rfl, _, rfl, ?_⟩
  by_cases hg : 0 < n / B / B
  · rw [decide_eq_true hg]
    refine iteT ⟨_, rfl, n, rfl, hn, fun p t H1 s1 ht hp => ?_⟩
    refine ⟨p, _, 0, _, rfl, rfl, SqT.of hp, atI0, t, rooms n, rfl, SqT.of ht, rooms_ne n, maxN (rooms n), 400, rfl, rfl, _, rfl, ?_⟩
    by_cases hm : 400 < maxN (rooms n)
    · rw [decide_eq_true hm]
      exact iteT (q2 hm H1 s1)
    · rw [decide_eq_false hm]
      exact iteF (q1 (by omega) H1 s1)
  · rw [decide_eq_false hg]
    refine iteF (iteF (q1 ?_ H (Same.refl H)))
    rcases Nat.lt_or_ge 400 (maxN (rooms n)) with h | h
    · have z := great hn (maxN_mem (rooms_ne n)) h
      rw [hB] at z
      exact absurd z hg
    · exact h
/-! ### look -/
def spLook (K : PySem.W.Frag) : Sp := fun vs H Q E => ∃ (v u : V) (d e : PyData), vs = [v, u] ∧ Dp K H v d ∧ Dp K H u e ∧ (isProgD d = true → isNumD e = true → ∀ H', Same H H' → Q .non H') ∧
  (isProgD d = false → ∀ H', Same H H' → E (.ref (ga K "BadProgram")) none H') ∧ (isProgD d = true → isNumD e = false → ∀ H', Same H H' → E (.ref (ga K "BadNumber")) none H')
theorem ok_look (T : Txt K mg) : Cal P w K mg base (L2N.CX P w) 6 "look" ["program", "number"] (spLook K) := by
  have c_need_program := ok_need_program (P := P) (w := w) (base := base) T
  have c_need_number := ok_need_number (P := P) (w := w) (base := base) T
  refine Cal.mkX T.d_look T.m_look sc_look (fun _ _ _ _ _ _ us hl => match us, hl with | [_, _], _ => rfl) (fun vs H Q E h => ?_) (fun cdv A outer s H vs Q E hr h => ?_)
  · obtain ⟨v, u, d, e, rfl, _⟩ := h
    rfl
  obtain ⟨v, u, d, e, rfl, hd, he, q1, q2, q3⟩ := h
  refine ⟨_, (pss_cons (ps_expr (pe_cal c_need_program (hr.mono (by decide)) (by rfl) (L2N.passes_call (L2N.takes_of rfl rfl rfl rfl) (fun _ _ _ _ h => h)) (pa_cons (pv 0) pa_nil)))
      (pss_one (ps_expr (pe_cal c_need_number (hr.mono (by decide)) (by rfl) (L2N.passes_call (L2N.takes_of rfl rfl rfl rfl) (fun _ _ _ _ h => h)) (pa_cons (pv 1) pa_nil))))), ?_⟩
  refine ⟨_, rfl, v, d, rfl, hd, fun hp H1 s1 => ?_, fun hp H1 s1 => q2 hp H1 s1⟩
  exact ⟨_, rfl, u, e, rfl, same_dp s1 he, fun hn H2 s2 => q1 hp hn H2 (s1.trans s2), fun hn H2 s2 => q3 hp hn H2 (s1.trans s2)⟩
/-! ### step -/
def isGreat (o : Option Nat) : Bool := match o with
  | some m => decide (400 < maxN (rooms m))
  | none => false
def spStep (K : PySem.W.Frag) : Sp := fun vs H Q E => ∃ (v u : V) (d e : PyData), vs = [v, u] ∧ Dp K H v d ∧ Dp K H u e ∧
  (isProgD d = false → ∀ H', Same H H' → E (.ref (ga K "BadProgram")) none H') ∧ (isProgD d = true → isNumD e = false → ∀ H', Same H H' → E (.ref (ga K "BadNumber")) none H') ∧
  (∀ (l : Prog) (n : Nat), d = progD l → e = nD n → isProg l = true → isNum n = true → (isGreat (led l n) = false → ∀ H', Same H H' → Q (optV (led l n)) H') ∧ (isGreat (led l n) = true → ∀ H', Same H H' → E (.ref (ga K "TooGreat")) none H'))
theorem led_pos {l : Prog} {n m : Nat} (hP : isProg l = true) (hn : 0 < n) (h : led l n = some m) : 0 < m := by
  unfold led at h
  obtain ⟨i, hi, rfl⟩ := Option.map_eq_some_iff.mp h
  obtain ⟨hlt, h0, _⟩ := firstAt_is hi
  obtain ⟨f1, f2, f3, f4, f5⟩ := isFrac_iff.mp ((isProg_iff.mp hP).2 _ (List.getElem_mem hlt))
  rw [unAt_eq hlt, upAt_eq hlt]
  exact Nat.mul_pos (Nat.div_pos (Nat.le_of_dvd hn (Nat.dvd_of_mod_eq_zero h0)) (isNum_pos f2)) (isNum_pos f1)
theorem num_lt {n : Nat} (h : isNum n = true) : n < 2 ^ 30000 := Nat.lt_trans (isNum_lt h) (Nat.pow_lt_pow_right (by decide) (by decide))
end
end Fr
namespace Fr
open PySem PySem.Spec PyProof.Rows L2
section
variable {P : Program} {w : World} {K : PySem.W.Frag} {mg : Str → Option Value} {base : Heap}
/-! ### fits_at -/
/-! ### run -/
def runF (l : Prog) : Nat → Nat → Option (List Nat)
  | 0, n => some [n]
  | f + 1, n => match led l n with
    | none => some [n]
    | some x => if 400 < maxN (rooms x) then none else (runF l f x).map (n :: ·)
theorem maxN_bd {as : List Nat} {b : Nat} (h : maxN as ≤ b) : ∀ a ∈ as, a ≤ b := fun a ha => Nat.le_trans (maxN_le ha) h
theorem led_num {l : Prog} {n x : Nat} (hP : isProg l = true) (hN : isNum n = true) (h : led l n = some x) (hx : ¬ 400 < maxN (rooms x)) : isNum x = true := by
  have hn := isNum_iff.mp hN
  obtain ⟨a, b⟩ := led_left hP hn.1 hn.2.1 h
  exact isNum_iff.mpr ⟨a, b, maxN_bd (by omega)⟩
theorem runF_num {l : Prog} (hP : isProg l = true) : ∀ (f n : Nat) (r : List Nat), isNum n = true → runF l f n = some r → r ≠ [] ∧ r.length ≤ f + 1 ∧ ∀ x ∈ r, isNum x = true := by
  intro f
  induction f with
  | zero =>
    intro n r hn h
    cases h
    exact ⟨by simp, by simp, fun x hx => by rw [List.mem_singleton.mp hx]; exact hn⟩
  | succ f ih =>
    intro n r hn h
    unfold runF at h
    cases e : led l n with
    | none =>
      rw [e] at h
      cases h
      exact ⟨by simp, by simp, fun x hx => by rw [List.mem_singleton.mp hx]; exact hn⟩
    | some x =>
      rw [e] at h
      dsimp only at h
      split at h
      · cases h
      · rename_i hg
        obtain ⟨r', h', rfl⟩ := Option.map_eq_some_iff.mp h
        obtain ⟨a, b, c⟩ := ih x r' (led_num hP hn e hg) h'
        refine ⟨by simp, by simp; omega, fun y hy => ?_⟩
        rcases List.mem_cons.mp hy with rfl | hy
        · exact hn
        · exact c y hy
def spRun (K : PySem.W.Frag) : Sp := fun vs H Q E => ∃ (v u c : V) (d e g : PyData), vs = [v, u, c] ∧ Dp K H v d ∧ Dp K H u e ∧ Dp K H c g ∧
  (isProgD d = false → ∀ H', Same H H' → E (.ref (ga K "BadProgram")) none H') ∧ (isProgD d = true → isNumD e = false → ∀ H', Same H H' → E (.ref (ga K "BadNumber")) none H') ∧
  (isProgD d = true → isNumD e = true → isCountD 0 2000 g = false → ∀ H', Same H H' → E (.ref (ga K "BadNumber")) none H') ∧
  (∀ (l : Prog) (n m : Nat), d = progD l → e = nD n → g = nD m → isProg l = true → isNum n = true → m ≤ 2000 →
    (∀ r, runF l m n = some r → ∀ p H', Same H H' → H p = none → H' p = some (.lst (r.map nI)) → Q (.ref p) H') ∧ (runF l m n = none → ∀ H', Same H H' → E (.ref (ga K "TooGreat")) none H'))
theorem isCount_is {hi : Nat} {g : PyData} (h : isCountD 0 hi g = true) : ∃ m : Nat, g = nD m ∧ m ≤ hi := by
  cases g with
  | int i =>
    have h : (decide ((0 : Int) ≤ i) && decide (i ≤ (hi : Int))) = true := h
    rw [Bool.and_eq_true] at h
    have h1 := of_decide_eq_true h.1
    have h2 := of_decide_eq_true h.2
    refine ⟨i.toNat, ?_, by omega⟩
    show PyData.int i = .int (i.toNat : Int)
    rw [Int.toNat_of_nonneg h1]
  | _ => cases h
theorem ok_run (T : Txt K mg) : Cal P w K mg base (L2N.CX P w) 8 "run" ["program", "number", "most"] (spRun K) := by
  have c_look := ok_look (P := P) (w := w) (base := base) T
  have c_need_count := ok_need_count (P := P) (w := w) (base := base) T
  have c_led := ok_led (P := P) (w := w) (base := base) T
  have c_need_room := ok_need_room (P := P) (w := w) (base := base) T
  refine Cal.mkX T.d_run T.m_run sc_run (fun _ _ _ _ _ _ us hl => match us, hl with | [_, _, _], _ => rfl) (fun vs H Q E h => ?_) (fun cdv A outer s H vs Q E hr h => ?_)
  · obtain ⟨v, u, c, d, e, g, rfl, _⟩ := h
    rfl
  obtain ⟨v, u, c, d, e, g, rfl, hd, he, hg, q1, q2, q3, q4⟩ := h
  refine ⟨_, (pss_cons (ps_expr (pe_cal c_look (hr.mono (by decide)) (by rfl) (L2N.passes_call (L2N.takes_of rfl rfl rfl rfl) (fun _ _ _ _ h => h)) (pa_cons (pv 0) (pa_cons (pv 1) pa_nil))))
      (pss_cons (ps_expr (pe_cal c_need_count (hr.mono (by decide)) (by rfl) (L2N.passes_call (L2N.takes_of rfl rfl rfl rfl) (fun _ _ _ _ h => h)) (pa_cons (pv 2) (pa_cons pe_int (pa_cons (pe_glob (v := .int 2000) (by rfl) T.c_MOST_STEPS_programs.choose_spec ⟨_, rfl⟩) pa_nil)))))
      (pss_cons (ps_set (i := 3) sc_run.nd rfl (.inl rfl) (pe_lst (pa_cons (pv 1) pa_nil)))
      (pss_cons (ps_set (i := 4) sc_run.nd rfl (.inl rfl) (pe_cal c_led (hr.mono (by decide)) (by rfl) pass0 (pa_cons (pv 0) (pa_cons (pv 1) pa_nil))))
      (pss_cons (ps_while (passes_of rfl) (PW.pt (pw_and (pt_cmpR op_notN (pv 4) pe_non (nomark _)) (pw_and1 (pt_cmpR opN_le (pe_callB (lenS rfl) (by rfl) T.b_len PySem.boot_len (pa_cons (pv 3) pa_nil)) (pv 2) (nomark _))))) (pss_cons (ps_expr (pe_cal c_need_room (hr.mono (by decide)) (by rfl) (L2N.passes_call (L2N.takes_of rfl rfl rfl rfl) (fun _ _ _ _ h => h)) (pa_cons (pv 4) pa_nil)))
      (pss_cons (ps_expr (bm rfl PySem.F.plainAttrs_list PySem.F.slot_list_append PySem.F.type_list_append mt_append (pv 3) (pa_cons (pv 4) pa_nil)))
      (pss_one (ps_set (i := 4) sc_run.nd rfl (.inl rfl) (pe_cal c_led (hr.mono (by decide)) (by rfl) pass0 (pa_cons (pv 0) (pa_cons (pv 4) pa_nil))))))))
      (pss_one (ps_ret (pv 3)))))))), ?_⟩
  refine ⟨_, rfl, _, rfl, v, u, d, e, rfl, hd, he, fun hp hn H1 s1 => ?_, q1, q2⟩
  refine ⟨_, rfl, c, g, 0, 2000, rfl, same_dp s1 hg, fun hc => ?_, fun hc => q3 hp hn hc H1 s1⟩
  obtain ⟨l, rfl, hP⟩ := isProgD_is hp
  obtain ⟨n, rfl, hN⟩ := isNumD_is hn
  obtain ⟨m, rfl, hm⟩ := isCount_is (hi := 2000) hc
  cases he
  cases hg
  obtain ⟨q5, q6⟩ := q4 l n m rfl rfl rfl hP hN hm
  refine ⟨_, rfl, (by show 1 ≤ sizeLine; decide), fun o no => ?_⟩
  have s2 := s1.trans (same_new (o := .lst [nI n]) no)
  refine ⟨_, rfl, _, rfl, v, l, n, rfl, same_dp s2 hd, hP, num_lt hN, fun H3 s3 => ?_⟩
  have hoH : H o = none := s1.free no
  refine ⟨fun j σ H4 => ∃ (fs : List Nat) (z : Nat), σ = [some v, some (nI n), some (nI m), some (.ref o), some (optV (led l z))] ∧ Same H H4 ∧ H4 o = some (.lst ((fs ++ [z]).map nI)) ∧ isNum z = true ∧ fs.length + j = m ∧ runF l m n = (runF l j z).map (fs ++ ·), ⟨m, [], n, rfl, s2.trans s3, s3 _ _ upd_same, hN, by simp, by simp⟩, ?_⟩
  rintro j σ H4 ⟨fs, z, rfl, s4, ho, hz, hj, hrun⟩
  have fin : runF l j z = some [z] → Q (.ref o) H4 := fun e => q5 (fs ++ [z]) (by rw [hrun, e]; rfl) o H4 s4 hoH ho
  cases hl : led l z with
  | none =>
    refine ⟨_, rfl, rfl, _, rfl, iteF (iteF ⟨_, rfl, fin ?_⟩)⟩
    cases j with
    | zero => rfl
    | succ j => unfold runF; rw [hl]
  | some x =>
    have hlen : ((fs ++ [z]).map nI).length = fs.length + 1 := by simp
    have hzn := isNum_iff.mp hz
    obtain ⟨hx0, hxl⟩ := led_left hP hzn.1 hzn.2.1 hl
    refine ⟨_, rfl, rfl, _, rfl, iteT ⟨_, rfl, o, _, rfl, .inl (SqL.of ho), _, rfl, fs.length + 1, m, by rw [hlen], rfl, _, rfl, ite2 (fun hc => ?_) (fun hc => ?_)⟩⟩
    · have hc := of_decide_eq_true hc
      obtain ⟨j, rfl⟩ : ∃ j', j = j' + 1 := ⟨j - 1, by omega⟩
      have hrun2 : runF l (j + 1) z = if 400 < maxN (rooms x) then none else (runF l j x).map (z :: ·) := by
        conv => lhs; unfold runF
        rw [hl]
      refine ⟨fun σ' H' => ∃ (fs : List Nat) (z : Nat), σ' = [some v, some (nI n), some (nI m), some (.ref o), some (optV (led l z))] ∧ Same H H' ∧ H' o = some (.lst ((fs ++ [z]).map nI)) ∧ isNum z = true ∧ fs.length + j = m ∧ runF l m n = (runF l j z).map (fs ++ ·), ?_, ?_⟩
      · rintro σ' H' ⟨fs', z', a1, a2, a3, a4, a5, a6⟩
        exact ⟨j, Nat.lt_succ_self j, fs', z', a1, a2, a3, a4, a5, a6⟩
      · refine ⟨_, rfl, x, rfl, hx0, (fun hle H5 s5 => ?_), fun hgt H5 s5 => q6 ?_ H5 (s4.trans s5)⟩
        · have hxn : isNum x = true := led_num hP hz hl (by omega)
          refine ⟨_, rfl, .inl ⟨rfl, _, SqL.of (s5 _ _ ho)⟩, _, rfl, o, _, _, rfl, rfl, s5 _ _ ho, (by rw [hlen]; exact Nat.lt_of_lt_of_le (show fs.length + 1 < 3000 by omega) (by decide)), ?_⟩
          have s6 : Same H (upd H5 o (.lst ((fs ++ [z]).map nI ++ [nI x]))) := same_put (s4.trans s5) hoH
          refine ⟨_, rfl, _, rfl, v, l, x, rfl, same_dp s6 hd, hP, num_lt hxn, fun H7 s7 => ?_⟩
          refine ⟨fs ++ [z], x, rfl, s6.trans s7, s7 _ _ ?_, hxn, by rw [List.length_append]; show fs.length + 1 + j = m; omega, ?_⟩
          · rw [upd_same, List.map_append, List.map_append, List.map_append]
            rfl
          · rw [hrun, hrun2, if_neg (by omega)]
            cases runF l j x with
            | none => rfl
            | some r => simp
        · rw [hrun, hrun2, if_pos hgt]
          rfl
    · refine ⟨_, rfl, fin ?_⟩
      have hc : ¬ fs.length + 1 ≤ m := fun z => hc (decide_eq_true z)
      obtain rfl : j = 0 := by omega
      rfl
/-! ### end -/
theorem at_last (r : List Nat) (z : Nat) : atI ((r ++ [z]).map nI) (-1) = some (nI z) := by
  have e : ixN ((r ++ [z]).map nI).length (-1) = some r.length := by
    rw [List.length_map, List.length_append]
    unfold ixN
    rw [if_neg (by decide), if_pos (by show -((r.length + 1 : Nat) : Int) ≤ -1; omega)]
    show some (-1 + ((r.length + 1 : Nat) : Int)).toNat = _
    congr 1
    omega
  unfold atI
  rw [e]
  show ((r ++ [z]).map nI)[r.length]? = some (nI z)
  simp
def spEnd (K : PySem.W.Frag) : Sp := fun vs H Q E => ∃ (v u c : V) (d e g : PyData), vs = [v, u, c] ∧ Dp K H v d ∧ Dp K H u e ∧ Dp K H c g ∧
  (isProgD d = false → ∀ H', Same H H' → E (.ref (ga K "BadProgram")) none H') ∧ (isProgD d = true → isNumD e = false → ∀ H', Same H H' → E (.ref (ga K "BadNumber")) none H') ∧
  (isProgD d = true → isNumD e = true → isCountD 0 2000 g = false → ∀ H', Same H H' → E (.ref (ga K "BadNumber")) none H') ∧
  (∀ (l : Prog) (n m : Nat), d = progD l → e = nD n → g = nD m → isProg l = true → isNum n = true → m ≤ 2000 →
    (∀ r z, runF l m n = some (r ++ [z]) → ∀ H', Same H H' → Q (if led l z = none then nI z else .non) H') ∧ (runF l m n = none → ∀ H', Same H H' → E (.ref (ga K "TooGreat")) none H'))
theorem ok_end (T : Txt K mg) : Cal P w K mg base (L2N.CX P w) 9 "end" ["program", "number", "most"] (spEnd K) := by
  have c_run := ok_run (P := P) (w := w) (base := base) T
  have c_led := ok_led (P := P) (w := w) (base := base) T
  refine Cal.mkX T.d_end T.m_end sc_end (fun _ _ _ _ _ _ us hl => match us, hl with | [_, _, _], _ => rfl) (fun vs H Q E h => ?_) (fun cdv A outer s H vs Q E hr h => ?_)
  · obtain ⟨v, u, c, d, e, g, rfl, _⟩ := h
    rfl
  obtain ⟨v, u, c, d, e, g, rfl, hd, he, hg, q1, q2, q3, q4⟩ := h
  refine ⟨_, (pss_cons (ps_set (i := 3) sc_end.nd rfl (.inl rfl) (pe_cal c_run (hr.mono (by decide)) (by rfl) (L2N.passes_call (L2N.takes_of rfl rfl rfl rfl) (fun _ _ _ _ h => h)) (pa_cons (pv 0) (pa_cons (pv 1) (pa_cons (pv 2) pa_nil)))))
      (pss_one (ps_ret (pe_ifExp (pt_cmpR op_isN (pe_cal c_led (hr.mono (by decide)) (by rfl) pass0 (pa_cons (pv 0) (pa_cons (pe_ix (ixL rfl) (pv 3) (pe_un un_neg pe_int) (fun _ _ => rfl)) pa_nil))) pe_non (nomark _)) (pe_ix (ixL rfl) (pv 3) (pe_un un_neg pe_int) (fun _ _ => rfl)) pe_non)))), ?_⟩
  refine ⟨_, rfl, _, rfl, _, rfl, v, u, c, d, e, g, rfl, hd, he, hg, q1, q2, q3, fun l n m e1 e2 e3 hP hN hm => ?_⟩
  obtain ⟨q5, q6⟩ := q4 l n m e1 e2 e3 hP hN hm
  refine ⟨fun r hr2 p H1 s1 np hp => ?_, q6⟩
  obtain ⟨h1, h2, h3⟩ := runF_num hP m n r hN hr2
  obtain ⟨r', z, rfl⟩ : ∃ r' z, r = r' ++ [z] := ⟨r.dropLast, r.getLast h1, (List.dropLast_concat_getLast h1).symm⟩
  have hzn := h3 z (by simp)
  subst e1
  have hat := at_last r' z
  refine ⟨_, rfl, _, rfl, 1, rfl, p, _, _, _, rfl, rfl, SqL.of hp, hat, v, l, z, rfl, same_dp s1 hd, hP, num_lt hzn, fun H2 s2 => ⟨rfl, _, rfl, ?_⟩⟩
  have qz := q5 r' z hr2 H2 (s1.trans s2)
  cases hl : led l z with
  | none =>
    rw [hl, if_pos rfl] at qz
    exact iteT ⟨_, rfl, 1, rfl, p, _, _, _, rfl, rfl, SqL.of (s2 _ _ hp), hat, qz⟩
  | some x =>
    rw [hl, if_neg (fun z => by cases z)] at qz
    exact iteF qz
end
end Fr
namespace Fr
open PySem PySem.Spec PyProof.Rows L2
section
variable {P : Program} {w : World} {K : PySem.W.Frag} {mg : Str → Option Value} {base : Heap}
theorem lay_ints : ∀ ns : List Int, PyData.canLayAll0 (ns.map PyData.int) = true
  | [] => by simp [PyData.canLayAll0]
  | n :: ns => by simp [PyData.canLayAll0, PyData.canLay0, lay_ints ns]
theorem shaped_ints (ns : List Int) : SeqAt.shaped (.list (ns.map PyData.int)) = true := by
  unfold SeqAt.shaped
  simp [PyData.canLay0, PyData.depth, lay_ints, depth_ints]
/-! ### _law_cell -/
def spCellL (K : PySem.W.Frag) : Sp := fun vs H Q _ => ∃ (a : Addr) (k : Nat) (ns : List Int), vs = [.ref a, nI k] ∧ SqL K H a (ns.map V.int) ∧ ns.length ≤ 63 ∧ k ≤ 1000 ∧ ∀ (c : Int) H', Same H H' → Q (.int c) H'
theorem ok__law_cell (T : Txt K mg) : Cal P w K mg base L2.CX0 1 "_law_cell" ["script", "k"] (spCellL K) := by
  refine Cal.mk0 T.d__law_cell T.m__law_cell sc__law_cell (fun _ _ _ _ _ _ us hl => match us, hl with | [_, _], _ => rfl) (fun vs H Q E h => ?_) (fun cdv A outer s H vs Q E hr h => ?_)
  · obtain ⟨a, k, ns, rfl, _⟩ := h
    rfl
  obtain ⟨a, k, ns, rfl, hs, hl, hk, q⟩ := h
  refine ⟨_, (pss_cons (ps_if (pt_cmpR (eqD rfl hr.units) (pv 0) (pe_lst pa_nil) (nomark _)) (pss_one (ps_ret (pe_op opN_mul (pv 1) pe_int))) pss_nil)
      (pss_one (ps_ret (pe_op op_add (pe_ix (ixL rfl) (pv 0) (pe_op opN_mod (pv 1) (pe_callB (lenS rfl) (by rfl) T.b_len PySem.boot_len (pa_cons (pv 0) pa_nil))) (fun _ _ => rfl)) (pe_op opN_mul (pe_op opN_div (pv 1) (pe_callB (lenS rfl) (by rfl) T.b_len PySem.boot_len (pa_cons (pv 0) pa_nil))) pe_int))))), ?_⟩
  have hk2 : k.log2 < 20 := lt_log2 (k := 20) (by omega) (by decide) (by decide)
  refine ⟨_, rfl, Nat.zero_le _, fun p np => ?_⟩
  have s1 : Same H (upd H p (.lst [])) := same_new np
  refine ⟨.list (ns.map PyData.int), .list [], .lst (s1.seq hs) (dps_ints ns), .lst (SqL.of upd_same) .nil, shaped_ints ns, shaped_ints [], _, rfl, ?_⟩
  cases ns with
  | nil =>
    refine iteT ⟨_, rfl, k, 7919, rfl, rfl, ?_, q _ _ s1⟩
    have : (7919 : Nat).log2 < 20 := by decide
    omega
  | cons n ns =>
    have hlen : ((n :: ns).map V.int).length = ns.length + 1 := by simp
    refine iteF ?_
    have hm : k % (ns.length + 1) < ((n :: ns).map V.int).length := by rw [hlen]; exact Nat.mod_lt _ (by omega)
    have hg : ((n :: ns).map V.int)[k % (ns.length + 1)]? = some (.int ((n :: ns)[k % (ns.length + 1)]'(by simpa using hm))) := by
      rw [List.getElem?_map, List.getElem?_eq_getElem (by simpa using hm)]
      rfl
    simp only [List.length_cons] at hl
    have h3 : (k / (ns.length + 1)).log2 < 20 := lt_log2 (k := 20) (Nat.lt_of_le_of_lt (Nat.div_le_self _ _) (by omega)) (by decide) (by decide)
    have h4 : (104729 : Nat).log2 < 20 := by decide
    refine ⟨_, rfl, _, rfl, _, rfl, a, _, rfl, .inl (s1.seq hs), k, ns.length + 1, rfl, by rw [hlen], by omega, a, _, _, _, rfl, rfl, s1.seq hs, atIn hg, ?_⟩
    refine ⟨_, rfl, _, rfl, a, _, rfl, .inl (s1.seq hs), k, ns.length + 1, rfl, by rw [hlen], ⟨by omega, lt_log2 (k := 20) (by omega) (by decide) (by decide)⟩, _, 104729, rfl, rfl, by omega, _, _, rfl, rfl, q _ _ s1⟩
/-! ### _law_drawn -/
def spDrawn : Sp := fun vs H Q _ => ∃ (c : Int) (k : Nat), vs = [.int c, nI k] ∧ k ≤ 100000 ∧ ∀ d : Nat, d < 2 ^ 129 → Q (nI d) H
theorem ok__law_drawn (T : Txt K mg) : Cal P w K mg base L2.CX0 1 "_law_drawn" ["cell", "k"] spDrawn := by
  refine Cal.mk0 T.d__law_drawn T.m__law_drawn sc__law_drawn (fun _ _ _ _ _ _ us hl => match us, hl with | [_, _], _ => rfl) (fun vs H Q E h => ?_) (fun cdv A outer s H vs Q E hr h => ?_)
  · obtain ⟨c, k, rfl, _⟩ := h
    rfl
  obtain ⟨c, k, rfl, hk, q⟩ := h
  refine ⟨_, (pss_cons (ps_set (i := 2) sc__law_drawn.nd rfl (.inl rfl) (pe_op op_mod (pe_op op_add (pe_op op_mul (pv 0) pe_int) (pe_op opN_mul (pe_op opN_add (pv 1) pe_int) pe_int)) pe_int))
      (pss_cons (ps_set (i := 2) sc__law_drawn.nd rfl (.inl rfl) (pe_op opN_mod (pe_op opN_mul (pv 2) (pv 2)) pe_int))
      (pss_cons (ps_set (i := 2) sc__law_drawn.nd rfl (.inl rfl) (pe_op opN_mul (pe_op opN_mul (pe_op opN_add (pe_op opN_mod (pv 2) pe_int) pe_int) (pe_op opN_add (pe_op opN_div (pv 2) pe_int) pe_int)) (pv 2)))
      (pss_one (ps_ret (pe_op opN_mod (pv 2) pe_int)))))), ?_⟩
  have hk2 : (k + 1).log2 < 20 := lt_log2 (k := 20) (by omega) (by decide) (by decide)
  have hc2 : (1442695040888963407 : Nat).log2 < 64 := by decide +kernel
  refine ⟨_, rfl, c, 6364136223846793005, rfl, rfl, .inr ⟨by decide, by decide⟩, _, rfl, k, 1, rfl, rfl, k + 1, 1442695040888963407, rfl, rfl, by omega, _, _, rfl, rfl, _, 340282366920938463463374607431768211507, rfl, rfl, by omega, ?_⟩
  obtain ⟨m, hm, hm2⟩ : ∃ m : Nat, (c * 6364136223846793005 + (((k + 1) * 1442695040888963407 : Nat) : Int)) % 340282366920938463463374607431768211507 = (m : Int) ∧ m < 340282366920938463463374607431768211507 := by
    have h1 := Int.emod_nonneg (c * 6364136223846793005 + (((k + 1) * 1442695040888963407 : Nat) : Int)) (b := 340282366920938463463374607431768211507) (by decide)
    have h2 := Int.emod_lt_of_pos (c * 6364136223846793005 + (((k + 1) * 1442695040888963407 : Nat) : Int)) (b := 340282366920938463463374607431768211507) (by decide)
    generalize (c * 6364136223846793005 + (((k + 1) * 1442695040888963407 : Nat) : Int)) % 340282366920938463463374607431768211507 = z at h1 h2 ⊢
    exact ⟨z.toNat, (Int.toNat_of_nonneg h1).symm, by omega⟩
  have em : V.int ((c * 6364136223846793005 + (((k + 1) * 1442695040888963407 : Nat) : Int)) % 340282366920938463463374607431768211507) = nI m := by rw [hm]
  have l1 : m.log2 < 129 := lt_log2 (k := 129) (Nat.lt_trans hm2 (by decide +kernel)) (by decide) (by decide)
  have h3 : m * m % 340282366920938463463374607431768211297 < 340282366920938463463374607431768211297 := Nat.mod_lt _ (by decide)
  generalize hx : m * m % 340282366920938463463374607431768211297 = x at h3
  have l2 : x.log2 < 129 := lt_log2 (k := 129) (Nat.lt_trans h3 (by decide +kernel)) (by decide) (by decide)
  have h4 : x % 18446744073709551557 + 1 < 2 ^ 65 := by
    have := Nat.mod_lt x (y := 18446744073709551557) (by decide)
    exact Nat.lt_of_lt_of_le (Nat.succ_lt_succ this) (by decide +kernel)
  have h5 : x / 18446744073709551557 + 1 < 2 ^ 65 := by
    have : x / 18446744073709551557 < 2 ^ 64 + 200 := by
      rw [Nat.div_lt_iff_lt_mul (by decide)]
      exact Nat.lt_trans h3 (by decide +kernel)
    exact Nat.lt_of_lt_of_le (Nat.succ_lt_succ this) (by decide +kernel)
  have l4 := lt_log2 (j := 65) h4 (by decide) (by decide)
  have l5 := lt_log2 (j := 65) h5 (by decide) (by decide)
  have l6 : ((x % 18446744073709551557 + 1) * (x / 18446744073709551557 + 1)).log2 < 130 := lt_log2 (k := 130) (by
    have := Nat.mul_lt_mul'' h4 h5
    rw [← Nat.pow_add] at this
    exact this) (by decide) (by decide)
  refine ⟨nI m, congrArg some (congrArg some em), nI m, congrArg some (congrArg some em), m, m, rfl, rfl, by omega, _, 340282366920938463463374607431768211297, rfl, rfl, by omega, ?_⟩
  have ex : V.int ((m * m % 340282366920938463463374607431768211297 : Nat) : Int) = nI x := by rw [hx]
  refine ⟨nI x, congrArg some (congrArg some ex), x, 18446744073709551557, rfl, rfl, by omega, _, 1, rfl, rfl, nI x, congrArg some (congrArg some ex), x, 18446744073709551557, rfl, rfl, ⟨by decide, by decide +kernel⟩, _, 1, rfl, rfl, _, _, rfl, rfl, by omega, nI x, congrArg some (congrArg some ex), _, x, rfl, rfl, by omega, ?_⟩
  refine ⟨_, rfl, _, 340282366920938463463374607431768211507, rfl, rfl, by omega, q _ ?_⟩
  exact Nat.lt_trans (Nat.mod_lt _ (by decide)) (by decide +kernel)
/-! ### _law_primes -/
def spPrimes : Sp := fun vs H Q _ => vs = [] ∧ ∀ p, H p = none → Q (.ref p) (upd H p (.lst (primes.map nI)))
theorem ok__law_primes (T : Txt K mg) : Cal P w K mg base L2.CX0 1 "_law_primes" [] spPrimes := by
  refine Cal.mk0 T.d__law_primes T.m__law_primes sc__law_primes (fun _ _ _ _ _ _ us hl => match us, hl with | [], _ => rfl) (fun vs H Q E h => ?_) (fun cdv A outer s H vs Q E hr h => ?_)
  · obtain ⟨rfl, _⟩ := h
    rfl
  obtain ⟨rfl, q⟩ := h
  refine ⟨_, (pss_one (ps_ret (pe_lst (pa_cons pe_int (pa_cons pe_int (pa_cons pe_int (pa_cons pe_int (pa_cons pe_int (pa_cons pe_int (pa_cons pe_int (pa_cons pe_int (pa_cons pe_int (pa_cons pe_int (pa_cons pe_int (pa_cons pe_int pa_nil))))))))))))))), ?_⟩
  exact ⟨(by show 12 ≤ sizeLine; decide), fun p np => q p np⟩
end
end Fr
namespace Fr
open PySem PySem.Spec PyProof.Rows L2
section
variable {P : Program} {w : World} {K : PySem.W.Frag} {mg : Str → Option Value} {base : Heap}
/-! ### _law_rooms -/
def spLawRooms : Sp := fun vs H Q _ => ∃ n : Nat, vs = [nI n] ∧ 0 < n ∧ ∀ p H', Same H H' → H p = none → H' p = some (.lst ((rooms n).map nI)) → Q (.ref p) H'
/-! ### _law_number -/
theorem ok__law_number (T : Txt K mg) : Cal P w K mg base L2.CX0 2 "_law_number" ["rooms"] (spMade K) := by
  have c__law_primes := ok__law_primes (P := P) (w := w) (base := base) T
  refine Cal.mk0 T.d__law_number T.m__law_number sc__law_number (fun _ _ _ _ _ _ us hl => match us, hl with | [_], _ => rfl) (fun vs H Q E h => ?_) (fun cdv A outer s H vs Q E hr h => ?_)
  · obtain ⟨b, a, as, rfl, _⟩ := h
    rfl
  obtain ⟨b, a, as, rfl, hs, hl, hb, q⟩ := h
  refine ⟨_, (pss_cons (ps_set (i := 1) sc__law_number.nd rfl (.inl rfl) pe_int)
      (pss_cons (ps_for PassesOwn.never rfl (Zn.zip2 rfl (by rfl) T.b_zip (pa_cons (pe_cal0 c__law_primes (hr.mono (by decide)) (by rfl) pass0) (pa_cons (pv 0) pa_nil))) (pgT (n := 2) rfl rfl (pgs_cons (pg_name (i := 2) sc__law_number.nd rfl (.inl rfl)) (pgs_cons (pg_name (i := 3) sc__law_number.nd rfl (.inl rfl)) pgs_nil))) (pss_one (ps_for PassesOwn.never rfl (pi_range1 (by rfl) T.b_range (pa_cons (pv 3) pa_nil)) (pg_name (i := 4) sc__law_number.nd rfl (.inl rfl)) (pss_one (ps_set (i := 1) sc__law_number.nd rfl (.inl rfl) (pe_op opN_mul (pv 1) (pv 2)))))))
      (pss_one (ps_ret (pv 1))))), ?_⟩
  refine ⟨rfl, fun o no => ?_⟩
  have so : Same H (upd H o (.lst (primes.map nI))) := same_new no
  refine ⟨_, rfl, [(true, o), (b, a)], rfl, rfl, ?_, Zn.for_zipN (n := as.length) (yss := [primes.map nI, as.map nI]) ?_ ?_ (fun i σ H1 => ∃ y2 y3 y4, σ = [some (.ref a), some (nI (makeL (primes.take i) (as.take i))), y2, y3, y4] ∧ Same (upd H o (.lst (primes.map nI))) H1) ?_ ?_ ?_ ?_⟩
  · intro q hq
    rcases List.mem_cons.mp hq with rfl | hq
    · exact ⟨_, SqL.of upd_same⟩
    · rcases List.mem_cons.mp hq with rfl | hq
      · exact ⟨_, same_sq so hs⟩
      · cases hq
  · intro ys hy
    rcases List.mem_cons.mp hy with rfl | hy
    · rw [List.length_map]
      exact hl
    · rcases List.mem_cons.mp hy with rfl | hy
      · rw [List.length_map]
        exact Nat.le_refl _
      · cases hy
  · exact ⟨as.map nI, by simp, by simp⟩
  · exact ⟨none, none, none, rfl, Same.refl _⟩
  · rintro i σ H1 ⟨y2, y3, y4, rfl, sm⟩
    exact ⟨SqL.of (sm _ _ upd_same), same_sq (so.trans sm) hs, True.intro⟩
  · rintro i Tt σ H1 hi ⟨y2, y3, y4, rfl, sm⟩ hT
    obtain ⟨p, hp⟩ : ∃ p, primes[i]? = some p := ⟨_, List.getElem?_eq_getElem (show i < primes.length by show i < 12; omega)⟩
    have hx : as[i]? = some as[i] := List.getElem?_eq_getElem hi
    have hxb : as[i] ≤ 401 := hb _ (List.getElem_mem hi)
    have hps : p < 64 := primes_small p (List.mem_of_getElem? hp)
    rw [row2 hp hx]
    generalize as[i] = x at hx hxb
    refine ⟨Tt, _, rfl, SqT.of upd_same, rfl, _, _, rfl, _, _, rfl, rfl, ?_⟩
    refine ⟨_, rfl, (x : Int), rfl, by omega, by omega, ?_⟩
    refine for_range (fun j σ H2 => ∃ y5, σ = [some (.ref a), some (nI (makeL (primes.take i) (as.take i) * p ^ j)), some (nI p), some (nI x), y5] ∧ Same (upd H o (.lst (primes.map nI))) H2) ⟨y4, by rw [Nat.pow_zero, Nat.mul_one]; rfl, sm.trans (same_new hT)⟩ ?_ ?_
    · rintro j σ H2 hj ⟨y5, rfl, sm2⟩
      have hj2 : j < x := by simpa using hj
      have h1 := make_part_lt hb hl i p j hps (by omega)
      have h2 : (makeL (primes.take i) (as.take i) * p ^ j).log2 < 40000 := lt_log2 (k := 40000) h1 (by decide) (by decide)
      have h3 : p.log2 < 6 := lt_log2 (k := 6) (by omega) (by decide) (by decide)
      refine ⟨_, rfl, _, rfl, _, p, rfl, rfl, by omega, some (.int (0 + (j : Int))), ?_, sm2⟩
      rw [Nat.pow_succ, ← Nat.mul_assoc]
      rfl
    · rintro σ H2 ⟨y5, rfl, sm2⟩
      refine ⟨some (nI p), some (nI x), y5, ?_, sm2⟩
      rw [makeL_snoc primes as i p x hp hx]
      simp
  · rintro σ H1 ⟨y2, y3, y4, rfl, sm⟩
    refine ⟨_, rfl, ?_⟩
    rw [← make_take as]
    exact q H1 (so.trans sm)
end
end Fr
namespace Fr
open PySem PySem.Spec PyProof.Rows L2 LamX
section
variable {P : Program} {w : World} {K : PySem.W.Frag} {mg : Str → Option Value} {base : Heap}
abbrev words : List Str := ["BadMachine", "BadNumber", "BadProgram", "BadText", "TooGreat"]
theorem ok__law_word (T : Txt K mg) : Hl.WordP P w K mg base 1 (ga K "_law_word") (fdOf K ("_law_word", none)) (Nm K words) := by
  intro A outer s H args p D n Q hr hot hpin hcls hdict hn e0 hb q
  obtain ⟨hn, rfl⟩ := hn
  obtain ⟨C, hk, hv, hx⟩ := exc_of T.w_exc hn
  have hf : ∃ vs, p.2.data = .fields vs := by
    obtain ⟨_, vs, e, _⟩ := hot
    exact ⟨vs, e⟩
  refine Hl.run_hot (CX := L2.CX0) (mg := mg) (base := base) (us := [.ref p.1]) (vs := [.ref p.1]) T.d__law_word sc__law_word hr hpin e0 hb (.cons rfl .nil) rfl fun cdv hr => ?_
  refine ⟨_, PSs.nox (pss_cons (ps_set (i := 1) sc__law_word.nd rfl (.inl rfl) (pe_lst (pa_cons (pe_callB (Hl.call_isH C List.mem_cons_self hcls hdict hf) (by rfl) T.b_isinstance boot_isinstance (pa_cons (pv 0) (pa_cons (pe_glob (v := .ref (ga K "BadMachine")) (by rfl) T.m_BadMachine rfl) pa_nil))) (pa_cons (pe_callB (Hl.call_isH C List.mem_cons_self hcls hdict hf) (by rfl) T.b_isinstance boot_isinstance (pa_cons (pv 0) (pa_cons (pe_glob (v := .ref (ga K "BadNumber")) (by rfl) T.m_BadNumber rfl) pa_nil))) (pa_cons (pe_callB (Hl.call_isH C List.mem_cons_self hcls hdict hf) (by rfl) T.b_isinstance boot_isinstance (pa_cons (pv 0) (pa_cons (pe_glob (v := .ref (ga K "BadProgram")) (by rfl) T.m_BadProgram rfl) pa_nil))) (pa_cons (pe_callB (Hl.call_isH C List.mem_cons_self hcls hdict hf) (by rfl) T.b_isinstance boot_isinstance (pa_cons (pv 0) (pa_cons (pe_glob (v := .ref (ga K "BadText")) (by rfl) T.m_BadText rfl) pa_nil))) pa_nil))))))
      (pss_cons (ps_set (i := 1) sc__law_word.nd rfl (.inl rfl) (pe_op op_cat (pv 1) (pe_lst (pa_cons (pe_callB (Hl.call_isH C List.mem_cons_self hcls hdict hf) (by rfl) T.b_isinstance boot_isinstance (pa_cons (pv 0) (pa_cons (pe_glob (v := .ref (ga K "TooGreat")) (by rfl) T.m_TooGreat rfl) pa_nil))) pa_nil))))
      (pss_cons (ps_if (PW.pt (pw_or (pt_cmpR op_ne (Hl.pe_sumB (i := 1) ⟨p, hot, List.mem_cons_self⟩ (by rfl) T.b_sum T.b_int rfl (.inl rfl) rfl rfl rfl (by decide +kernel) (by decide +kernel) rfl (by decide +kernel) rfl rfl) pe_int (nomark _)) (pw_or1 (pt_not (pt_val (pe_callB (Hl.call_isH C List.mem_cons_self hcls hdict hf) (by rfl) T.b_isinstance boot_isinstance (pa_cons (pv 0) (pa_cons (pe_bltn (v := .ty "ValueError") (by rfl) T.b_ValueError (by rfl) rfl) pa_nil)))))))) (pss_one (ps_ret pe_str)) pss_nil)
      (pss_one (ps_ret (pe_ix (ixL rfl) (pe_lst (pa_cons pe_str (pa_cons pe_str (pa_cons pe_str (pa_cons pe_str (pa_cons pe_str pa_nil)))))) (bm rfl PySem.F.plainAttrs_list PySem.F.slot_list_index PySem.F.type_list_index mt_index (pv 1) (pa_cons pe_bl pa_nil)) (fun _ _ => rfl))))))), ?_⟩
  have k_BadMachine := hk "BadMachine" (by simp)
  have k_BadNumber := hk "BadNumber" (by simp)
  have k_BadProgram := hk "BadProgram" (by simp)
  have k_BadText := hk "BadText" (by simp)
  have k_TooGreat := hk "TooGreat" (by simp)
  have hn2 : n = "BadMachine" ∨ n = "BadNumber" ∨ n = "BadProgram" ∨ n = "BadText" ∨ n = "TooGreat" := by simpa using hn
  rcases hn2 with rfl | rfl | rfl | rfl | rfl
  · refine ⟨_, rfl, _, _, _, rfl, fun _ h => h, k_BadMachine, _, rfl, _, _, _, rfl, fun _ h => h, k_BadNumber, _, rfl, _, _, _, rfl, fun _ h => h, k_BadProgram, _, rfl, _, _, _, rfl, fun _ h => h, k_BadText, (by show 4 ≤ sizeLine; decide), fun a na => ?_⟩
    refine ⟨_, rfl, _, rfl, _, _, _, rfl, fun _ h => h, k_TooGreat, (by show 1 ≤ sizeLine; decide), fun b nb => ?_⟩
    have hab : a ≠ b := ne_of_none upd_same nb
    refine ⟨a, b, _, _, rfl, rfl, by rw [upd_ne hab, upd_same], upd_same, (by show 4 + 1 ≤ sizeLine; decide), fun c nc => ?_⟩
    have sH : Same H (upd (upd (upd H a (.lst [.bl ("BadMachine" == "BadMachine"), .bl ("BadMachine" == "BadNumber"), .bl ("BadMachine" == "BadProgram"), .bl ("BadMachine" == "BadText")])) b (.lst [.bl ("BadMachine" == "TooGreat")])) c (.lst [.bl ("BadMachine" == "BadMachine"), .bl ("BadMachine" == "BadNumber"), .bl ("BadMachine" == "BadProgram"), .bl ("BadMachine" == "BadText"), .bl ("BadMachine" == "TooGreat")])) := ((same_new na).trans (same_new nb)).trans (same_new nc)
    refine ⟨c, [true, false, false, false, false], rfl, SqL.of upd_same, ?_⟩
    refine ⟨rfl, _, rfl, iteF ?_⟩
    refine ⟨_, rfl, _, _, _, rfl, fun _ h => h, hv, _, rfl, iteF ?_⟩
    refine ⟨(by show 5 ≤ sizeLine; decide), fun d nd => ?_⟩
    refine ⟨_, rfl, .inl ⟨rfl, _, SqL.of ((same_new nd) _ _ upd_same)⟩, c, _, _, 0, .bl true, rfl, rfl, SqL.of ((same_new nd) _ _ upd_same), rfl, rfl, rfl, rfl, fun m z hm hz => ?_, ?_⟩
    · exact absurd hm (by omega)
    · exact ⟨d, _, 0, .str "BadMachine", rfl, rfl, SqL.of upd_same, atIn (i := 0) rfl, q _ (sH.trans (same_new nd))⟩
  · refine ⟨_, rfl, _, _, _, rfl, fun _ h => h, k_BadMachine, _, rfl, _, _, _, rfl, fun _ h => h, k_BadNumber, _, rfl, _, _, _, rfl, fun _ h => h, k_BadProgram, _, rfl, _, _, _, rfl, fun _ h => h, k_BadText, (by show 4 ≤ sizeLine; decide), fun a na => ?_⟩
    refine ⟨_, rfl, _, rfl, _, _, _, rfl, fun _ h => h, k_TooGreat, (by show 1 ≤ sizeLine; decide), fun b nb => ?_⟩
    have hab : a ≠ b := ne_of_none upd_same nb
    refine ⟨a, b, _, _, rfl, rfl, by rw [upd_ne hab, upd_same], upd_same, (by show 4 + 1 ≤ sizeLine; decide), fun c nc => ?_⟩
    have sH : Same H (upd (upd (upd H a (.lst [.bl ("BadNumber" == "BadMachine"), .bl ("BadNumber" == "BadNumber"), .bl ("BadNumber" == "BadProgram"), .bl ("BadNumber" == "BadText")])) b (.lst [.bl ("BadNumber" == "TooGreat")])) c (.lst [.bl ("BadNumber" == "BadMachine"), .bl ("BadNumber" == "BadNumber"), .bl ("BadNumber" == "BadProgram"), .bl ("BadNumber" == "BadText"), .bl ("BadNumber" == "TooGreat")])) := ((same_new na).trans (same_new nb)).trans (same_new nc)
    refine ⟨c, [false, true, false, false, false], rfl, SqL.of upd_same, ?_⟩
    refine ⟨rfl, _, rfl, iteF ?_⟩
    refine ⟨_, rfl, _, _, _, rfl, fun _ h => h, hv, _, rfl, iteF ?_⟩
    refine ⟨(by show 5 ≤ sizeLine; decide), fun d nd => ?_⟩
    refine ⟨_, rfl, .inl ⟨rfl, _, SqL.of ((same_new nd) _ _ upd_same)⟩, c, _, _, 1, .bl true, rfl, rfl, SqL.of ((same_new nd) _ _ upd_same), rfl, rfl, rfl, rfl, fun m z hm hz => ?_, ?_⟩
    · match m, hm with
      | 0, _ => cases hz; rfl
    · exact ⟨d, _, 1, .str "BadNumber", rfl, rfl, SqL.of upd_same, atIn (i := 1) rfl, q _ (sH.trans (same_new nd))⟩
  · refine ⟨_, rfl, _, _, _, rfl, fun _ h => h, k_BadMachine, _, rfl, _, _, _, rfl, fun _ h => h, k_BadNumber, _, rfl, _, _, _, rfl, fun _ h => h, k_BadProgram, _, rfl, _, _, _, rfl, fun _ h => h, k_BadText, (by show 4 ≤ sizeLine; decide), fun a na => ?_⟩
    refine ⟨_, rfl, _, rfl, _, _, _, rfl, fun _ h => h, k_TooGreat, (by show 1 ≤ sizeLine; decide), fun b nb => ?_⟩
    have hab : a ≠ b := ne_of_none upd_same nb
    refine ⟨a, b, _, _, rfl, rfl, by rw [upd_ne hab, upd_same], upd_same, (by show 4 + 1 ≤ sizeLine; decide), fun c nc => ?_⟩
    have sH : Same H (upd (upd (upd H a (.lst [.bl ("BadProgram" == "BadMachine"), .bl ("BadProgram" == "BadNumber"), .bl ("BadProgram" == "BadProgram"), .bl ("BadProgram" == "BadText")])) b (.lst [.bl ("BadProgram" == "TooGreat")])) c (.lst [.bl ("BadProgram" == "BadMachine"), .bl ("BadProgram" == "BadNumber"), .bl ("BadProgram" == "BadProgram"), .bl ("BadProgram" == "BadText"), .bl ("BadProgram" == "TooGreat")])) := ((same_new na).trans (same_new nb)).trans (same_new nc)
    refine ⟨c, [false, false, true, false, false], rfl, SqL.of upd_same, ?_⟩
    refine ⟨rfl, _, rfl, iteF ?_⟩
    refine ⟨_, rfl, _, _, _, rfl, fun _ h => h, hv, _, rfl, iteF ?_⟩
    refine ⟨(by show 5 ≤ sizeLine; decide), fun d nd => ?_⟩
    refine ⟨_, rfl, .inl ⟨rfl, _, SqL.of ((same_new nd) _ _ upd_same)⟩, c, _, _, 2, .bl true, rfl, rfl, SqL.of ((same_new nd) _ _ upd_same), rfl, rfl, rfl, rfl, fun m z hm hz => ?_, ?_⟩
    · match m, hm with
      | 0, _ => cases hz; rfl
      | 1, _ => cases hz; rfl
    · exact ⟨d, _, 2, .str "BadProgram", rfl, rfl, SqL.of upd_same, atIn (i := 2) rfl, q _ (sH.trans (same_new nd))⟩
  · refine ⟨_, rfl, _, _, _, rfl, fun _ h => h, k_BadMachine, _, rfl, _, _, _, rfl, fun _ h => h, k_BadNumber, _, rfl, _, _, _, rfl, fun _ h => h, k_BadProgram, _, rfl, _, _, _, rfl, fun _ h => h, k_BadText, (by show 4 ≤ sizeLine; decide), fun a na => ?_⟩
    refine ⟨_, rfl, _, rfl, _, _, _, rfl, fun _ h => h, k_TooGreat, (by show 1 ≤ sizeLine; decide), fun b nb => ?_⟩
    have hab : a ≠ b := ne_of_none upd_same nb
    refine ⟨a, b, _, _, rfl, rfl, by rw [upd_ne hab, upd_same], upd_same, (by show 4 + 1 ≤ sizeLine; decide), fun c nc => ?_⟩
    have sH : Same H (upd (upd (upd H a (.lst [.bl ("BadText" == "BadMachine"), .bl ("BadText" == "BadNumber"), .bl ("BadText" == "BadProgram"), .bl ("BadText" == "BadText")])) b (.lst [.bl ("BadText" == "TooGreat")])) c (.lst [.bl ("BadText" == "BadMachine"), .bl ("BadText" == "BadNumber"), .bl ("BadText" == "BadProgram"), .bl ("BadText" == "BadText"), .bl ("BadText" == "TooGreat")])) := ((same_new na).trans (same_new nb)).trans (same_new nc)
    refine ⟨c, [false, false, false, true, false], rfl, SqL.of upd_same, ?_⟩
    refine ⟨rfl, _, rfl, iteF ?_⟩
    refine ⟨_, rfl, _, _, _, rfl, fun _ h => h, hv, _, rfl, iteF ?_⟩
    refine ⟨(by show 5 ≤ sizeLine; decide), fun d nd => ?_⟩
    refine ⟨_, rfl, .inl ⟨rfl, _, SqL.of ((same_new nd) _ _ upd_same)⟩, c, _, _, 3, .bl true, rfl, rfl, SqL.of ((same_new nd) _ _ upd_same), rfl, rfl, rfl, rfl, fun m z hm hz => ?_, ?_⟩
    · match m, hm with
      | 0, _ => cases hz; rfl
      | 1, _ => cases hz; rfl
      | 2, _ => cases hz; rfl
    · exact ⟨d, _, 3, .str "BadText", rfl, rfl, SqL.of upd_same, atIn (i := 3) rfl, q _ (sH.trans (same_new nd))⟩
  · refine ⟨_, rfl, _, _, _, rfl, fun _ h => h, k_BadMachine, _, rfl, _, _, _, rfl, fun _ h => h, k_BadNumber, _, rfl, _, _, _, rfl, fun _ h => h, k_BadProgram, _, rfl, _, _, _, rfl, fun _ h => h, k_BadText, (by show 4 ≤ sizeLine; decide), fun a na => ?_⟩
    refine ⟨_, rfl, _, rfl, _, _, _, rfl, fun _ h => h, k_TooGreat, (by show 1 ≤ sizeLine; decide), fun b nb => ?_⟩
    have hab : a ≠ b := ne_of_none upd_same nb
    refine ⟨a, b, _, _, rfl, rfl, by rw [upd_ne hab, upd_same], upd_same, (by show 4 + 1 ≤ sizeLine; decide), fun c nc => ?_⟩
    have sH : Same H (upd (upd (upd H a (.lst [.bl ("TooGreat" == "BadMachine"), .bl ("TooGreat" == "BadNumber"), .bl ("TooGreat" == "BadProgram"), .bl ("TooGreat" == "BadText")])) b (.lst [.bl ("TooGreat" == "TooGreat")])) c (.lst [.bl ("TooGreat" == "BadMachine"), .bl ("TooGreat" == "BadNumber"), .bl ("TooGreat" == "BadProgram"), .bl ("TooGreat" == "BadText"), .bl ("TooGreat" == "TooGreat")])) := ((same_new na).trans (same_new nb)).trans (same_new nc)
    refine ⟨c, [false, false, false, false, true], rfl, SqL.of upd_same, ?_⟩
    refine ⟨rfl, _, rfl, iteF ?_⟩
    refine ⟨_, rfl, _, _, _, rfl, fun _ h => h, hv, _, rfl, iteF ?_⟩
    refine ⟨(by show 5 ≤ sizeLine; decide), fun d nd => ?_⟩
    refine ⟨_, rfl, .inl ⟨rfl, _, SqL.of ((same_new nd) _ _ upd_same)⟩, c, _, _, 4, .bl true, rfl, rfl, SqL.of ((same_new nd) _ _ upd_same), rfl, rfl, rfl, rfl, fun m z hm hz => ?_, ?_⟩
    · match m, hm with
      | 0, _ => cases hz; rfl
      | 1, _ => cases hz; rfl
      | 2, _ => cases hz; rfl
      | 3, _ => cases hz; rfl
    · exact ⟨d, _, 4, .str "TooGreat", rfl, rfl, SqL.of upd_same, atIn (i := 4) rfl, q _ (sH.trans (same_new nd))⟩
abbrev lams : List Str := ["_law_refused"]
theorem told {X : Cx} (T : Txt X.K X.mg) {x : Str} (hx : x ∈ lams) (hB : TabX X.K X.mg X.base lams) (hcode : X.env.code = .ref (He.codeOf X.K (x, none))) (hq : X.env.qual = x ++ ".<locals>.") {k : Nat} {params : Arguments} {body : Expr} {scope : Scope} {t : XK → TE} {p lpos pos : Pos}
    (hgT : Gl X "_law_told") (hr : Room (k + 2) X.A) (L : LamS X.env.scope scope) (hdef : defaultsOf params X.env = ([], []))
    (hbind : ∀ (q : Str) (cl : List (Str × Addr)) (pm cv ctv : Value), bindArgs (PySem.W.kla_fn "<lambda>" q params body scope cl pm cv ctv) ⟨[], []⟩ = pure [])
    (hbody : ∀ (A : Around) (outer : List Env) (s : Shared) (H : Hp) (E : XK) (f c' : Addr), Room k (A.deeper (lamEnv X scope s.heap.objs.size f c')) → PE (Hl.lamN X A outer s H E scope f c') body (t E)) :
    PE X (.Call (.Name "_law_told" p) [.Lambda params body scope lpos] [] pos) (Hl.tTold (Tb X.K lams) (Nm X.K words) t) := by
  refine Hl.pe_told (c := (He.cT X.K (x, none)).1) (P := (He.cT X.K (x, none)).2) T.d__law_told rfl sc__law_told rfl rfl hgT T.m__law_told (T.d__law_told.bindsN (fun _ _ _ _ _ _ us hl => match us, hl with | [_], _ => rfl)) T.m_RowError rfl T.m__law_word rfl T.d__law_word.kp
    (T.d__law_word.bindsN (fun _ _ _ _ _ _ us hl => match us, hl with | [_], _ => rfl)) (ok__law_word T) (fun D n h => ?_) (hB x hx) hcode ?_ ?_ hr (by omega) L hdef hbind hbody
  · obtain ⟨hn, rfl⟩ := h
    exact (exc_of T.w_exc hn).2.2.2
  · rw [hq]
    exact tb_mem hx
  · rw [hq]
    exact tb_u T.w_tab hx
end
end Fr
namespace Fr
open PySem PySem.Spec PyProof.Rows L2
theorem rooms_getD (n i : Nat) (hi : i < 12) : ((rooms n).map nI).getD i .non = nI (rm n i) := by
  unfold rm
  rw [List.getD_eq_getElem?_getD, List.getD_eq_getElem?_getD, List.getElem?_map, List.getElem?_eq_getElem (by rw [rooms_len]; exact hi)]
  rfl
theorem rm_le {n : Nat} (h : isNum n = true) (r : Nat) : rm n r ≤ 400 := by
  unfold rm
  rw [List.getD_eq_getElem?_getD]
  cases e : (rooms n)[r]? with
  | none => exact Nat.zero_le _
  | some a => exact (isNum_iff.mp h).2.2 a (List.mem_of_getElem? e)
theorem row22 {n u i : Nat} (hi : i < 12) : Zn.rowAt i [(rooms n).map nI, (rooms u).map nI] = [nI (rm n i), nI (rm u i)] := by
  show [((rooms n).map nI).getD i .non, ((rooms u).map nI).getD i .non] = _
  rw [rooms_getD n i hi, rooms_getD u i hi]
end Fr
namespace Fr
open PySem PySem.Spec PyProof.Rows L2
/-! ### data that may be held against one another -/
def Shp (k : Nat) (d : PyData) : Prop := d.canLay0 = true ∧ d.depth ≤ k
theorem Shp.mono {k j : Nat} {d : PyData} (h : Shp k d) (hk : k ≤ j) : Shp j d := ⟨h.1, Nat.le_trans h.2 hk⟩
theorem Shp.int {i : Int} {k : Nat} : Shp k (.int i) := ⟨by simp [PyData.canLay0], by simp [PyData.depth]⟩
theorem Shp.bool {i : Bool} {k : Nat} : Shp k (.bool i) := ⟨by simp [PyData.canLay0], by simp [PyData.depth]⟩
theorem Shp.non {k : Nat} : Shp k .none := ⟨by simp [PyData.canLay0], by simp [PyData.depth]⟩
theorem Shp.str {x : Str} {k : Nat} (h : PyData.strOk x = true) : Shp k (.str x) := ⟨by simp [PyData.canLay0, h], by simp [PyData.depth]⟩
theorem shp_all {k : Nat} : ∀ {ds : List PyData}, (∀ d ∈ ds, Shp k d) → PyData.canLayAll0 ds = true ∧ PyData.depthAll ds ≤ k
  | [], _ => ⟨by simp [PyData.canLayAll0], by simp [PyData.depthAll]⟩
  | d :: ds, h => by
    have h1 := h d List.mem_cons_self
    have h2 := shp_all fun e he => h e (List.mem_cons_of_mem _ he)
    refine ⟨?_, ?_⟩
    · simp only [PyData.canLayAll0, h1.1, h2.1, Bool.and_self]
    · simp only [PyData.depthAll]
      exact Nat.max_le.mpr ⟨h1.2, h2.2⟩
theorem Shp.lst {k : Nat} {ds : List PyData} (h : ∀ d ∈ ds, Shp k d) : Shp (k + 1) (.list ds) := by
  have := shp_all h
  exact ⟨by simp only [PyData.canLay0]; exact this.1, by simp only [PyData.depth]; exact Nat.succ_le_succ this.2⟩
theorem Shp.tup {k : Nat} {ds : List PyData} (h : ∀ d ∈ ds, Shp k d) : Shp (k + 1) (.tuple ds) := by
  have := shp_all h
  exact ⟨by simp only [PyData.canLay0]; exact this.1, by simp only [PyData.depth]; exact Nat.succ_le_succ this.2⟩
theorem Shp.ok {k : Nat} {d : PyData} (h : Shp k d) (hk : k ≤ 64) : SeqAt.shaped d = true := by
  unfold SeqAt.shaped
  rw [h.1, decide_eq_true (Nat.le_trans h.2 hk)]
  rfl
theorem Shp.nil {k : Nat} : ∀ d ∈ ([] : List PyData), Shp k d := fun _ h => nomatch h
theorem Shp.cons {k : Nat} {d : PyData} {ds : List PyData} (h : Shp k d) (t : ∀ e ∈ ds, Shp k e) : ∀ e ∈ d :: ds, Shp k e := fun e he => by
  rcases List.mem_cons.mp he with rfl | z
  · exact h
  · exact t e z
theorem Shp.map {α : Type} {k : Nat} {f : α → PyData} {l : List α} (h : ∀ a ∈ l, Shp k (f a)) : ∀ e ∈ l.map f, Shp k e := fun e he => by
  obtain ⟨a, ha, rfl⟩ := List.mem_map.mp he
  exact h a ha
theorem Shp.opt {k : Nat} (o : Option Nat) : Shp k (optD o) := by
  cases o with
  | none => exact .non
  | some a => exact .int
theorem Shp.frac {k : Nat} (f : Nat × Nat) : Shp (k + 1) (fracD f) := .tup (.cons .int (.cons .int .nil))
theorem Shp.prog {k : Nat} (l : Prog) : Shp (k + 2) (progD l) := .lst (.map fun f _ => .frac f)
theorem Shp.nats {k : Nat} (ns : List Nat) : ∀ e ∈ ns.map nD, Shp k e := .map fun _ _ => .int
/-- held against the same -/
def rNeS (K : PySem.W.Frag) : R2 := fun x y H Q => ∃ d, Dp K H x d ∧ Dp K H y d ∧ Shp 60 d ∧ Q (.bl false) H
def rEqS (K : PySem.W.Frag) : R2 := fun x y H Q => ∃ d, Dp K H x d ∧ Dp K H y d ∧ Shp 60 d ∧ Q (.bl true) H
section
variable {X : Cx} {K : PySem.W.Frag}
theorem neS (e : X.K = K) (hu : X.A.units + 64 < cLine) : OpR X (compareOp .NotEq) (rNeS K) := by
  intro pins s σ H x y v u Q I rx ry h
  obtain ⟨d, h1, h2, h3, q⟩ := h
  refine neD e hu pins s σ H x y v u Q I rx ry ⟨d, d, h1, h2, h3.ok (by decide), h3.ok (by decide), ?_⟩
  rw [SeqAt.eqv_refl _ h3.1]
  exact q
theorem eqS (e : X.K = K) (hu : X.A.units + 64 < cLine) : OpR X (compareOp .Eq) (rEqS K) := by
  intro pins s σ H x y v u Q I rx ry h
  obtain ⟨d, h1, h2, h3, q⟩ := h
  refine eqD e hu pins s σ H x y v u Q I rx ry ⟨d, d, h1, h2, h3.ok (by decide), h3.ok (by decide), ?_⟩
  rw [SeqAt.eqv_refl _ h3.1]
  exact q
/-- a list held against the empty one -/
def rNeE (K : PySem.W.Frag) : R2 := fun x y H Q => ∃ ds, Dp K H x (.list ds) ∧ Dp K H y (.list []) ∧ (∀ d ∈ ds, Shp 50 d) ∧ Q (.bl (!ds.isEmpty)) H
theorem neE (e : X.K = K) (hu : X.A.units + 64 < cLine) : OpR X (compareOp .NotEq) (rNeE K) := by
  intro pins s σ H x y v u Q I rx ry h
  obtain ⟨ds, h1, h2, h3, q⟩ := h
  refine neD e hu pins s σ H x y v u Q I rx ry ⟨_, _, h1, h2, (Shp.lst h3).ok (by decide), (Shp.lst (k := 0) Shp.nil).ok (by decide), ?_⟩
  cases ds with
  | nil => exact q
  | cons d ds => exact q
end
theorem row33 {n u v i : Nat} (hi : i < 12) : Zn.rowAt i [(rooms n).map nI, (rooms u).map nI, (rooms v).map nI] = [nI (rm n i), nI (rm u i), nI (rm v i)] := by
  show [((rooms n).map nI).getD i .non, ((rooms u).map nI).getD i .non, ((rooms v).map nI).getD i .non] = _
  rw [rooms_getD n i hi, rooms_getD u i hi, rooms_getD v i hi]
def rEqE (K : PySem.W.Frag) : R2 := fun x y H Q => ∃ ds, Dp K H x (.list ds) ∧ Dp K H y (.list []) ∧ (∀ d ∈ ds, Shp 50 d) ∧ Q (.bl ds.isEmpty) H
theorem eqE {X : Cx} {K : PySem.W.Frag} (e : X.K = K) (hu : X.A.units + 64 < cLine) : OpR X (compareOp .Eq) (rEqE K) := by
  intro pins s σ H x y v u Q I rx ry h
  obtain ⟨ds, h1, h2, h3, q⟩ := h
  refine eqD e hu pins s σ H x y v u Q I rx ry ⟨_, _, h1, h2, (Shp.lst h3).ok (by decide), (Shp.lst (k := 0) Shp.nil).ok (by decide), ?_⟩
  cases ds with
  | nil => exact q
  | cons d ds => exact q
theorem maxN_rm {x : Nat} : 400 < maxN (rooms x) ↔ ∃ r, r < 12 ∧ 400 < rm x r := by
  constructor
  · intro h
    have h1 := maxN_mem (rooms_ne x)
    obtain ⟨r, hr, e⟩ := List.mem_iff_getElem.mp h1
    rw [rooms_len] at hr
    refine ⟨r, hr, ?_⟩
    unfold rm
    rw [List.getD_eq_getElem?_getD, List.getElem?_eq_getElem (by rw [rooms_len]; exact hr), e]
    exact h
  · rintro ⟨r, hr, h⟩
    unfold rm at h
    rw [List.getD_eq_getElem?_getD, List.getElem?_eq_getElem (by rw [rooms_len]; exact hr)] at h
    exact Nat.lt_of_lt_of_le h (maxN_le (List.getElem_mem _))
theorem sum_ints : ∀ ns : List Nat, (ns.map fun (x : Nat) => (x : Int)).sum = ((ns.sum : Nat) : Int)
  | [] => rfl
  | n :: ns => by
    rw [List.map_cons, List.sum_cons, List.sum_cons, sum_ints ns]
    omega
theorem dp_tup {K : PySem.W.Frag} {H : Hp} {v : V} {ds : List PyData} (h : Dp K H v (.tuple ds)) : ∃ (a : Addr) (xs : List V), v = .ref a ∧ SqT K H a xs ∧ DpAll K H xs ds := by
  cases h with
  | @tup a xs _ hs ha => exact ⟨a, xs, rfl, hs, ha⟩
theorem dp_lst {K : PySem.W.Frag} {H : Hp} {v : V} {ds : List PyData} (h : Dp K H v (.list ds)) : ∃ (a : Addr) (xs : List V), v = .ref a ∧ SqL K H a xs ∧ DpAll K H xs ds := by
  cases h with
  | @lst a xs _ hs ha => exact ⟨a, xs, rfl, hs, ha⟩
theorem dp_two {K : PySem.W.Frag} {H : Hp} {v : V} {d e : PyData} (h : Dp K H v (.tuple [d, e])) : ∃ (a : Addr) (x y : V), v = .ref a ∧ SqT K H a [x, y] ∧ Dp K H x d ∧ Dp K H y e := by
  obtain ⟨a, xs, rfl, hs, ha⟩ := dp_tup h
  cases ha with
  | cons h1 h2 => cases h2 with
    | cons h3 h4 => cases h4 with
      | nil => exact ⟨a, _, _, rfl, hs, h1, h3⟩
theorem dp_optV {K : PySem.W.Frag} {H : Hp} {v : V} {o : Option Nat} (h : Dp K H v (optD o)) : v = optV o := by
  cases o with
  | none => cases h; rfl
  | some a => cases h; rfl
theorem rm_one (r : Nat) : rm 1 r = 0 := by
  have := rm_pow (a := 2) (by decide) r 0
  simpa using this
theorem count_yes {m b : Nat} (h : m ≤ b) : isCountD 0 b (nD m) = true := by
  show (decide ((0 : Int) ≤ (m : Int)) && decide ((m : Int) ≤ (b : Int))) = true
  rw [decide_eq_true (by omega), decide_eq_true (by omega)]
  rfl
/-- a written list, new -/
def tDatN (K : PySem.W.Frag) (ds : List PyData) : TE := fun _ H Q => ∀ p vs H', Same H H' → H' p = some (.lst vs) → DpAll K H' vs ds → Q (.ref p) H'
theorem dl_lstN {X : Cx} {K : PySem.W.Frag} {pos : Pos} {es : List Expr} {ds : List PyData} (hl : ds.length ≤ 1000) (h : PA X es (tDats K ds)) : PE X (.List es pos) (tDatN K ds) :=
  PE.imp (pe_lst h) fun σ H Q q vs H1 s1 h1 => ⟨by rw [dps_len h1]; exact Nat.le_trans hl (by decide), fun p np => q p vs _ (s1.trans (same_new np)) upd_same (same_dps (same_new np) h1)⟩
theorem left_1 : left 1 = 1 := by
  have := left_pow (a := 1) (by decide)
  rw [left_def]
  decide +kernel
/-! ### tuples by their data -/
def cutD (ds : List PyData) (lo hi : Option Int) : List PyData := (ds.drop (HT.sIx ds.length 0 lo)).take (HT.sIx ds.length ds.length hi - HT.sIx ds.length 0 lo)
def rSlD (K : PySem.W.Frag) : V → Option Int → Option Int → Hp → VK → Prop := fun x lo hi H Q => ∃ ds, Dp K H x (.tuple ds) ∧ ∀ v H', Same H H' → Dp K H' v (.tuple (cutD ds lo hi)) → Q v H'
theorem slD {X : Cx} {K : PySem.W.Frag} (e : X.K = K) : SlR X (rSlD K) := by
  subst e
  intro pins s σ H x v vl vu lo hi sl Q I rx hs pl pu h
  obtain ⟨ds, hd, q⟩ := h
  obtain ⟨a, xs, rfl, hx, ha⟩ := dp_tup hd
  have hlen := dps_len ha
  refine sl_tupA pins s σ H _ v vl vu lo hi sl Q I rx hs pl pu ⟨a, xs, rfl, hx, fun hw => ?_, fun _ p np => ?_⟩
  · refine q _ H (Same.refl H) ?_
    unfold cutD
    rw [← hlen, hw.1, hw.2, List.drop_zero, Nat.sub_zero, List.take_of_length_le (by omega)]
    exact .tup hx ha
  · refine q _ _ (same_new np) (.tup (SqT.of upd_same) ?_)
    unfold cutV cutD
    rw [← hlen]
    exact dps_take _ (dps_drop _ (same_dps (same_new np) ha))
def rCatD (K : PySem.W.Frag) : R2 := fun x y H Q => ∃ ds es, Dp K H x (.tuple ds) ∧ Dp K H y (.tuple es) ∧ ds.length + es.length ≤ 1000 ∧ ∀ v H', Same H H' → Dp K H' v (.tuple (ds ++ es)) → Q v H'
theorem catD {X : Cx} {K : PySem.W.Frag} (e : X.K = K) : OpR X (binaryOp .Add) (rCatD K) := by
  subst e
  intro pins s σ H x y v u Q I rx ry h
  obtain ⟨ds, es, hd, he, hl, q⟩ := h
  obtain ⟨a, xs, rfl, hx, ha⟩ := dp_tup hd
  obtain ⟨b, ys, rfl, hy, hb⟩ := dp_tup he
  have h1 := dps_len ha
  have h2 := dps_len hb
  refine op_catA pins s σ H _ _ v u Q I rx ry ⟨a, b, xs, ys, rfl, rfl, hx, hy, Nat.le_trans (show xs.length + ys.length ≤ 1000 by omega) (by decide), fun z => ?_, fun _ z => ?_, fun _ _ p np => ?_⟩
  · subst z
    have : ds = [] := List.length_eq_zero_iff.mp (by rw [← h1]; rfl)
    subst this
    exact q _ H (Same.refl H) he
  · subst z
    have : es = [] := List.length_eq_zero_iff.mp (by rw [← h2]; rfl)
    subst this
    rw [List.append_nil] at q
    exact q _ H (Same.refl H) hd
  · exact q _ _ (same_new np) (.tup (SqT.of upd_same) (dps_app (same_dps (same_new np) ha) (same_dps (same_new np) hb)))
theorem cutD_from (ds : List PyData) (i : Nat) : cutD ds (some (i : Int)) none = ds.drop i := by
  unfold cutD
  rw [show HT.sIx ds.length 0 (some (i : Int)) = min i ds.length from HT.sIx_nat ds.length 0 i, HT.sIx_none]
  rcases Nat.le_total i ds.length with h | h
  · rw [Nat.min_eq_left h, List.take_of_length_le (by rw [List.length_drop]; exact Nat.le_refl _)]
  · rw [Nat.min_eq_right h, List.drop_of_length_le h, List.drop_length, List.take_nil]
theorem cutD_to (ds : List PyData) (i : Nat) : cutD ds none (some (i : Int)) = ds.take i := by
  unfold cutD
  rw [show HT.sIx ds.length ds.length (some (i : Int)) = min i ds.length from HT.sIx_nat ds.length ds.length i, HT.sIx_none]
  rw [List.drop_zero, Nat.sub_zero]
  rcases Nat.le_total i ds.length with h | h
  · rw [Nat.min_eq_left h]
  · rw [Nat.min_eq_right h, List.take_of_length_le (Nat.le_refl _), List.take_of_length_le h]
end Fr
namespace Fr
open PySem PySem.Spec PyProof.Rows L2
/-! ### machines -/
inductive Ln where
  | add (c g : Nat) | take (c g h : Nat) | fin
deriving DecidableEq
abbrev Mach := List Ln
def lnD : Ln → PyData
  | .add c g => .tuple [.str "add", nD c, nD g]
  | .take c g h => .tuple [.str "take", nD c, nD g, nD h]
  | .fin => .tuple [.str "end"]
def machD (m : Mach) : PyData := .list (m.map lnD)
def Ln.ok (n : Nat) : Ln → Bool
  | .add c g => decide (c < 3) && decide (g < n)
  | .take c g h => decide (c < 3) && (decide (g < n) && decide (h < n))
  | .fin => true
def isMach (m : Mach) : Bool := (decide (1 ≤ m.length) && decide (m.length ≤ 4)) && m.all (·.ok m.length)
def sizeW (x : Str) : Option Nat := if x = "add" then some 3 else if x = "take" then some 4 else if x = "end" then some 1 else none
theorem sizeW_le {x : Str} {k : Nat} (h : sizeW x = some k) : k ≤ 4 := by
  unfold sizeW at h
  by_cases h1 : x = "add"
  · rw [if_pos h1] at h; cases h; decide
  rw [if_neg h1] at h
  by_cases h2 : x = "take"
  · rw [if_pos h2] at h; cases h; decide
  rw [if_neg h2] at h
  by_cases h3 : x = "end"
  · rw [if_pos h3] at h; cases h; decide
  rw [if_neg h3] at h
  cases h
def isLineD (n : Nat) : PyData → Bool
  | .tuple (.str x :: ds) => match sizeW x with
    | none => false
    | some k => decide (ds.length + 1 = k) && (decide (x = "end") || (isCountD 0 2 (ds.getD 0 .none) && (ds.drop 1).all (isCountD 0 ((n - 1 : Nat) : Int))))
  | _ => false
def WordD : PyData → Prop
  | .tuple (.str x :: _) => x = "add" ∨ x = "take" ∨ x = "end" ∨ x = "stop"
  | _ => True
def KTab (w : World) (K : PySem.W.Frag) : Prop := ∃ es n, KDict K w (ga K "SIZES") es n
section
variable {X : Cx} {K : PySem.W.Frag} {w : World} {d : Addr} {es : Array DictEntry} {n : Nat}
theorem ninKD (e : X.K = K) (ew : X.w = w) (D : KTab w K) : OpR X (compareOp .NotIn) (fun x y H Q => ∃ (z : Str) (r : Option Value), x = .str z ∧ y = .ref (ga K "SIZES") ∧ PySem.W.nsIn K (ga K "SIZES") z = some r ∧ Q (.bl (!r.isSome)) H) := by
  subst e
  subst ew
  obtain ⟨es, n, D⟩ := D
  exact op_notIn_kd D
theorem ixKD (e : X.K = K) (ew : X.w = w) : IxR X (rIxD K w) := by
  subst e
  subst ew
  exact ix_kdict
/-- a tuple held against the empty one -/
def rEqT0 (K : PySem.W.Frag) : R2 := fun x y H Q => ∃ ds, Dp K H x (.tuple ds) ∧ Dp K H y (.tuple []) ∧ (∀ d ∈ ds, Shp 50 d) ∧ Q (.bl ds.isEmpty) H
theorem eqT0 (e : X.K = K) (hu : X.A.units + 64 < cLine) : OpR X (compareOp .Eq) (rEqT0 K) := by
  intro pins s σ H x y v u Q I rx ry h
  obtain ⟨ds, h1, h2, h3, q⟩ := h
  refine eqD e hu pins s σ H x y v u Q I rx ry ⟨_, _, h1, h2, (Shp.tup h3).ok (by decide), (Shp.tup (k := 0) Shp.nil).ok (by decide), ?_⟩
  cases ds with
  | nil => exact q
  | cons d ds => exact q
end
theorem Shp.subs : ∀ {ds : List PyData} {k : Nat}, PyData.canLayAll0 ds = true → PyData.depthAll ds ≤ k → ∀ d ∈ ds, Shp k d
  | [], _, _, _, _, h => nomatch h
  | e :: ds, k, h1, h2, d, h => by
    simp only [PyData.canLayAll0, Bool.and_eq_true] at h1
    simp only [PyData.depthAll] at h2
    have h3 := Nat.max_le.mp h2
    rcases List.mem_cons.mp h with rfl | h
    · exact ⟨h1.1, h3.1⟩
    · exact Shp.subs h1.2 h3.2 d h
theorem Shp.sub {ds : List PyData} {k : Nat} (h : Shp k (.tuple ds)) {d : PyData} (hd : d ∈ ds) : Shp k d := by
  have h1 := h.1
  have h2 := h.2
  simp only [PyData.canLay0] at h1
  simp only [PyData.depth] at h2
  exact Shp.subs h1 (by omega) d hd
theorem Shp.subL {ds : List PyData} {k : Nat} (h : Shp k (.list ds)) {d : PyData} (hd : d ∈ ds) : Shp k d := by
  have h1 := h.1
  have h2 := h.2
  simp only [PyData.canLay0] at h1
  simp only [PyData.depth] at h2
  exact Shp.subs h1 (by omega) d hd
section
variable {P : Program} {w : World} {K : PySem.W.Frag} {mg : Str → Option Value} {base : Heap}
theorem szTab (T : Txt K mg) (D : KTab w K) {x : Str} {k : Nat} (h : sizeW x = some k) : KDct K w (ga K "SIZES") x (nI k) ∧ ∃ u, PySem.W.nsIn K (ga K "SIZES") x = some (some u) := by
  obtain ⟨es, n, D⟩ := D
  have key : ∀ {y : Str} {j : Nat}, (y, He.Dv.int (j : Int)) ∈ [(("add" : Str), He.Dv.int 3), ("take", .int 4), ("end", .int 1)] → KDct K w (ga K "SIZES") y (nI j) ∧ ∃ u, PySem.W.nsIn K (ga K "SIZES") y = some (some u) := by
    intro y j hm
    obtain ⟨u, h1, h2⟩ := He.valsB_ok T.v_SIZES hm
    exact ⟨⟨es, n, u, D.at_, D.lit, h1, h2⟩, u, h1⟩
  unfold sizeW at h
  split at h
  · rename_i e
    cases h
    subst e
    exact key (by simp)
  · split at h
    · rename_i e
      cases h
      subst e
      exact key (by simp)
    · split at h
      · rename_i e
        cases h
        subst e
        exact key (by simp)
      · cases h
def spIsLine (K : PySem.W.Frag) : Sp := fun vs H Q _ => ∃ (v : V) (d : PyData) (n : Nat), vs = [v, nI n] ∧ 1 ≤ n ∧ Dp K H v d ∧ Shp 40 d ∧ WordD d ∧ ∀ H', Same H H' → Q (.bl (isLineD n d)) H'
theorem ok_is_line (T : Txt K mg) (DS : KTab w K) : Cal P w K mg base L2.CX0 2 "is_line" ["thing", "lines"] (spIsLine K) := by
  have c_is_count := ok_is_count (P := P) (w := w) (base := base) T
  refine Cal.mk0 T.d_is_line T.m_is_line sc_is_line (fun _ _ _ _ _ _ us hl => match us, hl with | [_, _], _ => rfl) (fun vs H Q E h => ?_) (fun cdv A outer s H vs Q E hr h => ?_)
  · obtain ⟨v, d, n, rfl, _⟩ := h
    rfl
  obtain ⟨v, d, n, rfl, hn, hd, hS, hW, q⟩ := h
  refine ⟨_, (pss_cons (ps_if (PW.pt (pw_or (pt_not (pt_val (pe_callB (isTuple rfl) (by rfl) T.b_isinstance boot_isinstance (pa_cons (pv 0) (pa_cons (pe_bltn (v := .ty "tuple") (by rfl) T.b_tuple boot_tuple rfl) pa_nil))))) (pw_or (pt_cmpR (eqT0 rfl hr.units) (pv 0) (pe_tup pa_nil) (nomark _)) (pw_or (pt_not (pt_val (pe_callB (isStr rfl) (by rfl) T.b_isinstance boot_isinstance (pa_cons (pe_ix (ixT rfl) (pv 0) pe_int (fun _ _ => rfl)) (pa_cons (pe_bltn (v := .ty "str") (by rfl) T.b_str boot_str rfl) pa_nil))))) (pw_or1 (pt_cmpR (ninKD rfl rfl DS) (pe_ix (ixT rfl) (pv 0) pe_int (fun _ _ => rfl)) (pe_glob (v := .ref (ga K "SIZES")) (by rfl) T.m_SIZES rfl) (by rfl))))))) (pss_one (ps_ret pe_bl)) pss_nil)
      (pss_cons (ps_if (pt_cmpR opN_ne (pe_callB (lenS rfl) (by rfl) T.b_len PySem.boot_len (pa_cons (pv 0) pa_nil)) (pe_ix (ixKD rfl rfl) (pe_glob (v := .ref (ga K "SIZES")) (by rfl) T.m_SIZES rfl) (pe_ix (ixT rfl) (pv 0) pe_int (fun _ _ => rfl)) (fun _ _ => rfl)) (nomark _)) (pss_one (ps_ret pe_bl)) pss_nil)
      (pss_cons (ps_if (pt_cmpR op_eq (pe_ix (ixT rfl) (pv 0) pe_int (fun _ _ => rfl)) pe_str (nomark _)) (pss_one (ps_ret pe_bl)) pss_nil)
      (pss_one (ps_ret (pe_and (pe_cal c_is_count (hr.mono (by decide)) (by rfl) pass0 (pa_cons (pe_ix (ixT rfl) (pv 0) pe_int (fun _ _ => rfl)) (pa_cons pe_int (pa_cons (pe_op opN_sub (pe_glob (v := .int 3) (by rfl) T.c_COUNTERS.choose_spec ⟨_, rfl⟩) pe_int) pa_nil)))) (pe_one (pe_callB (crAll rfl rfl) (by rfl) T.b_all boot_all (pa_cons (pe_lc (own := [("goal", 2)]) rfl sc_is_line.nd (piT rfl (pe_slice (slD rfl) (pv 0) (po_some pe_int) po_none)) (blkOk_by (own := [("goal", 2)]) (N := ["thing", "lines", "goal"]) (sc := defScope s_is_line) (by decide +kernel)) (fun _ _ _ _ _ => (pg_name (i := 2) sc_is_line.nd rfl (.inl rfl))) (fun _ _ _ _ _ => pts_nil) (fun _ _ _ _ _ => (pe_cal c_is_count (hr.mono (by decide)) (by rfl) pass0 (pa_cons (pv 2) (pa_cons pe_int (pa_cons (pe_op opN_sub (pv 1) pe_int) pa_nil)))))) pa_nil))))))))), ?_⟩
  refine ⟨_, rfl, _, _, rfl, hd, _, rfl, ?_⟩
  have q0 := q H (Same.refl H)
  cases d with
  | tuple ds =>
    obtain ⟨a, xs, rfl, hs, ha⟩ := dp_tup hd
    have hS' : ∀ e ∈ ds, Shp 50 e := fun e he => (Shp.sub hS he).mono (by decide)
    have hlen := dps_len ha
    refine iteF ⟨_, rfl, (by show 0 ≤ sizeLine; decide), fun p np => ?_⟩
    have hs1 : SqT K (upd H p (.tup [])) a xs := same_tup (same_new np) hs
    have hn1 : Same H (upd H p (.tup [])) := same_new np
    have ha1 := same_dps hn1 ha
    have hp1 : Dp K (upd H p (.tup [])) (.ref p) (.tuple []) := .tup (SqT.of upd_same) .nil
    generalize upd H p (.tup []) = H1 at *
    refine ⟨ds, .tup hs1 ha1, hp1, hS', _, rfl, ?_⟩
    cases ds with
    | nil => exact iteT (q H1 hn1)
    | cons d0 ds =>
      cases ha1 with
      | @cons x0 _ xs _ hx0 ha2 =>
        refine iteF ⟨_, rfl, a, _, 0, x0, rfl, rfl, hs1, atI0, _, _, rfl, hx0, _, rfl, ?_⟩
        cases d0 with
        | str x =>
          cases hx0
          have hT : isLineD n (.tuple (.str x :: ds)) = match sizeW x with
            | none => false
            | some k => decide (ds.length + 1 = k) && (decide (x = "end") || (isCountD 0 2 (ds.getD 0 .none) && (ds.drop 1).all (isCountD 0 ((n - 1 : Nat) : Int)))) := rfl
          rw [hT] at q
          refine iteF ⟨_, rfl, a, _, 0, .str x, rfl, rfl, hs1, atI0, ?_⟩
          cases hz : sizeW x with
          | none =>
            have hx : x = "stop" := by
              rcases hW with h | h | h | h
              · subst h; exact absurd hz (by decide)
              · subst h; exact absurd hz (by decide)
              · subst h; exact absurd hz (by decide)
              · exact h
            subst hx
            rw [hz] at q
            exact ⟨_, none, rfl, rfl, T.n_SIZES, _, rfl, iteT (q H1 hn1)⟩
          | some k =>
            obtain ⟨hk, u, hu⟩ := szTab (w := w) T DS hz
            rw [hz] at q
            dsimp only at q
            refine ⟨_, some u, rfl, rfl, hu, _, rfl, iteF ?_⟩
            refine ⟨_, rfl, a, _, rfl, .inr hs1, _, rfl, a, _, 0, .str x, rfl, rfl, hs1, atI0, _, x, nI k, rfl, rfl, hk, _, _, rfl, rfl, _, rfl, ?_⟩
            have hl2 := dps_len ha2
            by_cases hl : ds.length + 1 = k
            · rw [decide_eq_true (by rw [List.length_cons, hl2]; exact hl)]
              rw [decide_eq_true hl, Bool.true_and] at q
              refine iteF ⟨_, rfl, a, _, 0, .str x, rfl, rfl, hs1, atI0, rfl, _, rfl, ?_⟩
              by_cases he : x = "end"
              · subst he
                rw [decide_eq_true rfl]
                exact iteT (q H1 hn1)
              · rw [decide_eq_false (fun z => he (V.str.inj z))]
                rw [decide_eq_false he, Bool.false_or] at q
                obtain ⟨d1, ds, rfl⟩ : ∃ d1 ds', ds = d1 :: ds' := by
                  cases ds with
                  | nil =>
                    exfalso
                    subst hl
                    rcases hW with h | h | h | h
                    · subst h; exact absurd hz (by decide)
                    · subst h; exact absurd hz (by decide)
                    · exact he h
                    · subst h; exact absurd hz (by decide)
                  | cons d1 ds => exact ⟨d1, ds, rfl⟩
                cases ha2 with
                | @cons x1 _ xs _ hx1 ha3 =>
                  refine iteF ⟨_, rfl, a, _, 1, x1, rfl, rfl, hs1, atI1, _, _, rfl, rfl, by decide, x1, d1, 0, 2, rfl, hx1, ?_⟩
                  have hT2 : ((d1 :: ds).getD 0 .none) = d1 := rfl
                  rw [hT2] at q
                  refine ⟨_, rfl, ?_⟩
                  cases hc : isCountD 0 2 d1 with
                  | false =>
                    rw [hc, Bool.false_and] at q
                    exact iteF (q H1 hn1)
                  | true =>
                    rw [hc, Bool.true_and] at q
                    refine iteT ⟨_, rfl, 2, rfl, _, .tup hs1 (.cons (.str x) (.cons hx1 ha3)), fun v1 H2 s2 hv1 => ?_⟩
                    rw [show (some (2 : Int)) = some ((2 : Nat) : Int) from rfl, cutD_from] at hv1
                    obtain ⟨b, ys, rfl, hb, hys⟩ := dp_tup hv1
                    have hys : DpAll K H2 ys ds := hys
                    have hlen3 := dps_len hys
                    refine ⟨b, rfl, ⟨_, hb⟩, fun D hD => ?_⟩
                    refine lc_dp (K := K) walk_tup hD (by
                      have h5 : k ≤ 4 := sizeW_le hz
                      have h6 : (d1 :: ds).length = ds.length + 1 := rfl
                      omega) (fun H' s' => same_tup s' hb) (fun i => ds[i]?.map fun d => PyData.bool (isCountD 0 ((n - 1 : Nat) : Int) d)) ?_ ?_ ?_
                    · intro i d e
                      obtain ⟨a, _, rfl⟩ := Option.map_eq_some_iff.mp e
                      rfl
                    · rintro i z H' H'' A B hi s' ⟨rfl, hx⟩ hA hB
                      obtain ⟨d, hd, hp⟩ := dps_at2 hys hx
                      exact ⟨rfl, _, rfl, _, rfl, n, 1, rfl, rfl, hn, z, d, 0, ((n - 1 : Nat) : Int), rfl, same_dp s' hp, hA _ _ _ (by rw [hd]; rfl) (Same.refl _) (.bl _)⟩
                    · intro H' ys' s' hD' hA
                      rw [hlen3, gath_map] at hA
                      have e2 : ys' = (ds.map (isCountD 0 ((n - 1 : Nat) : Int))).map V.bl := dps_bools (by rw [List.map_map]; exact hA)
                      rw [e2] at hD'
                      refine ⟨D, _, rfl, SqL.of hD', ?_⟩
                      have e3 : ((ds.map (isCountD 0 ((n - 1 : Nat) : Int))).all id) = ((d1 :: ds).drop 1).all (isCountD 0 ((n - 1 : Nat) : Int)) := by
                        rw [List.all_map]
                        rfl
                      rw [e3]
                      exact q H' ((hn1.trans s2).trans s')
            · rw [decide_eq_false (by rw [List.length_cons, hl2]; exact hl)]
              rw [decide_eq_false hl, Bool.false_and] at q
              exact iteT (q H1 hn1)
        | int i => exact iteT (q H1 hn1)
        | bool b => exact iteT (q H1 hn1)
        | none => exact iteT (q H1 hn1)
        | list xs => exact iteT (q H1 hn1)
        | tuple xs => exact iteT (q H1 hn1)
        | dict xs => exact iteT (q H1 hn1)
  | int i => exact iteT q0
  | bool b => exact iteT q0
  | none => exact iteT q0
  | str x => exact iteT q0
  | list xs => exact iteT q0
  | dict xs => exact iteT q0
end
end Fr
namespace Fr
open PySem PySem.Spec PyProof.Rows L2
def isMachD : PyData → Bool
  | .list ds => (decide (1 ≤ ds.length) && decide (ds.length ≤ 4)) && ds.all (isLineD ds.length)
  | _ => false
def WordsD : PyData → Prop
  | .list ds => ∀ e ∈ ds, WordD e
  | _ => True
def isCtrD : PyData → Bool
  | .tuple ds => decide (ds.length = 3) && ds.all (isCountD 0 100)
  | _ => false
section
variable {P : Program} {w : World} {K : PySem.W.Frag} {mg : Str → Option Value} {base : Heap}
def spNeedM (K : PySem.W.Frag) : Sp := fun vs H Q E => ∃ (v : V) (d : PyData), vs = [v] ∧ Dp K H v d ∧ Shp 40 d ∧ WordsD d ∧ (isMachD d = true → ∀ H', Same H H' → Q .non H') ∧ (isMachD d = false → ∀ H', Same H H' → E (.ref (ga K "BadMachine")) none H')
theorem ok_need_machine (T : Txt K mg) (DS : KTab w K) : Cal P w K mg base (L2N.CX P w) 3 "need_machine" ["machine"] (spNeedM K) := by
  have c_is_line := ok_is_line (P := P) (w := w) (base := base) T DS
  refine Cal.mkX T.d_need_machine T.m_need_machine sc_need_machine (fun _ _ _ _ _ _ us hl => match us, hl with | [_], _ => rfl) (fun vs H Q E h => ?_) (fun cdv A outer s H vs Q E hr h => ?_)
  · obtain ⟨v, d, rfl, _⟩ := h
    rfl
  obtain ⟨v, d, rfl, hd, hS, hW, q1, q2⟩ := h
  refine ⟨_, (pss_cons (ps_if (PW.pt (pw_or (pt_not (pt_val (pe_callB (isList rfl) (by rfl) T.b_isinstance boot_isinstance (pa_cons (pv 0) (pa_cons (pe_bltn (v := .ty "list") (by rfl) T.b_list boot_list rfl) pa_nil))))) (pw_or1 (pt_not (pt_chain opN_le opN_le pe_int (pe_callB (lenS rfl) (by rfl) T.b_len PySem.boot_len (pa_cons (pv 0) pa_nil)) (pe_glob (v := .int 4) (by rfl) T.c_MOST_LINES.choose_spec ⟨_, rfl⟩)))))) (pss_one (L2N.ps_raise rfl (L2N.takes_of rfl rfl rfl rfl) (L2N.pmk_own PySem.F.excBase_ValueError T.x_BadMachine.1 T.m_BadMachine T.x_BadMachine.2.1 (raises_own T.x_BadMachine.2.2.1 T.x_BadMachine.2.2.2) (by rfl)))) pss_nil)
      (pss_one (ps_if (pt_not (pt_val (pe_callB (crAll rfl rfl) (by rfl) T.b_all boot_all (pa_cons (pe_lc (own := [("line", 1)]) rfl sc_need_machine.nd (piL rfl (pv 0)) (blkOk_by (own := [("line", 1)]) (N := ["machine", "line"]) (sc := defScope s_need_machine) (by decide +kernel)) (fun _ _ _ _ _ => (pg_name (i := 1) sc_need_machine.nd rfl (.inl rfl))) (fun _ _ _ _ _ => pts_nil) (fun _ _ _ _ _ => (pe_cal c_is_line (hr.mono (by decide)) (by rfl) pass0 (pa_cons (pv 1) (pa_cons (pe_callB (lenS rfl) (by rfl) T.b_len PySem.boot_len (pa_cons (pv 0) pa_nil)) pa_nil))))) pa_nil)))) (pss_one (L2N.ps_raise rfl (L2N.takes_of rfl rfl rfl rfl) (L2N.pmk_own PySem.F.excBase_ValueError T.x_BadMachine.1 T.m_BadMachine T.x_BadMachine.2.1 (raises_own T.x_BadMachine.2.2.1 T.x_BadMachine.2.2.2) (by rfl)))) pss_nil))), ?_⟩
  refine ⟨_, rfl, _, _, rfl, hd, _, rfl, ?_⟩
  cases d with
  | list ds =>
    obtain ⟨a, xs, rfl, hs, ha⟩ := dp_lst hd
    have hlen := dps_len ha
    refine iteF ⟨_, rfl, a, xs, rfl, .inl hs, 1, xs.length, rfl, rfl, ?_⟩
    have hT : isMachD (.list ds) = ((decide (1 ≤ ds.length) && decide (ds.length ≤ 4)) && ds.all (isLineD ds.length)) := rfl
    refine ⟨_, rfl, ite2 (fun h1 => ?_) (fun h1 => ?_)⟩
    · have h1 := of_decide_eq_true h1
      refine ⟨_, 4, rfl, rfl, _, rfl, ?_⟩
      by_cases h4 : xs.length ≤ 4
      · rw [decide_eq_true h4]
        rw [decide_eq_true (show 1 ≤ ds.length by omega), decide_eq_true (show ds.length ≤ 4 by omega), Bool.and_self, Bool.true_and] at hT
        refine iteF ⟨_, rfl, a, rfl, ⟨_, hs⟩, fun D hD => ?_⟩
        refine lc_dp (K := K) walk_list hD (by omega) (fun H' s' => s'.seq hs) (fun i => ds[i]?.map fun d => PyData.bool (isLineD ds.length d)) ?_ ?_ ?_
        · intro i d e
          obtain ⟨a, _, rfl⟩ := Option.map_eq_some_iff.mp e
          rfl
        · rintro i x H' H'' A B hi s' ⟨rfl, hx⟩ hA hB
          obtain ⟨d, hd, hp⟩ := dps_at2 ha hx
          have hm : d ∈ ds := List.mem_of_getElem? hd
          exact ⟨rfl, _, rfl, _, rfl, a, xs, rfl, .inl (s'.seq hs), x, d, xs.length, rfl, by omega, same_dp s' hp, Shp.subL hS hm, hW d hm, fun H4 s4 => hA _ _ _ (by rw [hd, hlen]; rfl) s4 (.bl _)⟩
        · intro H' ys s' hD' hA
          rw [hlen, gath_map] at hA
          have e2 : ys = (ds.map (isLineD ds.length)).map V.bl := dps_bools (by rw [List.map_map]; exact hA)
          rw [e2] at hD'
          refine ⟨D, _, rfl, SqL.of hD', _, rfl, ?_⟩
          have e3 : ((ds.map (isLineD ds.length)).all id) = ds.all (isLineD ds.length) := by
            rw [List.all_map]
            rfl
          rw [e3]
          cases hA : ds.all (isLineD ds.length) with
          | true => exact iteF (q1 (hT.trans hA) H' s')
          | false => exact iteT (q2 (hT.trans hA) H' s')
      · rw [decide_eq_false h4]
        exact iteT (q2 (by rw [hT, decide_eq_false (show ¬ ds.length ≤ 4 by omega), Bool.and_false, Bool.false_and]) H (Same.refl H))
    · have h1 : ¬ 1 ≤ xs.length := fun z => h1 (decide_eq_true z)
      refine ⟨_, rfl, iteT (q2 (by rw [hT, decide_eq_false (show ¬ 1 ≤ ds.length by omega), Bool.false_and, Bool.false_and]) H (Same.refl H))⟩
  | int i => exact iteT (q2 rfl H (Same.refl H))
  | bool b => exact iteT (q2 rfl H (Same.refl H))
  | none => exact iteT (q2 rfl H (Same.refl H))
  | str x => exact iteT (q2 rfl H (Same.refl H))
  | tuple xs => exact iteT (q2 rfl H (Same.refl H))
  | dict xs => exact iteT (q2 rfl H (Same.refl H))
end
end Fr
namespace Fr
open PySem PySem.Spec PyProof.Rows L2
section
variable {P : Program} {w : World} {K : PySem.W.Frag} {mg : Str → Option Value} {base : Heap}
def spNeedK (K : PySem.W.Frag) : Sp := fun vs H Q E => ∃ (v : V) (d : PyData), vs = [v] ∧ Dp K H v d ∧ (isCtrD d = true → ∀ H', Same H H' → Q .non H') ∧ (isCtrD d = false → ∀ H', Same H H' → E (.ref (ga K "BadMachine")) none H')
theorem ok_need_counters (T : Txt K mg) : Cal P w K mg base (L2N.CX P w) 3 "need_counters" ["counters"] (spNeedK K) := by
  have c_is_count := ok_is_count (P := P) (w := w) (base := base) T
  refine Cal.mkX T.d_need_counters T.m_need_counters sc_need_counters (fun _ _ _ _ _ _ us hl => match us, hl with | [_], _ => rfl) (fun vs H Q E h => ?_) (fun cdv A outer s H vs Q E hr h => ?_)
  · obtain ⟨v, d, rfl, _⟩ := h
    rfl
  obtain ⟨v, d, rfl, hd, q1, q2⟩ := h
  refine ⟨_, (pss_cons (ps_set (i := 1) sc_need_counters.nd rfl (.inl rfl) (pe_and (pe_callB (isTuple rfl) (by rfl) T.b_isinstance boot_isinstance (pa_cons (pv 0) (pa_cons (pe_bltn (v := .ty "tuple") (by rfl) T.b_tuple boot_tuple rfl) pa_nil))) (pe_one (pe_cmpR opN_eq (pe_callB (lenS rfl) (by rfl) T.b_len PySem.boot_len (pa_cons (pv 0) pa_nil)) (pe_glob (v := .int 3) (by rfl) T.c_COUNTERS.choose_spec ⟨_, rfl⟩) (nomark _)))))
      (pss_one (ps_if (PW.pt (pw_or (pt_not (pt_val (pv 1))) (pw_or1 (pt_not (pt_val (pe_callB (crAll rfl rfl) (by rfl) T.b_all boot_all (pa_cons (pe_lc (own := [("one", 2)]) rfl sc_need_counters.nd (piT rfl (pv 0)) (blkOk_by (own := [("one", 2)]) (N := ["counters", "good", "one"]) (sc := defScope s_need_counters) (by decide +kernel)) (fun _ _ _ _ _ => (pg_name (i := 2) sc_need_counters.nd rfl (.inl rfl))) (fun _ _ _ _ _ => pts_nil) (fun _ _ _ _ _ => (pe_cal c_is_count (hr.mono (by decide)) (by rfl) pass0 (pa_cons (pv 2) (pa_cons pe_int (pa_cons (pe_glob (v := .int 100) (by rfl) T.c_MOST_COUNTER.choose_spec ⟨_, rfl⟩) pa_nil)))))) pa_nil))))))) (pss_one (L2N.ps_raise rfl (L2N.takes_of rfl rfl rfl rfl) (L2N.pmk_own PySem.F.excBase_ValueError T.x_BadMachine.1 T.m_BadMachine T.x_BadMachine.2.1 (raises_own T.x_BadMachine.2.2.1 T.x_BadMachine.2.2.2) (by rfl)))) pss_nil))), ?_⟩
  refine ⟨_, rfl, _, _, rfl, hd, _, rfl, ?_⟩
  cases d with
  | tuple ds =>
    obtain ⟨a, xs, rfl, hs, ha⟩ := dp_tup hd
    have hlen := dps_len ha
    have hT : isCtrD (.tuple ds) = (decide (ds.length = 3) && ds.all (isCountD 0 100)) := rfl
    refine iteT ⟨_, rfl, a, xs, rfl, .inr hs, _, 3, rfl, rfl, _, rfl, _, rfl, ?_⟩
    by_cases h3 : xs.length = 3
    · rw [decide_eq_true h3]
      rw [decide_eq_true (show ds.length = 3 by omega), Bool.true_and] at hT
      refine iteF ⟨_, rfl, a, rfl, ⟨_, hs⟩, fun D hD => ?_⟩
      refine lc_dp (K := K) walk_tup hD (by omega) (fun H' s' => same_tup s' hs) (fun i => ds[i]?.map fun d => PyData.bool (isCountD 0 100 d)) ?_ ?_ ?_
      · intro i d e
        obtain ⟨a, _, rfl⟩ := Option.map_eq_some_iff.mp e
        rfl
      · rintro i x H' H'' A B hi s' ⟨rfl, hx⟩ hA hB
        obtain ⟨d, hd, hp⟩ := dps_at2 ha hx
        exact ⟨rfl, _, rfl, x, d, 0, 100, rfl, same_dp s' hp, hA _ _ _ (by rw [hd]; rfl) (Same.refl _) (.bl _)⟩
      · intro H' ys s' hD' hA
        rw [hlen, gath_map] at hA
        have e2 : ys = (ds.map (isCountD 0 100)).map V.bl := dps_bools (by rw [List.map_map]; exact hA)
        rw [e2] at hD'
        refine ⟨D, _, rfl, SqL.of hD', _, rfl, ?_⟩
        have e3 : ((ds.map (isCountD 0 100)).all id) = ds.all (isCountD 0 100) := by
          rw [List.all_map]
          rfl
        rw [e3]
        cases hA : ds.all (isCountD 0 100) with
        | true => exact iteF (q1 (hT.trans hA) H' s')
        | false => exact iteT (q2 (hT.trans hA) H' s')
    · rw [decide_eq_false h3]
      exact iteT (q2 (by rw [hT, decide_eq_false (show ¬ ds.length = 3 by omega), Bool.false_and]) H (Same.refl H))
  | int i => exact iteF ⟨_, rfl, _, rfl, iteT (q2 rfl H (Same.refl H))⟩
  | bool b => exact iteF ⟨_, rfl, _, rfl, iteT (q2 rfl H (Same.refl H))⟩
  | none => exact iteF ⟨_, rfl, _, rfl, iteT (q2 rfl H (Same.refl H))⟩
  | str x => exact iteF ⟨_, rfl, _, rfl, iteT (q2 rfl H (Same.refl H))⟩
  | list xs => exact iteF ⟨_, rfl, _, rfl, iteT (q2 rfl H (Same.refl H))⟩
  | dict xs => exact iteF ⟨_, rfl, _, rfl, iteT (q2 rfl H (Same.refl H))⟩
/-! ### changed -/
def ctD (cs : List Nat) : PyData := .tuple (cs.map nD)
def spChanged (K : PySem.W.Frag) : Sp := fun vs H Q _ => ∃ (v : V) (cs : List Nat) (c : Nat) (b : Int) (k : Nat), vs = [v, nI c, .int b] ∧ Dp K H v (ctD cs) ∧ c < cs.length ∧ cs.length = 3 ∧ (cs.getD c 0 : Int) + b = (k : Int) ∧ cs.getD c 0 < 2 ^ 40 ∧ -1 ≤ b ∧ b ≤ 1 ∧ ∀ x H', Same H H' → Dp K H' x (ctD (cs.set c k)) → Q x H'
theorem ok_changed (T : Txt K mg) : Cal P w K mg base L2.CX0 1 "changed" ["counters", "place", "by"] (spChanged K) := by
  refine Cal.mk0 T.d_changed T.m_changed sc_changed (fun _ _ _ _ _ _ us hl => match us, hl with | [_, _, _], _ => rfl) (fun vs H Q E h => ?_) (fun cdv A outer s H vs Q E hr h => ?_)
  · obtain ⟨v, cs, c, b, k, rfl, _⟩ := h
    rfl
  obtain ⟨v, cs, c, b, k, rfl, hd, hc, h3, hk, hb, hb1, hb2, q⟩ := h
  refine ⟨_, (pss_one (ps_ret (pe_op (catD rfl) (pe_op (catD rfl) (pe_slice (slD rfl) (pv 0) po_none (po_some (pv 1))) (pe_tup (pa_cons (pe_op op_add (pe_ix (ixT rfl) (pv 0) (pv 1) (fun _ _ => rfl)) (pv 2)) pa_nil))) (pe_slice (slD rfl) (pv 0) (po_some (pe_op opN_add (pv 1) pe_int)) po_none)))), ?_⟩
  refine ⟨_, rfl, _, rfl, _, rfl, _, hd, fun v1 H1 s1 h1 => ?_⟩
  have h1 : Dp K H1 v1 (.tuple ((cs.map nD).take c)) := by rw [← cutD_to]; exact h1
  have hd1 := same_dp s1 hd
  obtain ⟨a, xs, rfl, hs, ha⟩ := dp_tup hd1
  have exs : xs = cs.map nI := dps_nats ha
  subst exs
  have hget : (cs.map nI)[c]? = some (nI (cs.getD c 0)) := by
    rw [List.getElem?_map, List.getElem?_eq_getElem hc]
    simp [List.getD_eq_getElem?_getD, List.getElem?_eq_getElem hc]
  refine ⟨_, rfl, _, rfl, a, _, (c : Int), nI (cs.getD c 0), rfl, rfl, hs, atIn hget, _, rfl, _, b, rfl, rfl, ?_⟩
  refine ⟨(by show 1 ≤ sizeLine; decide), fun p np => ?_⟩
  have s2 : Same H1 (upd H1 p (.tup [.int ((cs.getD c 0 : Nat) + b)])) := same_new np
  have hp2 : Dp K (upd H1 p (.tup [.int ((cs.getD c 0 : Nat) + b)])) (.ref p) (.tuple [nD k]) := by
    refine .tup (SqT.of upd_same) (.cons ?_ .nil)
    rw [hk]
    exact .int _
  generalize upd H1 p (.tup [.int ((cs.getD c 0 : Nat) + b)]) = H2 at *
  refine ⟨_, _, same_dp s2 h1, hp2, by simp; omega, fun v3 H3 s3 h3' => ?_⟩
  refine ⟨_, rfl, _, rfl, c, 1, rfl, rfl, _, rfl, _, same_dp (s2.trans s3) hd1, fun v4 H4 s4 h4 => ?_⟩
  have h4 : Dp K H4 v4 (.tuple ((cs.map nD).drop (c + 1))) := by rw [← cutD_from]; exact h4
  refine ⟨_, _, same_dp s4 h3', h4, by simp; omega, fun v5 H5 s5 h5 => ?_⟩
  refine q v5 H5 ((((s1.trans s2).trans s3).trans s4).trans s5) ?_
  have e : (cs.set c k).map nD = (cs.map nD).take c ++ [nD k] ++ (cs.map nD).drop (c + 1) := by
    rw [List.map_set, List.set_eq_take_append_cons_drop, if_pos (by rw [List.length_map]; exact hc)]
    simp
  unfold ctD
  rw [e]
  exact h5
end
end Fr
namespace Fr
open PySem PySem.Spec PyProof.Rows L2
abbrev St2 := Nat × List Nat
def stD (s : St2) : PyData := .tuple [nD s.1, ctD s.2]
def wentM (m : Mach) (s : St2) : Option St2 := match m[s.1]? with
  | some (.add c g) => some (g, s.2.set c (s.2.getD c 0 + 1))
  | some (.take c g h) => if 0 < s.2.getD c 0 then some (g, s.2.set c (s.2.getD c 0 - 1)) else some (h, s.2)
  | _ => none
def stO : Option St2 → PyData
  | none => .none
  | some s => stD s
/-- a state of a machine; no counter beyond b -/
def OkSt (m : Mach) (b : Nat) (s : St2) : Prop := s.1 < m.length ∧ s.2.length = 3 ∧ ∀ x ∈ s.2, x ≤ b
theorem mach_ok {m : Mach} (h : isMach m = true) {l : Ln} (hl : l ∈ m) : l.ok m.length = true := by
  unfold isMach at h
  rw [Bool.and_eq_true] at h
  exact List.all_eq_true.mp h.2 l hl
theorem mach_len {m : Mach} (h : isMach m = true) : 1 ≤ m.length ∧ m.length ≤ 4 := by
  unfold isMach at h
  rw [Bool.and_eq_true, Bool.and_eq_true] at h
  exact ⟨of_decide_eq_true h.1.1, of_decide_eq_true h.1.2⟩
theorem ok_add {n c g : Nat} (h : (Ln.add c g).ok n = true) : c < 3 ∧ g < n := by
  simpa [Ln.ok] using h
theorem ok_take {n c g h : Nat} (hk : (Ln.take c g h).ok n = true) : c < 3 ∧ g < n ∧ h < n := by
  simpa [Ln.ok] using hk
theorem getD_mem {cs : List Nat} {c : Nat} (h : c < cs.length) : cs.getD c 0 ∈ cs := by
  rw [List.getD_eq_getElem?_getD, List.getElem?_eq_getElem h]
  exact List.getElem_mem h
theorem set_le {cs : List Nat} {c k b : Nat} (h : ∀ x ∈ cs, x ≤ b) (hk : k ≤ b) : ∀ x ∈ cs.set c k, x ≤ b := fun x hx => by
  rcases List.mem_or_eq_of_mem_set hx with h1 | h1
  · exact h x h1
  · omega
theorem went_ok {m : Mach} {b : Nat} {s t : St2} (hm : isMach m = true) (hs : OkSt m b s) (h : wentM m s = some t) : OkSt m (b + 1) t := by
  obtain ⟨h1, h2, h3⟩ := hs
  have hle : ∀ x ∈ s.2, x ≤ b + 1 := fun x hx => Nat.le_succ_of_le (h3 x hx)
  unfold wentM at h
  rw [List.getElem?_eq_getElem h1] at h
  have ho := mach_ok hm (List.getElem_mem h1)
  cases hl : m[s.1] with
  | add c g =>
    rw [hl] at h ho
    have ho := ok_add ho
    cases h
    exact ⟨ho.2, by rw [List.length_set]; exact h2, set_le hle (Nat.succ_le_succ (h3 _ (getD_mem (by omega))))⟩
  | take c g k =>
    rw [hl] at h ho
    have ho := ok_take ho
    dsimp only at h
    split at h
    · cases h
      have := h3 _ (getD_mem (cs := s.2) (c := c) (by omega))
      exact ⟨ho.2.1, by rw [List.length_set]; exact h2, set_le hle (by omega)⟩
    · cases h
      exact ⟨ho.2.2, h2, hle⟩
  | fin =>
    rw [hl] at h
    cases h
theorem dp_add {K : PySem.W.Frag} {H : Hp} {v : V} {c g : Nat} (h : Dp K H v (lnD (.add c g))) : ∃ b, v = .ref b ∧ SqT K H b [.str "add", nI c, nI g] := by
  obtain ⟨b, ys, rfl, hb, hys⟩ := dp_tup h
  cases hys with
  | cons h1 t => cases h1; cases t with
    | cons h2 t => cases h2; cases t with
      | cons h3 t => cases h3; cases t; exact ⟨b, rfl, hb⟩
theorem dp_take {K : PySem.W.Frag} {H : Hp} {v : V} {c g k : Nat} (h : Dp K H v (lnD (.take c g k))) : ∃ b, v = .ref b ∧ SqT K H b [.str "take", nI c, nI g, nI k] := by
  obtain ⟨b, ys, rfl, hb, hys⟩ := dp_tup h
  cases hys with
  | cons h1 t => cases h1; cases t with
    | cons h2 t => cases h2; cases t with
      | cons h3 t => cases h3; cases t with
        | cons h4 t => cases h4; cases t; exact ⟨b, rfl, hb⟩
theorem dp_fin {K : PySem.W.Frag} {H : Hp} {v : V} (h : Dp K H v (lnD .fin)) : ∃ b, v = .ref b ∧ SqT K H b [.str "end"] := by
  obtain ⟨b, ys, rfl, hb, hys⟩ := dp_tup h
  cases hys with
  | cons h1 t => cases h1; cases t; exact ⟨b, rfl, hb⟩
theorem dp_ct {K : PySem.W.Frag} {H : Hp} {v : V} {cs : List Nat} (h : Dp K H v (ctD cs)) : ∃ b, v = .ref b ∧ SqT K H b (cs.map nI) := by
  obtain ⟨b, ys, rfl, hb, hys⟩ := dp_tup h
  rw [dps_nats hys] at hb
  exact ⟨b, rfl, hb⟩
theorem atI2 {x y z : V} {xs : List V} : atI (x :: y :: z :: xs) 2 = some z := atI_nat (j := 2) rfl
theorem atI3 {x y z u : V} {xs : List V} : atI (x :: y :: z :: u :: xs) 3 = some u := atI_nat (j := 3) rfl
theorem getD_nI {cs : List Nat} {c : Nat} (hc : c < cs.length) : (cs.map nI)[c]? = some (nI (cs.getD c 0)) := by
  rw [List.getElem?_map, List.getElem?_eq_getElem hc]
  simp [List.getD_eq_getElem?_getD, List.getElem?_eq_getElem hc]
section
variable {P : Program} {w : World} {K : PySem.W.Frag} {mg : Str → Option Value} {base : Heap}
def spWent (K : PySem.W.Frag) : Sp := fun vs H Q _ => ∃ (v u : V) (m : Mach) (s : St2), vs = [v, u] ∧ Dp K H v (machD m) ∧ isMach m = true ∧ Dp K H u (stD s) ∧ OkSt m 2000 s ∧ ∀ x H', Same H H' → Dp K H' x (stO (wentM m s)) → Q x H'
theorem ok_went (T : Txt K mg) : Cal P w K mg base L2.CX0 2 "went" ["machine", "state"] (spWent K) := by
  have c_changed := ok_changed (P := P) (w := w) (base := base) T
  refine Cal.mk0 T.d_went T.m_went sc_went (fun _ _ _ _ _ _ us hl => match us, hl with | [_, _], _ => rfl) (fun vs H Q E h => ?_) (fun cdv A outer s H vs Q E hr h => ?_)
  · obtain ⟨v, u, m, s, rfl, _⟩ := h
    rfl
  obtain ⟨v, u, m, ⟨i, cs⟩, rfl, hd, hm, hu, ⟨hi, hl, hb⟩, q⟩ := h
  have hi : i < m.length := hi
  have hl : cs.length = 3 := hl
  have hb : ∀ x ∈ cs, x ≤ 2000 := hb
  refine ⟨_, (pss_cons (ps_asg (pv 1) (pgT (n := 2) rfl rfl (pgs_cons (pg_name (i := 2) sc_went.nd rfl (.inl rfl)) (pgs_cons (pg_name (i := 3) sc_went.nd rfl (.inl rfl)) pgs_nil))))
      (pss_cons (ps_set (i := 4) sc_went.nd rfl (.inl rfl) (pe_ix (ixL rfl) (pv 0) (pv 2) (fun _ _ => rfl)))
      (pss_cons (ps_if (pt_cmpR op_eq (pe_ix (ixT rfl) (pv 4) pe_int (fun _ _ => rfl)) pe_str (nomark _)) (pss_one (ps_ret (pe_tup (pa_cons (pe_ix (ixT rfl) (pv 4) pe_int (fun _ _ => rfl)) (pa_cons (pe_cal c_changed (hr.mono (by decide)) (by rfl) pass0 (pa_cons (pv 3) (pa_cons (pe_ix (ixT rfl) (pv 4) pe_int (fun _ _ => rfl)) (pa_cons pe_int pa_nil)))) pa_nil))))) pss_nil)
      (pss_cons (ps_if (PW.pt (pw_and (pt_cmpR op_eq (pe_ix (ixT rfl) (pv 4) pe_int (fun _ _ => rfl)) pe_str (nomark _)) (pw_and1 (pt_cmpR opN_gt (pe_ix (ixT rfl) (pv 3) (pe_ix (ixT rfl) (pv 4) pe_int (fun _ _ => rfl)) (fun _ _ => rfl)) pe_int (nomark _))))) (pss_one (ps_ret (pe_tup (pa_cons (pe_ix (ixT rfl) (pv 4) pe_int (fun _ _ => rfl)) (pa_cons (pe_cal c_changed (hr.mono (by decide)) (by rfl) pass0 (pa_cons (pv 3) (pa_cons (pe_ix (ixT rfl) (pv 4) pe_int (fun _ _ => rfl)) (pa_cons (pe_un un_neg pe_int) pa_nil)))) pa_nil))))) pss_nil)
      (pss_one (ps_ret (pe_ifExp (pt_cmpR op_eq (pe_ix (ixT rfl) (pv 4) pe_int (fun _ _ => rfl)) pe_str (nomark _)) (pe_tup (pa_cons (pe_ix (ixT rfl) (pv 4) pe_int (fun _ _ => rfl)) (pa_cons (pv 3) pa_nil))) pe_non))))))), ?_⟩
  obtain ⟨a, x, y, rfl, ha, hx, hy⟩ := dp_two hu
  cases hx
  obtain ⟨p, xs, rfl, hp, hxs⟩ := dp_lst hd
  have hlen := dps_len hxs
  have hmi : m[i]? = some m[i] := List.getElem?_eq_getElem hi
  obtain ⟨lv, hlv⟩ : ∃ lv, xs[i]? = some lv := ⟨_, List.getElem?_eq_getElem (by rw [hlen, List.length_map]; exact hi)⟩
  have hlD : Dp K H lv (lnD m[i]) := by
    obtain ⟨d, hd', hdp⟩ := dps_at2 hxs hlv
    rw [List.getElem?_map, hmi] at hd'
    cases hd'
    exact hdp
  have ho := mach_ok hm (List.getElem_mem hi)
  refine ⟨_, rfl, a, _, rfl, ha, rfl, _, _, rfl, _, _, rfl, rfl, ?_⟩
  refine ⟨_, rfl, _, rfl, p, xs, (i : Int), lv, rfl, rfl, hp, atIn hlv, _, rfl, ?_⟩
  have hw : wentM m (i, cs) = match m[i] with
    | .add c g => some (g, cs.set c (cs.getD c 0 + 1))
    | .take c g h => if 0 < cs.getD c 0 then some (g, cs.set c (cs.getD c 0 - 1)) else some (h, cs)
    | .fin => none := by
    unfold wentM
    show (match m[i]? with | some (.add c g) => _ | some (.take c g h) => _ | _ => _) = _
    rw [hmi]
    cases m[i] <;> rfl
  rw [hw] at q
  cases hl' : m[i] with
  | add c g =>
    rw [hl'] at hlD ho q
    obtain ⟨b, rfl, hb'⟩ := dp_add hlD
    have ho := ok_add ho
    have hv := hb _ (getD_mem (cs := cs) (c := c) (by omega))
    refine ⟨b, _, 0, _, rfl, rfl, hb', atI0, rfl, _, rfl, iteT ?_⟩
    refine ⟨_, rfl, b, _, 2, _, rfl, rfl, hb', atI2, _, rfl, _, rfl, b, _, 1, _, rfl, rfl, hb', atI1, ?_⟩
    refine ⟨y, cs, c, 1, cs.getD c 0 + 1, rfl, hy, by omega, hl, by omega, by omega, by omega, by omega, fun x H1 s1 hx => ⟨(by show 2 ≤ sizeLine; decide), fun p1 np => ?_⟩⟩
    exact q _ _ (s1.trans (same_new np)) (.tup (SqT.of upd_same) (.cons (.int _) (.cons (same_dp (same_new np) hx) .nil)))
  | take c g k =>
    rw [hl'] at hlD ho q
    obtain ⟨b, rfl, hb'⟩ := dp_take hlD
    have ho := ok_take ho
    have hv := hb _ (getD_mem (cs := cs) (c := c) (by omega))
    obtain ⟨yb, rfl, hyb⟩ := dp_ct hy
    refine ⟨b, _, 0, _, rfl, rfl, hb', atI0, rfl, _, rfl, iteF ?_⟩
    refine ⟨_, rfl, b, _, 0, _, rfl, rfl, hb', atI0, rfl, _, rfl, iteT ?_⟩
    refine ⟨_, rfl, _, rfl, b, _, 1, _, rfl, rfl, hb', atI1, yb, _, (c : Int), _, rfl, rfl, hyb, atIn (getD_nI (by omega)), _, 0, rfl, rfl, _, rfl, ?_⟩
    by_cases h0 : 0 < cs.getD c 0
    · rw [decide_eq_true h0]
      dsimp only at q
      rw [if_pos h0] at q
      refine iteT ?_
      refine ⟨_, rfl, b, _, 2, _, rfl, rfl, hb', atI2, _, rfl, _, rfl, b, _, 1, _, rfl, rfl, hb', atI1, ?_⟩
      refine ⟨_, rfl, _, cs, c, -1, cs.getD c 0 - 1, rfl, hy, by omega, hl, by omega, by omega, by omega, by omega, fun x H1 s1 hx => ⟨(by show 2 ≤ sizeLine; decide), fun p1 np => ?_⟩⟩
      exact q _ _ (s1.trans (same_new np)) (.tup (SqT.of upd_same) (.cons (.int _) (.cons (same_dp (same_new np) hx) .nil)))
    · rw [decide_eq_false h0]
      dsimp only at q
      rw [if_neg h0] at q
      refine iteF ?_
      refine ⟨_, rfl, b, _, 0, _, rfl, rfl, hb', atI0, rfl, _, rfl, iteT ?_⟩
      refine ⟨_, rfl, b, _, 3, _, rfl, rfl, hb', atI3, _, rfl, (by show 2 ≤ sizeLine; decide), fun p1 np => ?_⟩
      exact q _ _ (same_new np) (.tup (SqT.of upd_same) (.cons (.int _) (.cons (same_dp (same_new np) hy) .nil)))
  | fin =>
    rw [hl'] at hlD q
    obtain ⟨b, rfl, hb'⟩ := dp_fin hlD
    refine ⟨b, _, 0, _, rfl, rfl, hb', atI0, rfl, _, rfl, iteF ?_⟩
    refine ⟨_, rfl, b, _, 0, _, rfl, rfl, hb', atI0, rfl, _, rfl, iteF ?_⟩
    refine iteF ?_
    refine ⟨_, rfl, b, _, 0, _, rfl, rfl, hb', atI0, rfl, _, rfl, iteF ?_⟩
    exact q _ _ (Same.refl H) .non
end
end Fr
namespace Fr
open PySem PySem.Spec PyProof.Rows L2
def mrunF (m : Mach) : Nat → St2 → List St2
  | 0, s => [s]
  | k + 1, s => match wentM m s with
    | none => [s]
    | some t => s :: mrunF m k t
theorem line_is {n : Nat} {e : PyData} (hn : 1 ≤ n) (h : isLineD n e = true) : ∃ l : Ln, e = lnD l ∧ l.ok n = true := by
  cases e with
  | tuple ds =>
    cases ds with
    | nil => cases h
    | cons d0 ds =>
      cases d0 with
      | str x =>
        have hT : isLineD n (.tuple (.str x :: ds)) = match sizeW x with
          | none => false
          | some k => decide (ds.length + 1 = k) && (decide (x = "end") || (isCountD 0 2 (ds.getD 0 .none) && (ds.drop 1).all (isCountD 0 ((n - 1 : Nat) : Int)))) := rfl
        rw [hT] at h
        by_cases h1 : x = "add"
        · subst h1
          have h : (decide (ds.length + 1 = 3) && (decide (("add" : Str) = "end") || (isCountD 0 2 (ds.getD 0 .none) && (ds.drop 1).all (isCountD 0 ((n - 1 : Nat) : Int))))) = true := h
          rw [Bool.and_eq_true, show decide (("add" : Str) = "end") = false by decide, Bool.false_or, Bool.and_eq_true] at h
          obtain ⟨h1, h2, h3⟩ := h
          have h1 := of_decide_eq_true h1
          match ds, h1, h2, h3 with
          | [a, b], _, h2, h3 =>
            obtain ⟨c, hc, hc2⟩ := isCount_is (hi := 2) h2
            have hc : a = nD c := hc
            have h4 := List.all_eq_true.mp h3 b (by simp)
            obtain ⟨g, rfl, hg⟩ := isCount_is h4
            subst hc
            exact ⟨.add c g, rfl, by simp [Ln.ok]; omega⟩
        · by_cases h2 : x = "take"
          · subst h2
            have h : (decide (ds.length + 1 = 4) && (decide (("take" : Str) = "end") || (isCountD 0 2 (ds.getD 0 .none) && (ds.drop 1).all (isCountD 0 ((n - 1 : Nat) : Int))))) = true := h
            rw [Bool.and_eq_true, show decide (("take" : Str) = "end") = false by decide, Bool.false_or, Bool.and_eq_true] at h
            obtain ⟨h1, h2, h3⟩ := h
            have h1 := of_decide_eq_true h1
            match ds, h1, h2, h3 with
            | [a, b, b2], _, h2, h3 =>
              obtain ⟨c, hc, hc2⟩ := isCount_is (hi := 2) h2
              have hc : a = nD c := hc
              have h4 := List.all_eq_true.mp h3 b (by simp)
              have h5 := List.all_eq_true.mp h3 b2 (by simp)
              obtain ⟨g, rfl, hg⟩ := isCount_is h4
              obtain ⟨k, rfl, hk⟩ := isCount_is h5
              subst hc
              exact ⟨.take c g k, rfl, by simp [Ln.ok]; omega⟩
          · by_cases h3 : x = "end"
            · subst h3
              have h : (decide (ds.length + 1 = 1) && (decide (("end" : Str) = "end") || (isCountD 0 2 (ds.getD 0 .none) && (ds.drop 1).all (isCountD 0 ((n - 1 : Nat) : Int))))) = true := h
              rw [Bool.and_eq_true] at h
              have h1 := of_decide_eq_true h.1
              have h2 : ds = [] := List.length_eq_zero_iff.mp (by omega)
              subst h2
              exact ⟨.fin, rfl, rfl⟩
            · have e : sizeW x = none := by
                unfold sizeW
                rw [if_neg h1, if_neg h2, if_neg h3]
              rw [e] at h
              cases h
      | _ => cases h
  | _ => cases h
theorem lines_is {n : Nat} (hn : 1 ≤ n) : ∀ {ds : List PyData}, (∀ e ∈ ds, isLineD n e = true) → ∃ m : Mach, ds = m.map lnD ∧ m.all (·.ok n) = true
  | [], _ => ⟨[], rfl, rfl⟩
  | d :: ds, h => by
    obtain ⟨l, rfl, hl⟩ := line_is hn (h d List.mem_cons_self)
    obtain ⟨m, rfl, hm⟩ := lines_is hn fun e he => h e (List.mem_cons_of_mem _ he)
    exact ⟨l :: m, rfl, by rw [List.all_cons, hl, hm]; rfl⟩
theorem isMachD_is {d : PyData} (h : isMachD d = true) : ∃ m : Mach, d = machD m ∧ isMach m = true := by
  cases d with
  | list ds =>
    have h : ((decide (1 ≤ ds.length) && decide (ds.length ≤ 4)) && ds.all (isLineD ds.length)) = true := h
    obtain ⟨h1, h2⟩ := Bool.and_eq_true_iff.mp h
    obtain ⟨m, hm, ho⟩ := lines_is (n := ds.length) (of_decide_eq_true (Bool.and_eq_true_iff.mp h1).1) (List.all_eq_true.mp h2)
    have hl : ds.length = m.length := by rw [hm, List.length_map]
    refine ⟨m, by rw [hm]; rfl, ?_⟩
    unfold isMach
    rw [hl] at h1 ho
    rw [h1, ho]
    rfl
  | _ => cases h
theorem ctrs_is : ∀ {ds : List PyData}, (∀ e ∈ ds, isCountD 0 100 e = true) → ∃ cs : List Nat, ds = cs.map nD ∧ ∀ x ∈ cs, x ≤ 100
  | [], _ => ⟨[], rfl, fun _ h => nomatch h⟩
  | d :: ds, h => by
    obtain ⟨c, rfl, hc⟩ := isCount_is (hi := 100) (h d List.mem_cons_self)
    obtain ⟨cs, rfl, hcs⟩ := ctrs_is fun e he => h e (List.mem_cons_of_mem _ he)
    exact ⟨c :: cs, rfl, fun x hx => by
      rcases List.mem_cons.mp hx with rfl | hx
      · exact hc
      · exact hcs x hx⟩
theorem isCtrD_is {d : PyData} (h : isCtrD d = true) : ∃ cs : List Nat, d = ctD cs ∧ cs.length = 3 ∧ ∀ x ∈ cs, x ≤ 100 := by
  cases d with
  | tuple ds =>
    have h : (decide (ds.length = 3) && ds.all (isCountD 0 100)) = true := h
    obtain ⟨h1, h2⟩ := Bool.and_eq_true_iff.mp h
    obtain ⟨cs, hcs, hb⟩ := ctrs_is (List.all_eq_true.mp h2)
    have h1 := of_decide_eq_true h1
    exact ⟨cs, by rw [hcs]; rfl, by rw [hcs, List.length_map] at h1; exact h1, hb⟩
  | _ => cases h
theorem noL_st (s : St2) : noL (stD s) = true := by
  show noLs [nD s.1, .tuple (s.2.map nD)] = true
  simp [noLs, noL, noLs_nats]
theorem noL_sts (l : List St2) : noLs (l.map stD) = true := noLs_of fun d hd => by
  obtain ⟨c, _, rfl⟩ := List.mem_map.mp hd
  exact noL_st c
section
variable {P : Program} {w : World} {K : PySem.W.Frag} {mg : Str → Option Value} {base : Heap}
def spMRun (K : PySem.W.Frag) : Sp := fun vs H Q E => ∃ (v u c : V) (d e g : PyData), vs = [v, u, c] ∧ Dp K H v d ∧ Dp K H u e ∧ Dp K H c g ∧ Shp 40 d ∧ WordsD d ∧
  (isMachD d = false → ∀ H', Same H H' → E (.ref (ga K "BadMachine")) none H') ∧ (isMachD d = true → isCtrD e = false → ∀ H', Same H H' → E (.ref (ga K "BadMachine")) none H') ∧
  (isMachD d = true → isCtrD e = true → isCountD 0 500 g = false → ∀ H', Same H H' → E (.ref (ga K "BadNumber")) none H') ∧
  (∀ (m : Mach) (cs : List Nat) (k : Nat), d = machD m → e = ctD cs → g = nD k → isMach m = true → cs.length = 3 → (∀ x ∈ cs, x ≤ 100) → k ≤ 500 →
    ∀ x H', Same H H' → Dp K H' x (.list ((mrunF m k (0, cs)).map stD)) → Q x H')
theorem ok_machine_run (T : Txt K mg) (DS : KTab w K) : Cal P w K mg base (L2N.CX P w) 4 "machine_run" ["machine", "counters", "most"] (spMRun K) := by
  have c_need_machine := ok_need_machine (P := P) (w := w) (base := base) T DS
  have c_need_counters := ok_need_counters (P := P) (w := w) (base := base) T
  have c_need_count := ok_need_count (P := P) (w := w) (base := base) T
  have c_went := ok_went (P := P) (w := w) (base := base) T
  refine Cal.mkX T.d_machine_run T.m_machine_run sc_machine_run (fun _ _ _ _ _ _ us hl => match us, hl with | [_, _, _], _ => rfl) (fun vs H Q E h => ?_) (fun cdv A outer s H vs Q E hr h => ?_)
  · obtain ⟨v, u, c, d, e, g, rfl, _⟩ := h
    rfl
  obtain ⟨v, u, c, d, e, g, rfl, hd, he, hg, hS, hW, q1, q2, q3, q4⟩ := h
  refine ⟨_, (pss_cons (ps_expr (pe_cal c_need_machine (hr.mono (by decide)) (by rfl) (L2N.passes_call (L2N.takes_of rfl rfl rfl rfl) (fun _ _ _ _ h => h)) (pa_cons (pv 0) pa_nil)))
      (pss_cons (ps_expr (pe_cal c_need_counters (hr.mono (by decide)) (by rfl) (L2N.passes_call (L2N.takes_of rfl rfl rfl rfl) (fun _ _ _ _ h => h)) (pa_cons (pv 1) pa_nil)))
      (pss_cons (ps_expr (pe_cal c_need_count (hr.mono (by decide)) (by rfl) (L2N.passes_call (L2N.takes_of rfl rfl rfl rfl) (fun _ _ _ _ h => h)) (pa_cons (pv 2) (pa_cons pe_int (pa_cons (pe_glob (v := .int 500) (by rfl) T.c_MOST_STEPS_machines.choose_spec ⟨_, rfl⟩) pa_nil)))))
      (pss_cons (ps_set (i := 3) sc_machine_run.nd rfl (.inl rfl) (pe_lst (pa_cons (pe_tup (pa_cons pe_int (pa_cons (pv 1) pa_nil))) pa_nil)))
      (pss_cons (ps_set (i := 4) sc_machine_run.nd rfl (.inl rfl) (pe_cal c_went (hr.mono (by decide)) (by rfl) pass0 (pa_cons (pv 0) (pa_cons (pe_ix (ixL rfl) (pv 3) (pe_un un_neg pe_int) (fun _ _ => rfl)) pa_nil))))
      (pss_cons (ps_while (passes_of rfl) (PW.pt (pw_and (pt_cmpR op_notN (pv 4) pe_non (nomark _)) (pw_and1 (pt_cmpR opN_le (pe_callB (lenS rfl) (by rfl) T.b_len PySem.boot_len (pa_cons (pv 3) pa_nil)) (pv 2) (nomark _))))) (pss_cons (ps_expr (bm rfl PySem.F.plainAttrs_list PySem.F.slot_list_append PySem.F.type_list_append mt_append (pv 3) (pa_cons (pv 4) pa_nil)))
      (pss_one (ps_set (i := 4) sc_machine_run.nd rfl (.inl rfl) (pe_cal c_went (hr.mono (by decide)) (by rfl) pass0 (pa_cons (pv 0) (pa_cons (pv 4) pa_nil)))))))
      (pss_one (ps_ret (pv 3))))))))), ?_⟩
  refine ⟨_, rfl, v, d, rfl, hd, hS, hW, fun hM H1 s1 => ?_, q1⟩
  refine ⟨_, rfl, u, e, rfl, same_dp s1 he, fun hC H2 s2 => ?_, fun hC H2 s2 => q2 hM hC H2 (s1.trans s2)⟩
  have s12 := s1.trans s2
  refine ⟨_, rfl, c, g, 0, 500, rfl, same_dp s12 hg, fun hc => ?_, fun hc => q3 hM hC hc H2 s12⟩
  obtain ⟨m, rfl, hm⟩ := isMachD_is hM
  obtain ⟨cs, rfl, hcl, hcb⟩ := isCtrD_is hC
  obtain ⟨k, rfl, hk⟩ := isCount_is (hi := 500) hc
  cases hg
  have q5 := q4 m cs k rfl rfl rfl hm hcl hcb hk
  refine ⟨_, rfl, (by show 2 ≤ sizeLine; decide), fun p np => ⟨(by show 1 ≤ sizeLine; decide), fun o no => ?_⟩⟩
  have s3 : Same H2 (upd H2 p (.tup [nI 0, u])) := same_new np
  have hp3 : Dp K (upd H2 p (.tup [nI 0, u])) (.ref p) (stD (0, cs)) := .tup (SqT.of upd_same) (.cons (.int _) (.cons (same_dp (s12.trans s3) he) .nil))
  have hoH : H o = none := (s12.trans s3).free no
  generalize upd H2 p (.tup [nI 0, u]) = H3 at *
  have s4 : Same H3 (upd H3 o (.lst [.ref p])) := same_new no
  have ho4 : (upd H3 o (.lst [.ref p])) o = some (.lst [.ref p]) := upd_same
  have hp4 := same_dp s4 hp3
  generalize upd H3 o (.lst [.ref p]) = H4 at *
  have s14 := (s12.trans s3).trans s4
  have hml := (mach_len hm).1
  refine ⟨_, rfl, _, rfl, 1, rfl, o, [.ref p], -1, _, rfl, rfl, SqL.of ho4, rfl, v, _, m, (0, cs), rfl, same_dp s14 hd, hm, hp4, ⟨hml, hcl, fun x hx => Nat.le_trans (hcb x hx) (by decide)⟩, fun lv H5 s5 hlv => ?_⟩
  refine ⟨fun j σ H6 => ∃ (fs : List St2) (z : St2) (ys : List V) (lv : V), σ = [some v, some u, some (nI k), some (.ref o), some lv] ∧ Same H H6 ∧ H6 o = some (.lst ys) ∧ DpAll K H6 ys ((fs ++ [z]).map stD) ∧ Dp K H6 lv (stO (wentM m z)) ∧ OkSt m (100 + fs.length) z ∧ fs.length + j = k ∧ mrunF m k (0, cs) = fs ++ mrunF m j z, ⟨k, [], (0, cs), _, lv, rfl, s14.trans s5, s5 _ _ ho4, .cons (same_dp s5 hp4) .nil, hlv, ⟨hml, hcl, fun x hx => hcb x hx⟩, by simp, by simp⟩, ?_⟩
  rintro j σ H6 ⟨fs, z, ys, lv, rfl, s6, ho, hys, hlv, hz, hj, hrun⟩
  have fin : mrunF m j z = [z] → Q (.ref o) H6 := fun e => q5 _ H6 s6 (.lst (SqL.of ho) (by rw [hrun, e]; exact hys))
  have hlen : ys.length = fs.length + 1 := by
    rw [dps_len hys]
    simp
  cases hl : wentM m z with
  | none =>
    rw [hl] at hlv
    cases hlv
    refine ⟨_, rfl, rfl, _, rfl, iteF (iteF ⟨_, rfl, fin ?_⟩)⟩
    cases j with
    | zero => rfl
    | succ j => unfold mrunF; rw [hl]
  | some t =>
    rw [hl] at hlv
    obtain ⟨la, lx, ly, rfl, hla, _, _⟩ := dp_two hlv
    have ht := went_ok hm hz hl
    refine ⟨_, rfl, rfl, _, rfl, iteT ⟨_, rfl, o, _, rfl, .inl (SqL.of ho), _, rfl, fs.length + 1, k, by rw [hlen], rfl, _, rfl, ite2 (fun hc => ?_) (fun hc => ?_)⟩⟩
    · have hc := of_decide_eq_true hc
      obtain ⟨j, rfl⟩ : ∃ j', j = j' + 1 := ⟨j - 1, by omega⟩
      have hrun2 : mrunF m (j + 1) z = z :: mrunF m j t := by
        conv => lhs; unfold mrunF
        rw [hl]
      refine ⟨fun σ' H' => ∃ (fs : List St2) (z : St2) (ys : List V) (lv : V), σ' = [some v, some u, some (nI k), some (.ref o), some lv] ∧ Same H H' ∧ H' o = some (.lst ys) ∧ DpAll K H' ys ((fs ++ [z]).map stD) ∧ Dp K H' lv (stO (wentM m z)) ∧ OkSt m (100 + fs.length) z ∧ fs.length + j = k ∧ mrunF m k (0, cs) = fs ++ mrunF m j z, ?_, ?_⟩
      · rintro σ' H' ⟨fs', z', ys', lv', a1, a2⟩
        exact ⟨j, Nat.lt_succ_self j, fs', z', ys', lv', a1, a2⟩
      · refine ⟨_, rfl, .inl ⟨rfl, _, SqL.of ho⟩, _, rfl, o, _, _, rfl, rfl, ho, (by rw [hlen]; exact Nat.lt_of_lt_of_le (show fs.length + 1 < 3000 by omega) (by decide)), ?_⟩
        have s7 : Same H (upd H6 o (.lst (ys ++ [.ref la]))) := same_put s6 hoH
        have hA : DpAll K (upd H6 o (.lst (ys ++ [.ref la]))) (ys ++ [.ref la]) (((fs ++ [z]) ++ [t]).map stD) := by
          rw [List.map_append]
          exact dps_app (dps_upd ho (noL_sts _) hys) (.cons (dp_upd ho (noL_st t) hlv) .nil)
        have hlt : Dp K (upd H6 o (.lst (ys ++ [.ref la]))) (.ref la) (stD t) := dp_upd ho (noL_st t) hlv
        have ho7 : (upd H6 o (.lst (ys ++ [.ref la]))) o = some (.lst (ys ++ [.ref la])) := upd_same
        generalize upd H6 o (.lst (ys ++ [.ref la])) = H7 at *
        have hfl : (fs ++ [z]).length = fs.length + 1 := by simp
        refine ⟨_, rfl, _, rfl, v, _, m, t, rfl, same_dp s7 hd, hm, hlt, ⟨ht.1, ht.2.1, fun x hx => Nat.le_trans (ht.2.2 x hx) (by omega)⟩, fun lv' H8 s8 hlv' => ?_⟩
        refine ⟨fs ++ [z], t, _, lv', rfl, s7.trans s8, s8 _ _ ho7, same_dps s8 hA, hlv', ?_, by rw [hfl]; omega, by rw [hrun, hrun2]; simp⟩
        rw [hfl]
        exact ht
    · refine ⟨_, rfl, fin ?_⟩
      have hc : ¬ fs.length + 1 ≤ k := fun z => hc (decide_eq_true z)
      obtain rfl : j = 0 := by omega
      rfl
end
end Fr
namespace Fr
open PySem PySem.Spec PyProof.Rows L2
def pr (c : Nat) : Nat := primes.getD c 0
def ownP (k : Nat) : Nat := pr (3 + 2 * k)
def comP (k : Nat) : Nat := pr (3 + 2 * k + 1)
section
variable {P : Program} {w : World} {K : PySem.W.Frag} {mg : Str → Option Value} {base : Heap}
def spAtLine (K : PySem.W.Frag) : Sp := fun vs H Q _ => ∃ k : Nat, vs = [nI k] ∧ k < 4 ∧ ∀ a H', Same H H' → H' a = some (.tup [nI (ownP k), nI (comP k)]) → Q (.ref a) H'
theorem ok_at_line (T : Txt K mg) : Cal P w K mg base L2.CX0 1 "at_line" ["place"] (spAtLine K) := by
  refine Cal.mk0 T.d_at_line T.m_at_line sc_at_line (fun _ _ _ _ _ _ us hl => match us, hl with | [_], _ => rfl) (fun vs H Q E h => ?_) (fun cdv A outer s H vs Q E hr h => ?_)
  · obtain ⟨k, rfl, _⟩ := h
    rfl
  obtain ⟨k, rfl, hk, q⟩ := h
  refine ⟨_, (pss_one (ps_ret (pe_tup (pa_cons (pe_ix (ixT rfl) (pe_glob (v := .ref (ga K "PRIMES")) (by rfl) T.m_PRIMES rfl) (pe_op opN_add (pe_glob (v := .int 3) (by rfl) T.c_COUNTERS.choose_spec ⟨_, rfl⟩) (pe_op opN_mul pe_int (pv 0))) (fun _ _ => rfl)) (pa_cons (pe_ix (ixT rfl) (pe_glob (v := .ref (ga K "PRIMES")) (by rfl) T.m_PRIMES rfl) (pe_op opN_add (pe_op opN_add (pe_glob (v := .int 3) (by rfl) T.c_COUNTERS.choose_spec ⟨_, rfl⟩) (pe_op opN_mul pe_int (pv 0))) pe_int) (fun _ _ => rfl)) pa_nil))))), ?_⟩
  have key : ∀ c : Nat, c < 12 → atI (primes.map nI) (c : Int) = some (nI (pr c)) := fun c hc => atIn (getD_nI hc)
  have hlog : Nat.log2 2 + k.log2 < 1000000 := by
    have : k = 0 ∨ k = 1 ∨ k = 2 ∨ k = 3 := by omega
    rcases this with rfl | rfl | rfl | rfl <;> decide
  refine ⟨_, rfl, 2, k, rfl, rfl, hlog, 3, 2 * k, rfl, rfl, _, _, ((3 + 2 * k : Nat) : Int), _, rfl, rfl, T.t_PRIMES _, key _ (by omega), ?_⟩
  refine ⟨_, rfl, 2, k, rfl, rfl, hlog, 3, 2 * k, rfl, rfl, 3 + 2 * k, 1, rfl, rfl, _, _, ((3 + 2 * k + 1 : Nat) : Int), _, rfl, rfl, T.t_PRIMES _, key _ (by omega), (by show 2 ≤ sizeLine; decide), fun p np => ?_⟩
  exact q p _ (same_new np) upd_same
/-! ### the program of a machine -/
def lineP (i : Nat) : Ln → Prog
  | .add c g => [(comP g * pr c, ownP i)]
  | .take c g h => [(comP g, ownP i * pr c), (comP h, ownP i)]
  | .fin => [(1, ownP i)]
def lineO (k : Nat) : Nat × Nat := (ownP k, comP k)
def linesP : Nat → Mach → Prog
  | _, [] => []
  | i, l :: m => lineP i l ++ linesP (i + 1) m
theorem linesP_app (m : Mach) (l : Ln) : ∀ i, linesP i (m ++ [l]) = linesP i m ++ lineP (i + m.length) l := by
  induction m with
  | nil => intro i; simp [linesP]
  | cons a m ih =>
    intro i
    show lineP i a ++ linesP (i + 1) (m ++ [l]) = (lineP i a ++ linesP (i + 1) m) ++ lineP (i + (m.length + 1)) l
    rw [ih, List.append_assoc]
    congr 3
    omega
theorem linesP_len (m : Mach) : ∀ i, (linesP i m).length ≤ 2 * m.length := by
  induction m with
  | nil => intro i; simp [linesP]
  | cons a m ih =>
    intro i
    show (lineP i a ++ linesP (i + 1) m).length ≤ 2 * (m.length + 1)
    rw [List.length_append]
    have h1 := ih (i + 1)
    have h2 : (lineP i a).length ≤ 2 := by cases a <;> simp [lineP]
    omega
theorem pr_lt (c : Nat) : pr c < 64 := by
  unfold pr
  by_cases h : c < primes.length
  · rw [List.getD_eq_getElem?_getD, List.getElem?_eq_getElem h]
    exact primes_small _ (List.getElem_mem h)
  · rw [List.getD_eq_getElem?_getD, List.getElem?_eq_none (by omega)]
    decide
theorem pr_log (c d : Nat) : (pr c).log2 + (pr d).log2 < 1000000 := by
  have h1 : (pr c).log2 < 7 := lt_log2 (k := 7) (Nat.lt_trans (pr_lt c) (by decide)) (by decide) (by decide)
  have h2 : (pr d).log2 < 7 := lt_log2 (k := 7) (Nat.lt_trans (pr_lt d) (by decide)) (by decide) (by decide)
  omega
def progOf (m : Mach) : Prog := (List.range m.length).map lineO ++ linesP 0 m
def spProgOf (K : PySem.W.Frag) : Sp := fun vs H Q E => ∃ (v : V) (d : PyData), vs = [v] ∧ Dp K H v d ∧ Shp 40 d ∧ WordsD d ∧ (isMachD d = false → ∀ H', Same H H' → E (.ref (ga K "BadMachine")) none H') ∧
  (∀ m : Mach, d = machD m → isMach m = true → ∀ x H', Same H H' → Dp K H' x (progD (progOf m)) → Q x H')
theorem ok_program_of (T : Txt K mg) (DS : KTab w K) : Cal P w K mg base (L2N.CX P w) 4 "program_of" ["machine"] (spProgOf K) := by
  have c_need_machine := ok_need_machine (P := P) (w := w) (base := base) T DS
  have c_at_line := ok_at_line (P := P) (w := w) (base := base) T
  refine Cal.mkX T.d_program_of T.m_program_of sc_program_of (fun _ _ _ _ _ _ us hl => match us, hl with | [_], _ => rfl) (fun vs H Q E h => ?_) (fun cdv A outer s H vs Q E hr h => ?_)
  · obtain ⟨v, d, rfl, _⟩ := h
    rfl
  obtain ⟨v, d, rfl, hd, hS, hW, q1, q2⟩ := h
  refine ⟨_, (pss_cons (ps_expr (pe_cal c_need_machine (hr.mono (by decide)) (by rfl) (L2N.passes_call (L2N.takes_of rfl rfl rfl rfl) (fun _ _ _ _ h => h)) (pa_cons (pv 0) pa_nil)))
      (pss_cons (ps_setLc (i := 1) (own := [("place", 2)]) rfl sc_program_of.nd rfl rfl (sw_true rfl rfl rfl (by decide +kernel)) (pi_range1 (by rfl) T.b_range (pa_cons (pe_callB (lenS rfl) (by rfl) T.b_len PySem.boot_len (pa_cons (pv 0) pa_nil)) pa_nil)) (blkOk_by (own := [("place", 2)]) (N := ["machine", "found", "place", "line", "own"]) (sc := defScope s_program_of) (by decide +kernel)) (fun _ _ _ _ _ => (pg_name (i := 2) sc_program_of.nd rfl (.inl rfl))) (fun _ _ _ _ _ => pts_nil) (fun _ _ _ _ _ => (pe_cal c_at_line (hr.mono (by decide)) (by rfl) pass0 (pa_cons (pv 2) pa_nil))))
      (pss_cons (ps_for (passes_of rfl) rfl (piE rfl (by rfl) T.b_enumerate (pa_cons (pv 0) pa_nil)) (pgT (n := 2) rfl rfl (pgs_cons (pg_name (i := 2) sc_program_of.nd rfl (.inl rfl)) (pgs_cons (pg_name (i := 3) sc_program_of.nd rfl (.inl rfl)) pgs_nil))) (pss_cons (ps_set (i := 4) sc_program_of.nd rfl (.inl rfl) (pe_ix (ixT rfl) (pe_cal c_at_line (hr.mono (by decide)) (by rfl) pass0 (pa_cons (pv 2) pa_nil)) pe_int (fun _ _ => rfl)))
      (pss_one (ps_if (pt_cmpR op_eq (pe_ix (ixT rfl) (pv 3) pe_int (fun _ _ => rfl)) pe_str (nomark _)) (pss_one (ps_expr (bm rfl PySem.F.plainAttrs_list PySem.F.slot_list_append PySem.F.type_list_append mt_append (pv 1) (pa_cons (pe_tup (pa_cons (pe_op opN_mul (pe_ix (ixT rfl) (pe_cal c_at_line (hr.mono (by decide)) (by rfl) pass0 (pa_cons (pe_ix (ixT rfl) (pv 3) pe_int (fun _ _ => rfl)) pa_nil)) pe_int (fun _ _ => rfl)) (pe_ix (ixT rfl) (pe_glob (v := .ref (ga K "PRIMES")) (by rfl) T.m_PRIMES rfl) (pe_ix (ixT rfl) (pv 3) pe_int (fun _ _ => rfl)) (fun _ _ => rfl))) (pa_cons (pv 4) pa_nil))) pa_nil)))) (pss_one (ps_if (pt_cmpR op_eq (pe_ix (ixT rfl) (pv 3) pe_int (fun _ _ => rfl)) pe_str (nomark _)) (pss_cons (ps_expr (bm rfl PySem.F.plainAttrs_list PySem.F.slot_list_append PySem.F.type_list_append mt_append (pv 1) (pa_cons (pe_tup (pa_cons (pe_ix (ixT rfl) (pe_cal c_at_line (hr.mono (by decide)) (by rfl) pass0 (pa_cons (pe_ix (ixT rfl) (pv 3) pe_int (fun _ _ => rfl)) pa_nil)) pe_int (fun _ _ => rfl)) (pa_cons (pe_op opN_mul (pv 4) (pe_ix (ixT rfl) (pe_glob (v := .ref (ga K "PRIMES")) (by rfl) T.m_PRIMES rfl) (pe_ix (ixT rfl) (pv 3) pe_int (fun _ _ => rfl)) (fun _ _ => rfl))) pa_nil))) pa_nil)))
      (pss_one (ps_expr (bm rfl PySem.F.plainAttrs_list PySem.F.slot_list_append PySem.F.type_list_append mt_append (pv 1) (pa_cons (pe_tup (pa_cons (pe_ix (ixT rfl) (pe_cal c_at_line (hr.mono (by decide)) (by rfl) pass0 (pa_cons (pe_ix (ixT rfl) (pv 3) pe_int (fun _ _ => rfl)) pa_nil)) pe_int (fun _ _ => rfl)) (pa_cons (pv 4) pa_nil))) pa_nil))))) (pss_one (ps_expr (bm rfl PySem.F.plainAttrs_list PySem.F.slot_list_append PySem.F.type_list_append mt_append (pv 1) (pa_cons (pe_tup (pa_cons pe_int (pa_cons (pv 4) pa_nil))) pa_nil))))))))))
      (pss_one (ps_ret (pv 1)))))), ?_⟩
  refine ⟨_, rfl, v, d, rfl, hd, hS, hW, fun hM H1 s1 => ?_, q1⟩
  obtain ⟨m, rfl, hm⟩ := isMachD_is hM
  have q := q2 m rfl hm
  obtain ⟨hl1, hl4⟩ := mach_len hm
  obtain ⟨a, xs, rfl, ha, hxs⟩ := dp_lst hd
  have hlen : xs.length = m.length := by rw [dps_len hxs, List.length_map]
  have ha1 := s1.seq ha
  refine ⟨_, rfl, a, xs, rfl, .inl ha1, xs.length, rfl, by omega, by omega, fun D hD => ?_⟩
  have en : ((xs.length : Nat) : Int).toNat = m.length := by omega
  rw [en]
  refine lc_dp (K := K) walk_nats hD (by omega) (fun _ _ => trivial) (fun i => some (fracD (lineO i))) ?_ ?_ ?_
  · intro i d e
    cases e
    exact noL_frac _
  · rintro i x H' H'' A B hi s' ⟨rfl, rfl⟩ hA hB
    refine ⟨rfl, _, rfl, i, rfl, by omega, fun b H3 s3 hb => hA _ _ _ rfl s3 (.tup (SqT.of hb) (.cons (.int _) (.cons (.int _) .nil)))⟩
  · intro H2 ys s2 hD2 hA
    have hD0 : H D = none := s1.free hD
    have hys : DpAll K H2 ys ((((List.range m.length).map lineO) ++ linesP 0 (m.take 0)).map fracD) := by
      have e : gath (fun i => some (fracD (lineO i))) m.length = (List.range m.length).map fun i => fracD (lineO i) := by
        rw [gath_range, ← List.filterMap_eq_map]
        rfl
      rw [e] at hA
      have e2 : (((List.range m.length).map lineO) ++ linesP 0 (m.take 0)).map fracD = (List.range m.length).map fun i => fracD (lineO i) := by
        rw [List.take_zero]
        show ((List.range m.length).map lineO ++ []).map fracD = _
        rw [List.append_nil, List.map_map]
        rfl
      rw [e2]
      exact hA
    have s12 := s1.trans s2
    refine ⟨_, rfl, a, xs, rfl, s2.seq ha1, for_it walk_enum (fun i σ H3 => ∃ ys y2 y3 y4, σ = [some (.ref a), some (.ref D), y2, y3, y4] ∧ Same H H3 ∧ H3 D = some (.lst ys) ∧ DpAll K H3 ys ((((List.range m.length).map lineO) ++ linesP 0 (m.take i)).map fracD)) ⟨ys, _, _, _, rfl, s12, hD2, hys⟩ (fun i σ H3 _ ⟨_, _, _, _, _, p, _⟩ => p.seq ha) ?_ ?_⟩
    · rintro i x σ H3 H4 hi ⟨ys, y2, y3, y4, rfl, s3, hD3, hA3⟩ ⟨T', x1, x2, rfl, nT, rfl, e1, e2⟩
      have e1 : x1 = nI i := (Option.some.inj e1).symm
      subst e1
      have sT : Same H3 (upd H3 T' (.tup [nI i, x2])) := same_new nT
      have hT4 : SqT K (upd H3 T' (.tup [nI i, x2])) T' [nI i, x2] := SqT.of upd_same
      have hD4 := sT _ _ hD3
      have hA4 := same_dps sT hA3
      have s4 := s3.trans sT
      generalize upd H3 T' (.tup [nI i, x2]) = H4 at *
      have hi' : i < m.length := by omega
      have hx2 : Dp K H4 x2 (lnD m[i]) := by
        obtain ⟨d, hd', hdp⟩ := dps_at2 (same_dps s4 hxs) e2
        rw [List.getElem?_map, List.getElem?_eq_getElem hi'] at hd'
        cases hd'
        exact hdp
      have ho := mach_ok hm (List.getElem_mem hi')
      have hlt : ys.length ≤ 40 := by
        rw [dps_len hA4, List.length_map, List.length_append, List.length_map, List.length_range]
        have := linesP_len (m.take i) 0
        rw [List.length_take] at this
        omega
      have htk : linesP 0 (m.take (i + 1)) = linesP 0 (m.take i) ++ lineP i m[i] := by
        rw [List.take_succ_eq_append_getElem hi', linesP_app, Nat.zero_add, List.length_take, Nat.min_eq_left (by omega)]
      refine ⟨T', _, rfl, hT4, rfl, _, _, rfl, _, _, rfl, rfl, ?_⟩
      refine ⟨_, rfl, i, rfl, by omega, fun b H5 s5 hb => ⟨b, _, 0, _, rfl, rfl, SqT.of hb, atI0, _, rfl, ?_⟩⟩
      have s45 := s4.trans s5
      have key : ∀ c : Nat, c < 12 → atI (primes.map nI) (c : Int) = some (nI (pr c)) := fun c hc => atIn (getD_nI hc)
      have put : ∀ (Hx Hy : Hp) (l0 : Prog) (zs : List V) (pa : Addr) (n1 n2 : Nat), Same H Hx → Hx D = some (.lst zs) → DpAll K Hx zs (l0.map fracD) → Hx pa = none → Hy = upd Hx pa (.tup [nI n1, nI n2]) →
          Same H (upd Hy D (.lst (zs ++ [.ref pa]))) ∧ Hy D = some (.lst zs) ∧ (upd Hy D (.lst (zs ++ [.ref pa]))) D = some (.lst (zs ++ [.ref pa])) ∧ DpAll K (upd Hy D (.lst (zs ++ [.ref pa]))) (zs ++ [.ref pa]) ((l0 ++ [(n1, n2)]).map fracD) := by
        intro Hx Hy l0 zs pa n1 n2 sx hz hA np e
        subst e
        have sy : Same Hx (upd Hx pa (.tup [nI n1, nI n2])) := same_new np
        have hp : Dp K (upd Hx pa (.tup [nI n1, nI n2])) (.ref pa) (fracD (n1, n2)) := .tup (SqT.of upd_same) (.cons (.int _) (.cons (.int _) .nil))
        refine ⟨same_put (sx.trans sy) hD0, sy _ _ hz, upd_same, ?_⟩
        rw [List.map_append]
        exact dps_app (dps_upd (sy _ _ hz) (noLs_of fun d hd => by obtain ⟨f, _, rfl⟩ := List.mem_map.mp hd; exact noL_frac f) (same_dps sy hA)) (.cons (dp_upd (sy _ _ hz) (noL_frac _) hp) .nil)
      have hx5 := same_dp s5 hx2
      have hD5 := s5 _ _ hD4
      have hA5 := same_dps s5 hA4
      cases hl' : m[i] with
      | add c g =>
        rw [hl'] at hx5 ho htk
        have ho := ok_add ho
        obtain ⟨b2, rfl, hb2⟩ := dp_add hx5
        refine ⟨b2, _, 0, _, rfl, rfl, hb2, atI0, rfl, _, rfl, iteT ?_⟩
        refine ⟨_, rfl, .inl ⟨rfl, _, SqL.of hD5⟩, _, rfl, b2, _, 2, _, rfl, rfl, hb2, atI2, g, rfl, by omega, fun b3 H6 s6 hb3 => ?_⟩
        refine ⟨b3, _, 1, _, rfl, rfl, SqT.of hb3, atI1, _, rfl, b2, _, 1, _, rfl, rfl, same_tup s6 hb2, atI1, _, _, (c : Int), _, rfl, rfl, T.t_PRIMES _, key c (by omega), _, _, rfl, rfl, pr_log _ _, ?_⟩
        refine ⟨_, rfl, (by show 2 ≤ sizeLine; decide), fun p np => ?_⟩
        obtain ⟨t1, t2, t3, t4⟩ := put H6 _ _ ys p (comP g * pr c) (ownP i) (s45.trans s6) (s6 _ _ hD5) (same_dps s6 hA5) np rfl
        refine ⟨D, ys, _, rfl, rfl, t2, Nat.lt_of_le_of_lt hlt (by decide), _, _, _, _, rfl, t1, t3, ?_⟩
        rw [htk, ← List.append_assoc]
        exact t4
      | take c g k =>
        rw [hl'] at hx5 ho htk
        have ho := ok_take ho
        obtain ⟨b2, rfl, hb2⟩ := dp_take hx5
        refine ⟨b2, _, 0, _, rfl, rfl, hb2, atI0, rfl, _, rfl, iteF ⟨_, rfl, b2, _, 0, _, rfl, rfl, hb2, atI0, rfl, _, rfl, iteT ?_⟩⟩
        refine ⟨_, rfl, .inl ⟨rfl, _, SqL.of hD5⟩, _, rfl, b2, _, 2, _, rfl, rfl, hb2, atI2, g, rfl, by omega, fun b3 H6 s6 hb3 => ?_⟩
        refine ⟨b3, _, 1, _, rfl, rfl, SqT.of hb3, atI1, _, rfl, _, rfl, b2, _, 1, _, rfl, rfl, same_tup s6 hb2, atI1, _, _, (c : Int), _, rfl, rfl, T.t_PRIMES _, key c (by omega), _, _, rfl, rfl, pr_log _ _, ?_⟩
        refine ⟨(by show 2 ≤ sizeLine; decide), fun p np => ?_⟩
        obtain ⟨t1, t2, t3, t4⟩ := put H6 _ _ ys p (comP g) (ownP i * pr c) (s45.trans s6) (s6 _ _ hD5) (same_dps s6 hA5) np rfl
        refine ⟨D, ys, _, rfl, rfl, t2, Nat.lt_of_le_of_lt hlt (by decide), ?_⟩
        have hb7 : SqT K (upd (upd H6 p (.tup [nI (comP g), nI (ownP i * pr c)])) D (.lst (ys ++ [.ref p]))) b2 [.str "take", nI c, nI g, nI k] := sqt_upd t2 (same_tup (s6.trans (same_new np)) hb2)
        generalize upd (upd H6 p (.tup [nI (comP g), nI (ownP i * pr c)])) D (.lst (ys ++ [.ref p])) = H7 at *
        refine ⟨_, rfl, .inl ⟨rfl, _, SqL.of t3⟩, _, rfl, b2, _, 3, _, rfl, rfl, hb7, atI3, k, rfl, by omega, fun b4 H8 s8 hb4 => ?_⟩
        refine ⟨b4, _, 1, _, rfl, rfl, SqT.of hb4, atI1, _, rfl, (by show 2 ≤ sizeLine; decide), fun p' np' => ?_⟩
        obtain ⟨u1, u2, u3, u4⟩ := put H8 _ _ _ p' (comP k) (ownP i) (t1.trans s8) (s8 _ _ t3) (same_dps s8 t4) np' rfl
        refine ⟨D, _, _, rfl, rfl, u2, Nat.lt_of_le_of_lt (show (ys ++ [V.ref p]).length ≤ 50 by simp; omega) (by decide), _, _, _, _, rfl, u1, u3, ?_⟩
        rw [htk]
        have e : ∀ A B : Prog, A ++ (B ++ lineP i (.take c g k)) = ((A ++ B) ++ [(comP g, ownP i * pr c)]) ++ [(comP k, ownP i)] := fun A B => by simp [lineP]
        rw [e]
        exact u4
      | fin =>
        rw [hl'] at hx5 htk
        obtain ⟨b2, rfl, hb2⟩ := dp_fin hx5
        refine ⟨b2, _, 0, _, rfl, rfl, hb2, atI0, rfl, _, rfl, iteF ⟨_, rfl, b2, _, 0, _, rfl, rfl, hb2, atI0, rfl, _, rfl, iteF ?_⟩⟩
        refine ⟨_, rfl, .inl ⟨rfl, _, SqL.of hD5⟩, _, rfl, (by show 2 ≤ sizeLine; decide), fun p np => ?_⟩
        obtain ⟨t1, t2, t3, t4⟩ := put H5 _ _ ys p 1 (ownP i) s45 hD5 hA5 np rfl
        refine ⟨D, ys, _, rfl, rfl, t2, Nat.lt_of_le_of_lt hlt (by decide), _, _, _, _, rfl, t1, t3, ?_⟩
        rw [htk, ← List.append_assoc]
        exact t4
    · rintro σ H3 ⟨ys, y2, y3, y4, rfl, s3, hD3, hA3⟩
      refine ⟨_, rfl, q _ H3 s3 (.lst (SqL.of hD3) ?_)⟩
      have e : m.take xs.length = m := by rw [hlen, List.take_length]
      rw [e] at hA3
      exact hA3
end
end Fr
namespace Fr
open PySem PySem.Spec PyProof.Rows L2
def lnsOf (n : Nat) : List Nat := (List.range 4).filter fun k => decide (0 < rm n (3 + 2 * k))
theorem fm_filter {α β : Type} (p : α → Prop) [DecidablePred p] (f : α → β) (l : List α) : l.filterMap (fun i => if p i then some (f i) else none) = (l.filter fun i => decide (p i)).map f := by
  induction l with
  | nil => rfl
  | cons a l ih =>
    by_cases h : p a
    · rw [List.filterMap_cons_some (b := f a) (by rw [if_pos h]), List.filter_cons_of_pos (by simpa using h), List.map_cons, ih]
    · rw [List.filterMap_cons_none (by rw [if_neg h]), List.filter_cons_of_neg (by simpa using h), ih]
section
variable {P : Program} {w : World} {K : PySem.W.Frag} {mg : Str → Option Value} {base : Heap}
/-! ### start -/
def spStart (K : PySem.W.Frag) : Sp := fun vs H Q E => ∃ (v : V) (d : PyData), vs = [v] ∧ Dp K H v d ∧ (isCtrD d = false → ∀ H', Same H H' → E (.ref (ga K "BadMachine")) none H') ∧
  (∀ cs : List Nat, d = ctD cs → cs.length = 3 → (∀ x ∈ cs, x ≤ 100) → ∀ H', Same H H' → Q (nI (make cs * ownP 0)) H')
theorem ok_start (T : Txt K mg) : Cal P w K mg base (L2N.CX P w) 4 "start" ["counters"] (spStart K) := by
  have c_need_counters := ok_need_counters (P := P) (w := w) (base := base) T
  have c_made := ok_made (P := P) (w := w) (base := base) T
  have c_at_line := ok_at_line (P := P) (w := w) (base := base) T
  refine Cal.mkX T.d_start T.m_start sc_start (fun _ _ _ _ _ _ us hl => match us, hl with | [_], _ => rfl) (fun vs H Q E h => ?_) (fun cdv A outer s H vs Q E hr h => ?_)
  · obtain ⟨v, d, rfl, _⟩ := h
    rfl
  obtain ⟨v, d, rfl, hd, q1, q2⟩ := h
  refine ⟨_, (pss_cons (ps_expr (pe_cal c_need_counters (hr.mono (by decide)) (by rfl) (L2N.passes_call (L2N.takes_of rfl rfl rfl rfl) (fun _ _ _ _ h => h)) (pa_cons (pv 0) pa_nil)))
      (pss_one (ps_ret (pe_op opN_mul (pe_cal c_made (hr.mono (by decide)) (by rfl) pass0 (pa_cons (pv 0) pa_nil)) (pe_ix (ixT rfl) (pe_cal c_at_line (hr.mono (by decide)) (by rfl) pass0 (pa_cons pe_int pa_nil)) pe_int (fun _ _ => rfl)))))), ?_⟩
  refine ⟨_, rfl, v, d, rfl, hd, fun hC H1 s1 => ?_, q1⟩
  obtain ⟨cs, rfl, hcl, hcb⟩ := isCtrD_is hC
  have q := q2 cs rfl hcl hcb
  obtain ⟨a, rfl, ha⟩ := dp_ct hd
  refine ⟨_, rfl, false, a, cs, rfl, same_tup s1 ha, by omega, fun x hx => Nat.le_trans (hcb x hx) (by decide), fun H2 s2 => ?_⟩
  dsimp only [tCons, tC, tNil]
  refine ⟨0, rfl, by decide, fun b H3 s3 hb => ⟨b, _, 0, _, rfl, rfl, SqT.of hb, atI0, make cs, ownP 0, rfl, rfl, ?_, q H3 ((s1.trans s2).trans s3)⟩⟩
  have h0 := make_part_lt (as := cs) (fun x hx => Nat.le_trans (hcb x hx) (by decide)) (by omega) cs.length 1 0 (by decide) (by decide)
  rw [← make_take, Nat.pow_zero, Nat.mul_one] at h0
  have h1 : (make cs).log2 < 40000 := lt_log2 (k := 40000) h0 (by decide) (by decide)
  have h2 : (ownP 0).log2 < 7 := lt_log2 (k := 7) (Nat.lt_trans (pr_lt _) (by decide)) (by decide) (by decide)
  omega
/-! ### counters_in -/
def spCountersIn (K : PySem.W.Frag) : Sp := fun vs H Q E => ∃ (v : V) (d : PyData), vs = [v] ∧ Dp K H v d ∧ (isNumD d = false → ∀ H', Same H H' → E (.ref (ga K "BadNumber")) none H') ∧
  (∀ n : Nat, d = nD n → isNum n = true → ∀ x H', Same H H' → Dp K H' x (.tuple [ctD ((rooms n).take 3), optD (lnsOf n).head?]) → Q x H')
theorem ok_counters_in (T : Txt K mg) : Cal P w K mg base (L2N.CX P w) 4 "counters_in" ["number"] (spCountersIn K) := by
  have c_need_number := ok_need_number (P := P) (w := w) (base := base) T
  have c_parted := ok_parted (P := P) (w := w) (base := base) T
  refine Cal.mkX T.d_counters_in T.m_counters_in sc_counters_in (fun _ _ _ _ _ _ us hl => match us, hl with | [_], _ => rfl) (fun vs H Q E h => ?_) (fun cdv A outer s H vs Q E hr h => ?_)
  · obtain ⟨v, d, rfl, _⟩ := h
    rfl
  obtain ⟨v, d, rfl, hd, q1, q2⟩ := h
  refine ⟨_, (pss_cons (ps_expr (pe_cal c_need_number (hr.mono (by decide)) (by rfl) (L2N.passes_call (L2N.takes_of rfl rfl rfl rfl) (fun _ _ _ _ h => h)) (pa_cons (pv 0) pa_nil)))
      (pss_cons (ps_set (i := 1) sc_counters_in.nd rfl (.inr rfl) (pe_ix (ixT rfl) (pe_cal c_parted (hr.mono (by decide)) (by rfl) pass0 (pa_cons (pv 0) pa_nil)) pe_int (fun _ _ => rfl)))
      (pss_cons (ps_setLc (i := 2) (own := [("place", 3)]) rfl sc_counters_in.nd rfl rfl (sw_true rfl rfl rfl (by decide +kernel)) (pi_range1 (by rfl) T.b_range (pa_cons (pe_glob (v := .int 4) (by rfl) T.c_MOST_LINES.choose_spec ⟨_, rfl⟩) pa_nil)) (blkOk_by (own := [("place", 3)]) (N := ["number", "rooms", "lines", "place"]) (sc := defScope s_counters_in) (by decide +kernel)) (fun _ _ _ _ _ => (pg_name (i := 3) sc_counters_in.nd rfl (.inl rfl))) (fun _ _ _ _ _ => (pts_one (pt_cmpR opN_gt (pe_ix (ixT rfl) (pv 1) (pe_op opN_add (pe_glob (v := .int 3) (by rfl) T.c_COUNTERS.choose_spec ⟨_, rfl⟩) (pe_op opN_mul pe_int (pv 3))) (fun _ _ => rfl)) pe_int (nomark _)))) (fun _ _ _ _ _ => (pv 3)))
      (pss_one (ps_ret (pe_tup (pa_cons (pe_slice (slD rfl) (pv 1) po_none (po_some (pe_glob (v := .int 3) (by rfl) T.c_COUNTERS.choose_spec ⟨_, rfl⟩))) (pa_cons (pe_ifExp (pt_cmpR (neE rfl hr.units) (pv 2) (pe_lst pa_nil) (nomark _)) (pe_ix (ixL rfl) (pv 2) pe_int (fun _ _ => rfl)) pe_non) pa_nil)))))))), ?_⟩
  refine ⟨_, rfl, v, d, rfl, hd, fun e H1 s1 => ?_, fun e H1 s1 => q1 e H1 s1⟩
  obtain ⟨n, rfl, hn⟩ := isNumD_is e
  have q := q2 n rfl hn
  cases hd
  refine ⟨_, rfl, n, rfl, (isNum_iff.mp hn).1, fun p t H2 s2 ht hp => ?_⟩
  refine ⟨p, _, 0, _, rfl, rfl, SqT.of hp, atI0, _, rfl, ?_⟩
  refine ⟨by decide, by decide, fun D hD => ?_⟩
  have ht2 : SqT K H2 t ((rooms n).map nI) := SqT.of ht
  have s12 := s1.trans s2
  refine lc_dp (K := K) (n := 4) walk_nats hD (by decide) (fun _ _ => trivial) (fun i => if 0 < rm n (3 + 2 * i) then some (nD i) else none) ?_ ?_ ?_
  · intro i d e
    split at e
    · cases e
      rfl
    · cases e
  · rintro i x H' H'' A B hi s' ⟨rfl, rfl⟩ hA hB
    have hlog : Nat.log2 2 + i.log2 < 1000000 := by
      have : i = 0 ∨ i = 1 ∨ i = 2 ∨ i = 3 := by omega
      rcases this with rfl | rfl | rfl | rfl <;> decide
    have hg : ((rooms n).map nI)[3 + 2 * i]? = some (nI (rm n (3 + 2 * i))) := getD_nI (by rw [rooms_len]; omega)
    refine ⟨rfl, _, rfl, _, rfl, 2, i, rfl, rfl, hlog, 3, 2 * i, rfl, rfl, t, _, ((3 + 2 * i : Nat) : Int), _, rfl, rfl, same_tup s' ht2, atIn hg, _, 0, rfl, rfl, _, rfl, ?_⟩
    by_cases h0 : 0 < rm n (3 + 2 * i)
    · rw [decide_eq_true h0]
      exact iteT ⟨_, rfl, hA _ _ _ (by rw [if_pos h0]) (Same.refl _) (.int _)⟩
    · rw [decide_eq_false h0]
      exact iteF (hB (by rw [if_neg h0]) _ (Same.refl _))
  · intro H3 ys s3 hD3 hA
    have e : gath (fun i => if 0 < rm n (3 + 2 * i) then some (nD i) else none) 4 = (lnsOf n).map nD := by
      unfold lnsOf
      rw [gath_range]
      exact fm_filter (fun i => 0 < rm n (3 + 2 * i)) nD (List.range 4)
    rw [e] at hA
    have eys := dps_nats hA
    refine ⟨_, rfl, 3, rfl, _, .tup (same_tup s3 ht2) (dps_nats' _), fun v1 H4 s4 hv1 => ?_⟩
    have hv1 : Dp K H4 v1 (ctD ((rooms n).take 3)) := by
      have hv2 : Dp K H4 v1 (.tuple (((rooms n).map nD).take 3)) := by rw [← cutD_to]; exact hv1
      rw [← List.map_take] at hv2
      exact hv2
    have hD4 := s4 _ _ hD3
    rw [eys] at hD4
    have hL4 : Dp K H4 (.ref D) (.list ((lnsOf n).map nD)) := .lst (SqL.of hD4) (dps_nats' _)
    refine ⟨_, rfl, (by show 0 ≤ sizeLine; decide), fun p5 np => ?_⟩
    have s5 : Same H4 (upd H4 p5 (.lst [])) := same_new np
    have hp5 : Dp K (upd H4 p5 (.lst [])) (.ref p5) (.list []) := .lst (SqL.of upd_same) .nil
    generalize upd H4 p5 (.lst []) = H5 at *
    refine ⟨_, same_dp s5 hL4, hp5, Shp.nats _, _, rfl, ?_⟩
    have s15 := ((s12.trans s3).trans s4).trans s5
    cases hls : lnsOf n with
    | nil =>
      refine iteF ⟨(by show 2 ≤ sizeLine; decide), fun p6 np6 => ?_⟩
      rw [hls] at q
      exact q _ _ (s15.trans (same_new np6)) (.tup (SqT.of upd_same) (.cons (same_dp (s5.trans (same_new np6)) hv1) (.cons .non .nil)))
    | cons k ks =>
      rw [hls] at q hD4
      refine iteT ⟨_, rfl, D, _, 0, _, rfl, rfl, SqL.of (s5 _ _ hD4), atI0, (by show 2 ≤ sizeLine; decide), fun p6 np6 => ?_⟩
      exact q _ _ (s15.trans (same_new np6)) (.tup (SqT.of upd_same) (.cons (same_dp (s5.trans (same_new np6)) hv1) (.cons (.int _) .nil)))
end
end Fr
namespace Fr
open PySem PySem.Spec PyProof.Rows L2
section
variable {P : Program} {w : World} {K : PySem.W.Frag} {mg : Str → Option Value} {base : Heap}
theorem ok__law_own (T : Txt K mg) : Cal P w K mg base L2.CX0 2 "_law_own" ["line"] (spAtLine K) := by
  have c__law_primes := ok__law_primes (P := P) (w := w) (base := base) T
  refine Cal.mk0 T.d__law_own T.m__law_own sc__law_own (fun _ _ _ _ _ _ us hl => match us, hl with | [_], _ => rfl) (fun vs H Q E h => ?_) (fun cdv A outer s H vs Q E hr h => ?_)
  · obtain ⟨k, rfl, _⟩ := h
    rfl
  obtain ⟨k, rfl, hk, q⟩ := h
  refine ⟨_, (pss_cons (ps_set (i := 1) sc__law_own.nd rfl (.inl rfl) (pe_cal0 c__law_primes (hr.mono (by decide)) (by rfl) pass0))
      (pss_one (ps_ret (pe_tup (pa_cons (pe_ix (ixL rfl) (pv 1) (pe_op opN_add pe_int (pe_op opN_mul pe_int (pv 0))) (fun _ _ => rfl)) (pa_cons (pe_ix (ixL rfl) (pv 1) (pe_op opN_add pe_int (pe_op opN_mul pe_int (pv 0))) (fun _ _ => rfl)) pa_nil)))))), ?_⟩
  have key : ∀ c : Nat, c < 12 → atI (primes.map nI) (c : Int) = some (nI (pr c)) := fun c hc => atIn (getD_nI hc)
  have hlog : Nat.log2 2 + k.log2 < 1000000 := by
    have : k = 0 ∨ k = 1 ∨ k = 2 ∨ k = 3 := by omega
    rcases this with rfl | rfl | rfl | rfl <;> decide
  refine ⟨rfl, fun o no => ⟨_, rfl, ?_⟩⟩
  have hP : SqL K (upd H o (.lst (primes.map nI))) o (primes.map nI) := SqL.of upd_same
  have s1 : Same H (upd H o (.lst (primes.map nI))) := same_new no
  generalize upd H o (.lst (primes.map nI)) = H1 at *
  have e : comP k = pr (4 + 2 * k) := by unfold comP; congr 1; omega
  refine ⟨_, rfl, 2, k, rfl, rfl, hlog, 3, 2 * k, rfl, rfl, o, _, ((3 + 2 * k : Nat) : Int), _, rfl, rfl, hP, key _ (by omega), ?_⟩
  refine ⟨_, rfl, _, rfl, 2, k, rfl, rfl, hlog, 4, 2 * k, rfl, rfl, o, _, ((4 + 2 * k : Nat) : Int), _, rfl, rfl, hP, key _ (by omega), (by show 2 ≤ sizeLine; decide), fun p np => ?_⟩
  rw [← e]
  exact q p _ (s1.trans (same_new np)) upd_same
end
end Fr
namespace Fr
open PySem PySem.Spec PyProof.Rows L2
theorem pr_make {c : Nat} (h : c < 12) : pr c = make ((List.range 12).map fun r => if r = c then 1 else 0) := by
  rw [make_def]
  revert c
  decide +kernel
theorem rm_pr {c r : Nat} (h : c < 12) (hr : r < 12) : rm (pr c) r = if r = c then 1 else 0 := by
  rw [pr_make h, rm_make hr]
theorem pr_pos {c : Nat} (h : c < 12) : 0 < pr c := by
  revert c
  decide +kernel
theorem pr_left {c : Nat} (h : c < 12) : left (pr c) = 1 := by
  rw [pr_make h]
  exact left_make (by simp)
theorem rm_make3 {cs : List Nat} (h : cs.length = 3) (r : Nat) : rm (make cs) r = cs.getD r 0 := by
  rw [← make_pad cs 9]
  unfold rm
  rw [rooms_make (by simp [h])]
  rw [List.getD_eq_getElem?_getD, List.getD_eq_getElem?_getD, List.getElem?_append]
  split
  · rfl
  · rename_i hr
    rw [List.getElem?_eq_none (l := cs) (by omega), List.getElem?_replicate]
    split <;> rfl
theorem left_make3 {cs : List Nat} (h : cs.length = 3) : left (make cs) = 1 := by
  rw [← make_pad cs 9]
  exact left_make (by simp [h])
theorem rm_cs {cs : List Nat} (h : cs.length = 3) {k r : Nat} (hk : k < 12) (hr : r < 12) : rm (make cs * pr k) r = cs.getD r 0 + if r = k then 1 else 0 := by
  rw [rm_mul (make_pos' _) (pr_pos hk), rm_make3 h, rm_pr hk hr]
theorem left_cs {cs : List Nat} (h : cs.length = 3) {k : Nat} (hk : k < 12) : left (make cs * pr k) = 1 := by
  rw [left_mul (make_pos' _) (pr_pos hk), left_make3 h, pr_left hk]
theorem cs_pos {cs : List Nat} {k : Nat} (hk : k < 12) : 0 < make cs * pr k := Nat.mul_pos (make_pos' _) (pr_pos hk)
theorem cs_out {cs : List Nat} (h : cs.length = 3) {r : Nat} (hr : 3 ≤ r) : cs.getD r 0 = 0 := by
  rw [List.getD_eq_getElem?_getD, List.getElem?_eq_none (by omega)]
  rfl
theorem fit_pr {cs : List Nat} (h : cs.length = 3) {j k : Nat} (hj : 3 ≤ j) (hj2 : j < 12) (hk : k < 12) : (make cs * pr k) % pr j = 0 ↔ j = k := by
  rw [dvd_rm (pr_pos hj2) (cs_pos hk) (pr_left hj2) (left_cs h hk)]
  constructor
  · intro H
    have := H j hj2
    rw [rm_pr hj2 hj2, rm_cs h hk hj2, cs_out h hj, if_pos rfl] at this
    split at this
    · assumption
    · omega
  · rintro rfl r hr
    rw [rm_pr hj2 hr, rm_cs h hk hr]
    omega
theorem fit_two {cs : List Nat} (h : cs.length = 3) {j k c : Nat} (hj : 3 ≤ j) (hj2 : j < 12) (hk : 3 ≤ k) (hk2 : k < 12) (hc : c < 3) : (make cs * pr k) % (pr j * pr c) = 0 ↔ j = k ∧ 0 < cs.getD c 0 := by
  have hc2 : c < 12 := by omega
  have hl : left (pr j * pr c) = 1 := by rw [left_mul (pr_pos hj2) (pr_pos hc2), pr_left hj2, pr_left hc2]
  rw [dvd_rm (Nat.mul_pos (pr_pos hj2) (pr_pos hc2)) (cs_pos hk2) hl (left_cs h hk2)]
  constructor
  · intro H
    have h1 := H j hj2
    rw [rm_mul (pr_pos hj2) (pr_pos hc2), rm_pr hj2 hj2, rm_pr hc2 hj2, rm_cs h hk2 hj2, cs_out h hj, if_pos rfl, if_neg (by omega)] at h1
    have e : j = k := by
      split at h1
      · assumption
      · omega
    have h2 := H c hc2
    rw [rm_mul (pr_pos hj2) (pr_pos hc2), rm_pr hj2 hc2, rm_pr hc2 hc2, rm_cs h hk2 hc2, if_neg (by omega), if_pos rfl, if_neg (by omega)] at h2
    exact ⟨e, by omega⟩
  · rintro ⟨rfl, h0⟩ r hr
    rw [rm_mul (pr_pos hj2) (pr_pos hc2), rm_pr hj2 hr, rm_pr hc2 hr, rm_cs h hk2 hr]
    by_cases e : r = c
    · subst e
      rw [if_pos rfl, if_neg (by omega)]
      omega
    · rw [if_neg e]
      omega
theorem fit_not {cs : List Nat} (h : cs.length = 3) {u j : Nat} (hu : 0 < u) (hl : left u = 1) (hj : 3 ≤ j) (hj2 : j < 12) (hr : 0 < rm u j) : ¬ make cs % u = 0 := by
  rw [dvd_rm hu (make_pos' _) hl (left_make3 h)]
  intro H
  have := H j hj2
  rw [rm_make3 h, cs_out h hj] at this
  omega
theorem find_come {n k : Nat} {p : Nat × Nat → Bool} (hk : k < n) (h : ∀ j, j < n → (p (lineO j) = true ↔ j = k)) : ((List.range n).map lineO).find? p = some (lineO k) := by
  rw [List.find?_map]
  have e : (List.range n).find? (p ∘ lineO) = some k := by
    rw [List.find?_range_eq_some]
    refine ⟨(h k hk).mpr rfl, List.mem_range.mpr hk, fun j hj => ?_⟩
    have h1 : ¬ p (lineO j) = true := fun z => by
      have := (h j (by omega)).mp z
      omega
    simpa using h1
  rw [e]
  rfl
theorem led_come {m : Mach} (hm : isMach m = true) {cs : List Nat} (h : cs.length = 3) {k : Nat} (hk : k < m.length) : led (progOf m) (make cs * comP k) = some (make cs * ownP k) := by
  have hl := mach_len hm
  rw [led_find]
  unfold progOf
  rw [List.find?_append, find_come hk (fun j hj => by
    rw [decide_eq_true_iff]
    show (make cs * pr (3 + 2 * k + 1)) % pr (3 + 2 * j + 1) = 0 ↔ j = k
    rw [fit_pr h (by omega) (by omega) (by omega)]
    omega)]
  show some (make cs * comP k / comP k * ownP k) = _
  have hp : 0 < comP k := pr_pos (by omega)
  rw [Nat.mul_div_cancel _ hp]
theorem find_lines {p : Nat × Nat → Bool} {k : Nat} {f : Nat × Nat} {l : Ln} : ∀ (m : Mach) (i : Nat), i ≤ k → m[k - i]? = some l → (∀ j, j < k → i ≤ j → ∀ l' ∈ m, (lineP j l').find? p = none) → (lineP k l).find? p = some f → (linesP i m).find? p = some f
  | [], i, _, h, _, _ => by simp at h
  | a :: m, i, hi, hk, hno, hf => by
    show (lineP i a ++ linesP (i + 1) m).find? p = some f
    rw [List.find?_append]
    by_cases e : i = k
    · subst e
      rw [Nat.sub_self] at hk
      cases hk
      rw [hf]
      rfl
    · rw [hno i (by omega) (Nat.le_refl _) a List.mem_cons_self]
      have e2 : k - i = (k - (i + 1)) + 1 := by omega
      rw [e2] at hk
      exact find_lines m (i + 1) (by omega) hk (fun j hj hj2 l' hl' => hno j hj (by omega) l' (List.mem_cons_of_mem _ hl')) hf
theorem line_no {cs : List Nat} (h : cs.length = 3) {j k n : Nat} (hj : j < 4) (hk : k < 4) (hjk : j ≠ k) {l : Ln} (hl : l.ok n = true) : (lineP j l).find? (fun p => decide ((make cs * ownP k) % p.2 = 0)) = none := by
  have h1 : ¬ (make cs * ownP k) % ownP j = 0 := fun z => by
    have z : (make cs * pr (3 + 2 * k)) % pr (3 + 2 * j) = 0 := z
    have := (fit_pr h (by omega) (by omega) (by omega)).mp z
    omega
  rw [List.find?_eq_none]
  intro q hq
  cases l with
  | add c g =>
    simp only [lineP, List.mem_singleton] at hq
    subst hq
    simpa using h1
  | take c g o =>
    have ho := ok_take hl
    simp only [lineP, List.mem_cons, List.not_mem_nil, or_false] at hq
    rcases hq with rfl | rfl
    · have h2 : ¬ (make cs * ownP k) % (ownP j * pr c) = 0 := fun z => by
        have z : (make cs * pr (3 + 2 * k)) % (pr (3 + 2 * j) * pr c) = 0 := z
        have := (fit_two h (by omega) (by omega) (by omega) (by omega) ho.1).mp z
        omega
      simpa using h2
    · simpa using h1
  | fin =>
    simp only [lineP, List.mem_singleton] at hq
    subst hq
    simpa using h1
theorem no_come {cs : List Nat} (h : cs.length = 3) {k n : Nat} (hk : k < 4) (hn : n ≤ 4) : ((List.range n).map lineO).find? (fun p => decide ((make cs * ownP k) % p.2 = 0)) = none := by
  rw [List.find?_eq_none]
  intro q hq
  obtain ⟨j, hj, rfl⟩ := List.mem_map.mp hq
  have hj := List.mem_range.mp hj
  have h1 : ¬ (make cs * ownP k) % comP j = 0 := fun z => by
    have z : (make cs * pr (3 + 2 * k)) % pr (3 + 2 * j + 1) = 0 := z
    have := (fit_pr h (by omega) (by omega) (by omega)).mp z
    omega
  exact fun z => h1 (of_decide_eq_true z)
theorem led_own {m : Mach} (hm : isMach m = true) {cs : List Nat} (h : cs.length = 3) {k : Nat} {l : Ln} {f : Nat × Nat} (hk : m[k]? = some l) (hf : (lineP k l).find? (fun p => decide ((make cs * ownP k) % p.2 = 0)) = some f) : led (progOf m) (make cs * ownP k) = some (make cs * ownP k / f.2 * f.1) := by
  have hl := mach_len hm
  obtain ⟨hk2, _⟩ := List.getElem?_eq_some_iff.mp hk
  rw [led_find]
  unfold progOf
  rw [List.find?_append, no_come h (by omega) (by omega), find_lines m 0 (Nat.zero_le _) hk (fun j hj _ l' hl' => line_no h (by omega) (by omega) (by omega) (mach_ok hm hl')) hf]
  rfl
theorem getD_set {cs : List Nat} {c k r : Nat} (hc : c < cs.length) : (cs.set c k).getD r 0 = if r = c then k else cs.getD r 0 := by
  rw [List.getD_eq_getElem?_getD, List.getD_eq_getElem?_getD, List.getElem?_set]
  by_cases e : c = r
  · subst e
    rw [if_pos rfl, if_pos hc, if_pos rfl]
    rfl
  · rw [if_neg e, if_neg (Ne.symm e)]
theorem make_bump {cs : List Nat} (h : cs.length = 3) {c k : Nat} (hc : c < 3) (hk : k = cs.getD c 0 + 1) : make (cs.set c k) = make cs * pr c := by
  have h2 : (cs.set c k).length = 3 := by rw [List.length_set]; exact h
  have hc2 : c < 12 := by omega
  refine num_ext (make_pos' _) (cs_pos hc2) (left_make3 h2) (left_cs h hc2) fun r hr => ?_
  rw [rm_make3 h2, rm_cs h hc2 hr, getD_set (by omega)]
  split
  · subst_vars; rfl
  · rfl
theorem make_unset {cs : List Nat} (h : cs.length = 3) {c : Nat} (hc : c < 3) (h0 : 0 < cs.getD c 0) : make cs = make (cs.set c (cs.getD c 0 - 1)) * pr c := by
  have h2 : (cs.set c (cs.getD c 0 - 1)).length = 3 := by rw [List.length_set]; exact h
  have e := make_bump h2 hc (k := cs.getD c 0) (by rw [getD_set (by omega), if_pos rfl]; omega)
  rw [← e, List.set_set]
  congr 1
  refine List.ext_getElem? fun r => ?_
  rw [List.getElem?_set]
  split
  · subst_vars
    rw [if_pos (by omega), List.getD_eq_getElem?_getD, List.getElem?_eq_getElem (by omega)]
    rfl
  · rfl
def stN (s : St2) : Nat := make s.2 * ownP s.1
def coN (s : St2) : Nat := make s.2 * comP s.1
theorem led_went {m : Mach} (hm : isMach m = true) {s t : St2} (h1 : s.1 < m.length) (h : s.2.length = 3) (ht : wentM m s = some t) : led (progOf m) (stN s) = some (coN t) := by
  have hl := mach_len hm
  have hk : m[s.1]? = some m[s.1] := List.getElem?_eq_getElem h1
  have ho := mach_ok hm (List.getElem_mem h1)
  have hp : 0 < ownP s.1 := pr_pos (by omega)
  unfold wentM at ht
  rw [hk] at ht
  have fitO : decide ((make s.2 * ownP s.1) % ownP s.1 = 0) = true := decide_eq_true (Nat.mul_mod_left _ _)
  cases hc : m[s.1] with
  | add c g =>
    rw [hc] at ht ho hk
    have ho := ok_add ho
    cases ht
    have := led_own hm h hk (f := (comP g * pr c, ownP s.1)) (by unfold lineP; rw [List.find?_cons_of_pos (by exact fitO)])
    unfold stN coN
    rw [this, Nat.mul_div_cancel _ hp]
    show some (make s.2 * (comP g * pr c)) = some (make (s.2.set c (s.2.getD c 0 + 1)) * comP g)
    rw [make_bump h ho.1 rfl, Nat.mul_assoc, Nat.mul_comm (comP g)]
  | take c g k =>
    rw [hc] at ht ho hk
    have ho := ok_take ho
    have hpc : 0 < pr c := pr_pos (by omega)
    have two : (make s.2 * ownP s.1) % (ownP s.1 * pr c) = 0 ↔ 0 < s.2.getD c 0 := by
      have := fit_two h (j := 3 + 2 * s.1) (k := 3 + 2 * s.1) (by omega) (by omega) (by omega) (by omega) ho.1
      exact this.trans ⟨fun z => z.2, fun z => ⟨rfl, z⟩⟩
    dsimp only at ht
    by_cases h0 : 0 < s.2.getD c 0
    · rw [if_pos h0] at ht
      cases ht
      have := led_own hm h hk (f := (comP g, ownP s.1 * pr c)) (by unfold lineP; rw [List.find?_cons_of_pos (by exact decide_eq_true (two.mpr h0))])
      unfold stN coN
      rw [this]
      show some (make s.2 * ownP s.1 / (ownP s.1 * pr c) * comP g) = some (make (s.2.set c (s.2.getD c 0 - 1)) * comP g)
      conv => lhs; rw [make_unset h ho.1 h0]
      rw [Nat.mul_assoc, Nat.mul_comm (pr c), Nat.mul_div_cancel _ (Nat.mul_pos hp hpc)]
    · rw [if_neg h0] at ht
      cases ht
      have := led_own hm h hk (f := (comP k, ownP s.1)) (by unfold lineP; rw [List.find?_cons_of_neg (by simpa using fun z => h0 (two.mp z)), List.find?_cons_of_pos (by exact fitO)])
      unfold stN coN
      rw [this, Nat.mul_div_cancel _ hp]
  | fin =>
    rw [hc] at ht
    cases ht
theorem led_fin {m : Mach} (hm : isMach m = true) {s : St2} (h : s.2.length = 3) (hk : m[s.1]? = some .fin) : led (progOf m) (stN s) = some (make s.2) := by
  have hl := mach_len hm
  obtain ⟨h1, _⟩ := List.getElem?_eq_some_iff.mp hk
  have hp : 0 < ownP s.1 := pr_pos (by omega)
  have := led_own hm h hk (f := (1, ownP s.1)) (by unfold lineP; rw [List.find?_cons_of_pos (by exact decide_eq_true (Nat.mul_mod_left _ _))])
  unfold stN
  rw [this, Nat.mul_div_cancel _ hp, Nat.mul_one]
theorem not_pr {cs : List Nat} (h : cs.length = 3) {j : Nat} (hj : 3 ≤ j) (hj2 : j < 12) : ¬ make cs % pr j = 0 := fit_not h (pr_pos hj2) (pr_left hj2) hj hj2 (by rw [rm_pr hj2 hj2, if_pos rfl]; decide)
theorem not_two {cs : List Nat} (h : cs.length = 3) {j c : Nat} (hj : 3 ≤ j) (hj2 : j < 12) (hc : c < 3) : ¬ make cs % (pr j * pr c) = 0 := by
  have hc2 : c < 12 := by omega
  refine fit_not h (Nat.mul_pos (pr_pos hj2) (pr_pos hc2)) (by rw [left_mul (pr_pos hj2) (pr_pos hc2), pr_left hj2, pr_left hc2]) hj hj2 ?_
  rw [rm_mul (pr_pos hj2) (pr_pos hc2), rm_pr hj2 hj2, if_pos rfl]
  omega
theorem find_none {p : Nat × Nat → Bool} : ∀ (m : Mach) (i : Nat), (∀ j, i ≤ j → j < i + m.length → ∀ l ∈ m, ∀ q ∈ lineP j l, ¬ p q = true) → (linesP i m).find? p = none
  | [], _, _ => rfl
  | a :: m, i, h => by
    show (lineP i a ++ linesP (i + 1) m).find? p = none
    rw [List.find?_append, find_none m (i + 1) (fun j h1 h2 l hl => h j (by omega) (by simp; omega) l (List.mem_cons_of_mem _ hl)), List.find?_eq_none.mpr (h i (Nat.le_refl _) (by simp) a List.mem_cons_self)]
    rfl
theorem led_done {m : Mach} (hm : isMach m = true) {cs : List Nat} (h : cs.length = 3) : led (progOf m) (make cs) = none := by
  have hl := mach_len hm
  rw [led_find]
  unfold progOf
  rw [List.find?_append, List.find?_eq_none.mpr (fun q hq => ?_), find_none m 0 (fun j h1 h2 l hl' q hq => ?_)]
  · rfl
  · have ho := mach_ok hm hl'
    have hO : ¬ make cs % ownP j = 0 := not_pr h (by omega) (by omega)
    intro z
    have z := of_decide_eq_true z
    cases l with
    | add c g =>
      simp only [lineP, List.mem_singleton] at hq
      subst hq
      exact hO z
    | take c g k =>
      have ho := ok_take ho
      simp only [lineP, List.mem_cons, List.not_mem_nil, or_false] at hq
      rcases hq with rfl | rfl
      · exact not_two h (j := 3 + 2 * j) (by omega) (by omega) ho.1 z
      · exact hO z
    | fin =>
      simp only [lineP, List.mem_singleton] at hq
      subst hq
      exact hO z
  · obtain ⟨j, hj, rfl⟩ := List.mem_map.mp hq
    have hj := List.mem_range.mp hj
    exact fun z => not_pr h (j := 3 + 2 * j + 1) (by omega) (by omega) (of_decide_eq_true z)
end Fr
namespace Fr
open PySem PySem.Spec PyProof.Rows L2
/-! ### the numbers of a machine's run -/
theorem num_of_rm {x : Nat} (h0 : 0 < x) (hl : left x = 1) (h : ∀ r, r < 12 → rm x r ≤ 400) : isNum x = true := by
  refine isNum_iff.mpr ⟨h0, hl, fun a ha => ?_⟩
  obtain ⟨r, hr, rfl⟩ := List.mem_iff_getElem.mp ha
  rw [rooms_len] at hr
  have := h r hr
  unfold rm at this
  rw [List.getD_eq_getElem?_getD, List.getElem?_eq_getElem (by rw [rooms_len]; exact hr)] at this
  exact this
theorem not_great {x : Nat} (h : isNum x = true) : ¬ 400 < maxN (rooms x) := fun z => by
  obtain ⟨r, _, hr⟩ := maxN_rm.mp z
  have := rm_le h r
  omega
theorem getD_le {cs : List Nat} {b : Nat} (h : ∀ x ∈ cs, x ≤ b) (r : Nat) : cs.getD r 0 ≤ b := by
  rw [List.getD_eq_getElem?_getD]
  cases e : cs[r]? with
  | none => exact Nat.zero_le _
  | some a => exact h a (List.mem_of_getElem? e)
theorem num_cs {cs : List Nat} (h : cs.length = 3) {k : Nat} (hk : k < 12) (hb : ∀ x ∈ cs, x ≤ 399) : isNum (make cs * pr k) = true := by
  refine num_of_rm (cs_pos hk) (left_cs h hk) fun r hr => ?_
  rw [rm_cs h hk hr]
  have := getD_le hb r
  split <;> omega
theorem num_make3 {cs : List Nat} (h : cs.length = 3) (hb : ∀ x ∈ cs, x ≤ 400) : isNum (make cs) = true := by
  refine num_of_rm (make_pos' _) (left_make3 h) fun r hr => ?_
  rw [rm_make3 h]
  exact getD_le hb r
def walkN (m : Mach) : Nat → St2 → List Nat
  | 0, s => [stN s]
  | k + 1, s => match wentM m s with
    | none => [stN s, make s.2]
    | some t => stN s :: coN t :: walkN m k t
theorem went_fin {m : Mach} {s : St2} (h1 : s.1 < m.length) : wentM m s = none ↔ m[s.1]? = some .fin := by
  unfold wentM
  rw [List.getElem?_eq_getElem h1]
  cases m[s.1] with
  | add c g => simp
  | take c g k =>
    dsimp only
    split <;> simp
  | fin => simp
theorem num_st {m : Mach} (hm : isMach m = true) {b : Nat} {s : St2} (h : OkSt m b s) (hb : b ≤ 399) : isNum (stN s) = true :=
  num_cs h.2.1 (by have := mach_len hm; have := h.1; omega) fun x hx => Nat.le_trans (h.2.2 x hx) hb
theorem num_co {m : Mach} (hm : isMach m = true) {b : Nat} {s : St2} (h : OkSt m b s) (hb : b ≤ 399) : isNum (coN s) = true :=
  num_cs h.2.1 (k := 3 + 2 * s.1 + 1) (by have := mach_len hm; have := h.1; omega) fun x hx => Nat.le_trans (h.2.2 x hx) hb
theorem run_walk {m : Mach} (hm : isMach m = true) : ∀ (k b : Nat) (s : St2), OkSt m b s → b + k ≤ 399 → runF (progOf m) (2 * k) (stN s) = some (walkN m k s)
  | 0, b, s, _, _ => rfl
  | k + 1, b, s, h, hb => by
    have e : 2 * (k + 1) = (2 * k + 1) + 1 := by omega
    rw [e]
    unfold runF walkN
    cases hw : wentM m s with
    | none =>
      rw [led_fin hm h.2.1 ((went_fin h.1).mp hw)]
      have hn := num_make3 h.2.1 (fun x hx => Nat.le_trans (h.2.2 x hx) (by omega))
      show (if 400 < maxN (rooms (make s.2)) then none else (runF (progOf m) (2 * k + 1) (make s.2)).map (stN s :: ·)) = _
      rw [if_neg (not_great hn)]
      unfold runF
      rw [led_done hm h.2.1]
      rfl
    | some t =>
      have ht := went_ok hm h hw
      rw [led_went hm h.1 h.2.1 hw]
      show (if 400 < maxN (rooms (coN t)) then none else (runF (progOf m) (2 * k + 1) (coN t)).map (stN s :: ·)) = _
      rw [if_neg (not_great (num_co hm ht (by omega)))]
      unfold runF
      rw [show led (progOf m) (coN t) = some (stN t) from led_come hm ht.2.1 ht.1]
      show ((if 400 < maxN (rooms (stN t)) then none else (runF (progOf m) (2 * k) (stN t)).map (coN t :: ·)).map (stN s :: ·)) = _
      rw [if_neg (not_great (num_st hm ht (by omega))), run_walk hm k (b + 1) t ht (by omega)]
      rfl
theorem mrun_ne (m : Mach) (k : Nat) (s : St2) : mrunF m k s ≠ [] := by
  cases k with
  | zero => simp [mrunF]
  | succ k =>
    unfold mrunF
    split <;> simp
theorem mrun_len (m : Mach) : ∀ (k : Nat) (s : St2), 1 ≤ (mrunF m k s).length ∧ (mrunF m k s).length ≤ k + 1
  | 0, s => by simp [mrunF]
  | k + 1, s => by
    unfold mrunF
    cases wentM m s with
    | none => simp
    | some t =>
      have := mrun_len m k t
      simp
      omega
theorem walk_at (m : Mach) : ∀ (k i : Nat) (s z : St2), (mrunF m k s)[i]? = some z → (walkN m k s)[2 * i]? = some (stN z)
  | 0, i, s, z, h => by
    cases i with
    | zero => cases h; rfl
    | succ i => simp [mrunF] at h
  | k + 1, i, s, z, h => by
    unfold mrunF at h
    unfold walkN
    cases hw : wentM m s with
    | none =>
      rw [hw] at h
      cases i with
      | zero => cases h; rfl
      | succ i => simp at h
    | some t =>
      rw [hw] at h
      cases i with
      | zero => cases h; rfl
      | succ i =>
        have e : 2 * (i + 1) = 2 * i + 1 + 1 := by omega
        rw [e]
        exact walk_at m k i t z h
theorem walk_len (m : Mach) : ∀ (k : Nat) (s : St2), 2 * (mrunF m k s).length - 1 ≤ (walkN m k s).length ∧ (walkN m k s).length ≤ 2 * k + 1
  | 0, s => by simp [mrunF, walkN]
  | k + 1, s => by
    unfold mrunF walkN
    cases wentM m s with
    | none =>
      simp
      omega
    | some t =>
      have := walk_len m k t
      simp
      omega
theorem mrun_ok {m : Mach} (hm : isMach m = true) : ∀ (k b : Nat) (s : St2), OkSt m b s → ∀ z ∈ mrunF m k s, OkSt m (b + k) z
  | 0, b, s, h, z, hz => by
    have : z = s := by simpa [mrunF] using hz
    subst this
    exact h
  | k + 1, b, s, h, z, hz => by
    unfold mrunF at hz
    cases hw : wentM m s with
    | none =>
      rw [hw] at hz
      have : z = s := by simpa using hz
      subst this
      exact ⟨h.1, h.2.1, fun x hx => Nat.le_trans (h.2.2 x hx) (by omega)⟩
    | some t =>
      rw [hw] at hz
      rcases List.mem_cons.mp hz with rfl | hz
      · exact ⟨h.1, h.2.1, fun x hx => Nat.le_trans (h.2.2 x hx) (by omega)⟩
      · have := mrun_ok hm k (b + 1) t (went_ok hm h hw) z hz
        exact ⟨this.1, this.2.1, fun x hx => Nat.le_trans (this.2.2 x hx) (by omega)⟩
/-- the last of a run, and where its program ends -/
theorem mrun_last (m : Mach) : ∀ (k : Nat) (s z : St2), (mrunF m k s).getLast? = some z → wentM m z = none → ∀ j, (mrunF m k s).length ≤ j → (walkN m j s).getLast? = some (make z.2)
  | 0, s, z, h, hz, j, hj => by
    have : s = z := by simpa [mrunF] using h
    subst this
    obtain ⟨j, rfl⟩ : ∃ i, j = i + 1 := ⟨j - 1, by simp [mrunF] at hj; omega⟩
    unfold walkN
    rw [hz]
    rfl
  | k + 1, s, z, h, hz, j, hj => by
    unfold mrunF at h hj
    cases hw : wentM m s with
    | none =>
      rw [hw] at h hj
      have : s = z := by simpa using h
      subst this
      obtain ⟨j, rfl⟩ : ∃ i, j = i + 1 := ⟨j - 1, by simp at hj; omega⟩
      unfold walkN
      rw [hz]
      rfl
    | some t =>
      rw [hw] at h hj
      dsimp only at h hj
      obtain ⟨j, rfl⟩ : ∃ i, j = i + 1 := ⟨j - 1, by simp at hj; omega⟩
      have hne := mrun_ne m k t
      rw [List.getLast?_cons] at h
      have h2 : (mrunF m k t).getLast? = some z := by
        cases e : (mrunF m k t).getLast? with
        | none => exact absurd (List.getLast?_eq_none_iff.mp e) hne
        | some y =>
          rw [e] at h
          exact h
      have ih := mrun_last m k t z h2 hz j (by simp at hj; omega)
      unfold walkN
      rw [hw]
      dsimp only
      rw [List.getLast?_cons, List.getLast?_cons, ih]
      rfl
theorem mrun_on (m : Mach) : ∀ (k : Nat) (s z : St2), (mrunF m k s).getLast? = some z → wentM m z ≠ none → (walkN m k s).getLast? = some (stN z)
  | 0, s, z, h, hz => by
    have : s = z := by simpa [mrunF] using h
    subst this
    rfl
  | k + 1, s, z, h, hz => by
    unfold mrunF at h
    cases hw : wentM m s with
    | none =>
      rw [hw] at h
      have : s = z := by simpa using h
      subst this
      exact absurd hw hz
    | some t =>
      rw [hw] at h
      dsimp only at h
      have hne := mrun_ne m k t
      rw [List.getLast?_cons] at h
      have h2 : (mrunF m k t).getLast? = some z := by
        cases e : (mrunF m k t).getLast? with
        | none => exact absurd (List.getLast?_eq_none_iff.mp e) hne
        | some y =>
          rw [e] at h
          exact h
      have ih := mrun_on m k t z h2 hz
      unfold walkN
      rw [hw]
      dsimp only
      rw [List.getLast?_cons, List.getLast?_cons, ih]
      rfl
/-! ### a machine's program is one -/
theorem gcd_rm {a b : Nat} (ha : 0 < a) (hb : 0 < b) (la : left a = 1) (lb : left b = 1) (h : ∀ r, r < 12 → rm a r = 0 ∨ rm b r = 0) : Nat.gcd a b = 1 := by
  have hg : 0 < Nat.gcd a b := Nat.gcd_pos_of_pos_left _ ha
  obtain ⟨c, hc⟩ := Nat.gcd_dvd_left a b
  obtain ⟨d, hd⟩ := Nat.gcd_dvd_right a b
  have hc0 : 0 < c := by
    rcases Nat.eq_zero_or_pos c with z | z
    · rw [z, Nat.mul_zero] at hc; omega
    · exact z
  have hd0 : 0 < d := by
    rcases Nat.eq_zero_or_pos d with z | z
    · rw [z, Nat.mul_zero] at hd; omega
    · exact z
  have hlg : left (Nat.gcd a b) = 1 := by
    have h1 : left (Nat.gcd a b * c) = 1 := by rw [← hc]; exact la
    rw [left_mul hg hc0] at h1
    exact Nat.eq_one_of_mul_eq_one_right h1
  refine num_ext hg (by decide) hlg left_1 fun r hr => ?_
  rw [rm_one]
  have h1 : rm a r = rm (Nat.gcd a b) r + rm c r := by
    conv => lhs; rw [hc]
    exact rm_mul hg hc0 r
  have h2 : rm b r = rm (Nat.gcd a b) r + rm d r := by
    conv => lhs; rw [hd]
    exact rm_mul hg hd0 r
  rcases h r hr with z | z <;> omega
theorem frac_pr {p : Nat × Nat} (h1 : 0 < p.1) (h2 : 0 < p.2) (l1 : left p.1 = 1) (l2 : left p.2 = 1) (b1 : p.1 ≤ 4096) (b2 : p.2 ≤ 4096) (r1 : ∀ r, r < 12 → rm p.1 r ≤ 400) (r2 : ∀ r, r < 12 → rm p.2 r ≤ 400) (h : ∀ r, r < 12 → rm p.1 r = 0 ∨ rm p.2 r = 0) : isFrac p = true :=
  isFrac_iff.mpr ⟨num_of_rm h1 l1 r1, num_of_rm h2 l2 r2, by omega, by omega, gcd_rm h1 h2 l1 l2 h⟩
theorem pr_le (c : Nat) : pr c ≤ 64 := Nat.le_of_lt (pr_lt c)
theorem frac11 {i j : Nat} (hi : i < 12) (hj : j < 12) (h : i ≠ j) : isFrac (pr i, pr j) = true := by
  refine frac_pr (pr_pos hi) (pr_pos hj) (pr_left hi) (pr_left hj) (Nat.le_trans (pr_le i) (by decide)) (Nat.le_trans (pr_le j) (by decide)) ?_ ?_ ?_
  · intro r hr; show rm (pr i) r ≤ 400; rw [rm_pr hi hr]; split <;> omega
  · intro r hr; show rm (pr j) r ≤ 400; rw [rm_pr hj hr]; split <;> omega
  · intro r hr
    show rm (pr i) r = 0 ∨ rm (pr j) r = 0
    rw [rm_pr hi hr, rm_pr hj hr]
    by_cases e : r = i
    · right; rw [if_neg (by omega)]
    · left; rw [if_neg e]
theorem frac21 {i c j : Nat} (hi : i < 12) (hc : c < 12) (hj : j < 12) (h : i ≠ j) (h' : c ≠ j) : isFrac (pr i * pr c, pr j) = true := by
  refine frac_pr (Nat.mul_pos (pr_pos hi) (pr_pos hc)) (pr_pos hj) (by show left (pr i * pr c) = 1; rw [left_mul (pr_pos hi) (pr_pos hc), pr_left hi, pr_left hc]) (pr_left hj) (Nat.mul_le_mul (pr_le i) (pr_le c)) (Nat.le_trans (pr_le j) (by decide)) ?_ ?_ ?_
  · intro r hr; show rm (pr i * pr c) r ≤ 400; rw [rm_mul (pr_pos hi) (pr_pos hc), rm_pr hi hr, rm_pr hc hr]; split <;> split <;> omega
  · intro r hr; show rm (pr j) r ≤ 400; rw [rm_pr hj hr]; split <;> omega
  · intro r hr
    show rm (pr i * pr c) r = 0 ∨ rm (pr j) r = 0
    rw [rm_mul (pr_pos hi) (pr_pos hc), rm_pr hi hr, rm_pr hc hr, rm_pr hj hr]
    by_cases e : r = j
    · left; rw [if_neg (by omega), if_neg (by omega)]
    · right; rw [if_neg e]
theorem frac12 {i c j : Nat} (hi : i < 12) (hc : c < 12) (hj : j < 12) (h : i ≠ j) (h' : c ≠ j) : isFrac (pr j, pr i * pr c) = true := by
  have := isFrac_iff.mp (frac21 hi hc hj h h')
  exact isFrac_iff.mpr ⟨this.2.1, this.1, this.2.2.2.1, this.2.2.1, by rw [Nat.gcd_comm]; exact this.2.2.2.2⟩
theorem frac01 {j : Nat} (hj : j < 12) : isFrac (1, pr j) = true := by
  refine frac_pr (Nat.zero_lt_one) (pr_pos hj) left_1 (pr_left hj) (show 1 ≤ 4096 by decide) (Nat.le_trans (pr_le j) (by decide)) ?_ ?_ ?_
  · intro r hr; show rm 1 r ≤ 400; rw [rm_one]; omega
  · intro r hr; show rm (pr j) r ≤ 400; rw [rm_pr hj hr]; split <;> omega
  · intro r hr; left; exact rm_one r
theorem frac_line {j n : Nat} (hj : j < 4) (hn : n ≤ 4) {l : Ln} (hl : l.ok n = true) : ∀ p ∈ lineP j l, isFrac p = true := by
  intro p hp
  cases l with
  | add c g =>
    have ho := ok_add hl
    simp only [lineP, List.mem_singleton] at hp
    subst hp
    exact frac21 (i := 3 + 2 * g + 1) (j := 3 + 2 * j) (by omega) (by omega) (by omega) (by omega) (by omega)
  | take c g k =>
    have ho := ok_take hl
    simp only [lineP, List.mem_cons, List.not_mem_nil, or_false] at hp
    rcases hp with rfl | rfl
    · exact frac12 (i := 3 + 2 * j) (j := 3 + 2 * g + 1) (by omega) (by omega) (by omega) (by omega) (by omega)
    · exact frac11 (i := 3 + 2 * k + 1) (j := 3 + 2 * j) (by omega) (by omega) (by omega)
  | fin =>
    simp only [lineP, List.mem_singleton] at hp
    subst hp
    exact frac01 (j := 3 + 2 * j) (by omega)
theorem frac_lines {n : Nat} (hn : n ≤ 4) : ∀ (m : Mach) (i : Nat), i + m.length ≤ 4 → (∀ l ∈ m, l.ok n = true) → ∀ p ∈ linesP i m, isFrac p = true
  | [], _, _, _, p, hp => by cases hp
  | a :: m, i, hi, h, p, hp => by
    have hp : p ∈ lineP i a ++ linesP (i + 1) m := hp
    simp only [List.length_cons] at hi
    rcases List.mem_append.mp hp with hp | hp
    · exact frac_line (by omega) hn (h a List.mem_cons_self) p hp
    · exact frac_lines hn m (i + 1) (by omega) (fun l hl => h l (List.mem_cons_of_mem _ hl)) p hp
theorem prog_mach {m : Mach} (hm : isMach m = true) : isProg (progOf m) = true := by
  have hl := mach_len hm
  refine isProg_iff.mpr ⟨?_, fun p hp => ?_⟩
  · unfold progOf
    rw [List.length_append, List.length_map, List.length_range]
    have := linesP_len m 0
    omega
  · unfold progOf at hp
    rcases List.mem_append.mp hp with hp | hp
    · obtain ⟨j, hj, rfl⟩ := List.mem_map.mp hp
      have hj := List.mem_range.mp hj
      exact frac11 (i := 3 + 2 * j) (j := 3 + 2 * j + 1) (by omega) (by omega) (by omega)
    · exact frac_lines hl.2 m 0 (by omega) (fun l hl => mach_ok hm hl) p hp
/-! ### counters and line of a number -/
theorem take3_rm {n : Nat} {cs : List Nat} (h : cs.length = 3) (hr : ∀ r, r < 3 → rm n r = cs.getD r 0) : (rooms n).take 3 = cs := by
  refine List.ext_getElem? fun r => ?_
  by_cases h3 : r < 3
  · have h1 := hr r h3
    unfold rm at h1
    rw [List.getD_eq_getElem?_getD, List.getElem?_eq_getElem (by rw [rooms_len]; omega), List.getD_eq_getElem?_getD, List.getElem?_eq_getElem (by omega)] at h1
    rw [List.getElem?_take_of_lt h3, List.getElem?_eq_getElem (by rw [rooms_len]; omega), List.getElem?_eq_getElem (by omega)]
    exact congrArg some h1
  · rw [List.getElem?_eq_none (by simp; omega), List.getElem?_eq_none (by omega)]
theorem ctr_st {s : St2} (h : s.2.length = 3) (hk : s.1 < 4) : (rooms (stN s)).take 3 = s.2 ∧ (lnsOf (stN s)).head? = some s.1 := by
  have hR : ∀ r, r < 12 → rm (stN s) r = s.2.getD r 0 + if r = 3 + 2 * s.1 then 1 else 0 := fun r hr => rm_cs h (by omega) hr
  refine ⟨take3_rm h fun r hr => ?_, ?_⟩
  · rw [hR r (by omega), if_neg (by omega), Nat.add_zero]
  · have key : ∀ k, k < 4 → (0 < rm (stN s) (3 + 2 * k) ↔ k = s.1) := fun k hk' => by
      rw [hR _ (by omega), cs_out h (by omega)]
      split <;> omega
    unfold lnsOf
    rw [List.head?_filter, List.find?_range_eq_some]
    refine ⟨decide_eq_true ((key _ hk).mpr rfl), List.mem_range.mpr hk, fun j hj => ?_⟩
    have h1 : ¬ 0 < rm (stN s) (3 + 2 * j) := fun z => by
      have := (key j (by omega)).mp z
      omega
    simpa using h1
theorem ctr_end {cs : List Nat} (h : cs.length = 3) : (rooms (make cs)).take 3 = cs ∧ (lnsOf (make cs)).head? = none := by
  refine ⟨take3_rm h fun r hr => rm_make3 h r, ?_⟩
  unfold lnsOf
  rw [List.head?_filter, List.find?_eq_none]
  intro k hk
  rw [rm_make3 h, cs_out h (by omega)]
  decide
end Fr
namespace L2
open PySem PySem.Spec PyProof.Rows
theorem tuple_mul1 (l : Addr) (items : Array Value) (n : Nat) (dd : Option Addr) (sl : Array (Option Value)) (u : Tok) :
    Meets (Builtin.«tuple.__mul__» ⟨[.ref l, .int 1 u], []⟩) (fun _ R s => s.heap.get? l = some { cls := .type "tuple", dict := dd, data := .seq items n, slots := sl } ∧ R (.ok (.ret (Value.ref l))) s) :=
  .of_wp fun prog w A R s h => by
    obtain ⟨hp, g, d, tk, os⟩ := s
    obtain ⟨hl, h⟩ := h
    have f1 := AutoSeq1.idx_int
    wp_walk using wpAny_loadPart' hl
    repeat (first
      | (refine wpAny_ite_false (decide_eq_false (by decide)) ?_; wp_walk using wpAny_loadPart' hl)
      | (refine wpAny_ite_true (decide_eq_true (by simp)) ?_; wp_walk using wpAny_loadPart' hl))
    exact ⟨_, rfl, h⟩
theorem tuple_mul0 (l : Addr) (items : Array Value) (n : Nat) (dd : Option Addr) (sl : Array (Option Value)) (u : Tok) (hi : items.isEmpty = false) :
    Meets (Builtin.«tuple.__mul__» ⟨[.ref l, .int 0 u], []⟩) (fun _ R s => s.heap.get? l = some { cls := .type "tuple", dict := dd, data := .seq items n, slots := sl } ∧
      R (.ok (.ret (Value.ref s.heap.objs.size))) { s with heap := s.heap.push { cls := Value.type "tuple", data := Data.seq #[] }, toks := s.toks }) :=
  .of_wp fun prog w A R s h => by
    obtain ⟨hp, g, d, tk, os⟩ := s
    obtain ⟨hl, h⟩ := h
    have f1 := AutoSeq1.idx_int
    have c1 : (items.isEmpty || (0 : Int) == 1) = false := by rw [hi]; rfl
    wp_walk using wpAny_loadPart' hl
    repeat (first
      | (refine wpAny_ite_false (decide_eq_false (by rw [c1]; exact Bool.false_ne_true)) ?_; wp_walk using wpAny_loadPart' hl)
      | (refine wpAny_ite_false (decide_eq_false (by decide)) ?_; wp_walk using wpAny_loadPart' hl)
      | (refine wpAny_ite_true (decide_eq_true (by simp)) ?_; wp_walk using wpAny_loadPart' hl))
    exact ⟨_, rfl, h⟩
/-- t * 1 is t, t * 0 the empty one -/
def rRepB (K : PySem.W.Frag) : R2 := fun x y H Q => ∃ l xs, x = .ref l ∧ SqT K H l xs ∧ xs ≠ [] ∧ ((y = .int 1 ∧ Q (.ref l) H) ∨ (y = .int 0 ∧ ∀ p, H p = none → Q (.ref p) (upd H p (.tup []))))
theorem op_repB {X : Cx} : OpR X (binaryOp .Mult) (rRepB X.K) := by
  intro pins s σ H x y v u Q I rx ry h
  obtain ⟨l, xs, rfl, hT, hne, h⟩ := h
  cases rx
  obtain ⟨its, r, ⟨⟨cls, dd, data, sl⟩, ho, hc, n, hd⟩, hs⟩ := I.tuple hT
  simp only at hc hd
  subst hc hd
  have hle : its.length = xs.length := r.length.symm
  have hn : its ≠ [] := fun e => hne (by
    rw [e] at hle
    exact List.eq_nil_of_length_eq_zero hle.symm)
  have hi : its.toArray.isEmpty = false := by
    cases its with
    | nil => exact absurd rfl hn
    | cons a b => rfl
  rcases h with ⟨rfl, q⟩ | ⟨rfl, q⟩
  · obtain ⟨t, rfl⟩ := ry
    exact wpAny_binaryOp_repeat_ref (T := "tuple") (U := "int") (by decide) ⟨_, ho, rfl⟩ (fun s' => typeIs_int s' 1 t) noFill_tuple_mul F.fills_int_mul F.slot_int_rmul repeat_tuple F.slot_int_index.lookup
      (call_meets F.slot_int_rmul (typeIs_int s 1 t) F.entry_int_rmul (F.args_int_rmul_2 _ _) (int_rmul_tuple 1 t l its.toArray n dd sl)
        ⟨ho, rfl, ⟨_, ho, rfl⟩, call_meets F.slot_tuple_mul ⟨_, ho, rfl⟩ F.entry_tuple_mul (F.args_tuple_mul_2 _ _) (tuple_mul1 l its.toArray n dd sl t) ⟨ho, .ref l, H, I, rfl, q⟩⟩)
  · obtain ⟨t, rfl⟩ := ry
    refine wpAny_binaryOp_repeat_ref (T := "tuple") (U := "int") (by decide) ⟨_, ho, rfl⟩ (fun s' => typeIs_int s' 0 t) noFill_tuple_mul F.fills_int_mul F.slot_int_rmul repeat_tuple F.slot_int_index.lookup
      (call_meets F.slot_int_rmul (typeIs_int s 0 t) F.entry_int_rmul (F.args_int_rmul_2 _ _) (int_rmul_tuple 0 t l its.toArray n dd sl)
        ⟨ho, rfl, ⟨_, ho, rfl⟩, call_meets F.slot_tuple_mul ⟨_, ho, rfl⟩ F.entry_tuple_mul (F.args_tuple_mul_2 _ _) (tuple_mul0 l its.toArray n dd sl t hi) ⟨ho, ?_⟩⟩)
    refine ⟨.ref s.heap.objs.size, _, I.laid (t' := s.toks) (o := .tup []) (fun b ob q => Heap.get?_push_of_some _ q) (Nat.le_refl _) ?_, rfl, q _ (I.hok.fresh (Nat.le_refl _))⟩
    exact ⟨Nat.zero_le _, _, .nil, IsTup.new _ _⟩
end L2
namespace Fr
open PySem PySem.Spec PyProof.Rows L2
theorem repB {X : Cx} {K : PySem.W.Frag} (e : X.K = K) : OpR X (binaryOp .Mult) (rRepB K) := by
  subst e
  exact op_repB
end Fr
namespace Fr
open PySem PySem.Spec PyProof.Rows L2
section
variable {P : Program} {w : World} {K : PySem.W.Frag} {mg : Str → Option Value} {base : Heap}
/-! ### _law_machine -/
def spLawMach (K : PySem.W.Frag) : Sp := fun vs H Q _ => ∃ n : Nat, vs = [nI n] ∧ ∀ m : Mach, isMach m = true → ∀ x H', Same H H' → Dp K H' x (machD m) → Q x H'
theorem noL_ln (l : Ln) : noL (lnD l) = true := by
  cases l <;> simp [lnD, noL, noLs]
theorem noL_lns (m : List Ln) : noLs (m.map lnD) = true := noLs_of fun d hd => by
  obtain ⟨c, _, rfl⟩ := List.mem_map.mp hd
  exact noL_ln c
theorem ok__law_machine (T : Txt K mg) : Cal P w K mg base L2.CX0 2 "_law_machine" ["more"] (spLawMach K) := by
  have c__law_drawn := ok__law_drawn (P := P) (w := w) (base := base) T
  refine Cal.mk0 T.d__law_machine T.m__law_machine sc__law_machine (fun _ _ _ _ _ _ us hl => match us, hl with | [_], _ => rfl) (fun vs H Q E h => ?_) (fun cdv A outer s H vs Q E hr h => ?_)
  · obtain ⟨n, rfl, _⟩ := h
    rfl
  obtain ⟨n, rfl, q⟩ := h
  refine ⟨_, (pss_cons (ps_set (i := 1) sc__law_machine.nd rfl (.inl rfl) (pe_op opN_add pe_int (pe_op opN_mod (pv 0) pe_int)))
      (pss_cons (ps_set (i := 2) sc__law_machine.nd rfl (.inl rfl) (pe_lst pa_nil))
      (pss_cons (ps_for PassesOwn.never rfl (pi_range1 (by rfl) T.b_range (pa_cons (pv 1) pa_nil)) (pg_name (i := 3) sc__law_machine.nd rfl (.inl rfl)) (pss_cons (ps_set (i := 4) sc__law_machine.nd rfl (.inl rfl) (pe_cal c__law_drawn (hr.mono (by decide)) (by rfl) pass0 (pa_cons (pv 0) (pa_cons (pv 3) pa_nil))))
      (pss_cons (ps_par (i := 5) (j := 6) (by rfl) sc__law_machine.nd rfl rfl (by decide) rfl rfl (pa_cons (pe_op opN_mod (pe_op opN_div (pv 4) pe_int) (pv 1)) (pa_cons (pe_op opN_mod (pe_op opN_div (pv 4) pe_int) (pv 1)) pa_nil)) (by rfl))
      (pss_cons (ps_set (i := 7) sc__law_machine.nd rfl (.inl rfl) (pe_ix (ixL rfl) (pe_lst (pa_cons pe_str (pa_cons pe_str (pa_cons pe_str (pa_cons pe_str (pa_cons pe_str pa_nil)))))) (pe_op opN_mod (pv 4) pe_int) (fun _ _ => rfl)))
      (pss_one (ps_if (pt_cmpR op_eq (pv 7) pe_str (nomark _)) (pss_one (ps_expr (bm rfl PySem.F.plainAttrs_list PySem.F.slot_list_append PySem.F.type_list_append mt_append (pv 2) (pa_cons (pe_tup (pa_cons pe_str pa_nil)) pa_nil)))) (pss_one (ps_expr (bm rfl PySem.F.plainAttrs_list PySem.F.slot_list_append PySem.F.type_list_append mt_append (pv 2) (pa_cons (pe_op (catD rfl) (pe_tup (pa_cons (pv 7) (pa_cons (pe_op opN_mod (pe_op opN_div (pv 4) pe_int) pe_int) (pa_cons (pv 5) pa_nil)))) (pe_op (repB rfl) (pe_tup (pa_cons (pv 6) pa_nil)) (pe_callTy call_int1 (by rfl) T.b_int boot_int (pa_cons (pe_cmpR op_eq (pv 7) pe_str (nomark _)) pa_nil)))) pa_nil))))))))))
      (pss_one (ps_ret (pv 2)))))), ?_⟩
  have hn4 : n % 4 < 4 := Nat.mod_lt _ (by decide)
  refine ⟨_, rfl, n, 4, rfl, rfl, by omega, 1, n % 4, rfl, rfl, Nat.zero_le _, fun o no => ?_⟩
  refine ⟨_, rfl, ((1 + n % 4 : Nat) : Int), rfl, by omega, by omega, ?_⟩
  have e0 : ((1 + n % 4 : Nat) : Int).toNat = 1 + n % 4 := by omega
  rw [e0]
  generalize hL : 1 + n % 4 = L at *
  have hL1 : 1 ≤ L := by omega
  have hL4 : L ≤ 4 := by omega
  refine for_it walk_nats (fun i σ H3 => ∃ (ls : List Ln) (ys : List V) (y3 y4 y5 y6 y7 : Option V), σ = [some (nI n), some (nI L), some (.ref o), y3, y4, y5, y6, y7] ∧ Same H H3 ∧ H3 o = some (.lst ys) ∧ DpAll K H3 ys (ls.map lnD) ∧ ls.length = i ∧ ls.all (·.ok L) = true) ⟨[], [], none, none, none, none, none, (by rw [← hL]; rfl), same_new no, upd_same, .nil, rfl, rfl⟩ (fun _ _ _ _ _ => trivial) ?_ ?_
  · rintro i x σ H3 H4 hi ⟨ls, ys, y3, y4, y5, y6, y7, rfl, s3, ho, hys, hli, hok⟩ ⟨rfl, rfl⟩
    have hylen : ys.length = i := by rw [dps_len hys, List.length_map, hli]
    refine ⟨_, rfl, _, rfl, (n : Int), i, rfl, by omega, fun z _ => ?_⟩
    refine ⟨_, rfl, z, 64, rfl, rfl, ⟨by decide, by decide⟩, _, rfl, z / 64, L, rfl, rfl, by omega, _, rfl, z, 512, rfl, rfl, ⟨by decide, by decide⟩, _, rfl, z / 512, L, rfl, rfl, by omega, _, _, rfl, ?_⟩
    refine ⟨(by show 5 ≤ sizeLine; decide), fun pw npw => ?_⟩
    have sw := same_new (o := .lst [.str "add", .str "take", .str "take", .str "take", .str "end"]) npw
    have hw : SqL K (upd H4 pw (.lst [.str "add", .str "take", .str "take", .str "take", .str "end"])) pw [.str "add", .str "take", .str "take", .str "take", .str "end"] := SqL.of upd_same
    have ho1 := sw _ _ ho
    have hys1 := same_dps sw hys
    have s4 := s3.trans sw
    generalize upd H4 pw (.lst [.str "add", .str "take", .str "take", .str "take", .str "end"]) = H5 at *
    have hg : z / 64 % L < L := Nat.mod_lt _ (by omega)
    have hk : z / 512 % L < L := Nat.mod_lt _ (by omega)
    have hc : z / 8 % 3 < 3 := Nat.mod_lt _ (by decide)
    have h5 : z % 5 < 5 := Nat.mod_lt _ (by decide)
    -- what is put behind
    have put : ∀ (Hx : Hp) (l : Ln) (y : V), Same H5 Hx → l.ok L = true → Dp K Hx y (lnD l) → ∃ (ls : List Ln) (ys' : List V), Same H (upd Hx o (.lst (ys ++ [y]))) ∧ (upd Hx o (.lst (ys ++ [y]))) o = some (.lst ys') ∧ DpAll K (upd Hx o (.lst (ys ++ [y]))) ys' (ls.map lnD) ∧ ls.length = i + 1 ∧ ls.all (·.ok L) = true := by
      intro Hx l y sx hl hy
      refine ⟨ls ++ [l], _, same_put (s4.trans sx) no, upd_same, ?_, by simp [hli], by rw [List.all_append, hok]; simp [hl]⟩
      rw [List.map_append]
      exact app_dp (sx _ _ ho1) (same_dps sx hys1) (noL_lns ls) hy (noL_ln l)
    obtain ⟨wd, hwd, hget⟩ : ∃ wd : Str, (wd = "add" ∨ wd = "take" ∨ wd = "end") ∧ [V.str "add", .str "take", .str "take", .str "take", .str "end"][z % 5]? = some (.str wd) := by
      rcases (show z % 5 = 0 ∨ z % 5 = 1 ∨ z % 5 = 2 ∨ z % 5 = 3 ∨ z % 5 = 4 by omega) with e | e | e | e | e
      · exact ⟨"add", .inl rfl, by rw [e]; rfl⟩
      · exact ⟨"take", .inr (.inl rfl), by rw [e]; rfl⟩
      · exact ⟨"take", .inr (.inl rfl), by rw [e]; rfl⟩
      · exact ⟨"take", .inr (.inl rfl), by rw [e]; rfl⟩
      · exact ⟨"end", .inr (.inr rfl), by rw [e]; rfl⟩
    refine ⟨_, rfl, z, 5, rfl, rfl, by omega, pw, _, ((z % 5 : Nat) : Int), .str wd, rfl, rfl, hw, atIn hget, ?_⟩
    rcases hwd with rfl | rfl | rfl
    · refine ⟨_, rfl, rfl, _, rfl, iteF ?_⟩
      refine ⟨_, rfl, .inl ⟨rfl, _, SqL.of ho1⟩, _, rfl, _, rfl, z, 8, rfl, rfl, ⟨by decide, by decide⟩, z / 8, 3, rfl, rfl, by omega, _, rfl, (by show 3 ≤ sizeLine; decide), fun p1 np1 => ?_⟩
      have s1 := same_new (o := .tup [.str "add", nI (z / 8 % 3), nI (z / 64 % L)]) np1
      have hp1 : Dp K (upd H5 p1 (.tup [.str "add", nI (z / 8 % 3), nI (z / 64 % L)])) (.ref p1) (.tuple [.str "add", nD (z / 8 % 3), nD (z / 64 % L)]) := .tup (SqT.of upd_same) (.cons (.str _) (.cons (.int _) (.cons (.int _) .nil)))
      generalize upd H5 p1 (.tup [.str "add", nI (z / 8 % 3), nI (z / 64 % L)]) = H6 at *
      refine ⟨_, rfl, (by show 1 ≤ sizeLine; decide), fun p2 np2 => ?_⟩
      have s2 := same_new (o := .tup [nI (z / 512 % L)]) np2
      have hp2 : SqT K (upd H6 p2 (.tup [nI (z / 512 % L)])) p2 [nI (z / 512 % L)] := SqT.of upd_same
      generalize upd H6 p2 (.tup [nI (z / 512 % L)]) = H7 at *
      refine ⟨_, rfl, rfl, .inr ⟨_, rfl, ?_⟩⟩
      refine ⟨p2, _, rfl, hp2, by simp, .inr ⟨rfl, fun p3 np3 => ?_⟩⟩
      have s3' := same_new (o := .tup []) np3
      refine ⟨_, _, same_dp (s2.trans s3') hp1, .tup (SqT.of upd_same) .nil, by simp, fun v8 H8 s8 h8 => ?_⟩
      refine ⟨o, ys, _, rfl, rfl, (s1.trans (s2.trans (s3'.trans s8))) _ _ ho1, (by rw [hylen]; exact Nat.lt_of_lt_of_le (show i < 100 by omega) (by decide)), ?_⟩
      obtain ⟨ls', ys', a1, a2, a3, a4, a5⟩ := put _ (.add (z / 8 % 3) (z / 64 % L)) _ (s1.trans (s2.trans (s3'.trans s8))) (by simp [Ln.ok, hc, hg, hk]) h8
      exact ⟨ls', ys', _, _, _, _, _, rfl, a1, a2, a3, a4, a5⟩
    · refine ⟨_, rfl, rfl, _, rfl, iteF ?_⟩
      refine ⟨_, rfl, .inl ⟨rfl, _, SqL.of ho1⟩, _, rfl, _, rfl, z, 8, rfl, rfl, ⟨by decide, by decide⟩, z / 8, 3, rfl, rfl, by omega, _, rfl, (by show 3 ≤ sizeLine; decide), fun p1 np1 => ?_⟩
      have s1 := same_new (o := .tup [.str "take", nI (z / 8 % 3), nI (z / 64 % L)]) np1
      have hp1 : Dp K (upd H5 p1 (.tup [.str "take", nI (z / 8 % 3), nI (z / 64 % L)])) (.ref p1) (.tuple [.str "take", nD (z / 8 % 3), nD (z / 64 % L)]) := .tup (SqT.of upd_same) (.cons (.str _) (.cons (.int _) (.cons (.int _) .nil)))
      generalize upd H5 p1 (.tup [.str "take", nI (z / 8 % 3), nI (z / 64 % L)]) = H6 at *
      refine ⟨_, rfl, (by show 1 ≤ sizeLine; decide), fun p2 np2 => ?_⟩
      have s2 := same_new (o := .tup [nI (z / 512 % L)]) np2
      have hp2 : SqT K (upd H6 p2 (.tup [nI (z / 512 % L)])) p2 [nI (z / 512 % L)] := SqT.of upd_same
      generalize upd H6 p2 (.tup [nI (z / 512 % L)]) = H7 at *
      refine ⟨_, rfl, rfl, .inr ⟨_, rfl, ?_⟩⟩
      refine ⟨p2, _, rfl, hp2, by simp, .inl ⟨rfl, ?_⟩⟩
      refine ⟨_, _, same_dp s2 hp1, .tup hp2 (.cons (.int _) .nil), by simp, fun v8 H8 s8 h8 => ?_⟩
      refine ⟨o, ys, _, rfl, rfl, (s1.trans (s2.trans s8)) _ _ ho1, (by rw [hylen]; exact Nat.lt_of_lt_of_le (show i < 100 by omega) (by decide)), ?_⟩
      obtain ⟨ls', ys', a1, a2, a3, a4, a5⟩ := put _ (.take (z / 8 % 3) (z / 64 % L) (z / 512 % L)) _ (s1.trans (s2.trans s8)) (by simp [Ln.ok, hc, hg, hk]) h8
      exact ⟨ls', ys', _, _, _, _, _, rfl, a1, a2, a3, a4, a5⟩
    · refine ⟨_, rfl, rfl, _, rfl, iteT ?_⟩
      refine ⟨_, rfl, .inl ⟨rfl, _, SqL.of ho1⟩, (by show 1 ≤ sizeLine; decide), fun p1 np1 => ?_⟩
      have s1 := same_new (o := .tup [.str "end"]) np1
      refine ⟨o, ys, _, rfl, rfl, s1 _ _ ho1, (by rw [hylen]; exact Nat.lt_of_lt_of_le (show i < 100 by omega) (by decide)), ?_⟩
      obtain ⟨ls', ys', a1, a2, a3, a4, a5⟩ := put _ .fin (.ref p1) s1 rfl (.tup (SqT.of upd_same) (.cons (.str _) .nil))
      exact ⟨ls', ys', _, _, _, _, _, rfl, a1, a2, a3, a4, a5⟩
  · rintro σ H3 ⟨ls, ys, y3, y4, y5, y6, y7, rfl, s3, ho, hys, hli, hok⟩
    refine ⟨_, rfl, q ls ?_ _ H3 s3 (.lst (SqL.of ho) hys)⟩
    unfold isMach
    rw [hli, decide_eq_true hL1, decide_eq_true hL4, hok]
    rfl
end
end Fr
namespace Fr
open PySem PySem.Spec PyProof.Rows L2
section
variable {P : Program} {w : World} {K : PySem.W.Frag} {mg : Str → Option Value} {base : Heap}
/-! ### _law_machine_run -/
def spLawMRun (K : PySem.W.Frag) : Sp := fun vs H Q _ => ∃ (v u : V) (m : Mach) (cs : List Nat) (k : Nat), vs = [v, u, nI k] ∧ Dp K H v (machD m) ∧ isMach m = true ∧ Dp K H u (ctD cs) ∧ cs.length = 3 ∧ (∀ x ∈ cs, x ≤ 100) ∧ k ≤ 500 ∧
  ∀ x H', Same H H' → Dp K H' x (.list ((mrunF m k (0, cs)).map stD)) → Q x H'
def tailM (m : Mach) : Nat → St2 → List St2
  | 0, _ => []
  | j + 1, z => mrunF m j z
def LmI (K : PySem.W.Frag) (H : Hp) (m : Mach) (cs : List Nat) (k : Nat) (ma ua o r : Addr) (j : Nat) (σ : L2.St) (H6 : Hp) : Prop :=
  ∃ (fs : List St2) (z : St2) (ys : List V) (y6 : Option V), σ = [some (.ref ma), some (.ref ua), some (nI k), some (.ref o), some (nI z.1), some (.ref r), y6] ∧ Same H H6 ∧ H6 o = some (.lst ys) ∧ DpAll K H6 ys (fs.map stD) ∧ H6 r = some (.lst (z.2.map nI)) ∧ OkSt m (100 + fs.length) z ∧ fs.length + j = k + 1 ∧ mrunF m k (0, cs) = fs ++ tailM m j z
theorem ixN_nat {n i : Nat} (h : i < n) : ixN n (i : Int) = some i := by
  unfold ixN
  rw [if_pos (by omega), if_pos (by omega)]
  rfl
theorem ok__law_machine_run (T : Txt K mg) : Cal P w K mg base L2.CX0 1 "_law_machine_run" ["machine", "counters", "most"] (spLawMRun K) := by
  refine Cal.mk0 T.d__law_machine_run T.m__law_machine_run sc__law_machine_run (fun _ _ _ _ _ _ us hl => match us, hl with | [_, _, _], _ => rfl) (fun vs H Q E h => ?_) (fun cdv A outer s H vs Q E hr h => ?_)
  · obtain ⟨v, u, m, cs, k, rfl, _⟩ := h
    rfl
  obtain ⟨v, u, m, cs, k, rfl, hd, hm, hu, hcl, hcb, hk, q⟩ := h
  refine ⟨_, (pss_cons (ps_par3 (i := 3) (j := 4) (l := 5) (by rfl) sc__law_machine_run.nd rfl rfl rfl (by decide) (by decide) (by decide) rfl rfl rfl (pa_cons (pe_lst pa_nil) (pa_cons pe_int (pa_cons (pe_callTy (listOf rfl) (by rfl) T.b_list boot_list (pa_cons (pv 1) pa_nil)) pa_nil))) (by rfl))
      (pss_cons (ps_while PassesOwn.never (pt_cmpR opN_le (pe_callB (lenS rfl) (by rfl) T.b_len PySem.boot_len (pa_cons (pv 3) pa_nil)) (pv 2) (nomark _)) (pss_cons (ps_expr (bm rfl PySem.F.plainAttrs_list PySem.F.slot_list_append PySem.F.type_list_append mt_append (pv 3) (pa_cons (pe_tup (pa_cons (pv 4) (pa_cons (pe_callTy (tupleOf rfl) (by rfl) T.b_tuple boot_tuple (pa_cons (pv 5) pa_nil)) pa_nil))) pa_nil)))
      (pss_cons (ps_set (i := 6) sc__law_machine_run.nd rfl (.inl rfl) (pe_ix (ixL rfl) (pv 0) (pv 4) (fun _ _ => rfl)))
      (pss_cons (ps_if (pt_cmpR op_eq (pe_ix (ixT rfl) (pv 6) pe_int (fun _ _ => rfl)) pe_str (nomark _)) (pss_one (ps_ret (pv 3))) pss_nil)
      (pss_one (ps_if (pt_cmpR op_eq (pe_ix (ixT rfl) (pv 6) pe_int (fun _ _ => rfl)) pe_str (nomark _)) (pss_cons (ps_asg (pe_op opN_add (pe_ix (ixL rfl) (pv 5) (pe_ix (ixT rfl) (pv 6) pe_int (fun _ _ => rfl)) (fun _ _ => rfl)) pe_int) (pg_sub (pv 5) (pe_ix (ixT rfl) (pv 6) pe_int (fun _ _ => rfl)) set_list))
      (pss_one (ps_set (i := 4) sc__law_machine_run.nd rfl (.inl rfl) (pe_ix (ixT rfl) (pv 6) pe_int (fun _ _ => rfl))))) (pss_one (ps_if (pt_cmpR opN_gt (pe_ix (ixL rfl) (pv 5) (pe_ix (ixT rfl) (pv 6) pe_int (fun _ _ => rfl)) (fun _ _ => rfl)) pe_int (nomark _)) (pss_cons (ps_asg (pe_op opN_sub (pe_ix (ixL rfl) (pv 5) (pe_ix (ixT rfl) (pv 6) pe_int (fun _ _ => rfl)) (fun _ _ => rfl)) pe_int) (pg_sub (pv 5) (pe_ix (ixT rfl) (pv 6) pe_int (fun _ _ => rfl)) set_list))
      (pss_one (ps_set (i := 4) sc__law_machine_run.nd rfl (.inl rfl) (pe_ix (ixT rfl) (pv 6) pe_int (fun _ _ => rfl))))) (pss_one (ps_set (i := 4) sc__law_machine_run.nd rfl (.inl rfl) (pe_ix (ixT rfl) (pv 6) pe_int (fun _ _ => rfl))))))))))))
      (pss_one (ps_ret (pv 3))))), ?_⟩
  obtain ⟨ma, xs, rfl, hma, hxs⟩ := dp_lst hd
  obtain ⟨ua, rfl, hua⟩ := dp_ct hu
  have hlen : xs.length = m.length := by rw [dps_len hxs, List.length_map]
  have hml := mach_len hm
  refine ⟨Nat.zero_le _, fun o no => ?_⟩
  have s1 : Same H (upd H o (.lst [])) := same_new no
  have ho1 : (upd H o (.lst [])) o = some (.lst []) := upd_same
  generalize upd H o (.lst []) = H1 at *
  refine ⟨_, rfl, ua, _, rfl, .inr (same_tup s1 hua), fun r nr => ?_⟩
  have s2 : Same H1 (upd H1 r (.lst (cs.map nI))) := same_new nr
  have hr2 : (upd H1 r (.lst (cs.map nI))) r = some (.lst (cs.map nI)) := upd_same
  have hor : o ≠ r := ne_of_none ho1 nr
  have nrH : H r = none := s1.free nr
  have ho2 := s2 _ _ ho1
  generalize upd H1 r (.lst (cs.map nI)) = H2 at *
  have s13 := s1.trans s2
  refine ⟨_, _, _, rfl, ?_⟩
  refine ⟨LmI K H m cs k ma ua o r, ⟨k + 1, [], (0, cs), [], _, rfl, s13, ho2, .nil, hr2, ⟨hml.1, hcl, fun x hx => hcb x hx⟩, by simp, rfl⟩, ?_⟩
  rintro j σ H6 ⟨fs, ⟨zi, zc⟩, ys, y6, rfl, s6, ho, hys, hrr, ⟨hz1, hz2, hz3⟩, hj, hrun⟩
  have hz1 : zi < m.length := hz1
  have hz2 : zc.length = 3 := hz2
  have hz3 : ∀ x ∈ zc, x ≤ 100 + fs.length := hz3
  have hylen : ys.length = fs.length := by rw [dps_len hys, List.length_map]
  refine ⟨_, rfl, o, _, rfl, .inl (SqL.of ho), _, rfl, fs.length, k, by rw [hylen], rfl, _, rfl, ite2 (fun hc => ?_) (fun hc => ?_)⟩
  · have hc := of_decide_eq_true hc
    obtain ⟨j, rfl⟩ : ∃ j', j = j' + 1 := ⟨j - 1, by omega⟩
    have hrun : mrunF m k (0, cs) = fs ++ mrunF m j (zi, zc) := hrun
    refine ⟨LmI K H m cs k ma ua o r j, fun σ' H' h => ⟨j, Nat.lt_succ_self j, h⟩, ?_⟩
    have hmi : m[zi]? = some m[zi] := List.getElem?_eq_getElem hz1
    have ho' := mach_ok hm (List.getElem_mem hz1)
    refine ⟨_, rfl, .inl ⟨rfl, _, SqL.of ho⟩, _, rfl, _, rfl, r, _, rfl, .inl ⟨SqL.of hrr, fun tp ntp => ?_⟩⟩
    have s7 := same_new (o := .tup (zc.map nI)) ntp
    have htp : Dp K (upd H6 tp (.tup (zc.map nI))) (.ref tp) (ctD zc) := .tup (SqT.of upd_same) (dps_nats' _)
    have ho7 := s7 _ _ ho
    have hr7 := s7 _ _ hrr
    have hys7 := same_dps s7 hys
    generalize upd H6 tp (.tup (zc.map nI)) = H7 at *
    refine ⟨(by show 2 ≤ sizeLine; decide), fun p np => ?_⟩
    have s8 := same_new (o := .tup [nI zi, .ref tp]) np
    have hp8 : Dp K (upd H7 p (.tup [nI zi, .ref tp])) (.ref p) (stD (zi, zc)) := .tup (SqT.of upd_same) (.cons (.int _) (.cons (same_dp s8 htp) .nil))
    have ho8 := s8 _ _ ho7
    have hr8 := s8 _ _ hr7
    have hys8 := same_dps s8 hys7
    have s68 := (s6.trans s7).trans s8
    generalize upd H7 p (.tup [nI zi, .ref tp]) = H8 at *
    refine ⟨o, ys, _, rfl, rfl, ho8, (by rw [hylen]; exact Nat.lt_of_lt_of_le (show fs.length < 3000 by omega) (by decide)), ?_⟩
    have hA9 : DpAll K (upd H8 o (.lst (ys ++ [.ref p]))) (ys ++ [.ref p]) ((fs ++ [(zi, zc)]).map stD) := by
      rw [List.map_append]
      exact app_dp ho8 hys8 (noL_sts fs) hp8 (noL_st _)
    have s9 : Same H (upd H8 o (.lst (ys ++ [.ref p]))) := same_put s68 no
    have ho9 : (upd H8 o (.lst (ys ++ [.ref p]))) o = some (.lst (ys ++ [.ref p])) := upd_same
    have hr9 : (upd H8 o (.lst (ys ++ [.ref p]))) r = some (.lst (zc.map nI)) := by rw [upd_ne (Ne.symm hor)]; exact hr8
    generalize upd H8 o (.lst (ys ++ [.ref p])) = H9 at *
    generalize ys ++ [.ref p] = zs at *
    obtain ⟨lv, hlv⟩ : ∃ lv, xs[zi]? = some lv := ⟨_, List.getElem?_eq_getElem (by omega)⟩
    have hlD : Dp K H9 lv (lnD m[zi]) := by
      obtain ⟨d, hd', hdp⟩ := dps_at2 (same_dps s9 hxs) hlv
      rw [List.getElem?_map, hmi] at hd'
      cases hd'
      exact hdp
    refine ⟨_, rfl, _, rfl, ma, xs, (zi : Int), lv, rfl, rfl, s9.seq hma, atIn hlv, ?_⟩
    have hw : wentM m (zi, zc) = match m[zi] with
      | .add c g => some (g, zc.set c (zc.getD c 0 + 1))
      | .take c g h => if 0 < zc.getD c 0 then some (g, zc.set c (zc.getD c 0 - 1)) else some (h, zc)
      | .fin => none := by
      unfold wentM
      show (match m[zi]? with | some (.add c g) => _ | some (.take c g h) => _ | _ => _) = _
      rw [hmi]
      cases m[zi] <;> rfl
    have hstep : ∀ t, wentM m (zi, zc) = some t → OkSt m (100 + (fs ++ [(zi, zc)]).length) t ∧ (fs ++ [(zi, zc)]).length + j = k + 1 ∧ mrunF m k (0, cs) = (fs ++ [(zi, zc)]) ++ tailM m j t := by
      intro t ht
      have hl1 : (fs ++ [(zi, zc)]).length = fs.length + 1 := by simp
      refine ⟨?_, by omega, ?_⟩
      · rw [hl1]
        exact went_ok hm ⟨hz1, hz2, hz3⟩ ht
      · rw [hrun]
        cases j with
        | zero => simp [mrunF, tailM]
        | succ j =>
          show fs ++ mrunF m (j + 1) (zi, zc) = fs ++ [(zi, zc)] ++ mrunF m j t
          conv => lhs; unfold mrunF
          rw [ht]
          simp
    have hset : ∀ (c v : Nat), c < 3 → Same H (upd H9 r (.lst ((zc.map nI).set c (nI v)))) ∧ (upd H9 r (.lst ((zc.map nI).set c (nI v)))) o = some (.lst zs) ∧ (upd H9 r (.lst ((zc.map nI).set c (nI v)))) r = some (.lst ((zc.set c v).map nI)) ∧ DpAll K (upd H9 r (.lst ((zc.map nI).set c (nI v)))) zs ((fs ++ [(zi, zc)]).map stD) := by
      intro c v hc
      refine ⟨same_put s9 nrH, by rw [upd_ne hor]; exact ho9, by rw [upd_same, List.map_set], dps_upd hr9 (noL_sts _) hA9⟩
    cases hl' : m[zi] with
    | add c g =>
      rw [hl'] at hlD ho' hw
      obtain ⟨b, rfl, hb⟩ := dp_add hlD
      have ho' := ok_add ho'
      obtain ⟨b1, b2, b3, b4⟩ := hset c (zc.getD c 0 + 1) ho'.1
      obtain ⟨c1, c2, c3⟩ := hstep _ hw
      refine ⟨_, rfl, b, _, 0, _, rfl, rfl, hb, atI0, rfl, _, rfl, iteF ?_⟩
      refine ⟨_, rfl, b, _, 0, _, rfl, rfl, hb, atI0, rfl, _, rfl, iteT ?_⟩
      refine ⟨_, rfl, _, rfl, b, _, 1, _, rfl, rfl, hb, atI1, r, _, (c : Int), _, rfl, rfl, SqL.of hr9, atIn (getD_nI (by omega)), _, 1, rfl, rfl, _, rfl, _, rfl, b, _, 1, _, rfl, rfl, hb, atI1, r, _, (c : Int), c, rfl, rfl, hr9, ixN_nat (by simp; omega), ?_⟩
      have hb2 : SqT K (upd H9 r (.lst ((zc.map nI).set c (nI (zc.getD c 0 + 1))))) b [.str "add", nI c, nI g] := sqt_upd hr9 hb
      exact ⟨_, rfl, b, _, 2, _, rfl, rfl, hb2, atI2, _, (g, _), _, _, rfl, b1, b2, b4, b3, c1, c2, c3⟩
    | take c g h =>
      rw [hl'] at hlD ho' hw
      obtain ⟨b, rfl, hb⟩ := dp_take hlD
      have ho' := ok_take ho'
      refine ⟨_, rfl, b, _, 0, _, rfl, rfl, hb, atI0, rfl, _, rfl, iteF ?_⟩
      refine ⟨_, rfl, b, _, 0, _, rfl, rfl, hb, atI0, rfl, _, rfl, iteF ?_⟩
      refine ⟨_, rfl, _, rfl, b, _, 1, _, rfl, rfl, hb, atI1, r, _, (c : Int), _, rfl, rfl, SqL.of hr9, atIn (getD_nI (by omega)), _, 0, rfl, rfl, _, rfl, ?_⟩
      dsimp only at hw
      by_cases h0 : 0 < zc.getD c 0
      · rw [if_pos h0] at hw
        rw [decide_eq_true h0]
        obtain ⟨b1, b2, b3, b4⟩ := hset c (zc.getD c 0 - 1) ho'.1
        obtain ⟨c1, c2, c3⟩ := hstep _ hw
        refine iteT ?_
        refine ⟨_, rfl, _, rfl, b, _, 1, _, rfl, rfl, hb, atI1, r, _, (c : Int), _, rfl, rfl, SqL.of hr9, atIn (getD_nI (by omega)), _, 1, rfl, rfl, h0, _, rfl, _, rfl, b, _, 1, _, rfl, rfl, hb, atI1, r, _, (c : Int), c, rfl, rfl, hr9, ixN_nat (by simp; omega), ?_⟩
        have hb2 : SqT K (upd H9 r (.lst ((zc.map nI).set c (nI (zc.getD c 0 - 1))))) b [.str "take", nI c, nI g, nI h] := sqt_upd hr9 hb
        exact ⟨_, rfl, b, _, 2, _, rfl, rfl, hb2, atI2, _, (g, _), _, _, rfl, b1, b2, b4, b3, c1, c2, c3⟩
      · rw [if_neg h0] at hw
        rw [decide_eq_false h0]
        obtain ⟨c1, c2, c3⟩ := hstep _ hw
        exact iteF ⟨_, rfl, b, _, 3, _, rfl, rfl, hb, atI3, _, (h, _), _, _, rfl, s9, ho9, hA9, hr9, c1, c2, c3⟩
    | fin =>
      rw [hl'] at hlD hw
      obtain ⟨b, rfl, hb⟩ := dp_fin hlD
      refine ⟨_, rfl, b, _, 0, _, rfl, rfl, hb, atI0, rfl, _, rfl, iteT ⟨_, rfl, q _ H9 s9 (.lst (SqL.of ho9) ?_)⟩⟩
      have e : mrunF m j (zi, zc) = [(zi, zc)] := by
        cases j with
        | zero => rfl
        | succ j =>
          unfold mrunF
          rw [hw]
      rw [hrun, e]
      exact hA9
  · have hc : ¬ fs.length ≤ k := fun z => hc (decide_eq_true z)
    obtain rfl : j = 0 := by omega
    refine ⟨_, rfl, q _ H6 s6 (.lst (SqL.of ho) ?_)⟩
    have hrun : mrunF m k (0, cs) = fs ++ [] := hrun
    rw [hrun, List.append_nil]
    exact hys
end
end Fr
namespace Fr
open PySem PySem.Spec PyProof.Rows L2
section
variable {P : Program} {w : World} {K : PySem.W.Frag} {mg : Str → Option Value} {base : Heap}
/-! ### _law_made -/
def spLawMade (K : PySem.W.Frag) : Sp := fun vs H Q _ => ∃ (v : V) (m : Mach), vs = [v] ∧ Dp K H v (machD m) ∧ isMach m = true ∧ ∀ x H', Same H H' → Dp K H' x (progD (progOf m)) → Q x H'
theorem noL_fracs (l : Prog) : noLs (l.map fracD) = true := noLs_of fun d hd => by
  obtain ⟨f, _, rfl⟩ := List.mem_map.mp hd
  exact noL_frac f
def LmdI (K : PySem.W.Frag) (H : Hp) (m : Mach) (a : Addr) (i : Nat) (σ : L2.St) (H3 : Hp) : Prop :=
  ∃ (D : Addr) (ys : List V) (y2 y3 y4 : Option V), σ = [some (.ref a), some (.ref D), y2, y3, y4] ∧ Same H H3 ∧ H D = none ∧ H3 D = some (.lst ys) ∧ DpAll K H3 ys ((((List.range m.length).map lineO) ++ linesP 0 (m.take i)).map fracD)
theorem ok__law_made (T : Txt K mg) : Cal P w K mg base L2.CX0 3 "_law_made" ["machine"] (spLawMade K) := by
  have c__law_own := ok__law_own (P := P) (w := w) (base := base) T
  have c__law_primes := ok__law_primes (P := P) (w := w) (base := base) T
  refine Cal.mk0 T.d__law_made T.m__law_made sc__law_made (fun _ _ _ _ _ _ us hl => match us, hl with | [_], _ => rfl) (fun vs H Q E h => ?_) (fun cdv A outer s H vs Q E hr h => ?_)
  · obtain ⟨v, m, rfl, _⟩ := h
    rfl
  obtain ⟨v, m, rfl, hd, hm, q⟩ := h
  refine ⟨_, (pss_cons (ps_setLc (i := 1) (own := [("line", 2)]) rfl sc__law_made.nd rfl rfl (sw_true rfl rfl rfl (by decide +kernel)) (pi_range1 (by rfl) T.b_range (pa_cons (pe_callB (lenS rfl) (by rfl) T.b_len PySem.boot_len (pa_cons (pv 0) pa_nil)) pa_nil)) (blkOk_by (own := [("line", 2)]) (N := ["machine", "found", "line", "one", "own"]) (sc := defScope s__law_made) (by decide +kernel)) (fun _ _ _ _ _ => (pg_name (i := 2) sc__law_made.nd rfl (.inl rfl))) (fun _ _ _ _ _ => pts_nil) (fun _ _ _ _ _ => (pe_cal c__law_own (hr.mono (by decide)) (by rfl) pass0 (pa_cons (pv 2) pa_nil))))
      (pss_cons (ps_for PassesOwn.never rfl (piE rfl (by rfl) T.b_enumerate (pa_cons (pv 0) pa_nil)) (pgT (n := 2) rfl rfl (pgs_cons (pg_name (i := 2) sc__law_made.nd rfl (.inl rfl)) (pgs_cons (pg_name (i := 3) sc__law_made.nd rfl (.inl rfl)) pgs_nil))) (pss_cons (ps_set (i := 4) sc__law_made.nd rfl (.inl rfl) (pe_ix (ixT rfl) (pe_cal c__law_own (hr.mono (by decide)) (by rfl) pass0 (pa_cons (pv 2) pa_nil)) pe_int (fun _ _ => rfl)))
      (pss_cons (ps_if (pt_cmpR op_eq (pe_ix (ixT rfl) (pv 3) pe_int (fun _ _ => rfl)) pe_str (nomark _)) (pss_one (ps_expr (bm rfl PySem.F.plainAttrs_list PySem.F.slot_list_append PySem.F.type_list_append mt_append (pv 1) (pa_cons (pe_tup (pa_cons pe_int (pa_cons (pv 4) pa_nil))) pa_nil)))) pss_nil)
      (pss_cons (ps_if (pt_cmpR op_eq (pe_ix (ixT rfl) (pv 3) pe_int (fun _ _ => rfl)) pe_str (nomark _)) (pss_one (ps_expr (bm rfl PySem.F.plainAttrs_list PySem.F.slot_list_append PySem.F.type_list_append mt_append (pv 1) (pa_cons (pe_tup (pa_cons (pe_op opN_mul (pe_ix (ixT rfl) (pe_cal c__law_own (hr.mono (by decide)) (by rfl) pass0 (pa_cons (pe_ix (ixT rfl) (pv 3) pe_int (fun _ _ => rfl)) pa_nil)) pe_int (fun _ _ => rfl)) (pe_ix (ixL rfl) (pe_cal0 c__law_primes (hr.mono (by decide)) (by rfl) pass0) (pe_ix (ixT rfl) (pv 3) pe_int (fun _ _ => rfl)) (fun _ _ => rfl))) (pa_cons (pv 4) pa_nil))) pa_nil)))) pss_nil)
      (pss_one (ps_if (pt_cmpR op_eq (pe_ix (ixT rfl) (pv 3) pe_int (fun _ _ => rfl)) pe_str (nomark _)) (pss_one (ps_set (i := 1) sc__law_made.nd rfl (.inl rfl) (pe_op op_cat (pv 1) (pe_lst (pa_cons (pe_tup (pa_cons (pe_ix (ixT rfl) (pe_cal c__law_own (hr.mono (by decide)) (by rfl) pass0 (pa_cons (pe_ix (ixT rfl) (pv 3) pe_int (fun _ _ => rfl)) pa_nil)) pe_int (fun _ _ => rfl)) (pa_cons (pe_op opN_mul (pv 4) (pe_ix (ixL rfl) (pe_cal0 c__law_primes (hr.mono (by decide)) (by rfl) pass0) (pe_ix (ixT rfl) (pv 3) pe_int (fun _ _ => rfl)) (fun _ _ => rfl))) pa_nil))) (pa_cons (pe_tup (pa_cons (pe_ix (ixT rfl) (pe_cal c__law_own (hr.mono (by decide)) (by rfl) pass0 (pa_cons (pe_ix (ixT rfl) (pv 3) pe_int (fun _ _ => rfl)) pa_nil)) pe_int (fun _ _ => rfl)) (pa_cons (pv 4) pa_nil))) pa_nil)))))) pss_nil))))))
      (pss_one (ps_ret (pv 1))))), ?_⟩
  obtain ⟨hl1, hl4⟩ := mach_len hm
  obtain ⟨a, xs, rfl, ha, hxs⟩ := dp_lst hd
  have hlen : xs.length = m.length := by rw [dps_len hxs, List.length_map]
  refine ⟨_, rfl, a, xs, rfl, .inl ha, xs.length, rfl, by omega, by omega, fun D hD => ?_⟩
  have en : ((xs.length : Nat) : Int).toNat = m.length := by omega
  rw [en]
  refine lc_dp (K := K) walk_nats hD (by omega) (fun _ _ => trivial) (fun i => some (fracD (lineO i))) ?_ ?_ ?_
  · intro i d e
    cases e
    exact noL_frac _
  · rintro i x H' H'' A B hi s' ⟨rfl, rfl⟩ hA hB
    refine ⟨rfl, _, rfl, i, rfl, by omega, fun b H3 s3 hb => hA _ _ _ rfl s3 (.tup (SqT.of hb) (.cons (.int _) (.cons (.int _) .nil)))⟩
  · intro H2 ys s2 hD2 hA
    have hys : DpAll K H2 ys ((((List.range m.length).map lineO) ++ linesP 0 (m.take 0)).map fracD) := by
      have e : gath (fun i => some (fracD (lineO i))) m.length = (List.range m.length).map fun i => fracD (lineO i) := by
        rw [gath_range, ← List.filterMap_eq_map]
        rfl
      rw [e] at hA
      have e2 : (((List.range m.length).map lineO) ++ linesP 0 (m.take 0)).map fracD = (List.range m.length).map fun i => fracD (lineO i) := by
        rw [List.take_zero]
        show ((List.range m.length).map lineO ++ []).map fracD = _
        rw [List.append_nil, List.map_map]
        rfl
      rw [e2]
      exact hA
    refine ⟨_, rfl, a, xs, rfl, s2.seq ha, for_it walk_enum (LmdI K H m a) ⟨D, ys, _, _, _, rfl, s2, hD, hD2, hys⟩ (fun i σ H3 _ ⟨_, _, _, _, _, _, p, _⟩ => p.seq ha) ?_ ?_⟩
    · rintro i x σ H3 H4 hi ⟨D, ys, y2, y3, y4, rfl, s3, hD0, hD3, hA3⟩ ⟨T', x1, x2, rfl, nT, rfl, e1, e2⟩
      have e1 : x1 = nI i := (Option.some.inj e1).symm
      subst e1
      have sT : Same H3 (upd H3 T' (.tup [nI i, x2])) := same_new nT
      have hT4 : SqT K (upd H3 T' (.tup [nI i, x2])) T' [nI i, x2] := SqT.of upd_same
      have hD4 := sT _ _ hD3
      have hA4 := same_dps sT hA3
      have s4 := s3.trans sT
      generalize upd H3 T' (.tup [nI i, x2]) = H4 at *
      have hi' : i < m.length := by omega
      have hx2 : Dp K H4 x2 (lnD m[i]) := by
        obtain ⟨d, hd', hdp⟩ := dps_at2 (same_dps s4 hxs) e2
        rw [List.getElem?_map, List.getElem?_eq_getElem hi'] at hd'
        cases hd'
        exact hdp
      have ho := mach_ok hm (List.getElem_mem hi')
      have hlt : ys.length ≤ 40 := by
        rw [dps_len hA4, List.length_map, List.length_append, List.length_map, List.length_range]
        have := linesP_len (m.take i) 0
        rw [List.length_take] at this
        omega
      have htk : linesP 0 (m.take (i + 1)) = linesP 0 (m.take i) ++ lineP i m[i] := by
        rw [List.take_succ_eq_append_getElem hi', linesP_app, Nat.zero_add, List.length_take, Nat.min_eq_left (by omega)]
      refine ⟨T', _, rfl, hT4, rfl, _, _, rfl, _, _, rfl, rfl, ?_⟩
      refine ⟨_, rfl, i, rfl, by omega, fun b H5 s5 hb => ⟨b, _, 0, _, rfl, rfl, SqT.of hb, atI0, ?_⟩⟩
      have s45 := s4.trans s5
      have key : ∀ c : Nat, c < 12 → atI (primes.map nI) (c : Int) = some (nI (pr c)) := fun c hc => atIn (getD_nI hc)
      have hx5 := same_dp s5 hx2
      have hD5 := s5 _ _ hD4
      have hA5 := same_dps s5 hA4
      generalize hpre : (List.range m.length).map lineO ++ linesP 0 (m.take i) = pre at *
      have hfin : ∀ H8 D8 zs y2 y3 y4, Same H H8 → H D8 = none → H8 D8 = some (.lst zs) → DpAll K H8 zs ((pre ++ lineP i m[i]).map fracD) → LmdI K H m a (i + 1) [some (.ref a), some (.ref D8), y2, y3, y4] H8 := fun H8 D8 zs y2 y3 y4 h1 h2 h3 h4 =>
        ⟨D8, zs, _, _, _, rfl, h1, h2, h3, by rw [htk, ← List.append_assoc, hpre]; exact h4⟩
      have put : ∀ (Hx : Hp) (pa : Addr) (n1 n2 : Nat), Same H5 Hx → Hx pa = none → Same H (upd (upd Hx pa (.tup [nI n1, nI n2])) D (.lst (ys ++ [.ref pa]))) ∧ (upd Hx pa (.tup [nI n1, nI n2])) D = some (.lst ys) ∧ DpAll K (upd (upd Hx pa (.tup [nI n1, nI n2])) D (.lst (ys ++ [.ref pa]))) (ys ++ [.ref pa]) ((pre ++ [(n1, n2)]).map fracD) := by
        intro Hx pa n1 n2 sx np
        have sy : Same Hx (upd Hx pa (.tup [nI n1, nI n2])) := same_new np
        have hp : Dp K (upd Hx pa (.tup [nI n1, nI n2])) (.ref pa) (fracD (n1, n2)) := .tup (SqT.of upd_same) (.cons (.int _) (.cons (.int _) .nil))
        refine ⟨same_put ((s45.trans sx).trans sy) hD0, sy _ _ (sx _ _ hD5), ?_⟩
        rw [List.map_append]
        exact app_dp (sy _ _ (sx _ _ hD5)) (same_dps (sx.trans sy) hA5) (noL_fracs _) hp (noL_frac _)
      cases hl' : m[i] with
      | add c g =>
        rw [hl'] at hx5 ho hfin
        have ho := ok_add ho
        obtain ⟨b2, rfl, hb2⟩ := dp_add hx5
        refine ⟨_, rfl, b2, _, 0, _, rfl, rfl, hb2, atI0, rfl, _, rfl, iteF ?_⟩
        refine ⟨_, rfl, b2, _, 0, _, rfl, rfl, hb2, atI0, rfl, _, rfl, iteT ?_⟩
        refine ⟨_, rfl, .inl ⟨rfl, _, SqL.of hD5⟩, _, rfl, b2, _, 2, _, rfl, rfl, hb2, atI2, g, rfl, by omega, fun b3 H6 s6 hb3 => ?_⟩
        refine ⟨b3, _, 1, _, rfl, rfl, SqT.of hb3, atI1, rfl, fun b4 nb4 => ?_⟩
        have s7 : Same H6 (upd H6 b4 (.lst (primes.map nI))) := same_new nb4
        have h7 : SqL K (upd H6 b4 (.lst (primes.map nI))) b4 (primes.map nI) := SqL.of upd_same
        generalize upd H6 b4 (.lst (primes.map nI)) = H7 at *
        have s57 := s6.trans s7
        have hb7 := same_tup s57 hb2
        refine ⟨_, rfl, b2, _, 1, _, rfl, rfl, hb7, atI1, b4, _, (c : Int), _, rfl, rfl, h7, key c (by omega), _, _, rfl, rfl, pr_log _ _, ?_⟩
        refine ⟨_, rfl, (by show 2 ≤ sizeLine; decide), fun p np => ?_⟩
        obtain ⟨t1, t2, t4⟩ := put H7 p (comP g * pr c) (ownP i) s57 np
        refine ⟨D, ys, _, rfl, rfl, t2, Nat.lt_of_le_of_lt hlt (by decide), ?_⟩
        have hb8 : SqT K (upd (upd H7 p (.tup [nI (comP g * pr c), nI (ownP i)])) D (.lst (ys ++ [.ref p]))) b2 [.str "add", nI c, nI g] := sqt_upd t2 (same_tup (same_new np) hb7)
        refine ⟨_, rfl, b2, _, 0, _, rfl, rfl, hb8, atI0, rfl, _, rfl, iteF ?_⟩
        exact hfin _ D _ _ _ _ t1 hD0 upd_same t4
      | take c g k =>
        rw [hl'] at hx5 ho hfin
        have ho := ok_take ho
        obtain ⟨b2, rfl, hb2⟩ := dp_take hx5
        refine ⟨_, rfl, b2, _, 0, _, rfl, rfl, hb2, atI0, rfl, _, rfl, iteF ?_⟩
        refine ⟨_, rfl, b2, _, 0, _, rfl, rfl, hb2, atI0, rfl, _, rfl, iteF ?_⟩
        refine ⟨_, rfl, b2, _, 0, _, rfl, rfl, hb2, atI0, rfl, _, rfl, iteT ?_⟩
        refine ⟨_, rfl, _, rfl, b2, _, 2, _, rfl, rfl, hb2, atI2, g, rfl, by omega, fun b3 H6 s6 hb3 => ?_⟩
        refine ⟨b3, _, 1, _, rfl, rfl, SqT.of hb3, atI1, _, rfl, rfl, fun b4 nb4 => ?_⟩
        have s7 : Same H6 (upd H6 b4 (.lst (primes.map nI))) := same_new nb4
        have h7 : SqL K (upd H6 b4 (.lst (primes.map nI))) b4 (primes.map nI) := SqL.of upd_same
        generalize upd H6 b4 (.lst (primes.map nI)) = H7 at *
        have s57 := s6.trans s7
        have hb7 := same_tup s57 hb2
        refine ⟨_, rfl, b2, _, 1, _, rfl, rfl, hb7, atI1, b4, _, (c : Int), _, rfl, rfl, h7, key c (by omega), _, _, rfl, rfl, pr_log _ _, ?_⟩
        refine ⟨(by show 2 ≤ sizeLine; decide), fun p np => ?_⟩
        have s8 : Same H7 (upd H7 p (.tup [nI (comP g), nI (ownP i * pr c)])) := same_new np
        have hp8 : Dp K (upd H7 p (.tup [nI (comP g), nI (ownP i * pr c)])) (.ref p) (fracD (comP g, ownP i * pr c)) := .tup (SqT.of upd_same) (.cons (.int _) (.cons (.int _) .nil))
        generalize upd H7 p (.tup [nI (comP g), nI (ownP i * pr c)]) = H8 at *
        have s58 := s57.trans s8
        refine ⟨_, rfl, b2, _, 3, _, rfl, rfl, same_tup s58 hb2, atI3, k, rfl, by omega, fun b5 H9 s9 hb5 => ?_⟩
        refine ⟨b5, _, 1, _, rfl, rfl, SqT.of hb5, atI1, _, rfl, (by show 2 ≤ sizeLine; decide), fun p2 np2 => ?_⟩
        have s10 : Same H9 (upd H9 p2 (.tup [nI (comP k), nI (ownP i)])) := same_new np2
        have hp10 : Dp K (upd H9 p2 (.tup [nI (comP k), nI (ownP i)])) (.ref p2) (fracD (comP k, ownP i)) := .tup (SqT.of upd_same) (.cons (.int _) (.cons (.int _) .nil))
        generalize upd H9 p2 (.tup [nI (comP k), nI (ownP i)]) = H10 at *
        refine ⟨(by show 2 ≤ sizeLine; decide), fun p3 np3 => ?_⟩
        have s11 : Same H10 (upd H10 p3 (.lst [.ref p, .ref p2])) := same_new np3
        have h11 : (upd H10 p3 (.lst [.ref p, .ref p2])) p3 = some (.lst [.ref p, .ref p2]) := upd_same
        generalize upd H10 p3 (.lst [.ref p, .ref p2]) = H11 at *
        have s8b := (s9.trans s10).trans s11
        have s5b := s58.trans s8b
        refine ⟨D, p3, ys, _, rfl, rfl, s5b _ _ hD5, h11, Nat.le_trans (show ys.length + 2 ≤ 100 by omega) (by decide), fun p4 np4 => ?_⟩
        have s12 : Same H11 (upd H11 p4 (.lst (ys ++ [.ref p, .ref p2]))) := same_new np4
        refine hfin _ p4 _ _ _ _ (s45.trans (s5b.trans s12)) ((s45.trans s5b).free np4) upd_same ?_
        rw [List.map_append]
        exact dps_app (same_dps (s5b.trans s12) hA5) (.cons (same_dp (s8b.trans s12) hp8) (.cons (same_dp (s11.trans s12) hp10) .nil))
      | fin =>
        rw [hl'] at hx5 hfin
        obtain ⟨b2, rfl, hb2⟩ := dp_fin hx5
        refine ⟨_, rfl, b2, _, 0, _, rfl, rfl, hb2, atI0, rfl, _, rfl, iteT ?_⟩
        refine ⟨_, rfl, .inl ⟨rfl, _, SqL.of hD5⟩, _, rfl, (by show 2 ≤ sizeLine; decide), fun p np => ?_⟩
        obtain ⟨t1, t2, t4⟩ := put H5 p 1 (ownP i) (Same.refl _) np
        refine ⟨D, ys, _, rfl, rfl, t2, Nat.lt_of_le_of_lt hlt (by decide), ?_⟩
        have hb8 : SqT K (upd (upd H5 p (.tup [nI 1, nI (ownP i)])) D (.lst (ys ++ [.ref p]))) b2 [.str "end"] := sqt_upd t2 (same_tup (same_new np) hb2)
        refine ⟨_, rfl, b2, _, 0, _, rfl, rfl, hb8, atI0, rfl, _, rfl, iteF ?_⟩
        refine ⟨_, rfl, b2, _, 0, _, rfl, rfl, hb8, atI0, rfl, _, rfl, iteF ?_⟩
        exact hfin _ D _ _ _ _ t1 hD0 upd_same t4
    · rintro σ H3 ⟨D, ys, y2, y3, y4, rfl, s3, hD0, hD3, hA3⟩
      refine ⟨_, rfl, q _ H3 s3 (.lst (SqL.of hD3) ?_)⟩
      have e : m.take xs.length = m := by rw [hlen, List.take_length]
      rw [e] at hA3
      exact hA3
end
end Fr
namespace Fr
open PySem PySem.Spec PyProof.Rows L2 LamX
/-! ### the world goes on: all but tables stays, the tables are good -/
structure Stp (T : List (Addr × Str)) (H H' : Hp) : Prop where
  e : ExtN H H'
  t : Tabs T H'
theorem Stp.same {T : List (Addr × Str)} {H H' H'' : Hp} (a : Stp T H H') (s : Same H' H'') : Stp T H H'' := ⟨a.e.trans (ext_same s), ext_tabs a.t s⟩
theorem Stp.told {T : List (Addr × Str)} {H H' H'' : Hp} (a : Stp T H H') (e : ExtN H' H'') (t : Tabs T H'') : Stp T H H'' := ⟨a.e.trans e, t⟩
theorem Stp.trans {T : List (Addr × Str)} {H H' H'' : Hp} (a : Stp T H H') (b : Stp T H' H'') : Stp T H H'' := ⟨a.e.trans b.e, b.t⟩
theorem Stp.refl {T : List (Addr × Str)} {H : Hp} (t : Tabs T H) : Stp T H H := ⟨ExtN.refl H, t⟩
theorem ext_lst {H H' : Hp} {a : Addr} {xs : List V} (e : ExtN H H') (h : H a = some (.lst xs)) : H' a = some (.lst xs) := e _ _ h (fun _ z => by cases z)
theorem ext_tup {H H' : Hp} {a : Addr} {xs : List V} (e : ExtN H H') (h : H a = some (.tup xs)) : H' a = some (.tup xs) := e _ _ h (fun _ z => by cases z)
theorem xtold {K : PySem.W.Frag} {n : Str} {Q : VK} {H' : Hp} (hn : n ∈ words) (q : ∀ H'', Same H' H'' → Q (.str n) H'') : Hl.XTold (Nm K words) Q (.ref (ga K n)) none H' := ⟨_, n, rfl, rfl, ⟨hn, rfl⟩, q⟩
/-- the texts of the classes -/
theorem strOk_BN : PyData.strOk "BadNumber" = true := by decide +kernel
theorem strOk_BP : PyData.strOk "BadProgram" = true := by decide +kernel
theorem strOk_TG : PyData.strOk "TooGreat" = true := by decide +kernel
theorem strOk_BM : PyData.strOk "BadMachine" = true := by decide +kernel
theorem strOk_BT : PyData.strOk "BadText" = true := by decide +kernel
theorem strOk_No : PyData.strOk "Nothing" = true := by decide +kernel
theorem pow_small {b : Nat} (h : b ≤ 1000) : ((2 : Nat) ^ b).log2 < 1001 := by
  rw [Nat.log2_two_pow]
  omega
theorem tabs_put {T : List (Addr × Str)} {H : Hp} {p : Addr} {xs : List V} {o : HO} (t : Tabs T H) (h : H p = some (.lst xs)) : Tabs T (upd H p o) := fun q hq => by
  obtain ⟨ps, h1, h2, h3⟩ := t q hq
  refine ⟨ps, by rw [upd_ne (ne_of h1 h (by intro z; cases z))]; exact h1, h2, fun pos cv hc => ?_⟩
  obtain ⟨c, e1, e2⟩ := h3 pos cv hc
  exact ⟨c, e1, by rw [upd_ne (ne_of e2 h (by intro z; cases z))]; exact e2⟩
/-- a list of one's own, that no one else has -/
structure Own (T : List (Addr × Str)) (K : PySem.W.Frag) (H0 : Hp) (p : Addr) (ds : List PyData) (H : Hp) : Prop where
  st : Stp T H0 H
  ap : ∀ o, H0 p = some o → (∀ ps, o ≠ .tbl ps) → False
  lst : ∃ vs, H p = some (.lst vs) ∧ DpAll K H vs ds
  no : noLs ds = true
theorem Own.new {T : List (Addr × Str)} {K : PySem.W.Frag} {H0 H : Hp} {p : Addr} {ds : List PyData} {vs : List V} (a : Stp T H0 H) (np : H p = none) (h : DpAll K H vs ds) (no : noLs ds = true) : Own T K H0 p ds (upd H p (.lst vs)) :=
  ⟨a.same (same_new np), (fun o h1 h2 => by
    have := a.e _ _ h1 h2
    rw [np] at this
    cases this), ⟨vs, upd_same, same_dps (same_new np) h⟩, no⟩
theorem Own.go {T : List (Addr × Str)} {K : PySem.W.Frag} {H0 H H' : Hp} {p : Addr} {ds : List PyData} (a : Own T K H0 p ds H) (e : ExtN H H') (t : Tabs T H') : Own T K H0 p ds H' := by
  obtain ⟨vs, h1, h2⟩ := a.lst
  exact ⟨a.st.told e t, a.ap, ⟨vs, ext_lst e h1, ext_dps e h2⟩, a.no⟩
theorem Own.same {T : List (Addr × Str)} {K : PySem.W.Frag} {H0 H H' : Hp} {p : Addr} {ds : List PyData} (a : Own T K H0 p ds H) (s : Same H H') : Own T K H0 p ds H' := a.go (ext_same s) (ext_tabs a.st.t s)
theorem Own.put {T : List (Addr × Str)} {K : PySem.W.Frag} {H0 H : Hp} {p : Addr} {ds : List PyData} {d : PyData} {y : V} {vs : List V} (a : Own T K H0 p ds H) (h : H p = some (.lst vs)) (hd : Dp K H y d) (no : noL d = true) : Own T K H0 p (ds ++ [d]) (upd H p (.lst (vs ++ [y]))) := by
  obtain ⟨vs', h1, h2⟩ := a.lst
  rw [h] at h1
  cases h1
  refine ⟨⟨fun b o h1 h3 => ?_, tabs_put a.st.t h⟩, a.ap, ⟨_, upd_same, app_dp h h2 a.no hd no⟩, by rw [noLs_app, a.no, noLs, no]; simp [noLs]⟩
  rw [upd_ne fun e => a.ap o (by rw [← e]; exact h1) h3]
  exact a.st.e _ _ h1 h3
theorem Own.dp {T : List (Addr × Str)} {K : PySem.W.Frag} {H0 H : Hp} {p : Addr} {ds : List PyData} (a : Own T K H0 p ds H) : Dp K H (.ref p) (.list ds) := by
  obtain ⟨vs, h1, h2⟩ := a.lst
  exact .lst (SqL.of h1) h2
theorem Own.len {T : List (Addr × Str)} {K : PySem.W.Frag} {H0 H : Hp} {p : Addr} {ds : List PyData} {vs : List V} (a : Own T K H0 p ds H) (h : H p = some (.lst vs)) : vs.length = ds.length := by
  obtain ⟨vs', h1, h2⟩ := a.lst
  rw [h] at h1
  cases h1
  exact dps_len h2
end Fr
namespace Fr
open PySem PySem.Spec PyProof.Rows L2 LamX
/-! ### promises at right things, and at wrong ones -/
theorem nD_inj {n m : Nat} (h : nD n = nD m) : n = m := by
  have := PyData.int.inj h
  omega
theorem fracD_inj {x y : Nat × Nat} (h : fracD x = fracD y) : x = y := by
  have h1 := PyData.tuple.inj h
  injection h1 with h2 h3
  injection h3 with h4 h5
  have h6 := PyData.int.inj h2
  have h7 := PyData.int.inj h4
  exact Prod.ext (by omega) (by omega)
theorem progD_inj {l l' : Prog} (h : progD l = progD l') : l = l' := (List.map_inj_right fun _ _ => fracD_inj).mp (PyData.list.inj h)
theorem progD_prog {l : Prog} (h : isProg l = true) : isProgD (progD l) = true := by
  show (decide ((l.map fracD).length ≤ 16) && (l.map fracD).all isFracD) = true
  have h1 := isProg_iff.mp h
  rw [List.length_map, decide_eq_true h1.1, Bool.true_and, List.all_map, List.all_eq_true]
  intro p hp
  have h2 := isFrac_iff.mp (h1.2 p hp)
  show (isNumD (nD p.1) && isNumD (nD p.2) && (decide (max (p.1 : Int).toNat (p.2 : Int).toNat ≤ 1000000) && decide (Nat.gcd (p.1 : Int).toNat (p.2 : Int).toNat = 1))) = true
  rw [isNumD_nat, isNumD_nat, h2.1, h2.2.1, Int.toNat_natCast, Int.toNat_natCast, decide_eq_true (by omega), decide_eq_true h2.2.2.2.2]
  rfl
theorem numD_num {n : Nat} (h : isNum n = true) : isNumD (nD n) = true := by rw [isNumD_nat]; exact h
theorem no_yes {b : Bool} (h : b = false) (h' : b = true) : False := by rw [h] at h'; cases h'
section
variable {K : PySem.W.Frag} {H : Hp} {Q : VK} {E : XK} {v u c : V} {l : Prog} {n m : Nat} {d e g : PyData}
theorem run_good (hd : Dp K H v (progD l)) (hP : isProg l = true) (hN : isNum n = true) (hm : m ≤ 2000) {r : List Nat} (hr : runF l m n = some r) (q : ∀ p H', Same H H' → H p = none → H' p = some (.lst (r.map nI)) → Q (.ref p) H') : spRun K [v, nI n, nI m] H Q E :=
  ⟨v, nI n, nI m, progD l, nD n, nD m, rfl, hd, .int _, .int _, fun z => (no_yes z (progD_prog hP)).elim, fun _ z => (no_yes z (numD_num hN)).elim, fun _ _ z => (no_yes z (count_yes hm)).elim, fun l' n' m' el en em _ _ _ => by
    obtain rfl := progD_inj el
    obtain rfl := nD_inj en
    obtain rfl := nD_inj em
    exact ⟨fun r' hr' => by rw [hr] at hr'; cases hr'; exact q, fun z => by rw [hr] at z; cases z⟩⟩
theorem run_great (hd : Dp K H v (progD l)) (hP : isProg l = true) (hN : isNum n = true) (hm : m ≤ 2000) (hr : runF l m n = none) (q : ∀ H', Same H H' → E (.ref (ga K "TooGreat")) none H') : spRun K [v, nI n, nI m] H Q E :=
  ⟨v, nI n, nI m, progD l, nD n, nD m, rfl, hd, .int _, .int _, fun z => (no_yes z (progD_prog hP)).elim, fun _ z => (no_yes z (numD_num hN)).elim, fun _ _ z => (no_yes z (count_yes hm)).elim, fun l' n' m' el en em _ _ _ => by
    obtain rfl := progD_inj el
    obtain rfl := nD_inj en
    obtain rfl := nD_inj em
    exact ⟨fun r' hr' => absurd (hr.symm.trans hr') (fun z => nomatch z), fun _ => q⟩⟩
/-- where a run ends -/
def endO (l : Prog) (r : List Nat) : Option Nat := r.getLast?.bind fun z => if led l z = none then some z else none
theorem end_good (hd : Dp K H v (progD l)) (hP : isProg l = true) (hN : isNum n = true) (hm : m ≤ 2000) {r : List Nat} (hr : runF l m n = some r) (q : ∀ H', Same H H' → Q (optV (endO l r)) H') : spEnd K [v, nI n, nI m] H Q E :=
  ⟨v, nI n, nI m, progD l, nD n, nD m, rfl, hd, .int _, .int _, fun z => (no_yes z (progD_prog hP)).elim, fun _ z => (no_yes z (numD_num hN)).elim, fun _ _ z => (no_yes z (count_yes hm)).elim, fun l' n' m' el en em _ _ _ => by
    obtain rfl := progD_inj el
    obtain rfl := nD_inj en
    obtain rfl := nD_inj em
    refine ⟨fun r' z hr' H1 s1 => ?_, fun z => by rw [hr] at z; cases z⟩
    rw [hr] at hr'
    cases hr'
    have := q H1 s1
    unfold endO at this
    rw [List.getLast?_concat, Option.bind_some] at this
    split
    · rename_i h
      rw [if_pos h] at this
      exact this
    · rename_i h
      rw [if_neg h] at this
      exact this⟩
end
end Fr
namespace Fr
open PySem PySem.Spec PyProof.Rows L2 LamX
def shpB (d : PyData) : Bool := d.canLay0 && decide (d.depth ≤ 40)
theorem shpB_ok {d : PyData} (h : shpB d = true) : Shp 40 d := by
  obtain ⟨a, b⟩ := Bool.and_eq_true_iff.mp h
  exact ⟨a, of_decide_eq_true b⟩
def wordB : PyData → Bool
  | .tuple (.str x :: _) => decide (x = "add") || (decide (x = "take") || (decide (x = "end") || decide (x = "stop")))
  | _ => true
def wordsB : PyData → Bool
  | .list ds => ds.all wordB
  | _ => true
theorem wordB_ok {d : PyData} (h : wordB d = true) : WordD d := by
  unfold WordD
  unfold wordB at h
  split
  · simpa using h
  · trivial
theorem wordsB_ok {d : PyData} (h : wordsB d = true) : WordsD d := by
  unfold WordsD
  unfold wordsB at h
  split
  · rename_i ds
    exact fun e he => wordB_ok (List.all_eq_true.mp h e he)
  · trivial
theorem strOk_add : PyData.strOk "add" = true := by decide +kernel
theorem strOk_take : PyData.strOk "take" = true := by decide +kernel
theorem strOk_end : PyData.strOk "end" = true := by decide +kernel
theorem shp_ln {k : Nat} (l : Ln) : Shp (k + 1) (lnD l) := by
  cases l with
  | add c g => exact .tup (.cons (.str strOk_add) (.cons .int (.cons .int .nil)))
  | take c g h => exact .tup (.cons (.str strOk_take) (.cons .int (.cons .int (.cons .int .nil))))
  | fin => exact .tup (.cons (.str strOk_end) .nil)
theorem shp_lns {k : Nat} (m : Mach) : ∀ e ∈ m.map lnD, Shp (k + 1) e := .map fun l _ => shp_ln l
theorem shp_mach (m : Mach) : Shp 40 (machD m) := .lst (k := 39) (shp_lns m)
theorem words_mach (m : Mach) : WordsD (machD m) := fun e he => by
  obtain ⟨l, _, rfl⟩ := List.mem_map.mp he
  cases l with
  | add c g => exact .inl rfl
  | take c g h => exact .inr (.inl rfl)
  | fin => exact .inr (.inr (.inl rfl))
theorem shp_ct {k : Nat} (cs : List Nat) : Shp (k + 1) (ctD cs) := .tup (.nats cs)
theorem shp_st {k : Nat} (s : St2) : Shp (k + 2) (stD s) := .tup (.cons .int (.cons (shp_ct _) .nil))
theorem isCount_nat {k b : Nat} (h : k ≤ b) : isCountD 0 (b : Int) (nD k) = true := count_yes h
theorem lineD_ok {n : Nat} (hn : 1 ≤ n) {l : Ln} (h : l.ok n = true) : isLineD n (lnD l) = true := by
  cases l with
  | add c g =>
    have ho := ok_add h
    show (decide (([nD c, nD g] : List PyData).length + 1 = 3) && (decide (("add" : Str) = "end") || (isCountD 0 2 (nD c) && ([nD g] : List PyData).all (isCountD 0 ((n - 1 : Nat) : Int))))) = true
    rw [show isCountD 0 2 (nD c) = true from isCount_nat (b := 2) (by omega)]
    simp only [List.all_cons, List.all_nil]
    rw [isCount_nat (by omega)]
    rfl
  | take c g k =>
    have ho := ok_take h
    show (decide (([nD c, nD g, nD k] : List PyData).length + 1 = 4) && (decide (("take" : Str) = "end") || (isCountD 0 2 (nD c) && ([nD g, nD k] : List PyData).all (isCountD 0 ((n - 1 : Nat) : Int))))) = true
    rw [show isCountD 0 2 (nD c) = true from isCount_nat (b := 2) (by omega)]
    simp only [List.all_cons, List.all_nil]
    rw [isCount_nat (by omega), isCount_nat (by omega)]
    rfl
  | fin => rfl
theorem machD_mach {m : Mach} (h : isMach m = true) : isMachD (machD m) = true := by
  have hl := mach_len h
  show ((decide (1 ≤ (m.map lnD).length) && decide ((m.map lnD).length ≤ 4)) && (m.map lnD).all (isLineD (m.map lnD).length)) = true
  rw [List.length_map, decide_eq_true hl.1, decide_eq_true hl.2, List.all_map]
  show (m.all (isLineD m.length ∘ lnD)) = true
  rw [List.all_eq_true]
  intro l hl'
  exact lineD_ok hl.1 (mach_ok h hl')
theorem ctrD_ctr {cs : List Nat} (h : cs.length = 3) (hb : ∀ x ∈ cs, x ≤ 100) : isCtrD (ctD cs) = true := by
  show (decide ((cs.map nD).length = 3) && (cs.map nD).all (isCountD 0 100)) = true
  rw [List.length_map, decide_eq_true h, List.all_map, Bool.true_and, List.all_eq_true]
  exact fun x hx => isCount_nat (hb x hx)
theorem lnD_inj {a b : Ln} (h : lnD a = lnD b) : a = b := by
  cases a <;> cases b <;> simp [lnD] at h <;> first | rfl | (obtain ⟨h1, h2, h3⟩ := h; congr 1 <;> omega) | (obtain ⟨h1, h2⟩ := h; congr 1 <;> omega)
theorem machD_inj {m m' : Mach} (h : machD m = machD m') : m = m' := (List.map_inj_right fun _ _ => lnD_inj).mp (PyData.list.inj h)
theorem ctD_inj {m m' : List Nat} (h : ctD m = ctD m') : m = m' := (List.map_inj_right fun _ _ => nD_inj).mp (PyData.tuple.inj h)
section
variable {K : PySem.W.Frag} {H : Hp} {Q : VK} {E : XK} {v u c : V} {m : Mach} {cs : List Nat} {n k : Nat} {d e g : PyData}
theorem needM_good (hd : Dp K H v (machD m)) (hm : isMach m = true) (q : ∀ H', Same H H' → Q .non H') : spNeedM K [v] H Q E :=
  ⟨v, machD m, rfl, hd, shp_mach m, words_mach m, fun _ => q, fun z => (no_yes z (machD_mach hm)).elim⟩
theorem needM_bad (hd : Dp K H v d) (hs : Shp 40 d) (hw : WordsD d) (hb : isMachD d = false) (q : ∀ H', Same H H' → E (.ref (ga K "BadMachine")) none H') : spNeedM K [v] H Q E :=
  ⟨v, d, rfl, hd, hs, hw, fun z => (no_yes hb z).elim, fun _ => q⟩
theorem progOf_good (hd : Dp K H v (machD m)) (hm : isMach m = true) (q : ∀ x H', Same H H' → Dp K H' x (progD (progOf m)) → Q x H') : spProgOf K [v] H Q E :=
  ⟨v, machD m, rfl, hd, shp_mach m, words_mach m, fun z => (no_yes z (machD_mach hm)).elim, fun m' em _ => by obtain rfl := machD_inj em; exact q⟩
theorem progOf_bad (hd : Dp K H v d) (hs : Shp 40 d) (hw : WordsD d) (hb : isMachD d = false) (q : ∀ H', Same H H' → E (.ref (ga K "BadMachine")) none H') : spProgOf K [v] H Q E :=
  ⟨v, d, rfl, hd, hs, hw, fun _ => q, fun m' em hm => by subst em; exact (no_yes hb (machD_mach hm)).elim⟩
theorem mrun_good (hd : Dp K H v (machD m)) (hm : isMach m = true) (hc : Dp K H u (ctD cs)) (hl : cs.length = 3) (hb : ∀ x ∈ cs, x ≤ 100) (hk : k ≤ 500) (q : ∀ x H', Same H H' → Dp K H' x (.list ((mrunF m k (0, cs)).map stD)) → Q x H') : spMRun K [v, u, nI k] H Q E :=
  ⟨v, u, nI k, machD m, ctD cs, nD k, rfl, hd, hc, .int _, shp_mach m, words_mach m, fun z => (no_yes z (machD_mach hm)).elim, fun _ z => (no_yes z (ctrD_ctr hl hb)).elim, fun _ _ z => (no_yes z (isCount_nat hk)).elim, fun m' cs' k' em ec ek _ _ _ _ => by
    obtain rfl := machD_inj em
    obtain rfl := ctD_inj ec
    obtain rfl := nD_inj ek
    exact q⟩
theorem mrun_badM (hd : Dp K H v d) (he : Dp K H u e) (hg : Dp K H c g) (hs : Shp 40 d) (hw : WordsD d) (hb : isMachD d = false) (q : ∀ H', Same H H' → E (.ref (ga K "BadMachine")) none H') : spMRun K [v, u, c] H Q E :=
  ⟨v, u, c, d, e, g, rfl, hd, he, hg, hs, hw, fun _ => q, fun z => (no_yes hb z).elim, fun z => (no_yes hb z).elim, fun m' _ _ em _ _ hm _ _ _ => by subst em; exact (no_yes hb (machD_mach hm)).elim⟩
theorem mrun_badC (hd : Dp K H v (machD m)) (hm : isMach m = true) (he : Dp K H u e) (hg : Dp K H c g) (hb : isCtrD e = false) (q : ∀ H', Same H H' → E (.ref (ga K "BadMachine")) none H') : spMRun K [v, u, c] H Q E :=
  ⟨v, u, c, machD m, e, g, rfl, hd, he, hg, shp_mach m, words_mach m, fun z => (no_yes z (machD_mach hm)).elim, fun _ _ => q, fun _ z => (no_yes hb z).elim, fun m' cs' _ _ ec _ _ hl hb' _ => by subst ec; exact (no_yes hb (ctrD_ctr hl hb')).elim⟩
theorem mrun_badK (hd : Dp K H v (machD m)) (hm : isMach m = true) (he : Dp K H u e) (hc : isCtrD e = true) (hg : Dp K H c g) (hb : isCountD 0 500 g = false) (q : ∀ H', Same H H' → E (.ref (ga K "BadNumber")) none H') : spMRun K [v, u, c] H Q E :=
  ⟨v, u, c, machD m, e, g, rfl, hd, he, hg, shp_mach m, words_mach m, fun z => (no_yes z (machD_mach hm)).elim, fun _ z => (no_yes z hc).elim, fun _ _ _ => q, fun m' cs' k' _ _ ek _ _ _ hk => by subst ek; exact (no_yes hb (isCount_nat hk)).elim⟩
theorem start_good (hd : Dp K H v (ctD cs)) (hl : cs.length = 3) (hb : ∀ x ∈ cs, x ≤ 100) (q : ∀ H', Same H H' → Q (nI (stN (0, cs))) H') : spStart K [v] H Q E :=
  ⟨v, ctD cs, rfl, hd, fun z => (no_yes z (ctrD_ctr hl hb)).elim, fun cs' ec _ _ => by obtain rfl := ctD_inj ec; exact q⟩
theorem start_bad (hd : Dp K H v d) (hb : isCtrD d = false) (q : ∀ H', Same H H' → E (.ref (ga K "BadMachine")) none H') : spStart K [v] H Q E :=
  ⟨v, d, rfl, hd, fun _ => q, fun cs' ec hl hb' => by subst ec; exact (no_yes hb (ctrD_ctr hl hb')).elim⟩
theorem cin_good (hn : isNum n = true) (q : ∀ x H', Same H H' → Dp K H' x (.tuple [ctD ((rooms n).take 3), optD (lnsOf n).head?]) → Q x H') : spCountersIn K [nI n] H Q E :=
  ⟨nI n, nD n, rfl, .int _, fun z => (no_yes z (numD_num hn)).elim, fun n' en _ => by obtain rfl := nD_inj en; exact q⟩
theorem cin_bad (hd : Dp K H v d) (hb : isNumD d = false) (q : ∀ H', Same H H' → E (.ref (ga K "BadNumber")) none H') : spCountersIn K [v] H Q E :=
  ⟨v, d, rfl, hd, fun _ => q, fun n' en hn => by subst en; exact (no_yes hb (numD_num hn)).elim⟩
end
end Fr
namespace Fr
open PySem PySem.Spec PyProof.Rows L2 LamX
theorem dps_rep {K : PySem.W.Frag} {H : Hp} {vs : List V} {ds : List PyData} (h : DpAll K H vs ds) : ∀ n, DpAll K H (List.replicate n vs).flatten (List.replicate n ds).flatten
  | 0 => .nil
  | n + 1 => by
    rw [List.replicate_succ, List.replicate_succ, List.flatten_cons, List.flatten_cons]
    exact dps_app h (dps_rep h n)
theorem dp_reps {K : PySem.W.Frag} {H : Hp} {x : Str} (n : Nat) : DpAll K H (List.replicate n [V.str x]).flatten (List.replicate n (PyData.str x)) := by
  induction n with
  | zero => exact .nil
  | succ n ih =>
    rw [List.replicate_succ, List.replicate_succ, List.flatten_cons]
    exact .cons (.str _) ih
theorem nats_of {b : Nat} : ∀ {ds : List PyData}, (∀ (i : Nat) (d : PyData), ds[i]? = some d → ∃ a : Nat, d = nD a ∧ a ≤ b) → ∃ as : List Nat, ds = as.map nD ∧ ∀ a ∈ as, a ≤ b := by
  intro ds
  induction ds with
  | nil => intro _; exact ⟨[], rfl, fun a h => nomatch h⟩
  | cons d ds ih =>
    intro h
    obtain ⟨a, rfl, ha⟩ := h 0 d rfl
    obtain ⟨as, rfl, hb⟩ := ih fun i d e => h (i + 1) d e
    refine ⟨a :: as, rfl, fun x hx => ?_⟩
    rcases List.mem_cons.mp hx with rfl | hx
    · exact ha
    · exact hb x hx
theorem atL {xs : List V} {x : V} (h : xs.getLast? = some x) : atI xs (-1) = some x := by
  obtain ⟨r, rfl⟩ : ∃ r, xs = r ++ [x] := List.getLast?_eq_some_iff.mp h
  have e : ixN (r ++ [x]).length (-1) = some r.length := by
    rw [List.length_append]
    unfold ixN
    rw [if_neg (by decide), if_pos (by show -((r.length + 1 : Nat) : Int) ≤ -1; omega)]
    show some (-1 + ((r.length + 1 : Nat) : Int)).toNat = _
    congr 1
    omega
  unfold atI
  rw [e]
  show (r ++ [x])[r.length]? = some x
  simp
theorem dps_last {K : PySem.W.Frag} {H : Hp} {ds : List PyData} {vs : List V} {d : PyData} (h : DpAll K H vs ds) (hd : ds.getLast? = some d) : ∃ v, vs.getLast? = some v ∧ Dp K H v d := by
  rw [List.getLast?_eq_getElem?] at hd
  obtain ⟨v, hv, hp⟩ := dps_at h hd
  exact ⟨v, by rw [List.getLast?_eq_getElem?, dps_len h]; exact hv, hp⟩
end Fr
namespace Fr
open PySem PySem.Spec PyProof.Rows L2 LamX
section
variable {P : Program} {w : World} {K : PySem.W.Frag} {mg : Str → Option Value} {base : Heap}
/-! ### _law_refused -/
abbrev noM1 (m : Mach) : List PyData := [.none, .list [], .tuple (m.map lnD), .list (List.replicate 5 [PyData.tuple [.str "end"]]).flatten, .list [.tuple [.str "stop"]], .list [.tuple [.str "end", .int 0]], .list [.list [.str "end"]], .list [.tuple [.str "add", .int 3, .int 0]]]
abbrev noM2 : List PyData := [.list [.tuple [.str "add", .int 0, .int 1]], .list [.tuple [.str "add", .int 0]], .list [.tuple [.str "take", .int 0, .int 0]], .list [.tuple [.str "take", .int 0, .int 0, .int 1]], .list [.tuple [.str "add", .bool true, .int 0]]]
abbrev noM3 : List PyData := [.list [.tuple []], .list [.tuple [.str "take", .int 0, .int (-1), .int 0]]]
theorem no_machs (m : Mach) : ∀ d ∈ noM1 m ++ noM2 ++ noM3, isMachD d = false ∧ Shp 40 d ∧ WordsD d := by
  have key : ∀ d ∈ ([.none, .list [], .list (List.replicate 5 [PyData.tuple [.str "end"]]).flatten, .list [.tuple [.str "stop"]], .list [.tuple [.str "end", .int 0]], .list [.list [.str "end"]], .list [.tuple [.str "add", .int 3, .int 0]]] ++ noM2 ++ noM3 : List PyData), isMachD d = false ∧ shpB d = true ∧ wordsB d = true := by decide +kernel
  have two : ∀ d ∈ noM1 m ++ noM2 ++ noM3, d = .tuple (m.map lnD) ∨ d ∈ ([.none, .list [], .list (List.replicate 5 [PyData.tuple [.str "end"]]).flatten, .list [.tuple [.str "stop"]], .list [.tuple [.str "end", .int 0]], .list [.list [.str "end"]], .list [.tuple [.str "add", .int 3, .int 0]]] ++ noM2 ++ noM3 : List PyData) := by
    intro d hd
    simp only [List.cons_append, List.nil_append, List.mem_cons, List.not_mem_nil, or_false] at hd ⊢
    rcases hd with h | h | h | h | h | h | h | h | h | h | h | h | h | h | h <;> simp [h]
  intro d hd
  rcases two d hd with rfl | h
  · exact ⟨rfl, .tup (k := 39) (shp_lns m), trivial⟩
  · obtain ⟨a, b, c⟩ := key d h
    exact ⟨a, shpB_ok b, wordsB_ok c⟩
def spLawRefused (K : PySem.W.Frag) : Sp := fun vs H Q _ => ∃ (v : V) (m : Mach), vs = [v] ∧ Dp K H v (machD m) ∧ isMach m = true ∧ Tabs (Tb K lams) H ∧ ∀ H', Stp (Tb K lams) H H' → Q (.bl true) H'
theorem ok__law_refused (T : Txt K mg) (DS : KTab w K) (hB : TabX K mg base lams) : Cal P w K mg base L2.CX0 12 "_law_refused" ["machine"] (spLawRefused K) := by
  have c_need_machine := ok_need_machine (P := P) (w := w) (base := base) T DS
  have c_program_of := ok_program_of (P := P) (w := w) (base := base) T DS
  have c_machine_run := ok_machine_run (P := P) (w := w) (base := base) T DS
  have c_start := ok_start (P := P) (w := w) (base := base) T
  have c_counters_in := ok_counters_in (P := P) (w := w) (base := base) T
  refine Cal.mkT T.d__law_refused T.m__law_refused sc__law_refused (fun _ _ _ _ _ _ us hl => match us, hl with | [_], _ => rfl) (fun vs H Q E h => ?_) (fun A outer s H vs Q E hr h => ?_)
  · obtain ⟨v, m, rfl, _⟩ := h
    rfl
  obtain ⟨v, m, rfl, hd, hm, hT, q⟩ := h
  refine ⟨_, (pss_cons (ps_set (i := 1) sc__law_refused.nd rfl (.inl rfl) (pe_lst (pa_cons pe_non (pa_cons (dl_lst (K := K) (by decide) dl_nil) (pa_cons (pe_callTy (tupleOf rfl) (by rfl) T.b_tuple boot_tuple (pa_cons (pv 0) pa_nil)) (pa_cons (pe_op op_rep (dl_lstN (K := K) (by decide) (dl_cons (dl_tup (K := K) (by decide) (dl_cons dl_str dl_nil)) dl_nil)) pe_int) (pa_cons (dl_lst (K := K) (by decide) (dl_cons (dl_tup (K := K) (by decide) (dl_cons dl_str dl_nil)) dl_nil)) (pa_cons (dl_lst (K := K) (by decide) (dl_cons (dl_tup (K := K) (by decide) (dl_cons dl_str (dl_cons dl_int dl_nil))) dl_nil)) (pa_cons (dl_lst (K := K) (by decide) (dl_cons (dl_lst (K := K) (by decide) (dl_cons dl_str dl_nil)) dl_nil)) (pa_cons (dl_lst (K := K) (by decide) (dl_cons (dl_tup (K := K) (by decide) (dl_cons dl_str (dl_cons dl_int (dl_cons dl_int dl_nil)))) dl_nil)) pa_nil))))))))))
      (pss_cons (ps_set (i := 1) sc__law_refused.nd rfl (.inl rfl) (pe_op op_cat (pv 1) (dl_lstN (K := K) (by decide) (dl_cons (dl_lst (K := K) (by decide) (dl_cons (dl_tup (K := K) (by decide) (dl_cons dl_str (dl_cons dl_int (dl_cons dl_int dl_nil)))) dl_nil)) (dl_cons (dl_lst (K := K) (by decide) (dl_cons (dl_tup (K := K) (by decide) (dl_cons dl_str (dl_cons dl_int dl_nil))) dl_nil)) (dl_cons (dl_lst (K := K) (by decide) (dl_cons (dl_tup (K := K) (by decide) (dl_cons dl_str (dl_cons dl_int (dl_cons dl_int dl_nil)))) dl_nil)) (dl_cons (dl_lst (K := K) (by decide) (dl_cons (dl_tup (K := K) (by decide) (dl_cons dl_str (dl_cons dl_int (dl_cons dl_int (dl_cons dl_int dl_nil))))) dl_nil)) (dl_cons (dl_lst (K := K) (by decide) (dl_cons (dl_tup (K := K) (by decide) (dl_cons dl_str (dl_cons dl_bl (dl_cons dl_int dl_nil)))) dl_nil)) dl_nil))))))))
      (C8.pss_cut (ps_for PassesOwn.never rfl (piL rfl (pe_op op_cat (pv 1) (dl_lstN (K := K) (by decide) (dl_cons (dl_lst (K := K) (by decide) (dl_cons (dl_tup (K := K) (by decide) dl_nil) dl_nil)) (dl_cons (dl_lst (K := K) (by decide) (dl_cons (dl_tup (K := K) (by decide) (dl_cons dl_str (dl_cons dl_int (dl_cons dl_neg (dl_cons dl_int dl_nil))))) dl_nil)) dl_nil))))) (pg_name (i := 2) sc__law_refused.nd rfl (.inr rfl)) (pss_cons (ps_set (i := 3) sc__law_refused.nd rfl (.inl rfl) (pe_lst (pa_cons (told (x := "_law_refused") (k := 9) T (by simp) hB rfl rfl (by rfl) (hr.mono (by decide)) (lamS_by (sc := defScope s__law_refused) (by decide +kernel)) rfl (fun _ _ _ _ _ => rfl) (fun A outer s H E f c' hr => (pe_cal c_need_machine (hr.mono (by decide)) (by rfl) (L2N.passes_call (L2N.takes_of rfl rfl rfl rfl) (fun _ _ _ _ h => h)) (pa_cons (pv 2) pa_nil)))) pa_nil)))
      (pss_cons (ps_expr (bm rfl PySem.F.plainAttrs_list PySem.F.slot_list_append PySem.F.type_list_append mt_append (pv 3) (pa_cons (told (x := "_law_refused") (k := 9) T (by simp) hB rfl rfl (by rfl) (hr.mono (by decide)) (lamS_by (sc := defScope s__law_refused) (by decide +kernel)) rfl (fun _ _ _ _ _ => rfl) (fun A outer s H E f c' hr => (pe_cal c_program_of (hr.mono (by decide)) (by rfl) (L2N.passes_call (L2N.takes_of rfl rfl rfl rfl) (fun _ _ _ _ h => h)) (pa_cons (pv 2) pa_nil)))) pa_nil)))
      (pss_one (ps_if (PW.pt (pw_or (pt_cmpR (neS rfl hr.units) (pv 3) (pe_op op_rep (pe_lst (pa_cons pe_str pa_nil)) pe_int) (nomark _)) (pw_or1 (pt_cmpR (neS rfl hr.units) (told (x := "_law_refused") (k := 9) T (by simp) hB rfl rfl (by rfl) (hr.mono (by decide)) (lamS_by (sc := defScope s__law_refused) (by decide +kernel)) rfl (fun _ _ _ _ _ => rfl) (fun A outer s H E f c' hr => (pe_cal c_machine_run (hr.mono (by decide)) (by rfl) (L2N.passes_call (L2N.takes_of rfl rfl rfl rfl) (fun _ _ _ _ h => h)) (pa_cons (pv 2) (pa_cons (dl_tup (K := K) (by decide) (dl_cons dl_int (dl_cons dl_int (dl_cons dl_int dl_nil)))) (pa_cons pe_int pa_nil)))))) pe_str (nomark _))))) (pss_one (ps_ret pe_bl)) pss_nil)))))
      (C8.pss_cut (ps_for PassesOwn.never rfl (piL rfl (dl_lst (K := K) (by decide) (dl_cons dl_non (dl_cons (dl_tup (K := K) (by decide) dl_nil) (dl_cons (dl_tup (K := K) (by decide) (dl_cons dl_int (dl_cons dl_int dl_nil))) (dl_cons (dl_lst (K := K) (by decide) (dl_cons dl_int (dl_cons dl_int (dl_cons dl_int dl_nil)))) (dl_cons (dl_tup (K := K) (by decide) (dl_cons dl_int (dl_cons dl_int (dl_cons dl_int dl_nil)))) (dl_cons (dl_tup (K := K) (by decide) (dl_cons dl_neg (dl_cons dl_int (dl_cons dl_int dl_nil)))) (dl_cons (dl_tup (K := K) (by decide) (dl_cons dl_bl (dl_cons dl_int (dl_cons dl_int dl_nil)))) dl_nil))))))))) (pg_name (i := 2) sc__law_refused.nd rfl (.inr rfl)) (pss_cons (ps_if (pt_cmpR (neS rfl hr.units) (told (x := "_law_refused") (k := 9) T (by simp) hB rfl rfl (by rfl) (hr.mono (by decide)) (lamS_by (sc := defScope s__law_refused) (by decide +kernel)) rfl (fun _ _ _ _ _ => rfl) (fun A outer s H E f c' hr => (pe_cal c_machine_run (hr.mono (by decide)) (by rfl) (L2N.passes_call (L2N.takes_of rfl rfl rfl rfl) (fun _ _ _ _ h => h)) (pa_cons (pv 0) (pa_cons (pv 2) (pa_cons pe_non pa_nil)))))) pe_str (nomark _)) (pss_one (ps_ret pe_bl)) pss_nil)
      (pss_one (ps_if (pt_cmpR (neS rfl hr.units) (told (x := "_law_refused") (k := 9) T (by simp) hB rfl rfl (by rfl) (hr.mono (by decide)) (lamS_by (sc := defScope s__law_refused) (by decide +kernel)) rfl (fun _ _ _ _ _ => rfl) (fun A outer s H E f c' hr => (pe_cal c_start (hr.mono (by decide)) (by rfl) (L2N.passes_call (L2N.takes_of rfl rfl rfl rfl) (fun _ _ _ _ h => h)) (pa_cons (pv 2) pa_nil)))) pe_str (nomark _)) (pss_one (ps_ret pe_bl)) pss_nil))))
      (C8.pss_cut (ps_for PassesOwn.never rfl (piL rfl (dl_lst (K := K) (by decide) (dl_cons dl_neg (dl_cons dl_int (dl_cons dl_non (dl_cons dl_bl dl_nil)))))) (pg_name (i := 2) sc__law_refused.nd rfl (.inr rfl)) (pss_one (ps_if (pt_cmpR (neS rfl hr.units) (told (x := "_law_refused") (k := 9) T (by simp) hB rfl rfl (by rfl) (hr.mono (by decide)) (lamS_by (sc := defScope s__law_refused) (by decide +kernel)) rfl (fun _ _ _ _ _ => rfl) (fun A outer s H E f c' hr => (pe_cal c_machine_run (hr.mono (by decide)) (by rfl) (L2N.passes_call (L2N.takes_of rfl rfl rfl rfl) (fun _ _ _ _ h => h)) (pa_cons (pv 0) (pa_cons (dl_tup (K := K) (by decide) (dl_cons dl_int (dl_cons dl_int (dl_cons dl_int dl_nil)))) (pa_cons (pv 2) pa_nil)))))) pe_str (nomark _)) (pss_one (ps_ret pe_bl)) pss_nil)))
      (pss_one (ps_ret (pe_cmpR (eqS rfl hr.units) (told (x := "_law_refused") (k := 9) T (by simp) hB rfl rfl (by rfl) (hr.mono (by decide)) (lamS_by (sc := defScope s__law_refused) (by decide +kernel)) rfl (fun _ _ _ _ _ => rfl) (fun A outer s H E f c' hr => (pe_cal c_counters_in (hr.mono (by decide)) (by rfl) (L2N.passes_call (L2N.takes_of rfl rfl rfl rfl) (fun _ _ _ _ h => h)) (pa_cons pe_int pa_nil)))) pe_str (nomark _))))))))), ?_⟩
  obtain ⟨ma, mx, rfl, hma, hmx⟩ := dp_lst hd
  have hxl : mx.length ≤ 4 := by rw [dps_len hmx, List.length_map]; exact (mach_len hm).2
  -- the first list
  intro v1 Ha1 sa1 hv1
  refine ⟨_, rfl, ma, mx, rfl, .inl ⟨sa1.seq hma, fun p2 np2 => ?_⟩⟩
  have sa2 := same_new (o := .tup mx) np2
  have hv2 : Dp K (upd Ha1 p2 (.tup mx)) (.ref p2) (.tuple (m.map lnD)) := .tup (SqT.of upd_same) (same_dps (sa1.trans sa2) hmx)
  generalize upd Ha1 p2 (.tup mx) = Ha2 at *
  intro p3 vs3 Ha3 sa3 hp3 hA3
  have hl3 : vs3.length = 1 := by rw [dps_len hA3]; rfl
  refine ⟨p3, 5, vs3, rfl, rfl, hp3, by decide, by decide, by rw [hl3]; decide, fun p4 np4 => ?_⟩
  have sa4 := same_new (o := .lst (List.replicate (5 : Int).toNat vs3).flatten) np4
  have hv4 : Dp K (upd Ha3 p4 (.lst (List.replicate (5 : Int).toNat vs3).flatten)) (.ref p4) (.list (List.replicate 5 [PyData.tuple [.str "end"]]).flatten) := .lst (SqL.of upd_same) (dps_rep (same_dps sa4 hA3) 5)
  generalize upd Ha3 p4 (.lst (List.replicate (5 : Int).toNat vs3).flatten) = Ha4 at *
  intro v5 Ha5 sa5 hv5 v6 Ha6 sa6 hv6 v7 Ha7 sa7 hv7 v8 Ha8 sa8 hv8
  refine ⟨(by show 8 ≤ sizeLine; decide), fun pL npL => ?_⟩
  have sL := same_new (o := .lst [.non, v1, .ref p2, .ref p4, v5, v6, v7, v8]) npL
  have s7L := sa8.trans sL
  have s6L := sa7.trans s7L
  have s5L := sa6.trans s6L
  have s4L := sa5.trans s5L
  have s2L := (sa3.trans sa4).trans s4L
  have s1L := sa2.trans s2L
  have hds : DpAll K (upd Ha8 pL (.lst [.non, v1, .ref p2, .ref p4, v5, v6, v7, v8])) [.non, v1, .ref p2, .ref p4, v5, v6, v7, v8] (noM1 m) :=
    .cons .non (.cons (same_dp s1L hv1) (.cons (same_dp s2L hv2) (.cons (same_dp s4L hv4) (.cons (same_dp s5L hv5) (.cons (same_dp s6L hv6) (.cons (same_dp s7L hv7) (.cons (same_dp sL hv8) .nil)))))))
  have hpL : (upd Ha8 pL (.lst [.non, v1, .ref p2, .ref p4, v5, v6, v7, v8])) pL = some (.lst [.non, v1, .ref p2, .ref p4, v5, v6, v7, v8]) := upd_same
  have st0 := (Stp.refl hT).same (sa1.trans s1L)
  have hl8 : [V.non, v1, .ref p2, .ref p4, v5, v6, v7, v8].length = 8 := rfl
  generalize upd Ha8 pL (.lst [.non, v1, .ref p2, .ref p4, v5, v6, v7, v8]) = H1 at *
  generalize [V.non, v1, .ref p2, .ref p4, v5, v6, v7, v8] = ls1 at *
  refine ⟨_, rfl, ?_⟩
  intro p9 vs9 H2 s2 hp9 hA9
  have hl9 : vs9.length = 5 := by rw [dps_len hA9]; rfl
  refine ⟨pL, p9, ls1, vs9, rfl, rfl, s2 _ _ hpL, hp9, (by rw [hl8, hl9]; decide), fun p10 np10 => ?_⟩
  have s3 := same_new (o := .lst (ls1 ++ vs9)) np10
  have hp10 : (upd H2 p10 (.lst (ls1 ++ vs9))) p10 = some (.lst (ls1 ++ vs9)) := upd_same
  have hds2 := dps_app (same_dps (s2.trans s3) hds) (same_dps s3 hA9)
  have st1 := st0.same (s2.trans s3)
  generalize upd H2 p10 (.lst (ls1 ++ vs9)) = H3 at *
  have hl10 : (ls1 ++ vs9).length = 13 := by rw [List.length_append, hl8, hl9]
  generalize ls1 ++ vs9 = ls2 at *
  -- no machines
  refine ⟨fun σ H4 => ∃ b2 b3, σ = [some (.ref ma), some (.ref p10), b2, b3] ∧ Stp (Tb K lams) H H4, ?_, ?_⟩
  · refine ⟨_, rfl, ?_⟩
    intro p11 vs11 H4 s4 hp11 hA11
    have hl11 : vs11.length = 2 := by rw [dps_len hA11]; rfl
    refine ⟨p10, p11, ls2, vs11, rfl, rfl, s4 _ _ hp10, hp11, (by rw [hl10, hl11]; decide), fun p12 np12 => ?_⟩
    have s5 := same_new (o := .lst (ls2 ++ vs11)) np12
    have hLs : SqL K (upd H4 p12 (.lst (ls2 ++ vs11))) p12 (ls2 ++ vs11) := SqL.of upd_same
    have hds3 := dps_app (same_dps (s4.trans s5) hds2) (same_dps s5 hA11)
    have st2 := st1.same (s4.trans s5)
    generalize upd H4 p12 (.lst (ls2 ++ vs11)) = HL at *
    generalize ls2 ++ vs11 = ls at *
    have hbad := no_machs m
    have hds3 : DpAll K HL ls (noM1 m ++ noM2 ++ noM3) := hds3
    generalize noM1 m ++ noM2 ++ noM3 = ds at *
    refine ⟨p12, rfl, ⟨_, hLs⟩, for_list (xs := ls) (fun i σ H4 => ∃ b2 b3, σ = [some (.ref ma), some (.ref p10), b2, b3] ∧ Stp (Tb K lams) HL H4) ⟨_, _, rfl, Stp.refl st2.t⟩ ?_ ?_ ?_⟩
    · rintro i σ H4 _ ⟨b3, b4, rfl, st4⟩
      exact ext_l st4.e hLs
    · rintro i x σ H4 hx ⟨b3, b4, rfl, st4⟩
      obtain ⟨d, hd', hp⟩ := dps_at2 hds3 hx
      obtain ⟨hbd, hbs, hbw⟩ := hbad d (List.mem_of_getElem? hd')
      refine ⟨st4.t, fun H5 e5 t5 => ⟨_, rfl, ?_⟩⟩
      have st5 := st4.told e5 t5
      dsimp only [tCons, tC, tNil]
      refine needM_bad (ext_dp st5.e hp) hbs hbw hbd fun H6 s6 => ?_
      refine xtold (by simp) fun H7 s7 => ⟨(by show 1 ≤ sizeLine; decide), fun p8 np8 => ?_⟩
      have ow := Own.new (K := K) (st5.same (s6.trans s7)) np8 (vs := [.str "BadMachine"]) (ds := [.str "BadMachine"]) (.cons (.str _) .nil) rfl
      generalize upd H7 p8 (.lst [.str "BadMachine"]) = H8 at *
      obtain ⟨vs8, hp8, _⟩ := ow.lst
      refine ⟨_, rfl, .inl ⟨rfl, _, SqL.of hp8⟩, ow.st.t, fun H9 e9 t9 => ⟨_, rfl, ?_⟩⟩
      have ow := ow.go e9 t9
      dsimp only [tCons, tC, tNil]
      refine progOf_bad (ext_dp ow.st.e hp) hbs hbw hbd fun H10 s10 => ?_
      refine xtold (by simp) fun H11 s11 => ?_
      have ow := ow.same (s10.trans s11)
      obtain ⟨vs11, hp11, _⟩ := ow.lst
      refine ⟨p8, _, _, rfl, rfl, hp11, (by rw [ow.len hp11]; show 1 < sizeLine; decide), ?_⟩
      have ow := ow.put hp11 (y := .str "BadMachine") (.str _) rfl
      generalize upd H11 p8 (.lst (vs11 ++ [.str "BadMachine"])) = H12 at *
      refine ⟨_, rfl, (by show 1 ≤ sizeLine; decide), fun p17 np17 => ⟨p17, 2, _, rfl, rfl, upd_same, by decide, by decide, (by show 1 * 2 ≤ sizeLine; decide), fun p18 np18 => ?_⟩⟩
      have ow := ow.same ((same_new (o := .lst [.str "BadMachine"]) np17).trans (same_new (o := .lst (List.replicate (2 : Int).toNat [V.str "BadMachine"]).flatten) np18))
      refine ⟨.list [.str "BadMachine", .str "BadMachine"], ow.dp, .lst (SqL.of upd_same) (dp_reps 2), .lst (k := 59) (.cons (.str strOk_BM) (.cons (.str strOk_BM) .nil)), _, rfl, iteF ?_⟩
      refine ⟨ow.st.t, fun H13 e13 t13 => ⟨_, rfl, ?_⟩⟩
      have ow := ow.go e13 t13
      intro cv H14 s14 hcv
      dsimp only [tCons, tC, tNil]
      refine mrun_badM (ext_dp (ow.same s14).st.e hp) hcv (.int _) hbs hbw hbd fun H15 s15 => ?_
      refine xtold (by simp) fun H16 s16 => ?_
      exact ⟨.str "BadMachine", .str _, .str _, .str strOk_BM, _, rfl, iteF ⟨_, _, rfl, (ow.same (s14.trans (s15.trans s16))).st⟩⟩
    · rintro σ H4 ⟨b3, b4, rfl, st4⟩
      exact ⟨_, _, rfl, st2.trans st4⟩
  clear st1 st0
  rintro σ H4 ⟨b2, b3, rfl, st1⟩
  -- no counters
  refine ⟨fun σ H4 => ∃ b2, σ = [some (.ref ma), some (.ref p10), b2, b3] ∧ Stp (Tb K lams) H H4, ?_, ?_⟩
  · intro lv H3 s3 hlv
    obtain ⟨la, ls, rfl, hls, hlds⟩ := dp_lst hlv
    have hbad : ∀ d ∈ [PyData.none, .tuple [], .tuple [.int 0, .int 0], .list [.int 0, .int 0, .int 0], .tuple [.int 0, .int 0, .int 101], .tuple [.int (-1), .int 0, .int 0], .tuple [.bool true, .int 0, .int 0]], isCtrD d = false := by decide +kernel
    generalize [PyData.none, .tuple [], .tuple [.int 0, .int 0], .list [.int 0, .int 0, .int 0], .tuple [.int 0, .int 0, .int 101], .tuple [.int (-1), .int 0, .int 0], .tuple [.bool true, .int 0, .int 0]] = ds at *
    have st3 := st1.same s3
    refine ⟨la, rfl, ⟨_, hls⟩, for_list (xs := ls) (fun i σ H4 => ∃ b2, σ = [some (.ref ma), some (.ref p10), b2, b3] ∧ Stp (Tb K lams) H3 H4) ⟨_, rfl, Stp.refl st3.t⟩ ?_ ?_ ?_⟩
    · rintro i σ H4 _ ⟨b2, rfl, st4⟩
      exact ext_l st4.e hls
    · rintro i x σ H4 hx ⟨b2, rfl, st4⟩
      obtain ⟨d, hd', hp⟩ := dps_at2 hlds hx
      have hbd := hbad d (List.mem_of_getElem? hd')
      refine ⟨st4.t, fun H5 e5 t5 => ⟨_, rfl, _, rfl, ?_⟩⟩
      have st5 := st4.told e5 t5
      dsimp only [tCons, tC, tNil]
      refine mrun_badC (ext_dp (st3.trans st5).e hd) hm (ext_dp st5.e hp) .non hbd fun H6 s6 => ?_
      refine xtold (by simp) fun H7 s7 => ⟨.str "BadMachine", .str _, .str _, .str strOk_BM, _, rfl, iteF ?_⟩
      have st7 := st5.same (s6.trans s7)
      refine ⟨st7.t, fun H8 e8 t8 => ⟨_, rfl, ?_⟩⟩
      have st8 := st7.told e8 t8
      dsimp only [tCons, tC, tNil]
      refine start_bad (ext_dp st8.e hp) hbd fun H9 s9 => ?_
      refine xtold (by simp) fun H10 s10 => ⟨.str "BadMachine", .str _, .str _, .str strOk_BM, _, rfl, iteF ⟨_, rfl, st8.same (s9.trans s10)⟩⟩
    · rintro σ H4 ⟨b2, rfl, st4⟩
      exact ⟨_, rfl, st3.trans st4⟩
  clear st1
  rintro σ H4 ⟨b2, rfl, st1⟩
  -- no counts
  refine ⟨fun σ H4 => ∃ b2, σ = [some (.ref ma), some (.ref p10), b2, b3] ∧ Stp (Tb K lams) H H4, ?_, ?_⟩
  · intro lv H3 s3 hlv
    obtain ⟨la, ls, rfl, hls, hlds⟩ := dp_lst hlv
    have hbad : ∀ d ∈ [PyData.int (-1), .int 501, .none, .bool true], isCountD 0 500 d = false := by decide +kernel
    generalize [PyData.int (-1), .int 501, .none, .bool true] = ds at *
    have st3 := st1.same s3
    refine ⟨la, rfl, ⟨_, hls⟩, for_list (xs := ls) (fun i σ H4 => ∃ b2, σ = [some (.ref ma), some (.ref p10), b2, b3] ∧ Stp (Tb K lams) H3 H4) ⟨_, rfl, Stp.refl st3.t⟩ ?_ ?_ ?_⟩
    · rintro i σ H4 _ ⟨b2, rfl, st4⟩
      exact ext_l st4.e hls
    · rintro i x σ H4 hx ⟨b2, rfl, st4⟩
      obtain ⟨d, hd', hp⟩ := dps_at2 hlds hx
      have hbd := hbad d (List.mem_of_getElem? hd')
      refine ⟨st4.t, fun H5 e5 t5 => ⟨_, rfl, ?_⟩⟩
      have st5 := st4.told e5 t5
      intro cv H6 s6 hcv
      have st6 := st5.same s6
      refine ⟨_, rfl, ?_⟩
      dsimp only [tCons, tC, tNil]
      refine mrun_badK (ext_dp (st3.trans st6).e hd) hm hcv (by decide +kernel) (ext_dp st6.e hp) hbd fun H7 s7 => ?_
      refine xtold (by simp) fun H8 s8 => ⟨.str "BadNumber", .str _, .str _, .str strOk_BN, _, rfl, iteF ⟨_, rfl, st6.same (s7.trans s8)⟩⟩
    · rintro σ H4 ⟨b2, rfl, st4⟩
      exact ⟨_, rfl, st3.trans st4⟩
  clear st1
  rintro σ H4 ⟨b2, rfl, st1⟩
  refine ⟨st1.t, fun H5 e5 t5 => ?_⟩
  have st5 := st1.told e5 t5
  dsimp only [tCons, tC, tNil]
  refine cin_bad (d := .int 41) (.int _) (by decide +kernel) fun H6 s6 => ?_
  refine xtold (by simp) fun H7 s7 => ⟨.str "BadNumber", .str _, .str _, .str strOk_BN, q H7 (st5.same (s6.trans s7))⟩
end
end Fr
namespace Fr
open PySem PySem.Spec PyProof.Rows L2 LamX
section
variable {P : Program} {w : World} {K : PySem.W.Frag} {mg : Str → Option Value} {base : Heap}
abbrev S50 (sc : Addr) (k more : Nat) (a3 a4 a5 a6 a7 a8 a9 a10 a11 a12 a13 a14 a15 a16 : Option V) : L2.St := [some (.ref sc), some (nI k), some (nI more), a3, a4, a5, a6, a7, a8, a9, a10, a11, a12, a13, a14, a15, a16]
def spLaw (K : PySem.W.Frag) : Sp := fun vs H Q _ => ∃ (a : Addr) (ns : List Int), vs = [.ref a] ∧ SqL K H a (ns.map V.int) ∧ ns.length ≤ 63 ∧ Tabs (Tb K lams) H ∧ ∀ H', Q (.bl true) H'
theorem log_st {cs : List Nat} (h : cs.length = 3) (hb : ∀ x ∈ cs, x ≤ 400) (k : Nat) : (make cs).log2 + (ownP k).log2 < 1000000 := by
  have h0 := make_part_lt (as := cs) (fun x hx => Nat.le_trans (hb x hx) (by decide)) (by omega) cs.length 1 0 (by decide) (by decide)
  rw [← make_take, Nat.pow_zero, Nat.mul_one] at h0
  have h1 : (make cs).log2 < 40000 := lt_log2 (k := 40000) h0 (by decide) (by decide)
  have h2 : (ownP k).log2 < 7 := lt_log2 (k := 7) (Nat.lt_trans (pr_lt _) (by decide)) (by decide) (by decide)
  omega
theorem log_small {a b : Nat} (ha : a < 1024) (hb : b < 1024) : a.log2 + b.log2 < 1000000 := by
  have h1 : a.log2 < 10 := lt_log2 (k := 10) ha (by decide) (by decide)
  have h2 : b.log2 < 10 := lt_log2 (k := 10) hb (by decide) (by decide)
  omega
theorem end_led {l : Prog} {r : List Nat} {z : Nat} (h : r.getLast? = some z) : endO l r = if led l z = none then some z else none := by
  unfold endO
  rw [h]
  rfl
theorem ok_law (T : Txt K mg) (DS : KTab w K) (hB : TabX K mg base lams) : Cal P w K mg base L2.CX0 13 "law" ["script"] (spLaw K) := by
  have c__law_cell := ok__law_cell (P := P) (w := w) (base := base) T
  have c__law_drawn := ok__law_drawn (P := P) (w := w) (base := base) T
  have c__law_number := ok__law_number (P := P) (w := w) (base := base) T
  have c__law_machine := ok__law_machine (P := P) (w := w) (base := base) T
  have c__law_machine_run := ok__law_machine_run (P := P) (w := w) (base := base) T
  have c__law_own := ok__law_own (P := P) (w := w) (base := base) T
  have c__law_made := ok__law_made (P := P) (w := w) (base := base) T
  have c__law_refused := ok__law_refused (P := P) (w := w) (base := base) T DS hB
  have c_need_machine := ok_need_machine (P := P) (w := w) (base := base) T DS
  have c_program_of := ok_program_of (P := P) (w := w) (base := base) T DS
  have c_machine_run := ok_machine_run (P := P) (w := w) (base := base) T DS
  have c_start := ok_start (P := P) (w := w) (base := base) T
  have c_counters_in := ok_counters_in (P := P) (w := w) (base := base) T
  have c_run := ok_run (P := P) (w := w) (base := base) T
  have c_end := ok_end (P := P) (w := w) (base := base) T
  refine Cal.mk0 T.d_law T.m_law sc_law (fun _ _ _ _ _ _ us hl => match us, hl with | [_], _ => rfl) (fun vs H Q E h => ?_) (fun cdv A outer s H vs Q E hr h => ?_)
  · obtain ⟨a, ns, rfl, _⟩ := h
    rfl
  obtain ⟨sc, ns, rfl, hS, hlen, hTb, q⟩ := h
  refine ⟨_, (pss_cons (ps_for PassesOwn.never rfl (pi_range1 (by rfl) T.b_range (pa_cons (pe_callB (max2N rfl) (by rfl) T.b_max boot_max (pa_cons pe_int (pa_cons (pe_callB (min2N rfl) (by rfl) T.b_min boot_min (pa_cons pe_int (pa_cons (pe_callB (lenS rfl) (by rfl) T.b_len PySem.boot_len (pa_cons (pv 0) pa_nil)) pa_nil))) pa_nil))) pa_nil)) (pg_name (i := 1) sc_law.nd rfl (.inl rfl)) (pss_cons (ps_set (i := 2) sc_law.nd rfl (.inl rfl) (pe_cal c__law_drawn (hr.mono (by decide)) (by rfl) pass0 (pa_cons (pe_cal c__law_cell (hr.mono (by decide)) (by rfl) pass0 (pa_cons (pv 0) (pa_cons (pv 1) pa_nil))) (pa_cons (pv 1) pa_nil))))
      (C8.pss_cut (ps_for PassesOwn.never rfl (pi_range1 (by rfl) T.b_range (pa_cons pe_int pa_nil)) (pg_name (i := 3) sc_law.nd rfl (.inl rfl)) (pss_cons (ps_set (i := 4) sc_law.nd rfl (.inr rfl) (pe_cal c__law_drawn (hr.mono (by decide)) (by rfl) pass0 (pa_cons (pv 2) (pa_cons (pe_op opN_add pe_int (pv 3)) pa_nil))))
      (pss_cons (ps_set (i := 5) sc_law.nd rfl (.inl rfl) (pe_cal c__law_machine (hr.mono (by decide)) (by rfl) pass0 (pa_cons (pv 4) pa_nil)))
      (C8.pss_cut (ps_set (i := 6) sc_law.nd rfl (.inl rfl) (pe_callTy (tupleOf rfl) (by rfl) T.b_tuple boot_tuple (pa_cons (pe_lc (own := [("n", 16)]) rfl sc_law.nd (pi_range1 (by rfl) T.b_range (pa_cons pe_int pa_nil)) (blkOk_by (own := [("n", 16)]) (N := ["script", "k", "more", "j", "here", "machine", "counters", "most", "row", "program", "numbers", "at", "line", "own", "number", "goal", "n"]) (sc := defScope s_law) (by decide +kernel)) (fun _ _ _ _ _ => (pg_name (i := 16) sc_law.nd rfl (.inl rfl))) (fun _ _ _ _ _ => pts_nil) (fun _ _ _ _ _ => (pe_op opN_mod (pe_cal c__law_drawn (hr.mono (by decide)) (by rfl) pass0 (pa_cons (pv 4) (pa_cons (pe_op opN_add pe_int (pv 16)) pa_nil))) (pe_ix (ixL rfl) (pe_lst (pa_cons pe_int (pa_cons pe_int (pa_cons pe_int pa_nil)))) (pe_op opN_mod (pe_op opN_div (pv 4) pe_int) pe_int) (fun _ _ => rfl))))) pa_nil)))
      (C8.pss_cut (ps_set (i := 7) sc_law.nd rfl (.inl rfl) (pe_op opN_mod (pe_op opN_div (pv 4) (pe_op opN_pow pe_int pe_int)) (pe_ix (ixL rfl) (pe_lst (pa_cons pe_int (pa_cons pe_int (pa_cons pe_int pa_nil)))) (pe_op opN_mod (pe_op opN_div (pv 4) pe_int) pe_int) (fun _ _ => rfl))))
      (pss_cons (ps_set (i := 8) sc_law.nd rfl (.inl rfl) (pe_cal c__law_machine_run (hr.mono (by decide)) (by rfl) pass0 (pa_cons (pv 5) (pa_cons (pv 6) (pa_cons (pv 7) pa_nil)))))
      (pss_cons (ps_if (PW.pt (pw_or (pt_cmpR op_notN (pe_cal c_need_machine (hr.mono (by decide)) (by rfl) passN (pa_cons (pv 5) pa_nil)) pe_non (nomark _)) (pw_or1 (pt_cmpR (neS rfl hr.units) (pe_cal c_machine_run (hr.mono (by decide)) (by rfl) passN (pa_cons (pv 5) (pa_cons (pv 6) (pa_cons (pv 7) pa_nil)))) (pv 8) (nomark _))))) (pss_one (ps_ret pe_bl)) pss_nil)
      (pss_cons (ps_set (i := 9) sc_law.nd rfl (.inl rfl) (pe_cal c_program_of (hr.mono (by decide)) (by rfl) passN (pa_cons (pv 5) pa_nil)))
      (pss_cons (ps_if (PW.pt (pw_or (pt_cmpR (neS rfl hr.units) (pv 9) (pe_cal c__law_made (hr.mono (by decide)) (by rfl) pass0 (pa_cons (pv 5) pa_nil)) (nomark _)) (pw_or1 (pt_cmpR opN_ne (pe_cal c_start (hr.mono (by decide)) (by rfl) passN (pa_cons (pv 6) pa_nil)) (pe_op opN_mul (pe_cal c__law_number (hr.mono (by decide)) (by rfl) pass0 (pa_cons (pv 6) pa_nil)) (pe_ix (ixT rfl) (pe_cal c__law_own (hr.mono (by decide)) (by rfl) pass0 (pa_cons pe_int pa_nil)) pe_int (fun _ _ => rfl))) (nomark _))))) (pss_one (ps_ret pe_bl)) pss_nil)
      (pss_cons (ps_set (i := 10) sc_law.nd rfl (.inl rfl) (pe_cal c_run (hr.mono (by decide)) (by rfl) passN (pa_cons (pv 9) (pa_cons (pe_cal c_start (hr.mono (by decide)) (by rfl) passN (pa_cons (pv 6) pa_nil)) (pa_cons (pe_op opN_mul pe_int (pv 7)) pa_nil)))))
      (pss_cons (ps_for PassesOwn.never rfl (piE rfl (by rfl) T.b_enumerate (pa_cons (pv 8) pa_nil)) (pgT (n := 2) rfl rfl (pgs_cons (pg_name (i := 11) sc_law.nd rfl (.inl rfl)) (pgs_cons (pgT (n := 2) rfl rfl (pgs_cons (pg_name (i := 12) sc_law.nd rfl (.inl rfl)) (pgs_cons (pg_name (i := 13) sc_law.nd rfl (.inl rfl)) pgs_nil))) pgs_nil))) (pss_cons (ps_set (i := 14) sc_law.nd rfl (.inl rfl) (pe_op opN_mul (pe_cal c__law_number (hr.mono (by decide)) (by rfl) pass0 (pa_cons (pv 13) pa_nil)) (pe_ix (ixT rfl) (pe_cal c__law_own (hr.mono (by decide)) (by rfl) pass0 (pa_cons (pv 12) pa_nil)) pe_int (fun _ _ => rfl))))
      (pss_cons (ps_if (PW.pt (pw_and (pt_cmpR opN_lt (pe_op opN_mul pe_int (pv 11)) (pe_callB (lenS rfl) (by rfl) T.b_len PySem.boot_len (pa_cons (pv 10) pa_nil)) (nomark _)) (pw_and1 (pt_cmpR opN_ne (pe_ix (ixL rfl) (pv 10) (pe_op opN_mul pe_int (pv 11)) (fun _ _ => rfl)) (pv 14) (nomark _))))) (pss_one (ps_ret pe_bl)) pss_nil)
      (pss_one (ps_if (pt_cmpR (neS rfl hr.units) (pe_cal c_counters_in (hr.mono (by decide)) (by rfl) passN (pa_cons (pv 14) pa_nil)) (pe_tup (pa_cons (pv 13) (pa_cons (pv 12) pa_nil))) (nomark _)) (pss_one (ps_ret pe_bl)) pss_nil)))))
      (pss_cons (ps_if (pt_cmpR opN_gt (pe_op opN_sub (pe_op opN_mul pe_int (pe_callB (lenS rfl) (by rfl) T.b_len PySem.boot_len (pa_cons (pv 8) pa_nil))) pe_int) (pe_op opN_add (pe_callB (lenS rfl) (by rfl) T.b_len PySem.boot_len (pa_cons (pv 10) pa_nil)) pe_int) (nomark _)) (pss_one (ps_ret pe_bl)) pss_nil)
      (pss_one (ps_if (pt_cmpR op_eq (pe_ix (ixT rfl) (pe_ix (ixL rfl) (pv 5) (pe_ix (ixT rfl) (pe_ix (ixL rfl) (pv 8) (pe_un un_neg pe_int) (fun _ _ => rfl)) pe_int (fun _ _ => rfl)) (fun _ _ => rfl)) pe_int (fun _ _ => rfl)) pe_str (nomark _)) (pss_cons (ps_set (i := 15) sc_law.nd rfl (.inl rfl) (pe_cal c__law_number (hr.mono (by decide)) (by rfl) pass0 (pa_cons (pe_ix (ixT rfl) (pe_ix (ixL rfl) (pv 8) (pe_un un_neg pe_int) (fun _ _ => rfl)) pe_int (fun _ _ => rfl)) pa_nil)))
      (pss_one (ps_if (PW.pt (pw_or (pt_cmpR opN_ne (pe_cal c_end (hr.mono (by decide)) (by rfl) passN (pa_cons (pv 9) (pa_cons (pe_cal c_start (hr.mono (by decide)) (by rfl) passN (pa_cons (pv 6) pa_nil)) (pa_cons (pe_op opN_mul pe_int (pe_callB (lenS rfl) (by rfl) T.b_len PySem.boot_len (pa_cons (pv 8) pa_nil))) pa_nil)))) (pv 15) (nomark _)) (pw_or1 (pt_cmpR (neS rfl hr.units) (pe_cal c_counters_in (hr.mono (by decide)) (by rfl) passN (pa_cons (pv 15) pa_nil)) (pe_tup (pa_cons (pe_ix (ixT rfl) (pe_ix (ixL rfl) (pv 8) (pe_un un_neg pe_int) (fun _ _ => rfl)) pe_int (fun _ _ => rfl)) (pa_cons pe_non pa_nil))) (nomark _))))) (pss_one (ps_ret pe_bl)) pss_nil))) (pss_one (ps_if (pt_cmpR op_notN (pe_cal c_end (hr.mono (by decide)) (by rfl) passN (pa_cons (pv 9) (pa_cons (pe_cal c_start (hr.mono (by decide)) (by rfl) passN (pa_cons (pv 6) pa_nil)) (pa_cons (pe_op opN_mul pe_int (pv 7)) pa_nil)))) pe_non (nomark _)) (pss_one (ps_ret pe_bl)) pss_nil))))))))))))))))
      (pss_one (ps_if (pt_not (pt_val (pe_cal c__law_refused (hr.mono (by decide)) (by rfl) pass0 (pa_cons (pv 5) pa_nil)))) (pss_one (ps_ret pe_bl)) pss_nil)))))
      (pss_one (ps_ret pe_bl))), ?_⟩
  refine ⟨_, rfl, sc, _, rfl, .inl hS, 3, _, rfl, 1, _, rfl, _, rfl, by omega, by omega, ?_⟩
  generalize hT : ((max 1 (min 3 (ns.map V.int).length) : Nat) : Int).toNat = turns
  have hturn : turns ≤ 3 := by omega
  refine for_it walk_nats (fun i σ H3 => (∃ r, σ = some (.ref sc) :: r ∧ r.length = 16) ∧ Stp (Tb K lams) H H3) ⟨⟨_, rfl, rfl⟩, Stp.refl hTb⟩ (fun _ _ _ _ _ => trivial) ?_ (fun σ H3 _ => q H3)
  rintro k x σ H0 H4 hk ⟨⟨r, rfl, hrl⟩, st0⟩ ⟨rfl, rfl⟩
  obtain ⟨y1, y2, y3, y4, y5, y6, y7, y8, y9, y10, y11, y12, y13, y14, y15, y16, rfl⟩ : ∃ y1 y2 y3 y4 y5 y6 y7 y8 y9 y10 y11 y12 y13 y14 y15 y16, r = [y1, y2, y3, y4, y5, y6, y7, y8, y9, y10, y11, y12, y13, y14, y15, y16] := by
    match r, hrl with
    | [y1, y2, y3, y4, y5, y6, y7, y8, y9, y10, y11, y12, y13, y14, y15, y16], _ => exact ⟨_, _, _, _, _, _, _, _, _, _, _, _, _, _, _, _, rfl⟩
  refine ⟨_, rfl, _, rfl, sc, k, ns, rfl, ext_l st0.e hS, hlen, by omega, fun c H1 s1 => ⟨_, rfl, c, k, rfl, by omega, fun more _ => ?_⟩⟩
  have st1 := st0.same s1
  refine ⟨fun σ H2 => ∃ a3 a4 v a6 a7 a8 a9 a10 a11 a12 a13 a14 a15 a16 m, σ = S50 sc k more a3 a4 (some v) a6 a7 a8 a9 a10 a11 a12 a13 a14 a15 a16 ∧ Stp (Tb K lams) H H2 ∧ Dp K H2 v (machD m) ∧ isMach m = true, ?_, ?_⟩
  rotate_left
  · rintro σ H2 ⟨a3, a4, v, a6, a7, a8, a9, a10, a11, a12, a13, a14, a15, a16, m, rfl, st2, hv, hm⟩
    exact ⟨_, rfl, v, m, rfl, hv, hm, st2.t, fun H3 st3 => ⟨_, rfl, iteF ⟨⟨_, rfl, rfl⟩, st2.trans st3⟩⟩⟩
  refine ⟨4, rfl, by omega, by omega, ?_⟩
  refine for_it walk_nats (fun i σ H2 => ∃ a3 a4 a5 a6 a7 a8 a9 a10 a11 a12 a13 a14 a15 a16, σ = S50 sc k more a3 a4 a5 a6 a7 a8 a9 a10 a11 a12 a13 a14 a15 a16 ∧ Stp (Tb K lams) H H2 ∧ (0 < i → ∃ v m, a5 = some v ∧ Dp K H2 v (machD m) ∧ isMach m = true)) ⟨_, _, _, _, _, _, _, _, _, _, _, _, _, _, rfl, st1, fun z => absurd z (by decide)⟩ (fun _ _ _ _ _ => trivial) ?_ ?_
  rotate_left
  · rintro σ H2 ⟨a3, a4, a5, a6, a7, a8, a9, a10, a11, a12, a13, a14, a15, a16, rfl, st2, hg⟩
    obtain ⟨v, m, rfl, hv, hm⟩ := hg (by decide)
    exact ⟨_, _, v, _, _, _, _, _, _, _, _, _, _, _, m, rfl, st2, hv, hm⟩
  rintro j x σ H2 H2' hj ⟨a3, a4, a5, a6, a7, a8, a9, a10, a11, a12, a13, a14, a15, a16, rfl, st2, -⟩ ⟨rfl, rfl⟩
  have hj4 : j < 4 := hj
  clear st1 st0
  refine ⟨_, rfl, _, rfl, 10, j, rfl, rfl, (more : Int), 10 + j, rfl, by omega, fun here _ => ?_⟩
  have h3 : here / 64 % 3 < 3 := Nat.mod_lt _ (by decide)
  -- the machine
  refine ⟨_, rfl, here, rfl, fun m hm v H5 s5 hv => ?_⟩
  have st5 := st2.same s5
  -- the counters
  refine ⟨fun σ H6 => ∃ u cs, σ = S50 sc k more (some (nI j)) (some (nI here)) (some v) (some u) a7 a8 a9 a10 a11 a12 a13 a14 a15 a16 ∧ Stp (Tb K lams) H H6 ∧ Dp K H6 v (machD m) ∧ Dp K H6 u (ctD cs) ∧ cs.length = 3 ∧ ∀ x ∈ cs, x ≤ 100, ?_, ?_⟩
  · refine ⟨3, rfl, by omega, by omega, fun D hD => ?_⟩
    refine lc_all (K := K) walk_nats hD (by decide) (fun _ _ => trivial) (fun _ d => ∃ a : Nat, d = nD a ∧ a ≤ 100) (fun i d ⟨a, e, _⟩ => by rw [e]; rfl) ?_ ?_
    · rintro i x H' H'' A B hi s' ⟨rfl, rfl⟩ hA
      have hi2 : i < 3 := hi
      refine ⟨rfl, _, rfl, _, rfl, 9, i, rfl, rfl, (here : Int), 9 + i, rfl, by omega, fun d1 _ => ?_⟩
      refine ⟨(by show 3 ≤ sizeLine; decide), fun L nL => ?_⟩
      obtain ⟨b, hb, hb1, hb2⟩ : ∃ b : Nat, [nI 4, nI 12, nI 101][here / 64 % 3]? = some (nI b) ∧ 0 < b ∧ b ≤ 101 := by
        generalize here / 64 % 3 = z at h3
        match z, h3 with
        | 0, _ => exact ⟨4, rfl, by decide, by decide⟩
        | 1, _ => exact ⟨12, rfl, by decide, by decide⟩
        | 2, _ => exact ⟨101, rfl, by decide, by decide⟩
      refine ⟨_, rfl, here, 64, rfl, rfl, ⟨by decide, by decide⟩, _, 3, rfl, rfl, by omega, L, _, _, _, rfl, rfl, SqL.of upd_same, atIn hb, d1, b, rfl, rfl, hb1, hA _ (nD (d1 % b)) _ ⟨_, rfl, ?_⟩ (same_new nL) (.int _)⟩
      have := Nat.mod_lt d1 hb1
      omega
    · intro H6 ys ds s6 hD6 hA6 hl hS
      obtain ⟨cs, rfl, hb⟩ := nats_of hS
      have ey := dps_nats hA6
      rw [ey] at hD6
      refine ⟨D, _, rfl, .inl ⟨SqL.of hD6, fun t nt => ?_⟩⟩
      have s7 := same_new (o := .tup (cs.map nI)) nt
      exact ⟨.ref t, cs, rfl, st5.same (s6.trans s7), same_dp (s6.trans s7) hv, .tup (SqT.of upd_same) (dps_nats' _), by simpa using hl, hb⟩
  clear st5 hv s5 st2
  rintro σ H6 ⟨u, cs, rfl, st6, hv, hu, hcl, hcb⟩
  -- most
  have h30 : ((2 : Nat) ^ 30).log2 < 9000 := Nat.lt_trans (pow_small (by decide)) (by decide)
  refine ⟨fun σ H7 => ∃ n, σ = S50 sc k more (some (nI j)) (some (nI here)) (some v) (some u) (some (nI n)) a8 a9 a10 a11 a12 a13 a14 a15 a16 ∧ Same H6 H7 ∧ n ≤ 60, ?_, ?_⟩
  · refine ⟨_, rfl, 2, 30, rfl, rfl, ⟨by decide, by decide⟩, here, 2 ^ 30, rfl, rfl, ⟨by decide, h30⟩, (by show 3 ≤ sizeLine; decide), fun L nL => ?_⟩
    obtain ⟨b, hb, hb1, hb2⟩ : ∃ b : Nat, [nI 61, nI 61, nI 13][here / 64 % 3]? = some (nI b) ∧ 0 < b ∧ b ≤ 61 := by
      generalize here / 64 % 3 = z at h3
      match z, h3 with
      | 0, _ => exact ⟨61, rfl, by decide, by decide⟩
      | 1, _ => exact ⟨61, rfl, by decide, by decide⟩
      | 2, _ => exact ⟨13, rfl, by decide, by decide⟩
    refine ⟨_, rfl, here, 64, rfl, rfl, ⟨by decide, by decide⟩, _, 3, rfl, rfl, by omega, L, _, _, _, rfl, rfl, SqL.of upd_same, atIn hb, here / 2 ^ 30, b, rfl, rfl, hb1, here / 2 ^ 30 % b, rfl, same_new nL, ?_⟩
    have := Nat.mod_lt (here / 2 ^ 30) hb1
    omega
  rintro σ H7 ⟨n, rfl, s7, hk60⟩
  -- the run
  refine ⟨_, rfl, _, rfl, _, rfl, v, u, m, cs, n, rfl, same_dp s7 hv, hm, same_dp s7 hu, hcl, hcb, by omega, fun rv H8 s8 hrv => ?_⟩
  have s68 := s7.trans s8
  have hok0 : OkSt m 100 (0, cs) := ⟨(mach_len hm).1, hcl, fun x hx => hcb x hx⟩
  have hsts : ∀ z ∈ mrunF m n (0, cs), OkSt m 160 z := fun z hz => by
    have := mrun_ok hm n 100 (0, cs) hok0 z hz
    exact ⟨this.1, this.2.1, fun x hx => Nat.le_trans (this.2.2 x hx) (by omega)⟩
  have hP := prog_mach hm
  have hN : isNum (stN (0, cs)) = true := num_st hm hok0 (by decide)
  have hShR : Shp 60 (.list ((mrunF m n (0, cs)).map stD)) := .lst (k := 59) (.map fun z _ => shp_st z)
  refine ⟨_, rfl, ?_⟩
  dsimp only [tCons, tC, tNil]
  refine needM_good (same_dp s68 hv) hm fun H9 s9 => ⟨rfl, _, rfl, iteF ⟨_, rfl, _, rfl, _, rfl, ?_⟩⟩
  have s69 := s68.trans s9
  refine mrun_good (same_dp s69 hv) hm (same_dp s69 hu) hcl hcb (by omega) fun rv2 H10 s10 hrv2 => ⟨_, rfl, _, hrv2, same_dp (s9.trans s10) hrv, hShR, _, rfl, iteF ?_⟩
  have s610 := s69.trans s10
  -- the program
  refine ⟨_, rfl, ?_⟩
  dsimp only [tCons, tC, tNil]
  refine progOf_good (same_dp s610 hv) hm fun pv H11 s11 hpv => ?_
  have s611 := s610.trans s11
  refine ⟨_, rfl, _, rfl, v, m, rfl, same_dp s611 hv, hm, fun pv2 H12 s12 hpv2 => ⟨_, same_dp s12 hpv, hpv2, (Shp.prog (k := 58) _), _, rfl, iteF ?_⟩⟩
  have s612 := s611.trans s12
  obtain ⟨ua, rfl, hua⟩ := dp_ct hu
  refine ⟨_, rfl, ?_⟩
  dsimp only [tCons, tC, tNil]
  refine start_good (same_dp s612 hu) hcl hcb fun H13 s13 => ?_
  have s613 := s612.trans s13
  refine ⟨_, rfl, false, ua, cs, rfl, same_tup s613 hua, by omega, fun x hx => Nat.le_trans (hcb x hx) (by decide), fun H14 s14 => ?_⟩
  have s614 := s613.trans s14
  dsimp only [tCons, tC, tNil]
  refine ⟨0, rfl, by decide, fun b3 H15 s15 hb3 => ⟨b3, _, 0, _, rfl, rfl, SqT.of hb3, atI0, make cs, ownP 0, rfl, rfl, log_st hcl (fun x hx => Nat.le_trans (hcb x hx) (by decide)) 0, stN (0, cs), stN (0, cs), rfl, rfl, _, rfl, ite2 (fun z => absurd z (by simp)) (fun _ => ?_)⟩⟩
  have s615 := s614.trans s15
  -- numbers
  refine ⟨_, rfl, _, rfl, ?_⟩
  dsimp only [tCons, tC, tNil]
  refine start_good (same_dp s615 hu) hcl hcb fun H16 s16 => ?_
  have s616 := s615.trans s16
  have hpv16 := same_dp (((((s12.trans s13).trans s14).trans s15).trans s16)) hpv
  refine ⟨_, rfl, 2, n, rfl, rfl, log_small (by decide) (by omega), ?_⟩
  refine run_good hpv16 hP hN (by omega) (run_walk hm n 100 (0, cs) hok0 (by omega)) fun np H17 s17 _ hnp => ?_
  have s617 := s616.trans s17
  have hpv17 := same_dp s17 hpv16
  have hrv17 := same_dp ((((((((s9.trans s10).trans s11).trans s12).trans s13).trans s14).trans s15).trans s16).trans s17) hrv
  have st17 := st6.same s617
  have hv17 := same_dp s617 hv
  have hu17 := same_tup s617 hua
  clear s68 s69 s610 s611 s612 s613 s614 s615 s616 s617 hrv hrv2 hpv hpv2 hpv16 hua hu hv
  obtain ⟨ra, rs, rfl, hra, hrs⟩ := dp_lst hrv17
  have hrl : rs.length = (mrunF m n (0, cs)).length := by rw [dps_len hrs, List.length_map]
  have hml := mrun_len m n (0, cs)
  have hwl := walk_len m n (0, cs)
  have hnl : ((walkN m n (0, cs)).map nI).length = (walkN m n (0, cs)).length := List.length_map _
  refine ⟨_, rfl, ra, rs, rfl, hra, for_it walk_enum (fun i σ H3 => ∃ b11 b12 b13 b14, σ = S50 sc k more (some (nI j)) (some (nI here)) (some v) (some (.ref ua)) (some (nI n)) (some (.ref ra)) (some pv) (some (.ref np)) b11 b12 b13 b14 a15 a16 ∧ Same H17 H3) ⟨_, _, _, _, rfl, Same.refl _⟩ (fun i σ H3 _ ⟨_, _, _, _, _, p⟩ => p.seq hra) ?_ ?_⟩
  · rintro i x σ H3 H4 hi ⟨b11, b12, b13, b14, rfl, s3⟩ ⟨T', x1, x2, rfl, nT, rfl, e1, e2⟩
    have e1 : x1 = nI i := (Option.some.inj e1).symm
    subst e1
    have sT : Same H3 (upd H3 T' (.tup [nI i, x2])) := same_new nT
    have hT4 : SqT K (upd H3 T' (.tup [nI i, x2])) T' [nI i, x2] := SqT.of upd_same
    have s4 := s3.trans sT
    generalize upd H3 T' (.tup [nI i, x2]) = H4 at *
    have hi' : i < (mrunF m n (0, cs)).length := by omega
    obtain ⟨z, hz⟩ : ∃ z, (mrunF m n (0, cs))[i]? = some z := ⟨_, List.getElem?_eq_getElem hi'⟩
    have hx2 : Dp K H4 x2 (stD z) := by
      obtain ⟨d, hd', hdp⟩ := dps_at2 (same_dps s4 hrs) e2
      rw [List.getElem?_map, hz] at hd'
      cases hd'
      exact hdp
    have hzo := hsts z (List.mem_of_getElem? hz)
    have hzw := walk_at m n i (0, cs) z hz
    have hzN : isNum (stN z) = true := num_st hm hzo (by decide)
    have hz1 : z.1 < 4 := Nat.lt_of_lt_of_le hzo.1 (mach_len hm).2
    obtain ⟨ta, zx, zy, rfl, hta, hzx, hzy⟩ := dp_two hx2
    cases hzx
    obtain ⟨za, rfl, hza⟩ := dp_ct hzy
    refine ⟨T', _, rfl, hT4, rfl, _, _, rfl, _, _, rfl, ta, _, rfl, hta, rfl, _, _, rfl, _, _, rfl, rfl, rfl, ?_⟩
    refine ⟨_, rfl, false, za, z.2, rfl, hza, (by rw [hzo.2.1]; decide), fun x hx => Nat.le_trans (hzo.2.2 x hx) (by decide), fun H5 s5 => ?_⟩
    refine ⟨_, rfl, z.1, rfl, hz1, fun b3 H6 s6 hb3 => ⟨b3, _, 0, _, rfl, rfl, SqT.of hb3, atI0, make z.2, ownP z.1, rfl, rfl, log_st hzo.2.1 (fun x hx => Nat.le_trans (hzo.2.2 x hx) (by decide)) z.1, ?_⟩⟩
    have s46 := s5.trans s6
    have s36 := s4.trans s46
    refine ⟨_, rfl, 2, i, rfl, rfl, log_small (by decide) (by omega), _, rfl, np, _, rfl, .inl (SqL.of (s36 _ _ hnp)), 2 * i, _, rfl, rfl, _, rfl, ite2 (fun _ => ?_) (fun h => absurd (decide_eq_true (by rw [hnl]; have := (List.getElem?_eq_some_iff.mp hzw).1; exact this)) h)⟩
    refine ⟨_, rfl, _, rfl, 2, i, rfl, rfl, log_small (by decide) (by omega), np, _, ((2 * i : Nat) : Int), _, rfl, rfl, SqL.of (s36 _ _ hnp), atIn (by rw [List.getElem?_map, hzw]; rfl), _, rfl, stN z, stN z, rfl, rfl, _, rfl, ite2 (fun z => absurd z (by simp)) (fun _ => ?_)⟩
    refine ⟨_, rfl, ?_⟩
    dsimp only [tCons, tC, tNil]
    have hct := ctr_st hzo.2.1 hz1
    refine cin_good (n := stN z) hzN fun cv H7 s7 hcv => ?_
    rw [hct.1, hct.2] at hcv
    refine ⟨_, rfl, _, rfl, (by show 2 ≤ sizeLine; decide), fun p8 np8 => ?_⟩
    have s8 := same_new (o := .tup [.ref za, nI z.1]) np8
    exact ⟨_, same_dp s8 hcv, .tup (SqT.of upd_same) (.cons (same_dp ((s46.trans s7).trans s8) hzy) (.cons (.int _) .nil)), .tup (k := 59) (.cons (shp_ct _) (.cons .int .nil)), _, rfl, iteF ⟨_, _, _, _, rfl, (s36.trans s7).trans s8⟩⟩
  rintro σ H18 ⟨b11, b12, b13, b14, rfl, s18⟩
  have hra18 := s18.seq hra
  have hrs18 := same_dps s18 hrs
  refine ⟨_, rfl, ra, rs, rfl, .inl hra18, 2, rs.length, rfl, rfl, log_small (by decide) (by omega), 2 * rs.length, 1, rfl, rfl, by omega, _, rfl, np, _, rfl, .inl (SqL.of (s18 _ _ hnp)), _, 1, rfl, rfl, 2 * rs.length - 1, _, rfl, rfl, _, rfl, ite2 (fun z => ?_) (fun _ => ?_)⟩
  · exfalso
    have z := of_decide_eq_true z
    rw [hnl] at z
    omega
  obtain ⟨z, hz⟩ : ∃ z, (mrunF m n (0, cs)).getLast? = some z := by
    cases e : (mrunF m n (0, cs)).getLast? with
    | none => exact absurd (List.getLast?_eq_none_iff.mp e) (mrun_ne m n (0, cs))
    | some z => exact ⟨z, rfl⟩
  have hzo := hsts z (List.mem_of_getLast? hz)
  have hz1 : z.1 < 4 := Nat.lt_of_lt_of_le hzo.1 (mach_len hm).2
  obtain ⟨lv, hlv, hlD⟩ := dps_last hrs18 (d := stD z) (by rw [List.getLast?_map, hz]; rfl)
  obtain ⟨ta, zx, zy, rfl, hta, hzx, hzy⟩ := dp_two hlD
  cases hzx
  obtain ⟨za, rfl, hza⟩ := dp_ct hzy
  have hv18 := same_dp s18 hv17
  obtain ⟨ma, xs, rfl, hma, hxs⟩ := dp_lst hv18
  have hz0 : z.1 < m.length := hzo.1
  have hmi : m[z.1]? = some m[z.1] := List.getElem?_eq_getElem hz0
  obtain ⟨ln, hln⟩ : ∃ ln, xs[z.1]? = some ln := ⟨_, List.getElem?_eq_getElem (by rw [dps_len hxs, List.length_map]; exact hzo.1)⟩
  have hlnD : Dp K H18 ln (lnD m[z.1]) := by
    obtain ⟨d, hd', hdp⟩ := dps_at2 hxs hln
    rw [List.getElem?_map, hmi] at hd'
    cases hd'
    exact hdp
  have hu18 : Dp K H18 (.ref ua) (ctD cs) := .tup (same_tup s18 hu17) (dps_nats' _)
  have hpv18 := same_dp s18 hpv17
  have st18 := st17.same s18
  refine ⟨_, rfl, _, rfl, 1, rfl, ra, rs, -1, _, rfl, rfl, hra18, atL hlv, ta, _, 0, _, rfl, rfl, hta, atI0, ma, xs, (z.1 : Int), ln, rfl, rfl, hma, atIn hln, ?_⟩
  have other : ∀ b, ln = .ref b → (∃ ys wd, SqT K H18 b (.str wd :: ys) ∧ wd ≠ "end" ∧ (wd = "add" ∨ wd = "take")) → wentM m z ≠ none → ∃ b, ln = .ref b ∧ ∃ ys wd, SqT K H18 b (.str wd :: ys) ∧ (wd = "add" ∨ wd = "take") ∧ wentM m z ≠ none := fun b e ⟨ys, wd, h1, _, h3⟩ h4 => ⟨b, e, ys, wd, h1, h3, h4⟩
  by_cases hfin : m[z.1] = .fin
  · -- it ends
    rw [hfin] at hlnD hmi
    have hw : wentM m z = none := (went_fin hzo.1).mpr hmi
    obtain ⟨b, rfl, hb⟩ := dp_fin hlnD
    refine ⟨b, _, 0, _, rfl, rfl, hb, atI0, rfl, _, rfl, iteT ?_⟩
    refine ⟨_, rfl, 1, rfl, ra, rs, -1, _, rfl, rfl, hra18, atL hlv, ta, _, 1, _, rfl, rfl, hta, atI1, ?_⟩
    refine ⟨false, za, z.2, rfl, hza, (by rw [hzo.2.1]; decide), fun x hx => Nat.le_trans (hzo.2.2 x hx) (by decide), fun H19 s19 => ?_⟩
    refine ⟨_, rfl, _, rfl, ?_⟩
    dsimp only [tCons, tC, tNil]
    refine start_good (same_dp s19 hu18) hcl hcb fun H20 s20 => ?_
    have s1820 := s19.trans s20
    refine ⟨_, rfl, ra, rs, rfl, .inl (s1820.seq hra18), 2, rs.length, rfl, rfl, log_small (by decide) (by omega), ?_⟩
    refine end_good (same_dp s1820 hpv18) hP hN (m := 2 * rs.length) (by omega) (run_walk hm rs.length 100 (0, cs) hok0 (by omega)) fun H21 s21 => ?_
    rw [end_led (mrun_last m n (0, cs) z hz hw rs.length (by omega)), if_pos (led_done hm hzo.2.1)]
    refine ⟨_, rfl, make z.2, make z.2, rfl, rfl, _, rfl, ite2 (fun z => absurd z (by simp)) (fun _ => ?_)⟩
    refine ⟨_, rfl, ?_⟩
    dsimp only [tCons, tC, tNil]
    have hce := ctr_end hzo.2.1
    refine cin_good (n := make z.2) (num_make3 hzo.2.1 fun x hx => Nat.le_trans (hzo.2.2 x hx) (by decide)) fun cv H22 s22 hcv => ?_
    rw [hce.1, hce.2] at hcv
    have s1822 := (s1820.trans s21).trans s22
    refine ⟨_, rfl, 1, rfl, ra, rs, -1, _, rfl, rfl, s1822.seq hra18, atL hlv, ta, _, 1, _, rfl, rfl, same_tup s1822 hta, atI1, (by show 2 ≤ sizeLine; decide), fun p8 np8 => ?_⟩
    have s8 := same_new (o := .tup [.ref za, .non]) np8
    exact ⟨_, same_dp s8 hcv, .tup (SqT.of upd_same) (.cons (same_dp (s1822.trans s8) hzy) (.cons .non .nil)), .tup (k := 59) (.cons (shp_ct _) (.cons .non .nil)), _, rfl, iteF ⟨_, _, _, _, _, _, _, _, _, _, _, _, _, _, rfl, st18.same (s1822.trans s8), fun _ => ⟨_, m, rfl, same_dp (s1822.trans s8) hv18, hm⟩⟩⟩
  · -- it goes on
    have hw : wentM m z ≠ none := fun e => hfin (by
      have := (went_fin hzo.1).mp e
      rw [hmi] at this
      exact Option.some.inj this)
    obtain ⟨b, ys, wd, rfl, hb, hwd⟩ : ∃ b ys wd, ln = .ref b ∧ SqT K H18 b (.str wd :: ys) ∧ (wd = "add" ∨ wd = "take") := by
      cases hl : m[z.1] with
      | add c g =>
        rw [hl] at hlnD
        obtain ⟨b, rfl, hb⟩ := dp_add hlnD
        exact ⟨b, _, _, rfl, hb, .inl rfl⟩
      | take c g k =>
        rw [hl] at hlnD
        obtain ⟨b, rfl, hb⟩ := dp_take hlnD
        exact ⟨b, _, _, rfl, hb, .inr rfl⟩
      | fin => exact absurd hl hfin
    have cont : ∀ (Q' : Prop), Q' → Q' := fun _ h => h
    refine ⟨b, _, 0, _, rfl, rfl, hb, atI0, rfl, _, rfl, ite2 (fun h => absurd (of_decide_eq_true h) (by rcases hwd with rfl | rfl <;> (intro z; cases z))) (fun _ => ?_)⟩
    refine ⟨_, rfl, _, rfl, ?_⟩
    dsimp only [tCons, tC, tNil]
    refine start_good hu18 hcl hcb fun H20 s20 => ?_
    refine ⟨_, rfl, 2, n, rfl, rfl, log_small (by decide) (by omega), ?_⟩
    refine end_good (same_dp s20 hpv18) hP hN (m := 2 * n) (by omega) (run_walk hm n 100 (0, cs) hok0 (by omega)) fun H21 s21 => ?_
    obtain ⟨t, ht⟩ := Option.ne_none_iff_exists'.mp hw
    rw [end_led (mrun_on m n (0, cs) z hz hw), if_neg (by rw [led_went hm hzo.1 hzo.2.1 ht]; simp)]
    have s1821 := s20.trans s21
    exact ⟨rfl, _, rfl, iteF ⟨_, _, _, _, _, _, _, _, _, _, _, _, _, _, rfl, st18.same s1821, fun _ => ⟨_, m, rfl, same_dp s1821 hv18, hm⟩⟩⟩
end
end Fr
set_option maxHeartbeats 0
namespace Fr
open PySem PySem.Spec PyProof.Rows L2
def dd_is_count : He.DefD := ⟨("is_count", none), "is_count", "is_count", defArgs s_is_count, defBody s_is_count, defScope s_is_count, [], []⟩
def dd_need_count : He.DefD := ⟨("need_count", none), "need_count", "need_count", defArgs s_need_count, defBody s_need_count, defScope s_need_count, [], []⟩
def dd_parted : He.DefD := ⟨("parted", none), "parted", "parted", defArgs s_parted, defBody s_parted, defScope s_parted, [], []⟩
def dd_is_number : He.DefD := ⟨("is_number", none), "is_number", "is_number", defArgs s_is_number, defBody s_is_number, defScope s_is_number, [], []⟩
def dd_need_number : He.DefD := ⟨("need_number", none), "need_number", "need_number", defArgs s_need_number, defBody s_need_number, defScope s_need_number, [], []⟩
def dd_made : He.DefD := ⟨("made", none), "made", "made", defArgs s_made, defBody s_made, defScope s_made, [], []⟩
def dd_is_line : He.DefD := ⟨("is_line", none), "is_line", "is_line", defArgs s_is_line, defBody s_is_line, defScope s_is_line, [], []⟩
def dd_need_machine : He.DefD := ⟨("need_machine", none), "need_machine", "need_machine", defArgs s_need_machine, defBody s_need_machine, defScope s_need_machine, [], []⟩
def dd_need_counters : He.DefD := ⟨("need_counters", none), "need_counters", "need_counters", defArgs s_need_counters, defBody s_need_counters, defScope s_need_counters, [], []⟩
def dd_changed : He.DefD := ⟨("changed", none), "changed", "changed", defArgs s_changed, defBody s_changed, defScope s_changed, [], []⟩
def dd_went : He.DefD := ⟨("went", none), "went", "went", defArgs s_went, defBody s_went, defScope s_went, [], []⟩
def dd_machine_run : He.DefD := ⟨("machine_run", none), "machine_run", "machine_run", defArgs s_machine_run, defBody s_machine_run, defScope s_machine_run, [], []⟩
def dd_at_line : He.DefD := ⟨("at_line", none), "at_line", "at_line", defArgs s_at_line, defBody s_at_line, defScope s_at_line, [], []⟩
def dd_program_of : He.DefD := ⟨("program_of", none), "program_of", "program_of", defArgs s_program_of, defBody s_program_of, defScope s_program_of, [], []⟩
def dd_start : He.DefD := ⟨("start", none), "start", "start", defArgs s_start, defBody s_start, defScope s_start, [], []⟩
def dd_counters_in : He.DefD := ⟨("counters_in", none), "counters_in", "counters_in", defArgs s_counters_in, defBody s_counters_in, defScope s_counters_in, [], []⟩
def dd_common : He.DefD := ⟨("common", none), "common", "common", defArgs s_common, defBody s_common, defScope s_common, [], []⟩
def dd_is_fraction : He.DefD := ⟨("is_fraction", none), "is_fraction", "is_fraction", defArgs s_is_fraction, defBody s_is_fraction, defScope s_is_fraction, [], []⟩
def dd_is_program : He.DefD := ⟨("is_program", none), "is_program", "is_program", defArgs s_is_program, defBody s_is_program, defScope s_is_program, [], []⟩
def dd_need_program : He.DefD := ⟨("need_program", none), "need_program", "need_program", defArgs s_need_program, defBody s_need_program, defScope s_need_program, [], []⟩
def dd_first_at : He.DefD := ⟨("first_at", none), "first_at", "first_at", defArgs s_first_at, defBody s_first_at, defScope s_first_at, [], []⟩
def dd_led : He.DefD := ⟨("led", none), "led", "led", defArgs s_led, defBody s_led, defScope s_led, [], []⟩
def dd_need_room : He.DefD := ⟨("need_room", none), "need_room", "need_room", defArgs s_need_room, defBody s_need_room, defScope s_need_room, [], []⟩
def dd_look : He.DefD := ⟨("look", none), "look", "look", defArgs s_look, defBody s_look, defScope s_look, [], []⟩
def dd_run : He.DefD := ⟨("run", none), "run", "run", defArgs s_run, defBody s_run, defScope s_run, [], []⟩
def dd_end : He.DefD := ⟨("end", none), "end", "end", defArgs s_end, defBody s_end, defScope s_end, [], []⟩
def dd__law_cell : He.DefD := ⟨("_law_cell", none), "_law_cell", "_law_cell", defArgs s__law_cell, defBody s__law_cell, defScope s__law_cell, [], []⟩
def dd__law_drawn : He.DefD := ⟨("_law_drawn", none), "_law_drawn", "_law_drawn", defArgs s__law_drawn, defBody s__law_drawn, defScope s__law_drawn, [], []⟩
def dd__law_word : He.DefD := ⟨("_law_word", none), "_law_word", "_law_word", defArgs s__law_word, defBody s__law_word, defScope s__law_word, [], []⟩
def dd__law_told : He.DefD := ⟨("_law_told", none), "_law_told", "_law_told", defArgs s__law_told, defBody s__law_told, defScope s__law_told, [], []⟩
def dd__law_primes : He.DefD := ⟨("_law_primes", none), "_law_primes", "_law_primes", defArgs s__law_primes, defBody s__law_primes, defScope s__law_primes, [], []⟩
def dd__law_number : He.DefD := ⟨("_law_number", none), "_law_number", "_law_number", defArgs s__law_number, defBody s__law_number, defScope s__law_number, [], []⟩
def dd__law_machine : He.DefD := ⟨("_law_machine", none), "_law_machine", "_law_machine", defArgs s__law_machine, defBody s__law_machine, defScope s__law_machine, [], []⟩
def dd__law_machine_run : He.DefD := ⟨("_law_machine_run", none), "_law_machine_run", "_law_machine_run", defArgs s__law_machine_run, defBody s__law_machine_run, defScope s__law_machine_run, [], []⟩
def dd__law_own : He.DefD := ⟨("_law_own", none), "_law_own", "_law_own", defArgs s__law_own, defBody s__law_own, defScope s__law_own, [], []⟩
def dd__law_made : He.DefD := ⟨("_law_made", none), "_law_made", "_law_made", defArgs s__law_made, defBody s__law_made, defScope s__law_made, [], []⟩
def dd__law_refused : He.DefD := ⟨("_law_refused", none), "_law_refused", "_law_refused", defArgs s__law_refused, defBody s__law_refused, defScope s__law_refused, [], []⟩
def dd_law : He.DefD := ⟨("law", none), "law", "law", defArgs s_law, defBody s_law, defScope s_law, [], []⟩
def fn : List He.DefD := [dd_is_count, dd_need_count, dd_parted, dd_is_number, dd_need_number, dd_made, dd_is_line, dd_need_machine, dd_need_counters, dd_changed, dd_went, dd_machine_run, dd_at_line, dd_program_of, dd_start, dd_counters_in, dd_common, dd_is_fraction, dd_is_program, dd_need_program, dd_first_at, dd_led, dd_need_room, dd_look, dd_run, dd_end, dd__law_cell, dd__law_drawn, dd__law_word, dd__law_told, dd__law_primes, dd__law_number, dd__law_machine, dd__law_machine_run, dd__law_own, dd__law_made, dd__law_refused, dd_law]
def fa : List He.Fa := [.free "isinstance", .free "int", .free "bool", .free "str", .free "list", .free "tuple", .free "len", .free "all", .free "max", .free "min", .free "sum", .free "range", .free "zip", .free "enumerate", .free "ValueError", .glo "is_count", .glo "need_count", .glo "parted", .glo "is_number", .glo "need_number", .glo "made", .glo "is_line", .glo "need_machine", .glo "need_counters", .glo "changed", .glo "went", .glo "machine_run", .glo "at_line", .glo "program_of", .glo "start", .glo "counters_in", .glo "common", .glo "is_fraction", .glo "is_program", .glo "need_program", .glo "first_at", .glo "led", .glo "need_room", .glo "look", .glo "run", .glo "end", .glo "_law_cell", .glo "_law_drawn", .glo "_law_word", .glo "_law_told", .glo "_law_primes", .glo "_law_number", .glo "_law_machine", .glo "_law_machine_run", .glo "_law_own", .glo "_law_made", .glo "_law_refused", .glo "law", .glo "RowError", .exc "RowError", .glo "BadNumber", .exc "BadNumber", .glo "BadProgram", .exc "BadProgram", .glo "BadMachine", .exc "BadMachine", .glo "TooGreat", .exc "TooGreat", .glo "BadText", .exc "BadText", .glo "PRIMES", .int "MOST_ROOM" 400, .int "COUNTERS" 3, .int "MOST_LINES" 4, .int "MOST_COUNTER" 100, .int "MOST_STEPS_machines" 500, .glo "SIZES", .int "MOST_FRACTIONS" 16, .int "MOST_STEPS_programs" 2000, .int "MOST_PART" 1000000]
def ex (K : PySem.W.Frag) : Bool := He.tupB K "PRIMES" [.int 2, .int 3, .int 5, .int 7, .int 11, .int 13, .int 17, .int 19, .int 23, .int 29, .int 31, .int 37] && (He.valsB K (ga K "SIZES") [("add", .int 3), ("take", .int 4), ("end", .int 1)] && (He.eqO (PySem.W.nsIn K (ga K "SIZES") "stop") (some none) && (excB K ["BadMachine", "BadNumber", "BadProgram", "BadText", "TooGreat"] && (tabsD K ["_law_refused"] && (true)))))
theorem ex_0 {K : PySem.W.Frag} (h : ex K = true) : He.tupB K "PRIMES" [.int 2, .int 3, .int 5, .int 7, .int 11, .int 13, .int 17, .int 19, .int 23, .int 29, .int 31, .int 37] = true := (He.ba h).1
theorem ex_1 {K : PySem.W.Frag} (h : ex K = true) : He.valsB K (ga K "SIZES") [("add", .int 3), ("take", .int 4), ("end", .int 1)] = true := (He.ba (He.ba h).2).1
theorem ex_2 {K : PySem.W.Frag} (h : ex K = true) : He.eqO (PySem.W.nsIn K (ga K "SIZES") "stop") (some none) = true := (He.ba (He.ba (He.ba h).2).2).1
theorem ex_3 {K : PySem.W.Frag} (h : ex K = true) : excB K ["BadMachine", "BadNumber", "BadProgram", "BadText", "TooGreat"] = true := (He.ba (He.ba (He.ba (He.ba h).2).2).2).1
theorem ex_4 {K : PySem.W.Frag} (h : ex K = true) : tabsD K ["_law_refused"] = true := (He.ba (He.ba (He.ba (He.ba (He.ba h).2).2).2).2).1
def tf : List He.Defn := (["_law_refused"] : List Str).map fun x => (x, none)
def ts : List He.Tab := [(fun K => ga K "SIZES", ["add", "take", "end"])]
abbrev R : PySem.W.OpenRow := PySem.W.OpenLaw.row PySem.Challenge.rw_fractrows_k50_whole_machines
abbrev hk : PySem.W.Hook := He.hookX 5 fa fn ts tf ex
def ob (s : PySem.W.SharedT) : He.AlX := He.obsX 5 fa fn ts tf ex (HandSHeadRun.getT s)
theorem ob_eq (s : PySem.W.SharedT) : ob s = hk.obs s.abs := He.obsX_eq (HandSHeadRun.getT_eq s)
def loose0 : List Str := ["RowError", "BadNumber", "BadProgram", "BadMachine", "TooGreat", "BadText", "PRIMES", "MOST_ROOM", "is_count", "need_count", "parted", "is_number", "need_number", "made", "COUNTERS", "MOST_LINES", "MOST_COUNTER", "MOST_STEPS_machines", "SIZES", "is_line", "need_machine", "need_counters", "changed", "went", "machine_run", "at_line", "program_of", "start", "counters_in", "MOST_FRACTIONS"]
def loose1 : List Str := ["MOST_STEPS_programs", "MOST_PART", "common", "is_fraction", "is_program", "need_program", "first_at", "led", "need_room", "look", "run", "end", "_law_cell", "_law_drawn", "_law_word", "_law_told", "_law_primes", "_law_number", "_law_machine", "_law_machine_run", "_law_own", "_law_made", "_law_refused"]
def loose : List Str := loose0 ++ loose1
theorem run (w : World) : HandSHeadRun.RunEq R (PySem.W.view R.prog [58]) hk ob 7480 loose w := by
  refine PySem.W.byRow2 "special-get-raises" (P := fun w => HandSHeadRun.RunEq R (PySem.W.view R.prog [58]) hk ob 7480 loose w) ?_ ?_ w
  · intro w os
    kernel_rfl
  · intro w os
    kernel_rfl
theorem fnp_of {K : PySem.W.Frag} {x : Str} {st : Stmt} (h : ∃ fd, FunD K x x (defArgs st) (defBody st) (defScope st) [] [] (He.fAd K (x, none)) fd) : FnP K x st := by
  obtain ⟨fd, F⟩ := h
  obtain ⟨oc, od, dV, kV, doc, pm, an, cdv, ct, osl, e, lk, h1, h2, h3⟩ := F.ex
  have e2 : fdOf K (x, none) = fd := by
    unfold fdOf
    rw [lk]
  unfold FnP
  rw [e2]
  exact F
theorem txt_of {K : PySem.W.Frag} {h : Heap} {w : World} {mg : Str → Option Value} (X : K.In h) (G : h.Ns mainGlobals mg) (c : He.SaysX fa fn ts tf ex w h K) : Txt K mg :=
  ⟨He.free_ok X G (c.t.d.fact 0 (f := .free "isinstance") rfl),
    He.free_ok X G (c.t.d.fact 1 (f := .free "int") rfl),
    He.free_ok X G (c.t.d.fact 2 (f := .free "bool") rfl),
    He.free_ok X G (c.t.d.fact 3 (f := .free "str") rfl),
    He.free_ok X G (c.t.d.fact 4 (f := .free "list") rfl),
    He.free_ok X G (c.t.d.fact 5 (f := .free "tuple") rfl),
    He.free_ok X G (c.t.d.fact 6 (f := .free "len") rfl),
    He.free_ok X G (c.t.d.fact 7 (f := .free "all") rfl),
    He.free_ok X G (c.t.d.fact 8 (f := .free "max") rfl),
    He.free_ok X G (c.t.d.fact 9 (f := .free "min") rfl),
    He.free_ok X G (c.t.d.fact 10 (f := .free "sum") rfl),
    He.free_ok X G (c.t.d.fact 11 (f := .free "range") rfl),
    He.free_ok X G (c.t.d.fact 12 (f := .free "zip") rfl),
    He.free_ok X G (c.t.d.fact 13 (f := .free "enumerate") rfl),
    He.free_ok X G (c.t.d.fact 14 (f := .free "ValueError") rfl),
    fnp_of (c.t.d.def_ 0 (d := dd_is_count) rfl),
    He.glo_ok X G (c.t.d.fact 15 (f := .glo "is_count") rfl),
    fnp_of (c.t.d.def_ 1 (d := dd_need_count) rfl),
    He.glo_ok X G (c.t.d.fact 16 (f := .glo "need_count") rfl),
    fnp_of (c.t.d.def_ 2 (d := dd_parted) rfl),
    He.glo_ok X G (c.t.d.fact 17 (f := .glo "parted") rfl),
    fnp_of (c.t.d.def_ 3 (d := dd_is_number) rfl),
    He.glo_ok X G (c.t.d.fact 18 (f := .glo "is_number") rfl),
    fnp_of (c.t.d.def_ 4 (d := dd_need_number) rfl),
    He.glo_ok X G (c.t.d.fact 19 (f := .glo "need_number") rfl),
    fnp_of (c.t.d.def_ 5 (d := dd_made) rfl),
    He.glo_ok X G (c.t.d.fact 20 (f := .glo "made") rfl),
    fnp_of (c.t.d.def_ 6 (d := dd_is_line) rfl),
    He.glo_ok X G (c.t.d.fact 21 (f := .glo "is_line") rfl),
    fnp_of (c.t.d.def_ 7 (d := dd_need_machine) rfl),
    He.glo_ok X G (c.t.d.fact 22 (f := .glo "need_machine") rfl),
    fnp_of (c.t.d.def_ 8 (d := dd_need_counters) rfl),
    He.glo_ok X G (c.t.d.fact 23 (f := .glo "need_counters") rfl),
    fnp_of (c.t.d.def_ 9 (d := dd_changed) rfl),
    He.glo_ok X G (c.t.d.fact 24 (f := .glo "changed") rfl),
    fnp_of (c.t.d.def_ 10 (d := dd_went) rfl),
    He.glo_ok X G (c.t.d.fact 25 (f := .glo "went") rfl),
    fnp_of (c.t.d.def_ 11 (d := dd_machine_run) rfl),
    He.glo_ok X G (c.t.d.fact 26 (f := .glo "machine_run") rfl),
    fnp_of (c.t.d.def_ 12 (d := dd_at_line) rfl),
    He.glo_ok X G (c.t.d.fact 27 (f := .glo "at_line") rfl),
    fnp_of (c.t.d.def_ 13 (d := dd_program_of) rfl),
    He.glo_ok X G (c.t.d.fact 28 (f := .glo "program_of") rfl),
    fnp_of (c.t.d.def_ 14 (d := dd_start) rfl),
    He.glo_ok X G (c.t.d.fact 29 (f := .glo "start") rfl),
    fnp_of (c.t.d.def_ 15 (d := dd_counters_in) rfl),
    He.glo_ok X G (c.t.d.fact 30 (f := .glo "counters_in") rfl),
    fnp_of (c.t.d.def_ 16 (d := dd_common) rfl),
    He.glo_ok X G (c.t.d.fact 31 (f := .glo "common") rfl),
    fnp_of (c.t.d.def_ 17 (d := dd_is_fraction) rfl),
    He.glo_ok X G (c.t.d.fact 32 (f := .glo "is_fraction") rfl),
    fnp_of (c.t.d.def_ 18 (d := dd_is_program) rfl),
    He.glo_ok X G (c.t.d.fact 33 (f := .glo "is_program") rfl),
    fnp_of (c.t.d.def_ 19 (d := dd_need_program) rfl),
    He.glo_ok X G (c.t.d.fact 34 (f := .glo "need_program") rfl),
    fnp_of (c.t.d.def_ 20 (d := dd_first_at) rfl),
    He.glo_ok X G (c.t.d.fact 35 (f := .glo "first_at") rfl),
    fnp_of (c.t.d.def_ 21 (d := dd_led) rfl),
    He.glo_ok X G (c.t.d.fact 36 (f := .glo "led") rfl),
    fnp_of (c.t.d.def_ 22 (d := dd_need_room) rfl),
    He.glo_ok X G (c.t.d.fact 37 (f := .glo "need_room") rfl),
    fnp_of (c.t.d.def_ 23 (d := dd_look) rfl),
    He.glo_ok X G (c.t.d.fact 38 (f := .glo "look") rfl),
    fnp_of (c.t.d.def_ 24 (d := dd_run) rfl),
    He.glo_ok X G (c.t.d.fact 39 (f := .glo "run") rfl),
    fnp_of (c.t.d.def_ 25 (d := dd_end) rfl),
    He.glo_ok X G (c.t.d.fact 40 (f := .glo "end") rfl),
    fnp_of (c.t.d.def_ 26 (d := dd__law_cell) rfl),
    He.glo_ok X G (c.t.d.fact 41 (f := .glo "_law_cell") rfl),
    fnp_of (c.t.d.def_ 27 (d := dd__law_drawn) rfl),
    He.glo_ok X G (c.t.d.fact 42 (f := .glo "_law_drawn") rfl),
    fnp_of (c.t.d.def_ 28 (d := dd__law_word) rfl),
    He.glo_ok X G (c.t.d.fact 43 (f := .glo "_law_word") rfl),
    fnp_of (c.t.d.def_ 29 (d := dd__law_told) rfl),
    He.glo_ok X G (c.t.d.fact 44 (f := .glo "_law_told") rfl),
    fnp_of (c.t.d.def_ 30 (d := dd__law_primes) rfl),
    He.glo_ok X G (c.t.d.fact 45 (f := .glo "_law_primes") rfl),
    fnp_of (c.t.d.def_ 31 (d := dd__law_number) rfl),
    He.glo_ok X G (c.t.d.fact 46 (f := .glo "_law_number") rfl),
    fnp_of (c.t.d.def_ 32 (d := dd__law_machine) rfl),
    He.glo_ok X G (c.t.d.fact 47 (f := .glo "_law_machine") rfl),
    fnp_of (c.t.d.def_ 33 (d := dd__law_machine_run) rfl),
    He.glo_ok X G (c.t.d.fact 48 (f := .glo "_law_machine_run") rfl),
    fnp_of (c.t.d.def_ 34 (d := dd__law_own) rfl),
    He.glo_ok X G (c.t.d.fact 49 (f := .glo "_law_own") rfl),
    fnp_of (c.t.d.def_ 35 (d := dd__law_made) rfl),
    He.glo_ok X G (c.t.d.fact 50 (f := .glo "_law_made") rfl),
    fnp_of (c.t.d.def_ 36 (d := dd__law_refused) rfl),
    He.glo_ok X G (c.t.d.fact 51 (f := .glo "_law_refused") rfl),
    fnp_of (c.t.d.def_ 37 (d := dd_law) rfl),
    He.glo_ok X G (c.t.d.fact 52 (f := .glo "law") rfl),
    He.glo_ok X G (c.t.d.fact 53 (f := .glo "RowError") rfl),
    He.exc_ok (c.t.d.fact 54 (f := .exc "RowError") rfl),
    He.glo_ok X G (c.t.d.fact 55 (f := .glo "BadNumber") rfl),
    He.exc_ok (c.t.d.fact 56 (f := .exc "BadNumber") rfl),
    He.glo_ok X G (c.t.d.fact 57 (f := .glo "BadProgram") rfl),
    He.exc_ok (c.t.d.fact 58 (f := .exc "BadProgram") rfl),
    He.glo_ok X G (c.t.d.fact 59 (f := .glo "BadMachine") rfl),
    He.exc_ok (c.t.d.fact 60 (f := .exc "BadMachine") rfl),
    He.glo_ok X G (c.t.d.fact 61 (f := .glo "TooGreat") rfl),
    He.exc_ok (c.t.d.fact 62 (f := .exc "TooGreat") rfl),
    He.glo_ok X G (c.t.d.fact 63 (f := .glo "BadText") rfl),
    He.exc_ok (c.t.d.fact 64 (f := .exc "BadText") rfl),
    He.glo_ok X G (c.t.d.fact 65 (f := .glo "PRIMES") rfl),
    fun H => He.tupB_ok (ex_0 c.more) H,
    He.int_ok X G (c.t.d.fact 66 (f := .int "MOST_ROOM" 400) rfl),
    He.int_ok X G (c.t.d.fact 67 (f := .int "COUNTERS" 3) rfl),
    He.int_ok X G (c.t.d.fact 68 (f := .int "MOST_LINES" 4) rfl),
    He.int_ok X G (c.t.d.fact 69 (f := .int "MOST_COUNTER" 100) rfl),
    He.int_ok X G (c.t.d.fact 70 (f := .int "MOST_STEPS_machines" 500) rfl),
    He.glo_ok X G (c.t.d.fact 71 (f := .glo "SIZES") rfl),
    ex_1 c.more,
    He.eqO_ok (ex_2 c.more),
    He.int_ok X G (c.t.d.fact 72 (f := .int "MOST_FRACTIONS" 16) rfl),
    He.int_ok X G (c.t.d.fact 73 (f := .int "MOST_STEPS_programs" 2000) rfl),
    He.int_ok X G (c.t.d.fact 74 (f := .int "MOST_PART" 1000000) rfl),
    ex_3 c.more,
    ex_4 c.more⟩
theorem law_at {K : PySem.W.Frag} {h : Heap} {w : World} {mg : Str → Option Value} {f : Addr} (X : K.In h) (G : h.Ns mainGlobals mg) (hmg : mg "law" = some (.ref f)) (c : He.SaysX fa fn ts tf ex w h K) :
    LamX.LawAtS PySem.Challenge.rw_fractrows_k50_whole_machines w K L2.CX0 13 63 "script" mg f h := by
  have T : Txt K mg := txt_of X G c
  have e := hmg.symm.trans T.m_law
  cases e
  refine ⟨fdOf K ("law", none), tf.map (He.cT K), spLaw K, fun p hp => ?_, fun p hp => ?_, fun p hp => ?_, fun s u => FunD.bindsA (ps := ["script"]) T.d_law (fun _ _ _ _ _ _ us hl => match us, hl with | [_], _ => rfl) s [u] rfl, fun H a ns hl _ hT hS => ⟨a, ns, rfl, hS, hl, tabs0 (xs := ["_law_refused"]) (fun x hx => hT _ (List.mem_map.mpr ⟨(x, none), List.mem_map.mpr ⟨x, hx, rfl⟩, rfl⟩)), fun _ => rfl⟩, fun base _ _ hB => (ok_law T (c.t.tab 0 (t := (fun K => ga K "SIZES", ["add", "take", "end"])) rfl) (fun x hx => hB _ (List.mem_map.mpr ⟨(x, none), List.mem_map.mpr ⟨x, hx, rfl⟩, rfl⟩))).fn⟩
  · obtain ⟨z, hz, rfl⟩ := List.mem_map.mp hp
    exact c.empty z hz
  · obtain ⟨z, hz, rfl⟩ := List.mem_map.mp hp
    exact c.out z hz
  · obtain ⟨z, hz, rfl⟩ := List.mem_map.mp hp
    exact PySem.W.codeHd_of_K X (c.hd z hz)
end Fr
open PySem PySem.W PySem.Calls PyProof.Rows
set_option maxRecDepth 100000 in
set_option maxHeartbeats 0 in
theorem PySem.Challenge.cw_fractrows_k50_whole_machines_holds : PySem.Challenge.rw_fractrows_k50_whole_machines.Holds := by
  w_on; o_law
  refine HandSHeadRun.head_any (r := OpenLaw.row PySem.Challenge.rw_fractrows_k50_whole_machines) (q := view (OpenLaw.row PySem.Challenge.rw_fractrows_k50_whole_machines).prog [58]) (H := Fr.hk) (ob := Fr.ob) (M := 7480) (loose := Fr.loose) (d := HandSHeadRun.topDef (OpenLaw.row PySem.Challenge.rw_fractrows_k50_whole_machines).prog 58) (kwd := []) Fr.ob_eq
    (by kernel_rfl) (fun s => by kernel_rfl) Fr.run (by kernel_rfl) (by kernel_rfl) (by kernel_rfl) (by rfl) (by first | assumption | decide +kernel) (by decide +kernel) ⟨rfl, rfl, rfl, rfl, rfl, by decide +kernel⟩ ?hw ?hc
  case hw => w_witness2
  case hc =>
    refine LamX.walk_ofTsE (l := PySem.Challenge.rw_fractrows_k50_whole_machines) (n := 63) (k := 13) (x := "script") (CX := fun _ => L2.CX0) rfl (by decide) (by kernel_rfl) ⟨rfl, by decide, by decide⟩ ?F (fun _ _ _ _ _ z => z)
    intro w mg fa h Y G hmg0
    obtain ⟨K, KX, c⟩ := Y
    have hmg : mg ("law" : PySem.Str) = some (.ref fa) := by
      have e : (HandSHeadRun.topDef (OpenLaw.row PySem.Challenge.rw_fractrows_k50_whole_machines).prog 58).name = ("law" : PySem.Str) := by kernel_rfl
      rw [← e]
      exact hmg0
    exact ⟨K, KX, Fr.law_at KX G hmg c⟩
