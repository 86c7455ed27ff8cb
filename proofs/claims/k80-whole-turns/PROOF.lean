import PyProof.Rows.All
import Wide.All
import OpenK.AllK
import Wide.FinOn
import KE.KStateDown
import KE.DataMinMax
import HandS.ForMost
import HandS.ForExc
import HandS.ExcCtx
import HandS.HotCalls
import HandS.IsInst
import HandS.Wide
import HandS.Zip
import HandS.TupMul
import HandS.TupAny
import HandS.Deep
import HandS.Flow
import HandS.Walk
import HandS.Defaults
import HandS.Head0
import HandS.Head1
import HandS.Head2
import HandS.HeadEnd
import HandS.HeadHook1
import HandS.HeadHook2
import HandS.HeadHook3
import HandS.HeadHook4
import HandS.EndTab
import HandS.HeadWalk
import HandS.ExcIs
import HandS.Lambda
import PyProof.SumWalkG
import PyProof.ZipIter
import HandS.Zip0
import PyProof.WalksMore
import HandS.Style
import HandS.More
import HandS.Strs
import HandS.SetKeys
import HandS.Sort
import HandS.Conv
import HandS.TupLe
import KE.GoesMore
import KE.GoesEnum
import HandS.SetFor
import PySem.Challenge.RW_fractrows_k80_whole_turns
set_option Elab.async false
set_option linter.all false
set_option maxRecDepth 100000
set_option maxHeartbeats 4000000
namespace Fr

def primes : List Nat := [2, 3, 5, 7, 11, 13, 17, 19, 23, 29, 31, 37]

def stripF (p : Nat) : Nat → Nat → Nat × Nat
  | 0, n => (0, n)
  | f + 1, n => if n % p = 0 then ((stripF p f (n / p)).1 + 1, (stripF p f (n / p)).2) else (0, n)
/-- how often p divides n, and what is left -/
def strip (p n : Nat) : Nat × Nat := stripF p n n

theorem stripF_spec {p : Nat} (hp : 2 ≤ p) : ∀ (a f m : Nat), m % p ≠ 0 → a ≤ f → stripF p f (p ^ a * m) = (a, m)
  | 0, 0, m, _, _ => by simp [stripF]
  | 0, f + 1, m, hm, _ => by simp [stripF, hm]
  | a + 1, 0, m, _, h => absurd h (by omega)
  | a + 1, f + 1, m, hm, h => by
    have e1 : (p ^ (a + 1) * m) % p = 0 := by
      rw [Nat.pow_succ, Nat.mul_comm (p ^ a) p, Nat.mul_assoc]
      exact Nat.mul_mod_right p _
    have e2 : p ^ (a + 1) * m / p = p ^ a * m := by
      rw [Nat.pow_succ, Nat.mul_comm (p ^ a) p, Nat.mul_assoc]
      exact Nat.mul_div_cancel_left _ (by omega)
    have ih := stripF_spec hp a f m hm (by omega)
    unfold stripF
    rw [if_pos e1, e2, ih]
theorem pow_gt {p : Nat} (hp : 2 ≤ p) : ∀ a : Nat, a < p ^ a
  | 0 => by simp
  | a + 1 => by
    have ih := pow_gt hp a
    rw [Nat.pow_succ]
    have : p ^ a * 2 ≤ p ^ a * p := Nat.mul_le_mul_left _ hp
    omega
theorem strip_spec {p : Nat} (hp : 2 ≤ p) {a m : Nat} (hm : m % p ≠ 0) : strip p (p ^ a * m) = (a, m) := by
  have h0 : 0 < m := by
    rcases Nat.eq_zero_or_pos m with e | e
    · rw [e] at hm; simp at hm
    · exact e
  refine stripF_spec hp a _ m hm ?_
  have h1 := pow_gt hp a
  have h2 : p ^ a * 1 ≤ p ^ a * m := Nat.mul_le_mul_left _ h0
  omega
/-- every number has its form -/
theorem strip_form {p : Nat} (hp : 2 ≤ p) : ∀ (n : Nat), 0 < n → ∃ a m, n = p ^ a * m ∧ m % p ≠ 0 := by
  intro n
  induction n using Nat.strongRecOn with
  | ind n ih =>
    intro hn
    by_cases h : n % p = 0
    · have hlt : n / p < n := Nat.div_lt_self hn hp
      have hpos : 0 < n / p := Nat.div_pos (Nat.le_of_dvd hn (Nat.dvd_of_mod_eq_zero h)) (by omega)
      obtain ⟨a, m, e, hm⟩ := ih (n / p) hlt hpos
      refine ⟨a + 1, m, ?_, hm⟩
      have e1 : p * (n / p) = n := Nat.mul_div_cancel' (Nat.dvd_of_mod_eq_zero h)
      rw [Nat.pow_succ, Nat.mul_comm (p ^ a) p, Nat.mul_assoc, ← e, e1]
    · exact ⟨0, n, by simp, h⟩
theorem strip_eq {p : Nat} (hp : 2 ≤ p) {n : Nat} (hn : 0 < n) : n = p ^ (strip p n).1 * (strip p n).2 ∧ (strip p n).2 % p ≠ 0 := by
  obtain ⟨a, m, e, hm⟩ := strip_form hp n hn
  have h := strip_spec hp (a := a) hm
  rw [← e] at h
  rw [h]
  exact ⟨e, hm⟩

def partL : List Nat → Nat → List Nat × Nat
  | [], n => ([], n)
  | p :: ps, n => ((strip p n).1 :: (partL ps (strip p n).2).1, (partL ps (strip p n).2).2)
def makeL : List Nat → List Nat → Nat
  | p :: ps, a :: as => p ^ a * makeL ps as
  | _, _ => 1

theorem partL_len : ∀ (ps : List Nat) (n : Nat), (partL ps n).1.length = ps.length
  | [], _ => rfl
  | p :: ps, n => by
    show (partL ps _).1.length + 1 = ps.length + 1
    rw [partL_len ps]

/-- pairwise coprime, each at least 2 -/
def Cop : List Nat → Prop
  | [] => True
  | p :: ps => 2 ≤ p ∧ (∀ q ∈ ps, Nat.Coprime p q) ∧ Cop ps
theorem cop_make {p : Nat} : ∀ (ps as : List Nat), (∀ q ∈ ps, Nat.Coprime p q) → Nat.Coprime p (makeL ps as)
  | [], [], _ => by simp [makeL]
  | [], _ :: _, _ => by simp [makeL]
  | _ :: _, [], _ => by simp [makeL]
  | q :: ps, a :: as, h => by
    show Nat.Coprime p (q ^ a * makeL ps as)
    have h1 : Nat.Coprime p (q ^ a) := Nat.Coprime.pow_right a (h q List.mem_cons_self)
    have h2 := cop_make ps as fun r hr => h r (List.mem_cons_of_mem _ hr)
    exact Nat.Coprime.mul_right h1 h2
theorem cop_mod {p m : Nat} (hp : 2 ≤ p) (h : Nat.Coprime p m) : m % p ≠ 0 := by
  intro e
  have d : p ∣ m := Nat.dvd_of_mod_eq_zero e
  have g : Nat.gcd p m = p := Nat.gcd_eq_left d
  rw [Nat.Coprime] at h
  omega
theorem make_pos : ∀ (ps as : List Nat), (∀ q ∈ ps, 2 ≤ q) → 0 < makeL ps as
  | [], [], _ => by simp [makeL]
  | [], _ :: _, _ => by simp [makeL]
  | _ :: _, [], _ => by simp [makeL]
  | q :: ps, a :: as, h => by
    show 0 < q ^ a * makeL ps as
    have h1 : 0 < q := by have := h q List.mem_cons_self; omega
    exact Nat.mul_pos (Nat.pow_pos h1) (make_pos ps as fun r hr => h r (List.mem_cons_of_mem _ hr))
theorem Cop.two : ∀ {ps : List Nat}, Cop ps → ∀ q ∈ ps, 2 ≤ q
  | p :: ps, ⟨h1, _, h3⟩, q, hq => by
    rcases List.mem_cons.mp hq with e | e
    · rw [e]; exact h1
    · exact Cop.two h3 q e
/-- the rooms of a made number -/
theorem part_make : ∀ (ps as : List Nat) (r : Nat), Cop ps → as.length = ps.length → (∀ q ∈ ps, Nat.Coprime q r) → partL ps (makeL ps as * r) = (as, r)
  | [], [], r, _, _, _ => by simp [partL, makeL]
  | [], _ :: _, _, _, h, _ => by simp at h
  | _ :: _, [], _, _, h, _ => by simp at h
  | p :: ps, a :: as, r, ⟨h1, h2, h3⟩, hl, hr => by
    have hm : (makeL ps as * r) % p ≠ 0 := cop_mod h1 (Nat.Coprime.mul_right (cop_make ps as h2) (hr p List.mem_cons_self))
    have e : strip p (makeL (p :: ps) (a :: as) * r) = (a, makeL ps as * r) := by
      show strip p (p ^ a * makeL ps as * r) = _
      rw [Nat.mul_assoc]
      exact strip_spec h1 hm
    have ih := part_make ps as r h3 (by simpa using hl) fun q hq => hr q (List.mem_cons_of_mem _ hq)
    unfold partL
    rw [e, ih]
/-- a number is what its rooms make, times what is left -/
theorem make_part : ∀ (ps : List Nat) (n : Nat), Cop ps → 0 < n → n = makeL ps (partL ps n).1 * (partL ps n).2 ∧ 0 < (partL ps n).2
  | [], n, _, h => by simp [partL, makeL, h]
  | p :: ps, n, ⟨h1, h2, h3⟩, h => by
    obtain ⟨e, hm⟩ := strip_eq h1 h
    have hpos : 0 < (strip p n).2 := by
      rcases Nat.eq_zero_or_pos (strip p n).2 with z | z
      · rw [z] at hm; simp at hm
      · exact z
    obtain ⟨e2, h4⟩ := make_part ps (strip p n).2 h3 hpos
    refine ⟨?_, h4⟩
    show n = p ^ (strip p n).1 * makeL ps (partL ps (strip p n).2).1 * (partL ps (strip p n).2).2
    rw [Nat.mul_assoc, ← e2]
    exact e

theorem cop_primes : Cop primes := ⟨by decide, by decide, by decide, by decide, by decide, by decide, by decide, by decide, by decide, by decide, by decide, by decide, by decide, by decide, by decide, by decide, by decide, by decide, by decide, by decide, by decide, by decide, by decide, by decide, trivial⟩
@[irreducible] def rooms (n : Nat) : List Nat := (partL primes n).1
@[irreducible] def left (n : Nat) : Nat := (partL primes n).2
@[irreducible] def make (as : List Nat) : Nat := makeL primes as
theorem rooms_def (n : Nat) : rooms n = (partL primes n).1 := by unfold rooms; rfl
theorem left_def (n : Nat) : left n = (partL primes n).2 := by unfold left; rfl
theorem make_def (as : List Nat) : make as = makeL primes as := by unfold make; rfl
theorem rooms_len (n : Nat) : (rooms n).length = 12 := by rw [rooms_def]; exact partL_len primes n
theorem make_pos' (as : List Nat) : 0 < make as := by rw [make_def]; exact make_pos primes as cop_primes.two
theorem rooms_make {as : List Nat} (h : as.length = 12) : rooms (make as) = as := by
  have e := part_make primes as 1 cop_primes h fun q _ => Nat.coprime_one_right q
  rw [Nat.mul_one] at e
  rw [rooms_def, make_def, e]
theorem left_make {as : List Nat} (h : as.length = 12) : left (make as) = 1 := by
  have e := part_make primes as 1 cop_primes h fun q _ => Nat.coprime_one_right q
  rw [Nat.mul_one] at e
  rw [left_def, make_def, e]
theorem make_rooms {n : Nat} (h : 0 < n) : n = make (rooms n) * left n ∧ 0 < left n := by rw [make_def, left_def, rooms_def]; exact make_part primes n cop_primes h
/-- a number of the twelve primes alone -/
theorem make_rooms1 {n : Nat} (h : 0 < n) (hl : left n = 1) : make (rooms n) = n := by
  have e := (make_rooms h).1
  rw [hl, Nat.mul_one] at e
  exact e.symm
theorem left_one {n : Nat} (h : 0 < n) : left n = 1 ↔ make (rooms n) = n := by
  refine ⟨make_rooms1 h, fun e => ?_⟩
  have e2 := (make_rooms h).1
  rw [e] at e2
  have : n * left n = n * 1 := by omega
  exact Nat.eq_of_mul_eq_mul_left h this
/-- whether it is a number -/
@[irreducible] def isNum (n : Nat) : Bool := decide (1 ≤ n) && (decide (left n = 1) && (rooms n).all fun a => decide (a ≤ 400))
theorem isNum_make {as : List Nat} (h : as.length = 12) (hb : ∀ a ∈ as, a ≤ 400) : isNum (make as) = true := by
  unfold isNum
  rw [left_make h, rooms_make h]
  have h1 : 1 ≤ make as := make_pos' as
  simp only [h1, decide_true, Bool.true_and, List.all_eq_true, decide_eq_true_eq]
  exact hb
theorem isNum_iff {n : Nat} : isNum n = true ↔ 0 < n ∧ left n = 1 ∧ ∀ a ∈ rooms n, a ≤ 400 := by
  unfold isNum
  simp only [Bool.and_eq_true, decide_eq_true_eq, List.all_eq_true]
  exact Iff.rfl
end Fr
namespace Fr
theorem strip_no {p x : Nat} (h : x % p ≠ 0) (hp : 2 ≤ p) : strip p x = (0, x) := by
  have e := strip_spec hp (a := 0) h
  simpa using e
theorem strip_yes {p x : Nat} (h : x % p = 0) (hp : 2 ≤ p) (hx : 0 < x) : strip p x = ((strip p (x / p)).1 + 1, (strip p (x / p)).2) ∧ 0 < x / p ∧ x / p < x := by
  have d : p ∣ x := Nat.dvd_of_mod_eq_zero h
  have hpos : 0 < x / p := Nat.div_pos (Nat.le_of_dvd hx d) (by omega)
  refine ⟨?_, hpos, Nat.div_lt_self hx hp⟩
  obtain ⟨a, m, e, hm⟩ := strip_form hp (x / p) hpos
  have e1 : x = p ^ (a + 1) * m := by
    have e2 : p * (x / p) = x := Nat.mul_div_cancel' d
    rw [Nat.pow_succ, Nat.mul_comm (p ^ a) p, Nat.mul_assoc, ← e, e2]
  have s1 := strip_spec hp (a := a + 1) hm
  have s2 := strip_spec hp (a := a) hm
  rw [← e1] at s1
  rw [← e] at s2
  rw [s1, s2]
theorem partL_snoc (p : Nat) : ∀ (ps : List Nat) (n : Nat), partL (ps ++ [p]) n = ((partL ps n).1 ++ [(strip p (partL ps n).2).1], (strip p (partL ps n).2).2)
  | [], n => rfl
  | q :: ps, n => by
    show ((strip q n).1 :: (partL (ps ++ [p]) (strip q n).2).1, (partL (ps ++ [p]) (strip q n).2).2) = _
    rw [partL_snoc p ps]
    rfl
theorem partL_pos (ps : List Nat) (h2 : ∀ p ∈ ps, 2 ≤ p) : ∀ n : Nat, 0 < n → 0 < (partL ps n).2 := by
  induction ps with
  | nil => intro n h; exact h
  | cons p ps ih =>
    intro n h
    have e := (strip_eq (h2 p List.mem_cons_self) h).2
    have : 0 < (strip p n).2 := by
      rcases Nat.eq_zero_or_pos (strip p n).2 with z | z
      · rw [z] at e; simp at e
      · exact z
    exact ih (fun q hq => h2 q (List.mem_cons_of_mem _ hq)) _ this
theorem primes_two : ∀ p ∈ primes, 2 ≤ p := cop_primes.two
theorem primes_small : ∀ p ∈ primes, p < 64 := by decide
theorem take_at {α : Type} {l : List α} {i : Nat} {x : α} (h : l[i]? = some x) : l.take (i + 1) = l.take i ++ [x] := by
  rw [List.take_add_one, h]
  rfl
end Fr
namespace Fr
/-! ### sizes -/
theorem log2_lt' {n k : Nat} (hk : 0 < k) (h : n < 2 ^ k) : n.log2 < k := by
  rcases Nat.eq_zero_or_pos n with z | z
  · rw [z]
    simpa using hk
  · exact (Nat.log2_lt (by omega)).mpr h
theorem makeL_lt : ∀ (ps as : List Nat), (∀ p ∈ ps, p < 64) → makeL ps as ≤ 2 ^ (6 * as.sum)
  | [], [], _ => by simp [makeL]
  | [], a :: as, _ => by
    simp only [makeL]
    exact Nat.one_le_two_pow
  | _ :: _, [], _ => by simp [makeL]
  | p :: ps, a :: as, h => by
    have ih := makeL_lt ps as fun q hq => h q (List.mem_cons_of_mem _ hq)
    have hp : p ≤ 2 ^ 6 := by have := h p List.mem_cons_self; omega
    have h1 : p ^ a ≤ 2 ^ (6 * a) := by
      rw [Nat.pow_mul]
      exact Nat.pow_le_pow_left hp a
    show p ^ a * makeL ps as ≤ 2 ^ (6 * (a :: as).sum)
    rw [List.sum_cons, Nat.mul_add, Nat.pow_add]
    exact Nat.mul_le_mul h1 ih
theorem make_le (as : List Nat) : make as ≤ 2 ^ (6 * as.sum) := by
  rw [make_def]
  exact makeL_lt primes as primes_small
theorem sum_le {b : Nat} : ∀ {as : List Nat}, (∀ a ∈ as, a ≤ b) → as.sum ≤ b * as.length
  | [], _ => by simp
  | a :: as, h => by
    have ih := sum_le (as := as) fun x hx => h x (List.mem_cons_of_mem _ hx)
    have := h a List.mem_cons_self
    rw [List.sum_cons, List.length_cons, Nat.mul_add]
    omega
theorem isNum_lt {n : Nat} (h : isNum n = true) : n < 2 ^ 28801 := by
  obtain ⟨h0, h1, h2⟩ := isNum_iff.mp h
  have e := make_rooms1 h0 h1
  have h3 := sum_le h2
  rw [rooms_len] at h3
  have h4 := make_le (rooms n)
  rw [e] at h4
  have h5 : 2 ^ (6 * (rooms n).sum) ≤ 2 ^ 28800 := Nat.pow_le_pow_right (by decide) (by omega)
  have h6 : 2 ^ 28800 < 2 ^ 28801 := Nat.pow_lt_pow_right (by decide) (by decide)
  omega
/-! ### one more in a room -/
/-- makeL by places -/
theorem makeL_set : ∀ (ps as : List Nat) (i p a : Nat), ps[i]? = some p → as[i]? = some a → makeL ps (as.set i (a + 1)) = makeL ps as * p
  | [], _, i, _, _, h, _ => by simp at h
  | _ :: _, [], i, _, _, _, h => by simp at h
  | q :: ps, b :: as, 0, p, a, h, h' => by
    have e1 : q = p := Option.some.inj h
    have e2 : b = a := Option.some.inj h'
    subst e1 e2
    show q ^ (b + 1) * makeL ps as = q ^ b * makeL ps as * q
    rw [Nat.pow_succ, Nat.mul_assoc, Nat.mul_comm q, ← Nat.mul_assoc]
  | q :: ps, b :: as, i + 1, p, a, h, h' => by
    show q ^ b * makeL ps (as.set i (a + 1)) = q ^ b * makeL ps as * p
    rw [makeL_set ps as i p a h h', Nat.mul_assoc]
theorem make_set {as : List Nat} {i p a : Nat} (hp : primes[i]? = some p) (ha : as[i]? = some a) : make (as.set i (a + 1)) = make as * p := by
  rw [make_def, make_def]
  exact makeL_set primes as i p a hp ha
theorem makeL_zero : ∀ (ps : List Nat) (n : Nat), makeL ps (List.replicate n 0) = 1
  | [], 0 => rfl
  | [], n + 1 => rfl
  | _ :: _, 0 => rfl
  | p :: ps, n + 1 => by
    show p ^ 0 * makeL ps (List.replicate n 0) = 1
    rw [makeL_zero ps n]
    simp
theorem make_zero : make (List.replicate 12 0) = 1 := by
  rw [make_def]
  exact makeL_zero primes 12
theorem sum_set1 : ∀ {as : List Nat} {i a : Nat}, as[i]? = some a → (as.set i (a + 1)).sum = as.sum + 1
  | [], i, a, h => by simp at h
  | b :: as, 0, a, h => by
    have e : b = a := Option.some.inj h
    subst e
    show (b + 1) + as.sum = b + as.sum + 1
    omega
  | b :: as, i + 1, a, h => by
    have ih := sum_set1 (as := as) (i := i) (a := a) h
    show b + (as.set i (a + 1)).sum = b + as.sum + 1
    omega
/-- the prime at i divides what is made just if it has something in room i -/
theorem make_mod {as : List Nat} {i p a : Nat} (hl : as.length = 12) (hp : primes[i]? = some p) (ha : as[i]? = some a) : make as % p = 0 ↔ 0 < a := by
  have hi : i < as.length := (List.getElem?_eq_some_iff.mp ha).1
  constructor
  · intro h
    rcases Nat.eq_zero_or_pos a with z | z
    · exfalso
      have hp2 : 2 ≤ p := primes_two p (List.mem_of_getElem? hp)
      have hc : Nat.Coprime p (make as) := by
        rw [make_def]
        have key : ∀ (ps bs : List Nat) (j q : Nat), Cop ps → ps[j]? = some q → bs[j]? = some 0 → Nat.Coprime q (makeL ps bs) := by
          intro ps
          induction ps with
          | nil => intro bs j q _ h; simp at h
          | cons r ps ih =>
            intro bs j q hc h h'
            cases bs with
            | nil => simp at h'
            | cons b bs =>
              obtain ⟨c1, c2, c3⟩ := hc
              cases j with
              | zero =>
                have e1 : r = q := Option.some.inj h
                have e2 : b = 0 := Option.some.inj h'
                subst e1 e2
                show Nat.Coprime r (r ^ 0 * makeL ps bs)
                rw [Nat.pow_zero, Nat.one_mul]
                exact cop_make ps bs c2
              | succ j =>
                have hq : q ∈ ps := List.mem_of_getElem? (i := j) h
                show Nat.Coprime q (r ^ b * makeL ps bs)
                exact Nat.Coprime.mul_right (Nat.Coprime.pow_right b (Nat.Coprime.symm (c2 q hq))) (ih bs j q c3 h h')
        exact key primes as i p cop_primes hp (by rw [ha, z])
      exact cop_mod hp2 hc h
    · exact z
  · intro h
    obtain ⟨b, rfl⟩ : ∃ b, a = b + 1 := ⟨a - 1, by omega⟩
    have e : make as = make (as.set i b) * p := by
      have h1 : (as.set i b)[i]? = some b := by rw [List.getElem?_set_self hi]
      have h2 := make_set (as := as.set i b) hp h1
      rw [List.set_set] at h2
      rw [← h2]
      congr 1
      refine (List.ext_getElem? fun k => ?_)
      by_cases hk : k = i
      · subst hk; rw [ha, List.getElem?_set_self hi]
      · rw [List.getElem?_set_ne (Ne.symm hk)]
    rw [e]
    exact Nat.mul_mod_left _ _
theorem make_div {as : List Nat} {i p a : Nat} (hp : primes[i]? = some p) (ha : as[i]? = some (a + 1)) : make as / p = make (as.set i a) := by
  have hi : i < as.length := (List.getElem?_eq_some_iff.mp ha).1
  have hp2 : 2 ≤ p := primes_two p (List.mem_of_getElem? hp)
  have h1 : (as.set i a)[i]? = some a := by rw [List.getElem?_set_self hi]
  have h2 := make_set (as := as.set i a) hp h1
  rw [List.set_set] at h2
  have e : as.set i (a + 1) = as := by
    refine (List.ext_getElem? fun k => ?_)
    by_cases hk : k = i
    · subst hk; rw [ha, List.getElem?_set_self hi]
    · rw [List.getElem?_set_ne (Ne.symm hk)]
  rw [e] at h2
  rw [h2]
  exact Nat.mul_div_cancel _ (by omega)
/-- coprime, if in no room both have something -/
theorem make_cop {as bs : List Nat} (h : ∀ i : Nat, as[i]? = some 0 ∨ bs[i]? = some 0 ∨ 12 ≤ i) : Nat.gcd (make as) (make bs) = 1 := by
  rw [make_def, make_def]
  have key : ∀ (ps as bs : List Nat), Cop ps → (∀ i : Nat, as[i]? = some 0 ∨ bs[i]? = some 0 ∨ ps.length ≤ i) → Nat.Coprime (makeL ps as) (makeL ps bs) := by
    intro ps
    induction ps with
    | nil => intro as bs _ _; cases as <;> simp [makeL]
    | cons p ps ih =>
      intro as bs hc h
      obtain ⟨c1, c2, c3⟩ := hc
      cases as with
      | nil => simp [makeL]
      | cons a as =>
        cases bs with
        | nil => simp [makeL]
        | cons b bs =>
          have ih' := ih as bs c3 fun i => by
            have := h (i + 1)
            simpa using this
          have h0 := h 0
          have ha : Nat.Coprime p (makeL ps as) := cop_make ps as c2
          have hb : Nat.Coprime p (makeL ps bs) := cop_make ps bs c2
          show Nat.Coprime (p ^ a * makeL ps as) (p ^ b * makeL ps bs)
          have g1 : Nat.Coprime (makeL ps as) (p ^ b * makeL ps bs) := Nat.Coprime.mul_right (Nat.Coprime.symm (Nat.Coprime.pow_left b ha)) ih'
          have g2 : Nat.Coprime (p ^ a) (p ^ b * makeL ps bs) := by
            rcases h0 with z | z | z
            · have e : a = 0 := by simpa using z
              subst e
              simp
            · have e : b = 0 := by simpa using z
              subst e
              rw [Nat.pow_zero, Nat.one_mul]
              exact Nat.Coprime.pow_left a hb
            · simp at z
          exact Nat.Coprime.mul_left g2 g1
  exact key primes as bs cop_primes h
end Fr
namespace Fr
/-! ### programs -/
abbrev Prog := List (Nat × Nat)
/-- whether it is a fraction -/
def isFrac (p : Nat × Nat) : Bool := (isNum p.1 && isNum p.2) && (decide (max p.1 p.2 ≤ 1000000) && decide (Nat.gcd p.1 p.2 = 1))
def isProg (l : Prog) : Bool := decide (l.length ≤ 16) && l.all isFrac
/-- the place of the first that fits -/
def firstAt (l : Prog) (n : Nat) : Option Nat := l.findIdx? fun p => decide (n % p.2 = 0)
def upAt (l : Prog) (i : Nat) : Nat := (l.getD i (1, 1)).1
def unAt (l : Prog) (i : Nat) : Nat := (l.getD i (1, 1)).2
/-- the number behind a step -/
def led (l : Prog) (n : Nat) : Option Nat := (firstAt l n).map fun i => n / unAt l i * upAt l i
theorem firstAt_some {l : Prog} {n i : Nat} (hi : i < l.length) (h : n % (l[i]).2 = 0) (hb : ∀ (j : Nat) (hj : j < l.length), j < i → n % (l[j]).2 ≠ 0) : firstAt l n = some i := by
  unfold firstAt
  rw [List.findIdx?_eq_some_iff_getElem]
  refine ⟨hi, by simpa using h, fun j hj => ?_⟩
  have := hb j (by omega) hj
  simpa using this
theorem firstAt_none {l : Prog} {n : Nat} (h : ∀ (j : Nat) (hj : j < l.length), n % (l[j]).2 ≠ 0) : firstAt l n = none := by
  unfold firstAt
  rw [List.findIdx?_eq_none_iff]
  intro p hp
  obtain ⟨j, hj, e⟩ := List.mem_iff_getElem.mp hp
  have := h j hj
  rw [e] at this
  simpa using this
theorem firstAt_is {l : Prog} {n i : Nat} (h : firstAt l n = some i) : ∃ hi : i < l.length, n % (l[i]).2 = 0 ∧ ∀ (j : Nat) (hj : j < l.length), j < i → n % (l[j]).2 ≠ 0 := by
  unfold firstAt at h
  rw [List.findIdx?_eq_some_iff_getElem] at h
  obtain ⟨hi, h1, h2⟩ := h
  refine ⟨hi, by simpa using h1, fun j hj hji => ?_⟩
  have := h2 j hji
  simpa using this
theorem firstAt_lt {l : Prog} {n i : Nat} (h : firstAt l n = some i) : i < l.length := (firstAt_is h).1
theorem unAt_eq {l : Prog} {i : Nat} (h : i < l.length) : unAt l i = (l[i]).2 := by
  unfold unAt
  rw [List.getD_eq_getElem?_getD, List.getElem?_eq_getElem h]
  rfl
theorem upAt_eq {l : Prog} {i : Nat} (h : i < l.length) : upAt l i = (l[i]).1 := by
  unfold upAt
  rw [List.getD_eq_getElem?_getD, List.getElem?_eq_getElem h]
  rfl
theorem isFrac_iff {p : Nat × Nat} : isFrac p = true ↔ isNum p.1 = true ∧ isNum p.2 = true ∧ p.1 ≤ 1000000 ∧ p.2 ≤ 1000000 ∧ Nat.gcd p.1 p.2 = 1 := by
  unfold isFrac
  simp only [Bool.and_eq_true, decide_eq_true_eq]
  constructor
  · rintro ⟨⟨h1, h2⟩, h3, h4⟩
    exact ⟨h1, h2, by omega, by omega, h4⟩
  · rintro ⟨h1, h2, h3, h4, h5⟩
    exact ⟨⟨h1, h2⟩, by omega, h5⟩
theorem isProg_iff {l : Prog} : isProg l = true ↔ l.length ≤ 16 ∧ ∀ p ∈ l, isFrac p = true := by
  unfold isProg
  simp only [Bool.and_eq_true, decide_eq_true_eq, List.all_eq_true]
theorem isNum_pos {n : Nat} (h : isNum n = true) : 0 < n := (isNum_iff.mp h).1
theorem isProg_pos {l : Prog} (h : isProg l = true) : ∀ p ∈ l, 0 < p.2 := fun p hp => isNum_pos (isFrac_iff.mp ((isProg_iff.mp h).2 p hp)).2.1
/-! ### too great -/
theorem two_pow_le_make {as : List Nat} {a : Nat} (hl : as.length = 12) (ha : a ∈ as) : 2 ^ a ≤ make as := by
  rw [make_def]
  have key : ∀ (ps bs : List Nat), (∀ p ∈ ps, 2 ≤ p) → bs.length = ps.length → a ∈ bs → 2 ^ a ≤ makeL ps bs := by
    intro ps
    induction ps with
    | nil =>
      intro bs _ hl h
      cases bs with
      | nil => cases h
      | cons b bs => simp at hl
    | cons p ps ih =>
      intro bs h2 hl h
      cases bs with
      | nil => simp at hl
      | cons b bs =>
        have hp := h2 p List.mem_cons_self
        have hpos : 0 < makeL ps bs := make_pos ps bs fun q hq => h2 q (List.mem_cons_of_mem _ hq)
        show 2 ^ a ≤ p ^ b * makeL ps bs
        rcases List.mem_cons.mp h with e | e
        · subst e
          have h3 : 2 ^ a ≤ p ^ a := Nat.pow_le_pow_left hp a
          have h4 : p ^ a * 1 ≤ p ^ a * makeL ps bs := Nat.mul_le_mul_left _ hpos
          omega
        · have h3 := ih bs (fun q hq => h2 q (List.mem_cons_of_mem _ hq)) (by simpa using hl) e
          have h4 : 0 < p ^ b := Nat.pow_pos (by omega)
          have h5 : 1 * makeL ps bs ≤ p ^ b * makeL ps bs := Nat.mul_le_mul_right _ h4
          omega
  exact key primes as primes_two hl ha
theorem great {n a : Nat} (h : 0 < n) (ha : a ∈ rooms n) (hb : 400 < a) : 0 < n / 10 ^ 60 / 10 ^ 60 := by
  have h1 := two_pow_le_make (rooms_len n) ha
  have h2 := make_rooms h
  have h3 : make (rooms n) * 1 ≤ make (rooms n) * left n := Nat.mul_le_mul_left _ h2.2
  have h4 : (2 : Nat) ^ 401 ≤ 2 ^ a := Nat.pow_le_pow_right (by decide) hb
  have h5 : (10 : Nat) ^ 60 * 10 ^ 60 ≤ 2 ^ 401 := by decide +kernel
  have h6 : 10 ^ 60 * 10 ^ 60 ≤ n := by omega
  rw [Nat.div_div_eq_div_mul]
  exact Nat.div_pos h6 (by decide +kernel)
/-! ### idle ones -/
def isIdle (l : Prog) (i : Nat) : Bool := !decide (firstAt l (unAt l i) = some i)
def idleOf (l : Prog) : List Nat := (List.range l.length).filter (isIdle l)
def leanOf (l : Prog) : Prog := l.zipIdx.filterMap fun p => if p.2 ∈ idleOf l then none else some p.1
end Fr
namespace Fr
/-! ### what the law draws -/
/-- a product of at most b of the first k primes -/
def SomeN (k b n : Nat) : Prop := ∃ as : List Nat, as.length = 12 ∧ n = make as ∧ as.sum ≤ b ∧ ∀ j, k ≤ j → j < 12 → as[j]? = some 0
def FracN (k : Nat) (p : Nat × Nat) : Prop := SomeN k 2 p.1 ∧ SomeN k 3 p.2 ∧ Nat.gcd p.1 p.2 = 1
theorem sum_dec : ∀ {as : List Nat} {i a : Nat}, as[i]? = some (a + 1) → (as.set i a).sum + 1 = as.sum
  | [], i, a, h => by simp at h
  | b :: as, 0, a, h => by
    have e : b = a + 1 := Option.some.inj h
    subst e
    show a + as.sum + 1 = a + 1 + as.sum
    omega
  | b :: as, i + 1, a, h => by
    have ih := sum_dec (as := as) (i := i) (a := a) h
    show b + (as.set i a).sum + 1 = b + as.sum
    omega
theorem mem_le_sum : ∀ {as : List Nat} {a : Nat}, a ∈ as → a ≤ as.sum
  | b :: as, a, h => by
    rw [List.sum_cons]
    rcases List.mem_cons.mp h with e | e
    · omega
    · have := mem_le_sum e
      omega
theorem SomeN.num {k b n : Nat} (h : SomeN k b n) (hb : b ≤ 400) : isNum n = true := by
  obtain ⟨as, h1, rfl, h2, _⟩ := h
  exact isNum_make h1 fun a ha => by
    have := mem_le_sum ha
    omega
theorem SomeN.le {k b n : Nat} (h : SomeN k b n) : n ≤ 2 ^ (6 * b) := by
  obtain ⟨as, _, rfl, h2, _⟩ := h
  exact Nat.le_trans (make_le as) (Nat.pow_le_pow_right (by decide) (by omega))
theorem FracN.frac {k : Nat} {p : Nat × Nat} (h : FracN k p) : isFrac p = true := by
  obtain ⟨h1, h2, h3⟩ := h
  have l1 := h1.le
  have l2 := h2.le
  refine isFrac_iff.mpr ⟨h1.num (by decide), h2.num (by decide), ?_, ?_, h3⟩
  · exact Nat.le_trans l1 (by decide)
  · exact Nat.le_trans l2 (by decide)
theorem fracs_prog {k : Nat} {l : Prog} (h : ∀ p ∈ l, FracN k p) (hl : l.length ≤ 16) : isProg l = true := isProg_iff.mpr ⟨hl, fun p hp => (h p hp).frac⟩
/-- the law's own step -/
def lawStep (l : Prog) (n : Nat) : Option (Nat × Nat) := (l.findIdx? fun p => decide (n * p.1 % p.2 = 0)).map fun i => (i, n * upAt l i / unAt l i)
theorem cop_fit {n t u : Nat} (h : Nat.gcd t u = 1) : n * t % u = 0 ↔ n % u = 0 := by
  constructor
  · intro e
    have d : u ∣ n * t := Nat.dvd_of_mod_eq_zero e
    exact Nat.mod_eq_zero_of_dvd (Nat.Coprime.dvd_of_dvd_mul_right (Nat.Coprime.symm h) d)
  · intro e
    exact Nat.mod_eq_zero_of_dvd (Nat.dvd_mul_right_of_dvd (Nat.dvd_of_mod_eq_zero e) t)
theorem fit_div {n t u : Nat} (h : n % u = 0) : n * t / u = n / u * t := by
  obtain ⟨c, rfl⟩ := Nat.dvd_of_mod_eq_zero h
  rcases Nat.eq_zero_or_pos u with z | z
  · subst z
    simp
  · rw [Nat.mul_div_cancel_left _ z, Nat.mul_assoc, Nat.mul_div_cancel_left _ z]
theorem lawStep_eq {l : Prog} (hP : isProg l = true) (n : Nat) : lawStep l n = (firstAt l n).map fun i => (i, n / unAt l i * upAt l i) := by
  have hc : ∀ p ∈ l, Nat.gcd p.1 p.2 = 1 := fun p hp => (isFrac_iff.mp ((isProg_iff.mp hP).2 p hp)).2.2.2.2
  have e1 : (l.findIdx? fun p => decide (n * p.1 % p.2 = 0)) = firstAt l n := by
    unfold firstAt
    have key : ∀ m : Prog, (∀ p ∈ m, Nat.gcd p.1 p.2 = 1) → (m.findIdx? fun p => decide (n * p.1 % p.2 = 0)) = m.findIdx? fun p => decide (n % p.2 = 0) := by
      intro m
      induction m with
      | nil => intro _; rfl
      | cons p m ih =>
        intro h
        rw [List.findIdx?_cons, List.findIdx?_cons, ih fun q hq => h q (List.mem_cons_of_mem _ hq)]
        have e : decide (n * p.1 % p.2 = 0) = decide (n % p.2 = 0) := by
          rw [Bool.eq_iff_iff, decide_eq_true_eq, decide_eq_true_eq]
          exact cop_fit (h p List.mem_cons_self)
        rw [e]
    exact key l hc
  unfold lawStep
  rw [e1]
  cases h : firstAt l n with
  | none => rfl
  | some i =>
    obtain ⟨hi, h0, _⟩ := firstAt_is h
    rw [Option.map_some, Option.map_some, unAt_eq hi, fit_div h0]
end Fr
namespace Fr
/-! ### idle ones, and the lean program -/
/-- an earlier one's under divides this one's -/
def dueAt (l : Prog) (i : Nat) : Bool := (l.take i).any fun p => decide (unAt l i % p.2 = 0)
theorem dueAt_iff {l : Prog} {i : Nat} (hi : i ≤ l.length) : dueAt l i = true ↔ ∃ (j : Nat) (hj : j < l.length), j < i ∧ unAt l i % (l[j]).2 = 0 := by
  unfold dueAt
  simp only [List.any_eq_true, decide_eq_true_eq]
  constructor
  · rintro ⟨p, hp, h⟩
    obtain ⟨j, hj, e⟩ := List.mem_iff_getElem.mp hp
    rw [List.length_take] at hj
    rw [List.getElem_take] at e
    exact ⟨j, by omega, by omega, by rw [e]; exact h⟩
  · rintro ⟨j, hj, hji, h⟩
    refine ⟨l[j], ?_, h⟩
    rw [List.mem_iff_getElem]
    exact ⟨j, by rw [List.length_take]; omega, by rw [List.getElem_take]⟩
theorem firstAt_self {l : Prog} {i : Nat} (hi : i < l.length) : ∃ j, firstAt l (unAt l i) = some j ∧ j ≤ i := by
  cases h : firstAt l (unAt l i) with
  | none =>
    unfold firstAt at h
    rw [List.findIdx?_eq_none_iff] at h
    have := h _ (List.getElem_mem hi)
    rw [unAt_eq hi] at this
    simp at this
  | some j =>
    refine ⟨j, rfl, ?_⟩
    obtain ⟨hj, _, hb⟩ := firstAt_is h
    rcases Nat.lt_or_ge i j with z | z
    · have := hb i hi z
      rw [unAt_eq hi] at this
      simp at this
    · exact z
theorem isIdle_due {l : Prog} {i : Nat} (hi : i < l.length) : isIdle l i = dueAt l i := by
  obtain ⟨j, hj, hji⟩ := firstAt_self hi
  obtain ⟨hjl, h0, hb⟩ := firstAt_is hj
  rw [Bool.eq_iff_iff, dueAt_iff (Nat.le_of_lt hi)]
  unfold isIdle
  rw [hj]
  simp only [Option.some.injEq, Bool.not_eq_true', decide_eq_false_iff_not]
  constructor
  · intro h
    exact ⟨j, hjl, by omega, h0⟩
  · rintro ⟨k, hk, hki, h⟩ e
    subst e
    exact hb k hk hki h
theorem idle_mem {l : Prog} {i : Nat} : i ∈ idleOf l ↔ i < l.length ∧ dueAt l i = true := by
  unfold idleOf
  rw [List.mem_filter, List.mem_range]
  constructor
  · rintro ⟨h1, h2⟩
    exact ⟨h1, by rw [← isIdle_due h1]; exact h2⟩
  · rintro ⟨h1, h2⟩
    exact ⟨h1, by rw [isIdle_due h1]; exact h2⟩
theorem idle_due (l : Prog) : idleOf l = (List.range l.length).filter (dueAt l) := by
  unfold idleOf
  refine List.filter_congr fun i hi => isIdle_due (List.mem_range.mp hi)
theorem lean_sub (l : Prog) : ∀ p ∈ leanOf l, p ∈ l := by
  intro p hp
  unfold leanOf at hp
  obtain ⟨⟨q, i⟩, hq, e⟩ := List.mem_filterMap.mp hp
  split at e
  · cases e
  · cases e
    exact (List.mem_zipIdx' hq).2 ▸ List.getElem_mem _
theorem lean_len (l : Prog) : (leanOf l).length ≤ l.length := by
  unfold leanOf
  have h := List.length_filterMap_le (fun p : (Nat × Nat) × Nat => if p.2 ∈ idleOf l then none else some p.1) l.zipIdx
  rw [List.length_zipIdx] at h
  exact h
theorem lean_prog {l : Prog} (h : isProg l = true) : isProg (leanOf l) = true := by
  obtain ⟨h1, h2⟩ := isProg_iff.mp h
  exact isProg_iff.mpr ⟨Nat.le_trans (lean_len l) h1, fun p hp => h2 p (lean_sub l p hp)⟩
/-- led by the fraction itself -/
theorem led_find (l : Prog) (n : Nat) : led l n = (l.find? fun p => decide (n % p.2 = 0)).map fun p => n / p.2 * p.1 := by
  unfold led
  cases h : firstAt l n with
  | none =>
    have : l.find? (fun p => decide (n % p.2 = 0)) = none := by
      unfold firstAt at h
      rw [List.findIdx?_eq_none_iff] at h
      rw [List.find?_eq_none]
      intro p hp
      have := h p hp
      simpa using this
    rw [this]
    rfl
  | some i =>
    obtain ⟨hi, h0, hb⟩ := firstAt_is h
    have : l.find? (fun p => decide (n % p.2 = 0)) = some l[i] := by
      rw [List.find?_eq_some_iff_getElem]
      refine ⟨by simpa using h0, i, hi, rfl, fun j hj => ?_⟩
      have := hb j (by omega) hj
      simpa using this
    rw [this, Option.map_some, Option.map_some, unAt_eq hi, upAt_eq hi]
/-- what is first to fit is kept, and stays the first -/
theorem lean_find (l : Prog) (n : Nat) : (leanOf l).find? (fun p => decide (n % p.2 = 0)) = l.find? fun p => decide (n % p.2 = 0) := by
  cases h : l.find? (fun p => decide (n % p.2 = 0)) with
  | none =>
    rw [List.find?_eq_none] at h ⊢
    exact fun p hp => h p (lean_sub l p hp)
  | some q =>
    rw [List.find?_eq_some_iff_append] at h
    obtain ⟨hq, l1, l2, e, hb⟩ := h
    have hq : n % q.2 = 0 := by simpa using hq
    have hlen : l1.length < l.length := by rw [e]; simp
    have hget : l[l1.length]'hlen = q := by
      simp only [e]
      rw [List.getElem_append_right (Nat.le_refl _)]
      simp
    have hni : l1.length ∉ idleOf l := by
      intro hm
      obtain ⟨_, hd⟩ := idle_mem.mp hm
      obtain ⟨j, hj, hji, h0⟩ := (dueAt_iff (Nat.le_of_lt hlen)).mp hd
      rw [unAt_eq hlen, hget] at h0
      have hjm : l[j] ∈ l1 := by
        simp only [e]
        rw [List.getElem_append_left hji]
        exact List.getElem_mem _
      have := hb _ hjm
      have h1 : l[j].2 ∣ q.2 := Nat.dvd_of_mod_eq_zero h0
      have h2 : q.2 ∣ n := Nat.dvd_of_mod_eq_zero hq
      have h3 : n % l[j].2 = 0 := Nat.mod_eq_zero_of_dvd (Nat.dvd_trans h1 h2)
      simp [h3] at this
    have e2 : leanOf l = (l1.zipIdx.filterMap fun p => if p.2 ∈ idleOf l then none else some p.1) ++ q :: ((l2.zipIdx (l1.length + 1)).filterMap fun p => if p.2 ∈ idleOf l then none else some p.1) := by
      unfold leanOf
      have e3 : l.zipIdx = l1.zipIdx ++ (q, l1.length) :: l2.zipIdx (l1.length + 1) := by
        have : (l1 ++ q :: l2).zipIdx = l1.zipIdx ++ (q, l1.length) :: l2.zipIdx (l1.length + 1) := by
          rw [List.zipIdx_append, List.zipIdx_cons]
          simp
        rw [← e] at this
        exact this
      rw [e3, List.filterMap_append, List.filterMap_cons]
      rw [if_neg hni]
    rw [List.find?_eq_some_iff_append]
    refine ⟨by simpa using hq, _, _, e2, ?_⟩
    intro p hp
    obtain ⟨⟨r, i⟩, hr, e4⟩ := List.mem_filterMap.mp hp
    split at e4
    · cases e4
    · cases e4
      have hrm : r ∈ l1 := (List.mem_zipIdx' hr).2 ▸ List.getElem_mem _
      exact hb r hrm
theorem lean_led (l : Prog) (n : Nat) : led (leanOf l) n = led l n := by
  rw [led_find, led_find, lean_find]
theorem lawStep_led {l : Prog} (hP : isProg l = true) (n : Nat) : (lawStep l n).map Prod.snd = led l n := by
  rw [lawStep_eq hP, Option.map_map]
  rfl
/-- the lean program has none idle -/
theorem lean_idle (l : Prog) : idleOf (leanOf l) = [] := by
  rw [idle_due, List.filter_eq_nil_iff]
  intro i hi
  rw [List.mem_range] at hi
  rw [Bool.not_eq_true]
  cases h : dueAt (leanOf l) i with
  | false => rfl
  | true =>
    exfalso
    obtain ⟨j, hj, hji, h0⟩ := (dueAt_iff (Nat.le_of_lt hi)).mp h
    rw [unAt_eq hi] at h0
    -- both stand in l, in their order
    have key : ∀ (m : Prog) (s : Nat) (i j : Nat) (hi : i < ((m.zipIdx s).filterMap fun p => if p.2 ∈ idleOf l then none else some p.1).length) (hji : j < i), ∃ (a b : Nat) (ha : a < m.length) (hb : b < m.length), b < a ∧ s + a ∉ idleOf l ∧ ((m.zipIdx s).filterMap fun p => if p.2 ∈ idleOf l then none else some p.1)[i] = m[a] ∧ ((m.zipIdx s).filterMap fun p => if p.2 ∈ idleOf l then none else some p.1)[j]'(by omega) = m[b] := by
      intro m
      induction m with
      | nil => intro s i j hi; simp at hi
      | cons p m ih =>
        intro s i j hi hji
        by_cases hp : s ∈ idleOf l
        · have e : (((p :: m).zipIdx s).filterMap fun p => if p.2 ∈ idleOf l then none else some p.1) = ((m.zipIdx (s + 1)).filterMap fun p => if p.2 ∈ idleOf l then none else some p.1) := by
            rw [List.zipIdx_cons, List.filterMap_cons, if_pos hp]
          obtain ⟨a, b, ha, hb, h1, h2, h3, h4⟩ := ih (s + 1) i j (by rw [← e]; exact hi) hji
          refine ⟨a + 1, b + 1, by simpa using ha, by simpa using hb, by omega, by rw [show s + (a + 1) = s + 1 + a by omega]; exact h2, ?_, ?_⟩
          · simp only [e]; rw [h3]; rfl
          · simp only [e]; rw [h4]; rfl
        · have e : (((p :: m).zipIdx s).filterMap fun p => if p.2 ∈ idleOf l then none else some p.1) = p :: ((m.zipIdx (s + 1)).filterMap fun p => if p.2 ∈ idleOf l then none else some p.1) := by
            rw [List.zipIdx_cons, List.filterMap_cons, if_neg hp]
          obtain ⟨i', rfl⟩ : ∃ i', i = i' + 1 := ⟨i - 1, by omega⟩
          have hi' : i' < ((m.zipIdx (s + 1)).filterMap fun p => if p.2 ∈ idleOf l then none else some p.1).length := by
            rw [e] at hi
            simpa using hi
          cases j with
          | zero =>
            have one : ∀ (m : Prog) (s i : Nat) (hi : i < ((m.zipIdx s).filterMap fun p => if p.2 ∈ idleOf l then none else some p.1).length), ∃ (a : Nat) (ha : a < m.length), s + a ∉ idleOf l ∧ ((m.zipIdx s).filterMap fun p => if p.2 ∈ idleOf l then none else some p.1)[i] = m[a] := by
              intro m
              induction m with
              | nil => intro s i hi; simp at hi
              | cons q m ih2 =>
                intro s i hi
                by_cases hq : s ∈ idleOf l
                · have e : (((q :: m).zipIdx s).filterMap fun p => if p.2 ∈ idleOf l then none else some p.1) = ((m.zipIdx (s + 1)).filterMap fun p => if p.2 ∈ idleOf l then none else some p.1) := by
                    rw [List.zipIdx_cons, List.filterMap_cons, if_pos hq]
                  obtain ⟨a, ha, h1, h2⟩ := ih2 (s + 1) i (by rw [← e]; exact hi)
                  refine ⟨a + 1, by simpa using ha, by rw [show s + (a + 1) = s + 1 + a by omega]; exact h1, ?_⟩
                  simp only [e]; rw [h2]; rfl
                · have e : (((q :: m).zipIdx s).filterMap fun p => if p.2 ∈ idleOf l then none else some p.1) = q :: ((m.zipIdx (s + 1)).filterMap fun p => if p.2 ∈ idleOf l then none else some p.1) := by
                    rw [List.zipIdx_cons, List.filterMap_cons, if_neg hq]
                  cases i with
                  | zero => exact ⟨0, by simp, by simpa using hq, by simp only [e]; rfl⟩
                  | succ i =>
                    obtain ⟨a, ha, h1, h2⟩ := ih2 (s + 1) i (by rw [e] at hi; simpa using hi)
                    refine ⟨a + 1, by simpa using ha, by rw [show s + (a + 1) = s + 1 + a by omega]; exact h1, ?_⟩
                    simp only [e]
                    rw [List.getElem_cons_succ, h2]; rfl
            obtain ⟨a, ha, h1, h2⟩ := one m (s + 1) i' hi'
            refine ⟨a + 1, 0, by simpa using ha, by simp, by omega, by rw [show s + (a + 1) = s + 1 + a by omega]; exact h1, ?_, ?_⟩
            · simp only [e]; rw [List.getElem_cons_succ, h2]; rfl
            · simp only [e]; rfl
          | succ j' =>
            obtain ⟨a, b, ha, hb, h1, h2, h3, h4⟩ := ih (s + 1) i' j' hi' (by omega)
            refine ⟨a + 1, b + 1, by simpa using ha, by simpa using hb, by omega, by rw [show s + (a + 1) = s + 1 + a by omega]; exact h2, ?_, ?_⟩
            · simp only [e]; rw [List.getElem_cons_succ, h3]; rfl
            · simp only [e]; rw [List.getElem_cons_succ, h4]; rfl
    obtain ⟨a, b, ha, hb, h1, h2, h3, h4⟩ := key l 0 i j (by unfold leanOf at hi; exact hi) hji
    have h3' : (leanOf l)[i] = l[a] := h3
    have h4' : (leanOf l)[j] = l[b] := h4
    rw [h3', h4'] at h0
    refine h2 ?_
    rw [Nat.zero_add]
    exact idle_mem.mpr ⟨ha, (dueAt_iff (Nat.le_of_lt ha)).mpr ⟨b, hb, h1, by rw [unAt_eq ha]; exact h0⟩⟩
/-! ### small numbers have small rooms -/
theorem room_lt {m k a : Nat} (h : 0 < m) (hk : m < 2 ^ k) (ha : a ∈ rooms m) : a < k := by
  have h1 := two_pow_le_make (rooms_len m) ha
  have h2 := make_rooms h
  have h3 : make (rooms m) * 1 ≤ make (rooms m) * left m := Nat.mul_le_mul_left _ h2.2
  rcases Nat.lt_or_ge a k with z | z
  · exact z
  · have : 2 ^ k ≤ 2 ^ a := Nat.pow_le_pow_right (by decide) z
    omega
theorem lt_log2 {n k j : Nat} (h : n < 2 ^ k) (hk : 0 < k) (hj : k ≤ j) : n.log2 < j := Nat.lt_of_lt_of_le (log2_lt' hk h) hj
theorem mil_lt {n : Nat} (h : n ≤ 1000000) : n < 2 ^ 20 := by omega
end Fr
namespace Fr
theorem makeL_snoc : ∀ (ps as : List Nat) (i p a : Nat), ps[i]? = some p → as[i]? = some a → makeL (ps.take (i + 1)) (as.take (i + 1)) = makeL (ps.take i) (as.take i) * p ^ a := by
  intro ps
  induction ps with
  | nil => intro as i p a h; simp at h
  | cons q ps ih =>
    intro as i p a h1 h2
    cases as with
    | nil => simp at h2
    | cons b as =>
      cases i with
      | zero =>
        simp only [List.getElem?_cons_zero, Option.some.injEq] at h1 h2
        subst h1 h2
        simp [makeL]
      | succ i =>
        simp only [List.getElem?_cons_succ] at h1 h2
        simp only [List.take_succ_cons, makeL]
        rw [ih as i p a h1 h2, Nat.mul_assoc]
theorem makeL_all : ∀ (ps as : List Nat), makeL (ps.take as.length) (as.take as.length) = makeL ps as := by
  intro ps
  induction ps with
  | nil => intro as; cases as <;> rfl
  | cons q ps ih =>
    intro as
    cases as with
    | nil => rfl
    | cons b as =>
      simp only [List.length_cons, List.take_succ_cons, makeL]
      rw [ih]
theorem makeL_pad : ∀ (ps as : List Nat) (k : Nat), makeL ps (as ++ List.replicate k 0) = makeL ps as := by
  intro ps
  induction ps with
  | nil => intro as k; cases as <;> cases k <;> simp [makeL, List.replicate_succ]
  | cons q ps ih =>
    intro as k
    cases as with
    | nil => rw [List.nil_append, makeL_zero]; rfl
    | cons b as => simp only [List.cons_append, makeL]; rw [ih]
theorem make_pad (as : List Nat) (k : Nat) : make (as ++ List.replicate k 0) = make as := by rw [make_def, make_def, makeL_pad]
theorem make_take (as : List Nat) : make as = makeL (primes.take as.length) (as.take as.length) := by rw [makeL_all, make_def]
theorem make_part_lt {as : List Nat} (h : ∀ a ∈ as, a ≤ 401) (hl : as.length ≤ 12) (i p j : Nat) (hp : p < 64) (hj : j ≤ 401) : makeL (primes.take i) (as.take i) * p ^ j < 2 ^ 40000 := by
  have h1 : makeL (primes.take i) (as.take i) ≤ 2 ^ (6 * (as.take i).sum) := makeL_lt _ _ fun p hp => primes_small p (List.mem_of_mem_take hp)
  have h2 : (as.take i).sum ≤ 401 * (as.take i).length := sum_le fun a ha => h a (List.mem_of_mem_take ha)
  have h3 : (as.take i).length ≤ 12 := Nat.le_trans (List.length_take_le' _ _) hl
  have h4 : p ^ j ≤ 2 ^ (6 * j) := by
    rw [Nat.pow_mul]
    exact Nat.pow_le_pow_left (by omega) j
  have h5 : makeL (primes.take i) (as.take i) * p ^ j ≤ 2 ^ (6 * (as.take i).sum + 6 * j) := by
    rw [Nat.pow_add]
    exact Nat.mul_le_mul h1 h4
  refine Nat.lt_of_le_of_lt h5 (Nat.pow_lt_pow_right (by decide) ?_)
  have : 401 * (as.take i).length ≤ 401 * 12 := Nat.mul_le_mul_left _ h3
  omega
theorem isNum_pad_false {as : List Nat} {k : Nat} (hl : as.length + k = 12) (h : ∃ a ∈ as, 400 < a) : isNum (make as) = false := by
  cases e : isNum (make as) with
  | false => rfl
  | true =>
    rw [← make_pad as k] at e
    have h2 := (isNum_iff.mp e).2.2
    rw [rooms_make (by simpa using hl)] at h2
    obtain ⟨a, ha, hb⟩ := h
    have := h2 a (List.mem_append_left _ ha)
    omega
/-! the law's own rooms of small numbers -/
theorem rooms_small {n : Nat} (h1 : 0 < n) (h : n < 2 ^ 400) : ∀ a ∈ rooms n, a ≤ 400 := by
  intro a ha
  obtain ⟨e, hl⟩ := make_rooms h1
  have hle : 2 ^ a ≤ make (rooms n) := two_pow_le_make (rooms_len n) ha
  have h3 : make (rooms n) ≤ n := by
    conv => rhs; rw [e]
    exact Nat.le_mul_of_pos_right _ hl
  have h4 : 2 ^ a < 2 ^ 400 := Nat.lt_of_le_of_lt (Nat.le_trans hle h3) h
  have := (Nat.pow_lt_pow_iff_right (by decide : 1 < 2)).mp h4
  omega
end Fr
namespace Fr
/-! ### rooms of a product -/
theorem cop_of_mod : ∀ p ∈ primes, ∀ m : Nat, m % p ≠ 0 → Nat.Coprime p m := by
  intro p hp m hm
  have key : ∀ p ∈ primes, ∀ r, r < p → r ≠ 0 → Nat.gcd r p = 1 := by decide +kernel
  have h2 : 0 < p := Nat.lt_of_lt_of_le (by decide) (primes_two p hp)
  show Nat.gcd p m = 1
  rw [Nat.gcd_rec]
  exact key p hp (m % p) (Nat.mod_lt _ h2) hm
theorem partL_dvd : ∀ (ps : List Nat) (n : Nat), (∀ p ∈ ps, 2 ≤ p) → 0 < n → (partL ps n).2 ∣ n ∧ 0 < (partL ps n).2 := by
  intro ps
  induction ps with
  | nil => intro n _ h; exact ⟨Nat.dvd_refl _, h⟩
  | cons p ps ih =>
    intro n h2 h
    have e := strip_eq (h2 p List.mem_cons_self) h
    have hp : 0 < (strip p n).2 := Nat.pos_of_ne_zero fun z => e.2 (by rw [z]; exact Nat.zero_mod _)
    obtain ⟨a, b⟩ := ih (strip p n).2 (fun q hq => h2 q (List.mem_cons_of_mem _ hq)) hp
    refine ⟨Nat.dvd_trans a ?_, b⟩
    exact ⟨p ^ (strip p n).1, by rw [Nat.mul_comm]; exact e.1⟩
theorem partL_mod : ∀ (ps : List Nat) (n : Nat), (∀ p ∈ ps, 2 ≤ p) → 0 < n → ∀ p ∈ ps, (partL ps n).2 % p ≠ 0 := by
  intro ps
  induction ps with
  | nil => intro n _ _ p hp; cases hp
  | cons q ps ih =>
    intro n h2 h p hp
    have e := strip_eq (h2 q List.mem_cons_self) h
    have hs : 0 < (strip q n).2 := Nat.pos_of_ne_zero fun z => e.2 (by rw [z]; exact Nat.zero_mod _)
    rcases List.mem_cons.mp hp with rfl | hp
    · intro z
      obtain ⟨d, _⟩ := partL_dvd ps (strip p n).2 (fun q hq => h2 q (List.mem_cons_of_mem _ hq)) hs
      exact e.2 (Nat.mod_eq_zero_of_dvd (Nat.dvd_trans (Nat.dvd_of_mod_eq_zero z) d))
    · exact ih (strip q n).2 (fun q hq => h2 q (List.mem_cons_of_mem _ hq)) hs p hp
theorem left_cop {n : Nat} (h : 0 < n) : ∀ p ∈ primes, Nat.Coprime p (left n) := fun p hp => cop_of_mod p hp _ (by rw [left_def]; exact partL_mod primes n primes_two h p hp)
theorem makeL_mul : ∀ (ps as bs : List Nat), as.length = bs.length → makeL ps as * makeL ps bs = makeL ps (List.zipWith (· + ·) as bs) := by
  intro ps
  induction ps with
  | nil => intro as bs _; cases as <;> cases bs <;> simp [makeL]
  | cons p ps ih =>
    intro as bs hl
    cases as with
    | nil => cases bs with
      | nil => simp [makeL]
      | cons => cases hl
    | cons a as =>
      cases bs with
      | nil => cases hl
      | cons b bs =>
        simp only [makeL, List.zipWith_cons_cons]
        rw [← ih as bs (by simpa using hl), Nat.pow_add]
        ac_rfl
theorem parts_mul {a b : Nat} (ha : 0 < a) (hb : 0 < b) : rooms (a * b) = List.zipWith (· + ·) (rooms a) (rooms b) ∧ left (a * b) = left a * left b := by
  have e1 := (make_rooms ha).1
  have e2 := (make_rooms hb).1
  have e3 : a * b = makeL primes (List.zipWith (· + ·) (rooms a) (rooms b)) * (left a * left b) := by
    rw [← makeL_mul primes _ _ (by rw [rooms_len, rooms_len]), ← make_def, ← make_def]
    conv => lhs; rw [e1, e2]
    ac_rfl
  have h := part_make primes (List.zipWith (· + ·) (rooms a) (rooms b)) (left a * left b) cop_primes (by rw [List.length_zipWith, rooms_len, rooms_len]; rfl) (fun q hq => Nat.Coprime.mul_right (left_cop ha q hq) (left_cop hb q hq))
  rw [← e3] at h
  constructor
  · rw [rooms_def, h]
  · rw [left_def (a * b), h]
theorem rooms_mul {a b : Nat} (ha : 0 < a) (hb : 0 < b) : rooms (a * b) = List.zipWith (· + ·) (rooms a) (rooms b) := (parts_mul ha hb).1
theorem left_mul {a b : Nat} (ha : 0 < a) (hb : 0 < b) : left (a * b) = left a * left b := (parts_mul ha hb).2
/-! ### a step keeps to the twelve primes -/
theorem led_left {l : Prog} {n x : Nat} (hP : isProg l = true) (hn : 0 < n) (hl : left n = 1) (h : led l n = some x) : 0 < x ∧ left x = 1 := by
  unfold led at h
  obtain ⟨i, hi, rfl⟩ := Option.map_eq_some_iff.mp h
  obtain ⟨hlt, h0, _⟩ := firstAt_is hi
  obtain ⟨f1, f2, f3, f4, f5⟩ := isFrac_iff.mp ((isProg_iff.mp hP).2 _ (List.getElem_mem hlt))
  rw [unAt_eq hlt, upAt_eq hlt]
  have hu := isNum_iff.mp f2
  have ht := isNum_iff.mp f1
  have e : n = (l[i]).2 * (n / (l[i]).2) := (Nat.mul_div_cancel' (Nat.dvd_of_mod_eq_zero h0)).symm
  have hq : 0 < n / (l[i]).2 := Nat.div_pos (Nat.le_of_dvd hn (Nat.dvd_of_mod_eq_zero h0)) hu.1
  have e2 : left (n / (l[i]).2) = 1 := by
    have := left_mul hu.1 hq
    rw [← e, hl, hu.2.1, Nat.one_mul] at this
    exact this.symm
  exact ⟨Nat.mul_pos hq ht.1, by rw [left_mul hq ht.1, e2, ht.2.1]⟩
theorem led_le {l : Prog} {n x : Nat} (hP : isProg l = true) (h : led l n = some x) : x ≤ n * 1000000 := by
  unfold led at h
  obtain ⟨i, hi, rfl⟩ := Option.map_eq_some_iff.mp h
  obtain ⟨hlt, h0, _⟩ := firstAt_is hi
  obtain ⟨f1, f2, f3, f4, f5⟩ := isFrac_iff.mp ((isProg_iff.mp hP).2 _ (List.getElem_mem hlt))
  rw [unAt_eq hlt, upAt_eq hlt]
  exact Nat.mul_le_mul (Nat.div_le_self _ _) f3
end Fr
namespace Fr
/-! ### rooms one by one -/
def rm (n r : Nat) : Nat := (rooms n).getD r 0
theorem rm_mul {a b : Nat} (ha : 0 < a) (hb : 0 < b) (r : Nat) : rm (a * b) r = rm a r + rm b r := by
  unfold rm
  rw [rooms_mul ha hb, List.getD_eq_getElem?_getD, List.getD_eq_getElem?_getD, List.getD_eq_getElem?_getD, List.getElem?_zipWith]
  by_cases h : r < 12
  · rw [List.getElem?_eq_getElem (by rw [rooms_len]; exact h), List.getElem?_eq_getElem (by rw [rooms_len]; exact h)]
    rfl
  · rw [List.getElem?_eq_none (by rw [rooms_len]; omega), List.getElem?_eq_none (by rw [rooms_len]; omega)]
    rfl
theorem rm_big {n r : Nat} (h : 12 ≤ r) : rm n r = 0 := by
  unfold rm
  rw [List.getD_eq_getElem?_getD, List.getElem?_eq_none (by rw [rooms_len]; exact h)]
  rfl
theorem rooms_rm (n : Nat) : rooms n = (List.range 12).map (rm n) := by
  apply List.ext_getElem?
  intro i
  rw [List.getElem?_map]
  by_cases h : i < 12
  · rw [List.getElem?_eq_getElem (by rw [rooms_len]; exact h), List.getElem?_range h]
    show _ = some ((rooms n).getD i 0)
    rw [List.getD_eq_getElem?_getD, List.getElem?_eq_getElem (by rw [rooms_len]; exact h)]
    rfl
  · rw [List.getElem?_eq_none (by rw [rooms_len]; omega), List.getElem?_eq_none (by simp; omega)]
    rfl
theorem num_ext {a b : Nat} (ha : 0 < a) (hb : 0 < b) (la : left a = 1) (lb : left b = 1) (h : ∀ r, r < 12 → rm a r = rm b r) : a = b := by
  rw [← make_rooms1 ha la, ← make_rooms1 hb lb, rooms_rm a, rooms_rm b]
  congr 1
  apply List.map_congr_left
  intro r hr
  exact h r (List.mem_range.mp hr)
theorem rm_make {f : Nat → Nat} {r : Nat} (h : r < 12) : rm (make ((List.range 12).map f)) r = f r := by
  unfold rm
  rw [rooms_make (by simp), List.getD_eq_getElem?_getD, List.getElem?_map, List.getElem?_range h]
  rfl
theorem left_mk {f : Nat → Nat} : left (make ((List.range 12).map f)) = 1 := left_make (by simp)
/-- which divides which, room by room -/
theorem dvd_rm {u n : Nat} (hu : 0 < u) (hn : 0 < n) (lu : left u = 1) (ln : left n = 1) : n % u = 0 ↔ ∀ r, r < 12 → rm u r ≤ rm n r := by
  constructor
  · intro h r _
    have e : n = u * (n / u) := (Nat.mul_div_cancel' (Nat.dvd_of_mod_eq_zero h)).symm
    have hq : 0 < n / u := Nat.div_pos (Nat.le_of_dvd hn (Nat.dvd_of_mod_eq_zero h)) hu
    have := rm_mul hu hq r
    rw [← e] at this
    omega
  · intro h
    have hq := make_pos' ((List.range 12).map fun r => rm n r - rm u r)
    have e : u * make ((List.range 12).map fun r => rm n r - rm u r) = n := by
      refine num_ext (Nat.mul_pos hu hq) hn (by rw [left_mul hu hq, lu, left_mk]) ln fun r hr => ?_
      rw [rm_mul hu hq, rm_make hr]
      have := h r hr
      omega
    rw [← e]
    exact Nat.mul_mod_right _ _
theorem div_rm {u n r : Nat} (hu : 0 < u) (hn : 0 < n) (h : n % u = 0) : rm (n / u) r = rm n r - rm u r := by
  have e : n = u * (n / u) := (Nat.mul_div_cancel' (Nat.dvd_of_mod_eq_zero h)).symm
  have hq : 0 < n / u := Nat.div_pos (Nat.le_of_dvd hn (Nat.dvd_of_mod_eq_zero h)) hu
  have := rm_mul hu hq r
  rw [← e] at this
  omega
theorem rm_pow {a : Nat} (ha : 0 < a) (r : Nat) : ∀ t, rm (a ^ t) r = t * rm a r
  | 0 => by
    rw [Nat.pow_zero, Nat.zero_mul]
    have := rm_mul (a := 1) (b := 1) (by decide) (by decide) r
    rw [Nat.one_mul] at this
    omega
  | t + 1 => by rw [Nat.pow_succ, rm_mul (Nat.pow_pos ha) ha, rm_pow ha r t, Nat.succ_mul]
theorem left_pow {a : Nat} (ha : 0 < a) (la : left a = 1) : ∀ t, left (a ^ t) = 1
  | 0 => by
    rw [Nat.pow_zero]
    have := left_mul (a := 1) (b := 1) (by decide) (by decide)
    rw [Nat.one_mul] at this
    have h1 : 0 < left 1 := (make_rooms (n := 1) (by decide)).2
    exact (Nat.mul_right_cancel h1 (by rw [Nat.one_mul]; exact this.symm))
  | t + 1 => by rw [Nat.pow_succ, left_mul (Nat.pow_pos ha) ha, left_pow ha la t, la]
end Fr
namespace Fr
/-! ### from which turn on something fits -/
structure Row4 where
  h : Nat
  o : Nat
  i : Nat
  d : Nat
def ffUp : List Row4 → Nat → Option Nat
  | [], f => some f
  | q :: r, f => if q.h < q.d then (if q.i ≤ q.o then none else ffUp r (max f ((q.d - q.h + q.i - q.o - 1) / (q.i - q.o)))) else ffUp r f
def okAt (q : Row4) (t : Nat) : Prop := (q.d : Int) ≤ q.h + t * ((q.i : Int) - q.o)
instance (q : Row4) (t : Nat) : Decidable (okAt q t) := by unfold okAt; exact inferInstance
def ffOf (rows : List Row4) : Option Nat := match ffUp rows 0 with
  | none => none
  | some f => if ∀ q ∈ rows, okAt q f then some f else none
/-- the least turn of one row -/
theorem ceil_least {h d k t : Nat} (hd : h < d) (hk : 0 < k) : (d - h + k - 1) / k ≤ t ↔ d ≤ h + t * k := by
  rw [Nat.div_le_iff_le_mul_add_pred hk]
  rw [Nat.mul_comm]
  omega
theorem okAt_up {q : Row4} (hi : q.o < q.i) (t : Nat) : okAt q t ↔ q.d ≤ q.h + t * (q.i - q.o) := by
  unfold okAt
  have e : ((q.i : Int) - q.o) = ((q.i - q.o : Nat) : Int) := by omega
  rw [e]
  constructor
  · intro h
    have : ((q.d : Nat) : Int) ≤ ((q.h + t * (q.i - q.o) : Nat) : Int) := by push_cast; exact h
    omega
  · intro h
    have : ((q.d : Nat) : Int) ≤ ((q.h + t * (q.i - q.o) : Nat) : Int) := by omega
    push_cast at this
    exact this
theorem okAt_no {q : Row4} (hi : q.i ≤ q.o) (hd : q.h < q.d) (t : Nat) : ¬ okAt q t := by
  unfold okAt
  intro h
  have h1 : (t : Int) * ((q.i : Int) - q.o) ≤ 0 := Int.mul_nonpos_of_nonneg_of_nonpos (by omega) (by omega)
  omega
/-- a row that does not grow only gets worse -/
theorem okAt_down {q : Row4} (hi : q.i ≤ q.o) {s t : Nat} (hst : s ≤ t) (h : okAt q t) : okAt q s := by
  unfold okAt at *
  have h1 : (t : Int) * ((q.i : Int) - q.o) ≤ (s : Int) * ((q.i : Int) - q.o) := Int.mul_le_mul_of_nonpos_right (by omega) (by omega)
  omega
theorem okAt_grow {q : Row4} (hi : q.o ≤ q.i) {s t : Nat} (hst : s ≤ t) (h : okAt q s) : okAt q t := by
  unfold okAt at *
  have h1 : (s : Int) * ((q.i : Int) - q.o) ≤ (t : Int) * ((q.i : Int) - q.o) := Int.mul_le_mul_of_nonneg_right (by omega) (by omega)
  omega
theorem ffUp_spec : ∀ (rows : List Row4) (f : Nat), match ffUp rows f with
    | none => ∃ q ∈ rows, ∀ t, ¬ okAt q t
    | some g => f ≤ g ∧ ∀ t, (g ≤ t ↔ f ≤ t ∧ ∀ q ∈ rows, q.h < q.d → okAt q t) := by
  intro rows
  induction rows with
  | nil =>
    intro f
    exact ⟨Nat.le_refl _, fun t => ⟨fun h => ⟨h, fun q hq => nomatch hq⟩, fun h => h.1⟩⟩
  | cons q rows ih =>
    intro f
    unfold ffUp
    by_cases hd : q.h < q.d
    · rw [if_pos hd]
      by_cases hi : q.i ≤ q.o
      · rw [if_pos hi]
        exact ⟨q, List.mem_cons_self, okAt_no hi hd⟩
      · rw [if_neg hi]
        have := ih (max f ((q.d - q.h + q.i - q.o - 1) / (q.i - q.o)))
        have hc : ∀ t, (q.d - q.h + q.i - q.o - 1) / (q.i - q.o) ≤ t ↔ okAt q t := fun t => by
          rw [okAt_up (by omega)]
          have e : q.d - q.h + q.i - q.o - 1 = q.d - q.h + (q.i - q.o) - 1 := by omega
          rw [e]
          exact ceil_least hd (by omega)
        cases e : ffUp rows (max f ((q.d - q.h + q.i - q.o - 1) / (q.i - q.o))) with
        | none =>
          rw [e] at this
          obtain ⟨p, hp, h⟩ := this
          exact ⟨p, List.mem_cons_of_mem _ hp, h⟩
        | some g =>
          rw [e] at this
          obtain ⟨h1, h2⟩ := this
          refine ⟨by omega, fun t => ?_⟩
          rw [h2 t]
          constructor
          · rintro ⟨a, b⟩
            refine ⟨by omega, fun p hp hpd => ?_⟩
            rcases List.mem_cons.mp hp with rfl | hp
            · exact (hc t).mp (by omega)
            · exact b p hp hpd
          · rintro ⟨a, b⟩
            have := (hc t).mpr (b q List.mem_cons_self hd)
            exact ⟨by omega, fun p hp hpd => b p (List.mem_cons_of_mem _ hp) hpd⟩
    · rw [if_neg hd]
      have := ih f
      cases e : ffUp rows f with
      | none =>
        rw [e] at this
        obtain ⟨p, hp, h⟩ := this
        exact ⟨p, List.mem_cons_of_mem _ hp, h⟩
      | some g =>
        rw [e] at this
        obtain ⟨h1, h2⟩ := this
        refine ⟨h1, fun t => ?_⟩
        rw [h2 t]
        constructor
        · rintro ⟨a, b⟩
          refine ⟨a, fun p hp hpd => ?_⟩
          rcases List.mem_cons.mp hp with rfl | hp
          · exact absurd hpd hd
          · exact b p hp hpd
        · rintro ⟨a, b⟩
          exact ⟨a, fun p hp hpd => b p (List.mem_cons_of_mem _ hp) hpd⟩
/-- what fits_from tells: the first turn at which all rows are met -/
theorem ffOf_spec (rows : List Row4) : match ffOf rows with
    | none => ∀ t, ¬ ∀ q ∈ rows, okAt q t
    | some g => (∀ q ∈ rows, okAt q g) ∧ ∀ t, t < g → ¬ ∀ q ∈ rows, okAt q t := by
  have h := ffUp_spec rows 0
  unfold ffOf
  cases e : ffUp rows 0 with
  | none =>
    rw [e] at h
    obtain ⟨q, hq, hn⟩ := h
    exact fun t z => hn t (z q hq)
  | some g =>
    rw [e] at h
    obtain ⟨_, h2⟩ := h
    have low : ∀ t, (∀ q ∈ rows, okAt q t) → g ≤ t := fun t z => (h2 t).mpr ⟨Nat.zero_le _, fun q hq _ => z q hq⟩
    dsimp only
    by_cases hall : ∀ q ∈ rows, okAt q g
    · rw [if_pos hall]
      exact ⟨hall, fun t ht z => absurd (low t z) (by omega)⟩
    · rw [if_neg hall]
      intro t z
      apply hall
      intro q hq
      have hgt := low t z
      by_cases hi : q.i ≤ q.o
      · exact okAt_down hi hgt (z q hq)
      · by_cases hd : q.h < q.d
        · exact ((h2 g).mp (Nat.le_refl _)).2 q hq hd
        · refine okAt_grow (s := 0) (by omega) (Nat.zero_le _) ?_
          unfold okAt
          omega
end Fr
namespace Fr
/-! ### turns by one fraction -/
def rowsOf (n u v w : Nat) : List Row4 := (List.range 12).map fun r => ⟨rm n r, rm u r, rm v r, rm w r⟩
/-- the number behind t turns -/
def turnN (n u v t : Nat) : Nat := n / u ^ t * v ^ t
structure Fr1 (u v : Nat) : Prop where
  u0 : 0 < u
  v0 : 0 < v
  lu : left u = 1
  lv : left v = 1
  cop : ∀ r, r < 12 → rm u r = 0 ∨ rm v r = 0
theorem turn_rm {n u v t : Nat} (F : Fr1 u v) (hn : 0 < n) (hl : left n = 1) (h : ∀ r, r < 12 → t * rm u r ≤ rm n r) :
    0 < turnN n u v t ∧ left (turnN n u v t) = 1 ∧ n % u ^ t = 0 ∧ ∀ r, r < 12 → rm (turnN n u v t) r = rm n r - t * rm u r + t * rm v r := by
  have hu := Nat.pow_pos (n := t) F.u0
  have hv := Nat.pow_pos (n := t) F.v0
  have hd : n % u ^ t = 0 := (dvd_rm hu hn (left_pow F.u0 F.lu t) hl).mpr fun r hr => by rw [rm_pow F.u0]; exact h r hr
  have hq : 0 < n / u ^ t := Nat.div_pos (Nat.le_of_dvd hn (Nat.dvd_of_mod_eq_zero hd)) hu
  have hlq : left (n / u ^ t) = 1 := by
    have e : n = u ^ t * (n / u ^ t) := (Nat.mul_div_cancel' (Nat.dvd_of_mod_eq_zero hd)).symm
    have := left_mul hu hq
    rw [← e, hl, left_pow F.u0 F.lu t, Nat.one_mul] at this
    exact this.symm
  refine ⟨Nat.mul_pos hq hv, ?_, hd, fun r hr => ?_⟩
  · unfold turnN
    rw [left_mul hq hv, hlq, left_pow F.v0 F.lv t]
  · unfold turnN
    rw [rm_mul hq hv, div_rm hu hn hd, rm_pow F.u0, rm_pow F.v0]
/-- w divides the number behind t turns, by rows -/
theorem turn_fit {n u v t w : Nat} (F : Fr1 u v) (hn : 0 < n) (hl : left n = 1) (h : ∀ r, r < 12 → t * rm u r ≤ rm n r) (hw : 0 < w) (lw : left w = 1) :
    turnN n u v t % w = 0 ↔ ∀ q ∈ rowsOf n u v w, okAt q t := by
  obtain ⟨a, b, _, c⟩ := turn_rm F hn hl h
  rw [dvd_rm hw a lw b]
  have key : ∀ r, r < 12 → (rm w r ≤ rm (turnN n u v t) r ↔ okAt ⟨rm n r, rm u r, rm v r, rm w r⟩ t) := fun r hr => by
    rw [c r hr]
    unfold okAt
    have hle := h r hr
    have e : ((t : Int) * ((rm v r : Int) - (rm u r : Int))) = ((t * rm v r : Nat) : Int) - ((t * rm u r : Nat) : Int) := by
      push_cast
      rw [Int.mul_sub]
    dsimp only
    rw [e]
    omega
  constructor
  · intro z q hq
    obtain ⟨r, hr, rfl⟩ := List.mem_map.mp hq
    exact (key r (List.mem_range.mp hr)).mp (z r (List.mem_range.mp hr))
  · intro z r hr
    exact (key r hr).mpr (z _ (List.mem_map.mpr ⟨r, List.mem_range.mpr hr, rfl⟩))
theorem turn_succ {n u v t : Nat} (F : Fr1 u v) (hn : 0 < n) (hl : left n = 1) (h : ∀ r, r < 12 → (t + 1) * rm u r ≤ rm n r) : turnN n u v t / u * v = turnN n u v (t + 1) := by
  have h' : ∀ r, r < 12 → t * rm u r ≤ rm n r := fun r hr => by
    have := h r hr
    rw [Nat.succ_mul] at this
    omega
  obtain ⟨a, b, _, c⟩ := turn_rm F hn hl h'
  obtain ⟨a', b', _, c'⟩ := turn_rm F hn hl h
  have hd : turnN n u v t % u = 0 := (dvd_rm F.u0 a F.lu b).mpr fun r hr => by
    rw [c r hr]
    have := h r hr
    rw [Nat.succ_mul] at this
    omega
  have hq : 0 < turnN n u v t / u := Nat.div_pos (Nat.le_of_dvd a (Nat.dvd_of_mod_eq_zero hd)) F.u0
  have hlq : left (turnN n u v t / u) = 1 := by
    have e : turnN n u v t = u * (turnN n u v t / u) := (Nat.mul_div_cancel' (Nat.dvd_of_mod_eq_zero hd)).symm
    have := left_mul F.u0 hq
    rw [← e, b, F.lu, Nat.one_mul] at this
    exact this.symm
  refine num_ext (Nat.mul_pos hq F.v0) a' (by rw [left_mul hq F.v0, hlq, F.lv]) b' fun r hr => ?_
  rw [rm_mul hq F.v0, div_rm F.u0 a hd, c r hr, c' r hr]
  have := h r hr
  rw [Nat.succ_mul] at this
  rw [Nat.succ_mul, Nat.succ_mul]
  omega
/-- how often u can be taken: by the rooms that it takes from -/
def outsOf (n u : Nat) : List Nat := (List.range 12).filterMap fun r => if 0 < rm u r then some (rm n r / rm u r) else none
theorem fits_out {n u v t : Nat} (F : Fr1 u v) : (∀ q ∈ rowsOf n u v u, okAt q t) ↔ ∀ a ∈ outsOf n u, t < a := by
  have key : ∀ r, r < 12 → (okAt ⟨rm n r, rm u r, rm v r, rm u r⟩ t ↔ (0 < rm u r → t < rm n r / rm u r)) := fun r hr => by
    unfold okAt
    dsimp only
    rcases F.cop r hr with e | e
    · rw [e]
      constructor
      · intro _ z
        omega
      · intro _
        have : (0 : Int) ≤ (t : Int) * ((rm v r : Int) - ((0 : Nat) : Int)) := Int.mul_nonneg (by omega) (by omega)
        omega
    · rw [e]
      by_cases h0 : 0 < rm u r
      · have e2 : (t : Int) * (((0 : Nat) : Int) - (rm u r : Int)) = -((t * rm u r : Nat) : Int) := by
          push_cast
          rw [Int.zero_sub, Int.mul_neg]
        rw [e2]
        have e3 : (t < rm n r / rm u r) ↔ (t + 1) * rm u r ≤ rm n r := by
          rw [← Nat.le_div_iff_mul_le h0]
          exact Iff.rfl
        rw [Nat.succ_mul] at e3
        constructor
        · intro z _
          exact e3.mpr (by omega)
        · intro z
          have := e3.mp (z h0)
          omega
      · have : rm u r = 0 := by omega
        rw [this]
        constructor
        · intro _ z
          omega
        · intro _
          simp
  constructor
  · intro z a ha
    obtain ⟨r, hr, e⟩ := List.mem_filterMap.mp ha
    split at e
    · rename_i h0
      cases e
      exact (key r (List.mem_range.mp hr)).mp (z _ (List.mem_map.mpr ⟨r, hr, rfl⟩)) h0
    · cases e
  · intro z q hq
    obtain ⟨r, hr, rfl⟩ := List.mem_map.mp hq
    refine (key r (List.mem_range.mp hr)).mpr fun h0 => z _ (List.mem_filterMap.mpr ⟨r, hr, ?_⟩)
    rw [if_pos h0]
theorem out_le {n u m : Nat} (h : ∀ a ∈ outsOf n u, m ≤ a) : ∀ r, r < 12 → m * rm u r ≤ rm n r := fun r hr => by
  by_cases h0 : 0 < rm u r
  · have := h (rm n r / rm u r) (List.mem_filterMap.mpr ⟨r, List.mem_range.mpr hr, by rw [if_pos h0]⟩)
    exact (Nat.le_div_iff_mul_le h0).mp this
  · have : rm u r = 0 := by omega
    rw [this, Nat.mul_zero]
    exact Nat.zero_le _
end Fr
namespace Fr
/-! ### how many turns a fraction has -/
def someOf (l : Prog) (n i : Nat) : List Nat := outsOf n (unAt l i) ++ (l.take i).filterMap fun p => ffOf (rowsOf n (unAt l i) (upAt l i) p.2)
theorem frac1 {l : Prog} {i : Nat} (hP : isProg l = true) (hi : i < l.length) : Fr1 (unAt l i) (upAt l i) := by
  obtain ⟨f1, f2, f3, f4, f5⟩ := isFrac_iff.mp ((isProg_iff.mp hP).2 _ (List.getElem_mem hi))
  rw [unAt_eq hi, upAt_eq hi]
  have hu := isNum_iff.mp f2
  have hv := isNum_iff.mp f1
  refine ⟨hu.1, hv.1, hu.2.1, hv.2.1, fun r hr => ?_⟩
  by_cases h1 : rm (l[i]).2 r = 0
  · exact .inl h1
  by_cases h2 : rm (l[i]).1 r = 0
  · exact .inr h2
  exfalso
  -- the r-th prime divides both
  have hp := make_pos' ((List.range 12).map fun j => if j = r then 1 else 0)
  have lp := left_mk (f := fun j => if j = r then 1 else 0)
  have d1 : (l[i]).1 % make ((List.range 12).map fun j => if j = r then 1 else 0) = 0 := (dvd_rm hp hv.1 lp hv.2.1).mpr fun j hj => by
    rw [rm_make hj]
    split
    · rename_i e
      rw [e]
      omega
    · exact Nat.zero_le _
  have d2 : (l[i]).2 % make ((List.range 12).map fun j => if j = r then 1 else 0) = 0 := (dvd_rm hp hu.1 lp hu.2.1).mpr fun j hj => by
    rw [rm_make hj]
    split
    · rename_i e
      rw [e]
      omega
    · exact Nat.zero_le _
  have d3 := Nat.dvd_gcd (Nat.dvd_of_mod_eq_zero d1) (Nat.dvd_of_mod_eq_zero d2)
  rw [f5] at d3
  have e1 : make ((List.range 12).map fun j => if j = r then 1 else 0) = 1 := Nat.dvd_one.mp d3
  have e2 := rm_make (f := fun j => if j = r then 1 else 0) hr
  rw [e1, if_pos rfl] at e2
  have e3 := rm_mul (a := 1) (b := 1) (by decide) (by decide) r
  rw [Nat.one_mul] at e3
  omega
theorem times_spec {l : Prog} {n i m : Nat} (hP : isProg l = true) (hn : 0 < n) (hl : left n = 1) (hi : firstAt l n = some i) (hm : m ∈ someOf l n i) (hle : ∀ a ∈ someOf l n i, m ≤ a) :
    0 < m ∧ (∀ t, t < m → firstAt l (turnN n (unAt l i) (upAt l i) t) = some i ∧ led l (turnN n (unAt l i) (upAt l i) t) = some (turnN n (unAt l i) (upAt l i) (t + 1))) ∧ firstAt l (turnN n (unAt l i) (upAt l i) m) ≠ some i ∧
      ∀ t, t ≤ m → ∀ r, r < 12 → t * rm (unAt l i) r ≤ rm n r := by
  have hlt := firstAt_lt hi
  have F := frac1 hP hlt
  have hou : ∀ a ∈ outsOf n (unAt l i), m ≤ a := fun a ha => hle a (List.mem_append_left _ ha)
  have room : ∀ t, t ≤ m → ∀ r, r < 12 → t * rm (unAt l i) r ≤ rm n r := fun t ht r hr => Nat.le_trans (Nat.mul_le_mul_right _ ht) (out_le hou r hr)
  have hnum : ∀ (j : Nat) (hj : j < l.length), 0 < (l[j]).2 ∧ left (l[j]).2 = 1 := fun j hj => by
    obtain ⟨f1, f2, _⟩ := isFrac_iff.mp ((isProg_iff.mp hP).2 _ (List.getElem_mem hj))
    have := isNum_iff.mp f2
    exact ⟨this.1, this.2.1⟩
  have before : ∀ t, t < m → firstAt l (turnN n (unAt l i) (upAt l i) t) = some i := fun t ht => by
    refine firstAt_some hlt ?_ fun j hj hji => ?_
    · rw [← unAt_eq hlt]
      refine (turn_fit F hn hl (room t (by omega)) F.u0 F.lu).mpr ((fits_out F).mpr fun a ha => ?_)
      have := hou a ha
      omega
    · intro z
      have fit := (turn_fit F hn hl (room t (by omega)) (hnum j hj).1 (hnum j hj).2).mp z
      have sp := ffOf_spec (rowsOf n (unAt l i) (upAt l i) (l[j]).2)
      cases e : ffOf (rowsOf n (unAt l i) (upAt l i) (l[j]).2) with
      | none =>
        rw [e] at sp
        exact sp t fit
      | some g =>
        rw [e] at sp
        have hg : g ∈ someOf l n i := by
          refine List.mem_append_right _ (List.mem_filterMap.mpr ⟨l[j], ?_, e⟩)
          rw [List.mem_take_iff_getElem]
          exact ⟨j, by omega, rfl⟩
        have := hle g hg
        exact sp.2 t (by omega) fit
  have behind : firstAt l (turnN n (unAt l i) (upAt l i) m) ≠ some i := fun z => by
    obtain ⟨h1, h2, h3⟩ := firstAt_is z
    rcases List.mem_append.mp hm with hm | hm
    · rw [← unAt_eq hlt] at h2
      have := (fits_out F).mp ((turn_fit F hn hl (room m (Nat.le_refl _)) F.u0 F.lu).mp h2) m hm
      omega
    · obtain ⟨p, hp, e⟩ := List.mem_filterMap.mp hm
      rw [List.mem_take_iff_getElem] at hp
      obtain ⟨j, hj, rfl⟩ := hp
      have hj2 : j < l.length := by omega
      have sp := ffOf_spec (rowsOf n (unAt l i) (upAt l i) (l[j]).2)
      rw [e] at sp
      exact h3 j hj2 (by omega) ((turn_fit F hn hl (room m (Nat.le_refl _)) (hnum j hj2).1 (hnum j hj2).2).mpr sp.1)
  refine ⟨?_, fun t ht => ⟨before t ht, ?_⟩, behind, room⟩
  · rcases Nat.eq_zero_or_pos m with z | z
    · exfalso
      apply behind
      rw [z]
      have : turnN n (unAt l i) (upAt l i) 0 = n := by unfold turnN; rw [Nat.pow_zero, Nat.pow_zero, Nat.div_one, Nat.mul_one]
      rw [this]
      exact hi
    · exact z
  · unfold led
    rw [before t ht]
    show some (turnN n (unAt l i) (upAt l i) t / unAt l i * upAt l i) = _
    rw [turn_succ F hn hl (room (t + 1) ht)]
/-- a room that grows above the bound stays above it -/
theorem great_later {n u v s t : Nat} (F : Fr1 u v) (hn : 0 < n) (hl : left n = 1) (h : ∀ k, k ≤ t → ∀ r, r < 12 → k * rm u r ≤ rm n r) (hb : ∀ r, r < 12 → rm n r ≤ 400) (hst : s ≤ t) {r : Nat} (hr : r < 12) (hg : 400 < rm (turnN n u v s) r) : 400 < rm (turnN n u v t) r := by
  obtain ⟨_, _, _, c1⟩ := turn_rm F hn hl (h s hst)
  obtain ⟨_, _, _, c2⟩ := turn_rm F hn hl (h t (Nat.le_refl _))
  rw [c1 r hr] at hg
  rw [c2 r hr]
  have h0 := hb r hr
  rcases F.cop r hr with e | e
  · rw [e] at hg ⊢
    have := Nat.mul_le_mul_right (rm v r) hst
    omega
  · rw [e] at hg
    omega
/-- no end, by the law's own -/
theorem outs_nil {n u : Nat} (hu : 0 < u) (lu : left u = 1) : outsOf n u = [] ↔ u = 1 := by
  constructor
  · intro h
    refine num_ext hu (by decide) lu ?_ fun r hr => ?_
    · have := left_pow hu lu 0
      rw [Nat.pow_zero] at this
      exact this
    · have e1 : rm 1 r = 0 := by
        have := rm_mul (a := 1) (b := 1) (by decide) (by decide) r
        rw [Nat.one_mul] at this
        omega
      rw [e1]
      rcases Nat.eq_zero_or_pos (rm u r) with z | z
      · exact z
      · have : rm n r / rm u r ∈ outsOf n u := List.mem_filterMap.mpr ⟨r, List.mem_range.mpr hr, by rw [if_pos z]⟩
        rw [h] at this
        cases this
  · rintro rfl
    unfold outsOf
    rw [List.filterMap_eq_nil_iff]
    intro r _
    have e1 : rm 1 r = 0 := by
      have := rm_mul (a := 1) (b := 1) (by decide) (by decide) r
      rw [Nat.one_mul] at this
      omega
    rw [e1]
    rfl
end Fr
namespace Fr
open PySem PySem.Spec PyProof.Rows L2

/-! ### heaps -/
theorem same_new {H : Hp} {p : Addr} {o : HO} (h : H p = none) : Same H (upd H p o) := fun b x e => by
  rw [upd_ne (ne_of_none e h)]
  exact e
/-- what H does not know may change -/
theorem same_put {H H' : Hp} {p : Addr} {o : HO} (s : Same H H') (h : H p = none) : Same H (upd H' p o) := fun b x e => by
  rw [upd_ne (ne_of_none e h)]
  exact s _ _ e
theorem same_tup {K : PySem.W.Frag} {H H' : Hp} {a : Addr} {xs : List V} (e : Same H H') (h : SqT K H a xs) : SqT K H' a xs := by
  rcases h with (h | ⟨o, h⟩) | h
  · exact .inl (.inl (e _ _ h))
  · exact .inl (.inr ⟨o, e _ _ h⟩)
  · exact .inr h
mutual
theorem same_dp {K : PySem.W.Frag} {H H' : Hp} (e : Same H H') : ∀ {d : PyData} {v : V}, Dp K H v d → Dp K H' v d
  | .none, _, .non => .non
  | .bool _, _, .bl b => .bl b
  | .int _, _, .int i => .int i
  | .str _, _, .str x => .str x
  | .list _, _, .lst h a => .lst (e.seq h) (same_dps e a)
  | .tuple _, _, .tup h a => .tup (same_tup e h) (same_dps e a)
theorem same_dps {K : PySem.W.Frag} {H H' : Hp} (e : Same H H') : ∀ {ds : List PyData} {vs : List V}, DpAll K H vs ds → DpAll K H' vs ds
  | [], _, .nil => .nil
  | _ :: _, _, .cons a b => .cons (same_dp e a) (same_dps e b)
end
theorem dps_len {K : PySem.W.Frag} {H : Hp} : ∀ {ds : List PyData} {vs : List V}, DpAll K H vs ds → vs.length = ds.length
  | [], _, .nil => rfl
  | _ :: _, _, .cons _ b => congrArg Nat.succ (dps_len b)
theorem dps_at {K : PySem.W.Frag} {H : Hp} : ∀ {ds : List PyData} {vs : List V} {i : Nat} {d : PyData}, DpAll K H vs ds → ds[i]? = some d → ∃ v, vs[i]? = some v ∧ Dp K H v d
  | [], _, _, _, .nil, h => by simp at h
  | e :: _, _, 0, d, .cons a _, h => by
    have z : e = d := Option.some.inj h
    subst z
    exact ⟨_, rfl, a⟩
  | _ :: _, _, i + 1, d, .cons _ b, h => dps_at (i := i) b h
theorem dps_at2 {K : PySem.W.Frag} {H : Hp} : ∀ {ds : List PyData} {vs : List V} {i : Nat} {v : V}, DpAll K H vs ds → vs[i]? = some v → ∃ d, ds[i]? = some d ∧ Dp K H v d
  | [], _, _, _, .nil, h => by simp at h
  | e :: _, _, 0, d, .cons a _, h => by
    have z := Option.some.inj h
    subst z
    exact ⟨_, rfl, a⟩
  | _ :: _, _, i + 1, d, .cons _ b, h => dps_at2 (i := i) b h
theorem dps_app {K : PySem.W.Frag} {H : Hp} : ∀ {ds es : List PyData} {vs ws : List V}, DpAll K H vs ds → DpAll K H ws es → DpAll K H (vs ++ ws) (ds ++ es)
  | [], _, _, _, .nil, h => h
  | _ :: _, _, _, _, .cons a b, h => .cons a (dps_app b h)
theorem dps_take {K : PySem.W.Frag} {H : Hp} : ∀ {ds : List PyData} {vs : List V} (n : Nat), DpAll K H vs ds → DpAll K H (vs.take n) (ds.take n)
  | _, _, 0, _ => .nil
  | [], _, _ + 1, .nil => .nil
  | _ :: _, _, n + 1, .cons a b => .cons a (dps_take n b)
theorem dps_drop {K : PySem.W.Frag} {H : Hp} : ∀ {ds : List PyData} {vs : List V} (n : Nat), DpAll K H vs ds → DpAll K H (vs.drop n) (ds.drop n)
  | _, _, 0, h => h
  | [], _, _ + 1, .nil => .nil
  | _ :: _, _, n + 1, .cons _ b => dps_drop n b
theorem dps_ints {K : PySem.W.Frag} {H : Hp} : ∀ (ns : List Int), DpAll K H (ns.map V.int) (ns.map PyData.int)
  | [] => .nil
  | n :: ns => .cons (.int n) (dps_ints ns)
theorem dps_of_ints {K : PySem.W.Frag} {H : Hp} : ∀ {ns : List Int} {vs : List V}, DpAll K H vs (ns.map PyData.int) → vs = ns.map V.int
  | [], _, .nil => rfl
  | n :: ns, _, .cons (.int _) b => congrArg (V.int n :: ·) (dps_of_ints b)

/-! ### a def that may be called by its name -/
abbrev ga := He.ga
/-- a def's own datum behind the top -/
def fdOf (K : PySem.W.Frag) (p : Str × Option Str) : FuncData := match K.lookup (He.fAd K p) with
  | some ⟨_, _, .func fd, _⟩ => fd
  | _ => default
abbrev FnP (K : PySem.W.Frag) (x : Str) (st : Stmt) : Prop := FunD K x x (defArgs st) (defBody st) (defScope st) [] [] (ga K x) (fdOf K (x, none))
structure Cal (P : Program) (w : World) (K : PySem.W.Frag) (mg : Str → Option Value) (base : Heap) (CX : CXT) (k : Nat) (x : Str) (ps : List Str) (sp : Sp) : Prop where
  fn : FnOk P w K mg base CX k (ga K x) (fdOf K (x, none)) ps sp
  m : mg x = some (.ref (ga K x))
  kp : PySem.W.keepIn K (.ref (ga K x)) = true
  b : Binds K (fdOf K (x, none)) ps []
def tCal (sp : Sp) (E : XK) (t : TA) : TE := fun σ H Q => t σ H fun vs H1 => sp vs H1 Q E
section
variable {X : Cx} {CX : CXT} {k : Nat} {x : Str} {ps : List Str} {sp : Sp} {E : XK} {p pos : Pos} {e : Expr} {es : List Expr} {t : TA}
theorem pe_cal (C : Cal X.prog X.w X.K X.mg X.base CX k x ps sp) (hr : Room k X.A) (hg : Gl X x) (hx : Passes CX X E) (ha : PA X (e :: es) t) (hdb : (x == ("__debug__" : Str)) = false := by decide)
    (he : starEach (e :: es) X.env = (false, eval e X.env) :: starEach es X.env := by rfl) (hpl : (backTo pos (starEach es X.env)).any (·.1) = false := by rfl) :
    PE X (.Call (.Name x p) (e :: es) [] pos) (tCal sp E t) := by
  have h := pe_call (p := p) (pos := pos) C.fn hr hg C.m C.kp C.b .nil hx ha hdb he hpl
  refine ⟨fun pins s σ H Q I q => h.run pins s σ H Q I ?_⟩
  show t σ H fun vs H1 => sp (vs ++ []) H1 Q E
  simp only [List.append_nil]
  exact q
theorem pe_cal0 (C : Cal X.prog X.w X.K X.mg X.base CX k x ps sp) (hr : Room k X.A) (hg : Gl X x) (hx : Passes CX X E) (hdb : (x == ("__debug__" : Str)) = false := by decide) :
    PE X (.Call (.Name x p) [] [] pos) (tCal sp E tNil) := by
  exact pe_call0 (p := p) (pos := pos) C.fn hr hg C.m C.kp C.b .nil hx hdb
end

/-! ### whole numbers that are not below nought -/
section
variable {X : Cx}
def rN (C : Nat → Nat → Prop) (g : Nat → Nat → V) : R2 := fun x y H Q => ∃ a b : Nat, x = .int a ∧ y = .int b ∧ C a b ∧ Q (g a b) H
def rN0 (g : Nat → Nat → V) : R2 := fun x y H Q => ∃ a b : Nat, x = .int a ∧ y = .int b ∧ Q (g a b) H
theorem opN_mod : OpR X (binaryOp .Mod) (rN (fun _ b => 0 < b) fun a b => .int ((a % b : Nat) : Int)) := by
  intro pins s σ H x y v u Q I rx ry h
  obtain ⟨a, b, rfl, rfl, hb, q⟩ := h
  exact op_mod pins s σ H _ _ v u Q I rx ry ⟨a, b, rfl, rfl, by omega, q⟩
theorem opN_div : OpR X (binaryOp .FloorDiv) (rN (fun _ b => 0 < b ∧ b.log2 < 9000) fun a b => .int ((a / b : Nat) : Int)) := by
  intro pins s σ H x y v u Q I rx ry h
  obtain ⟨a, b, rfl, rfl, ⟨h1, h2⟩, q⟩ := h
  exact op_fdivW pins s σ H _ _ v u Q I rx ry ⟨a, b, rfl, rfl, ⟨by omega, by simpa using h2⟩, q⟩
theorem opN_mul : OpR X (binaryOp .Mult) (rN (fun a b => a.log2 + b.log2 < 1000000) fun a b => .int ((a * b : Nat) : Int)) := by
  intro pins s σ H x y v u Q I rx ry h
  obtain ⟨a, b, rfl, rfl, h1, q⟩ := h
  exact op_mulW pins s σ H _ _ v u Q I rx ry ⟨a, b, rfl, rfl, by simpa [CMulW] using h1, q⟩
theorem opN_add : OpR X (binaryOp .Add) (rN0 fun a b => .int ((a + b : Nat) : Int)) := by
  intro pins s σ H x y v u Q I rx ry h
  obtain ⟨a, b, rfl, rfl, q⟩ := h
  exact op_add pins s σ H _ _ v u Q I rx ry ⟨a, b, rfl, rfl, q⟩
theorem opN_sub : OpR X (binaryOp .Sub) (rN (fun a b => b ≤ a) fun a b => .int ((a - b : Nat) : Int)) := by
  intro pins s σ H x y v u Q I rx ry h
  obtain ⟨a, b, rfl, rfl, h1, q⟩ := h
  refine op_sub pins s σ H _ _ v u Q I rx ry ⟨a, b, rfl, rfl, ?_⟩
  show Q (V.int ((a : Int) - (b : Int))) H
  rw [← Int.ofNat_sub h1]
  exact q
theorem opN_pow : OpR X (binaryOp .Pow) (rN (fun a b => b ≤ 1000000 ∧ a < 2 ^ 64) fun a b => .int ((a ^ b : Nat) : Int)) := by
  intro pins s σ H x y v u Q I rx ry h
  obtain ⟨a, b, rfl, rfl, ⟨h1, h2⟩, q⟩ := h
  refine op_pow pins s σ H _ _ v u Q I rx ry ⟨a, b, rfl, rfl, ⟨by omega, by omega, by simpa using h2⟩, ?_⟩
  show Q (V.int ((a : Int) ^ (b : Int).toNat)) H
  rw [Int.toNat_natCast, ← Int.natCast_pow]
  exact q
theorem opN_eq : OpR X (compareOp .Eq) (rN0 fun a b => .bl (decide (a = b))) := by
  intro pins s σ H x y v u Q I rx ry h
  obtain ⟨a, b, rfl, rfl, q⟩ := h
  refine op_eq pins s σ H _ _ v u Q I rx ry ⟨rfl, ?_⟩
  have e : decide (V.int (a : Int) = V.int (b : Int)) = decide (a = b) := by
    rw [Bool.eq_iff_iff]
    simp
    omega
  rw [e]
  exact q
theorem opN_ne : OpR X (compareOp .NotEq) (rN0 fun a b => .bl (!decide (a = b))) := by
  intro pins s σ H x y v u Q I rx ry h
  obtain ⟨a, b, rfl, rfl, q⟩ := h
  refine op_ne pins s σ H _ _ v u Q I rx ry ⟨rfl, ?_⟩
  have e : decide (V.int (a : Int) = V.int (b : Int)) = decide (a = b) := by
    rw [Bool.eq_iff_iff]
    simp
    omega
  rw [e]
  exact q
theorem opN_lt : OpR X (compareOp .Lt) (rN0 fun a b => .bl (decide (a < b))) := by
  intro pins s σ H x y v u Q I rx ry h
  obtain ⟨a, b, rfl, rfl, q⟩ := h
  refine op_lt pins s σ H _ _ v u Q I rx ry ⟨a, b, rfl, rfl, ?_⟩
  simpa using q
theorem opN_le : OpR X (compareOp .LtE) (rN0 fun a b => .bl (decide (a ≤ b))) := by
  intro pins s σ H x y v u Q I rx ry h
  obtain ⟨a, b, rfl, rfl, q⟩ := h
  refine op_le pins s σ H _ _ v u Q I rx ry ⟨a, b, rfl, rfl, ?_⟩
  simpa using q
theorem opN_gt : OpR X (compareOp .Gt) (rN0 fun a b => .bl (decide (b < a))) := by
  intro pins s σ H x y v u Q I rx ry h
  obtain ⟨a, b, rfl, rfl, q⟩ := h
  refine op_gt pins s σ H _ _ v u Q I rx ry ⟨a, b, rfl, rfl, ?_⟩
  simpa using q
theorem opN_ge : OpR X (compareOp .GtE) (rN0 fun a b => .bl (decide (b ≤ a))) := by
  intro pins s σ H x y v u Q I rx ry h
  obtain ⟨a, b, rfl, rfl, q⟩ := h
  refine op_ge pins s σ H _ _ v u Q I rx ry ⟨a, b, rfl, rfl, ?_⟩
  simpa using q
end

/-! ### isinstance of data -/
def tyD : PyData → String
  | .none => "NoneType"
  | .bool _ => "bool"
  | .int _ => "int"
  | .str _ => "str"
  | .list _ => "list"
  | .tuple _ => "tuple"
  | .dict _ => "dict"
def isD (n : String) (d : PyData) : Bool := (kitB (tyD d) n).getD false
theorem ty_of {K : PySem.W.Frag} {H : Hp} {v : V} {d : PyData} (h : Dp K H v d) : TyX K H v (.type (tyD d)) := by
  cases h with
  | non => exact .base .non
  | bl b => exact .base (.bl b)
  | int i => exact .base (.int i)
  | str x => exact .base (.str x)
  | lst h _ =>
    rcases h with (h | ⟨o, h⟩) | ⟨o, its, n, h, hc, _⟩
    · exact .base (.lst h)
    · exact .base (.frz h)
    · exact .kList h hc
  | tup h _ =>
    rcases h with (h | ⟨o, h⟩) | ⟨o, its, n, h, hc, _⟩
    · exact .base (.tup h)
    · exact .fTuple h
    · exact .kTuple h hc
def rIsD (K : PySem.W.Frag) (n : String) : List V → Hp → VK → Prop := fun xs H Q => ∃ (v : V) (d : PyData), xs = [v, .ty n] ∧ Dp K H v d ∧ Q (.bl (isD n d)) H
theorem kit_isD {n : String} (hk : (["NoneType", "bool", "int", "str", "list", "tuple"].all fun t => (kitB t n).isSome) = true) (d : PyData) (hd : ∀ z, d ≠ .dict z) : kitB (tyD d) n = some (isD n d) := by
  simp only [List.all_cons, List.all_nil, Bool.and_true, Bool.and_eq_true] at hk
  obtain ⟨h1, h2, h3, h4, h5, h6⟩ := hk
  have key : ∀ t : String, (kitB t n).isSome = true → kitB t n = some ((kitB t n).getD false) := fun t h => by
    cases e : kitB t n with
    | none =>
      rw [e] at h
      cases h
    | some b => rfl
  cases d with
  | none => exact key _ h1
  | bool _ => exact key _ h2
  | int _ => exact key _ h3
  | str _ => exact key _ h4
  | list _ => exact key _ h5
  | tuple _ => exact key _ h6
  | dict z => exact absurd rfl (hd z)
theorem call_isD {X : Cx} (n : String) (hk : (["NoneType", "bool", "int", "str", "list", "tuple"].all fun t => (kitB t n).isSome) = true) : CallR X (.builtin "isinstance") (rIsD X.K n) := by
  intro pins s σ H xs us Q I r h
  obtain ⟨v, d, rfl, hd, q⟩ := h
  exact call_isi pins s σ H _ us Q I r ⟨v, .ty n, _, _, isD n d, rfl, .ty n, ty_of hd, kit_ty (kit_isD hk d fun z e => by rw [e] at hd; cases hd), q⟩
theorem isK_int : (["NoneType", "bool", "int", "str", "list", "tuple"].all fun t => (kitB t "int").isSome) = true := by decide +kernel
theorem isK_bool : (["NoneType", "bool", "int", "str", "list", "tuple"].all fun t => (kitB t "bool").isSome) = true := by decide +kernel
theorem isK_str : (["NoneType", "bool", "int", "str", "list", "tuple"].all fun t => (kitB t "str").isSome) = true := by decide +kernel
theorem isK_list : (["NoneType", "bool", "int", "str", "list", "tuple"].all fun t => (kitB t "list").isSome) = true := by decide +kernel
theorem isK_tuple : (["NoneType", "bool", "int", "str", "list", "tuple"].all fun t => (kitB t "tuple").isSome) = true := by decide +kernel
def isIntD : PyData → Bool
  | .bool _ => true
  | .int _ => true
  | _ => false
def isBoolD : PyData → Bool
  | .bool _ => true
  | _ => false
def isStrD : PyData → Bool
  | .str _ => true
  | _ => false
def isListD : PyData → Bool
  | .list _ => true
  | _ => false
def isTupleD : PyData → Bool
  | .tuple _ => true
  | _ => false
theorem isD_int {K : PySem.W.Frag} {H : Hp} {v : V} {d : PyData} (h : Dp K H v d) : isD "int" d = isIntD d := by
  cases h <;> (simp only [isD, tyD, isIntD]; decide +kernel)
theorem isD_bool {K : PySem.W.Frag} {H : Hp} {v : V} {d : PyData} (h : Dp K H v d) : isD "bool" d = isBoolD d := by
  cases h <;> (simp only [isD, tyD, isBoolD]; decide +kernel)
theorem isD_str {K : PySem.W.Frag} {H : Hp} {v : V} {d : PyData} (h : Dp K H v d) : isD "str" d = isStrD d := by
  cases h <;> (simp only [isD, tyD, isStrD]; decide +kernel)
theorem isD_list {K : PySem.W.Frag} {H : Hp} {v : V} {d : PyData} (h : Dp K H v d) : isD "list" d = isListD d := by
  cases h <;> (simp only [isD, tyD, isListD]; decide +kernel)
theorem isD_tuple {K : PySem.W.Frag} {H : Hp} {v : V} {d : PyData} (h : Dp K H v d) : isD "tuple" d = isTupleD d := by
  cases h <;> (simp only [isD, tyD, isTupleD]; decide +kernel)
def rIs (K : PySem.W.Frag) (n : String) (f : PyData → Bool) : List V → Hp → VK → Prop := fun xs H Q => ∃ (v : V) (d : PyData), xs = [v, .ty n] ∧ Dp K H v d ∧ Q (.bl (f d)) H
section
variable {X : Cx}
theorem call_is {n : String} {f : PyData → Bool} (hk : (["NoneType", "bool", "int", "str", "list", "tuple"].all fun t => (kitB t n).isSome) = true) (he : ∀ {H : Hp} {v : V} {d : PyData}, Dp X.K H v d → isD n d = f d) :
    CallR X (.builtin "isinstance") (rIs X.K n f) := by
  intro pins s σ H xs us Q I r h
  obtain ⟨v, d, rfl, hd, q⟩ := h
  rw [← he hd] at q
  exact call_isD n hk pins s σ H _ us Q I r ⟨v, d, rfl, hd, q⟩
theorem is_int : CallR X (.builtin "isinstance") (rIs X.K "int" isIntD) := call_is isK_int isD_int
theorem is_bool : CallR X (.builtin "isinstance") (rIs X.K "bool" isBoolD) := call_is isK_bool isD_bool
theorem is_str : CallR X (.builtin "isinstance") (rIs X.K "str" isStrD) := call_is isK_str isD_str
theorem is_list : CallR X (.builtin "isinstance") (rIs X.K "list" isListD) := call_is isK_list isD_list
theorem is_tuple : CallR X (.builtin "isinstance") (rIs X.K "tuple" isTupleD) := call_is isK_tuple isD_tuple
end
end Fr
namespace Fr
open PySem PySem.Spec PyProof.Rows L2
abbrev nI (a : Nat) : V := .int (a : Int)
abbrev nD (a : Nat) : PyData := .int (a : Int)
/-! ### data without lists stand, though a list changes -/
mutual
def noL : PyData → Bool
  | .list _ => false
  | .dict _ => false
  | .tuple ds => noLs ds
  | _ => true
def noLs : List PyData → Bool
  | [] => true
  | d :: ds => noL d && noLs ds
end
theorem sqt_upd {K : PySem.W.Frag} {H : Hp} {D b : Addr} {ys zs xs : List V} (hD : H D = some (.lst ys)) (h : SqT K H b xs) : SqT K (upd H D (.lst zs)) b xs := by
  rcases h with (h | ⟨o, h⟩) | h
  · have n : b ≠ D := ne_of h hD (by intro z; cases z)
    exact .inl (.inl (by rw [upd_ne n]; exact h))
  · have n : b ≠ D := ne_of h hD (by intro z; cases z)
    exact .inl (.inr ⟨o, by rw [upd_ne n]; exact h⟩)
  · exact .inr h
mutual
theorem dp_upd {K : PySem.W.Frag} {H : Hp} {D : Addr} {ys zs : List V} (hD : H D = some (.lst ys)) : ∀ {d : PyData} {v : V}, noL d = true → Dp K H v d → Dp K (upd H D (.lst zs)) v d
  | .none, _, _, .non => .non
  | .bool _, _, _, .bl b => .bl b
  | .int _, _, _, .int i => .int i
  | .str _, _, _, .str x => .str x
  | .list _, _, h, _ => by simp [noL] at h
  | .tuple ds, _, h, .tup t a => .tup (sqt_upd hD t) (dps_upd hD (by simpa [noL] using h) a)
theorem dps_upd {K : PySem.W.Frag} {H : Hp} {D : Addr} {ys zs : List V} (hD : H D = some (.lst ys)) : ∀ {ds : List PyData} {vs : List V}, noLs ds = true → DpAll K H vs ds → DpAll K (upd H D (.lst zs)) vs ds
  | [], _, _, .nil => .nil
  | d :: ds, _, h, .cons a b => by
    have h2 : noL d = true ∧ noLs ds = true := by simpa [noLs] using h
    exact .cons (dp_upd hD h2.1 a) (dps_upd hD h2.2 b)
end
theorem noLs_app : ∀ (ds es : List PyData), noLs (ds ++ es) = (noLs ds && noLs es)
  | [], es => by simp [noLs]
  | d :: ds, es => by
    show (noL d && noLs (ds ++ es)) = (noL d && noLs ds && noLs es)
    rw [noLs_app ds es, Bool.and_assoc]
theorem noLs_of : ∀ {ds : List PyData}, (∀ d ∈ ds, noL d = true) → noLs ds = true
  | [], _ => by simp [noLs]
  | d :: ds, h => by
    simp only [noLs, Bool.and_eq_true]
    exact ⟨h d List.mem_cons_self, noLs_of fun e he => h e (List.mem_cons_of_mem _ he)⟩
/-! ### comprehensions -/
/-- what turns below i gave -/
def gath (F : Nat → Option PyData) (i : Nat) : List PyData := (List.range i).filterMap F
theorem gath_zero (F : Nat → Option PyData) : gath F 0 = [] := rfl
theorem gath_yes {F : Nat → Option PyData} {i : Nat} {d : PyData} (h : F i = some d) : gath F (i + 1) = gath F i ++ [d] := by
  unfold gath
  rw [List.range_succ, List.filterMap_append]
  simp [h]
theorem gath_no {F : Nat → Option PyData} {i : Nat} (h : F i = none) : gath F (i + 1) = gath F i := by
  unfold gath
  rw [List.range_succ, List.filterMap_append]
  simp [h]
theorem gath_len (F : Nat → Option PyData) (i : Nat) : (gath F i).length ≤ i := by
  unfold gath
  have h := List.length_filterMap_le F (List.range i)
  rw [List.length_range] at h
  exact h
theorem gath_noL {F : Nat → Option PyData} (hF : ∀ i d, F i = some d → noL d = true) (i : Nat) : noLs (gath F i) = true := by
  refine noLs_of fun d hd => ?_
  obtain ⟨j, _, e⟩ := List.mem_filterMap.mp hd
  exact hF j d e
theorem gath_mapI {α : Type} (l : List α) (g : Nat → α → Option PyData) : gath (fun i => l[i]?.bind (g i)) l.length = l.zipIdx.filterMap fun p => g p.2 p.1 := by
  unfold gath
  have e : l.zipIdx = (List.range l.length).filterMap fun i => l[i]?.map fun x => (x, i) := by
    refine List.ext_getElem? fun k => ?_
    have key : ∀ n, n ≤ l.length → ((List.range n).filterMap fun i => l[i]?.map fun x => (x, i)) = (l.zipIdx).take n := by
      intro n
      induction n with
      | zero => intro _; rfl
      | succ n ih =>
        intro hn
        have hlt : n < l.length := by omega
        rw [List.range_succ, List.filterMap_append, ih (by omega), List.take_add_one]
        congr 1
        simp [hlt]
    rw [key l.length (Nat.le_refl _), List.take_of_length_le (by simp)]
  rw [e, List.filterMap_filterMap]
  congr 1
  funext i
  cases l[i]? <;> rfl
theorem gath_map {α : Type} (l : List α) (g : α → PyData) : gath (fun i => l[i]?.map g) l.length = l.map g := by
  have h := gath_mapI l fun _ x => some (g x)
  have e1 : (fun (i : Nat) => l[i]?.bind fun x => some (g x)) = fun (i : Nat) => l[i]?.map g := by
    funext i
    cases l[i]? <;> rfl
  rw [e1] at h
  rw [h]
  have e3 : l.zipIdx.filterMap (fun p => some (g p.1)) = l.zipIdx.map (fun p => g p.1) := congrFun List.filterMap_eq_map' _
  rw [e3]
  have e2 : (l.zipIdx.map fun p => g p.1) = (l.zipIdx.map Prod.fst).map g := by rw [List.map_map]; rfl
  exact e2.trans (by rw [List.zipIdx_map_fst])
theorem gath_filter {α : Type} (l : List α) (g : α → Option PyData) : gath (fun i => l[i]?.bind g) l.length = l.filterMap g := by
  have h := gath_mapI l fun _ x => g x
  rw [h]
  have e2 : (l.zipIdx.filterMap fun p => g p.1) = (l.zipIdx.map Prod.fst).filterMap g := by rw [List.filterMap_map]; rfl
  exact e2.trans (by rw [List.zipIdx_map_fst])
theorem gath_range {n : Nat} (g : Nat → Option PyData) : gath g n = (List.range n).filterMap g := rfl
/-- a comprehension whose items are data without lists -/
theorem lc_dp {K : PySem.W.Frag} {J : It} {n : Nat} {G : Hp → Prop} {Y : Nat → Hp → V → Hp → Prop} (w : Walk J n G Y) {g : TG} {tt : TT} {te : TE} {vs : List Nat} {σ : L2.St} {H1 : Hp} {D : Addr} {Qd : Hp → Prop}
    (hD : H1 D = none) (hn : n ≤ 100000) (hG : ∀ H', Same H1 H' → G H') (F : Nat → Option PyData) (hF : ∀ i d, F i = some d → noL d = true)
    (hs : ∀ i x H' H'' (A : V → Hp → Prop) (B : Hp → Prop), i < n → Same H1 H' → Y i H' x H'' → (∀ y d H4, F i = some d → Same H' H4 → Dp K H4 y d → A y H4) → (F i = none → ∀ H3, Same H' H3 → B H3) →
      g x (wipe σ vs) H'' fun σ2 H2 => wipe σ2 vs = wipe σ vs ∧ tt σ2 H2 fun b H3 => if b = true then te σ2 H3 A else B H3)
    (hd : ∀ H' ys, Same H1 H' → H' D = some (.lst ys) → DpAll K H' ys (gath F n) → Qd H') :
    ∃ W : Nat → Nat → Hp → Prop, (∃ m, W 0 m (upd H1 D (.lst []))) ∧ ∀ i m H, W i m H →
      (J.stop i H ∧ Qd H) ∨ (J.go i H ∧ ∃ Nx : Hp → Prop, (∀ H', Nx H' → ∃ m', m' < m ∧ W (i + 1) m' H') ∧ ∀ x H', J.yld i H x H' → g x (wipe σ vs) H' fun σ2 H2 => wipe σ2 vs = wipe σ vs ∧ tt σ2 H2 fun b H3 =>
        if b = true then te σ2 H3 fun y H4 => ∃ acc, H4 D = some (.lst acc) ∧ acc.length < sizeLine ∧ Nx (upd H4 D (.lst (acc ++ [y]))) else Nx H3) := by
  refine lc_it w (fun i H' => Same H1 H' ∧ ∃ ys, H' D = some (.lst ys) ∧ DpAll K H' ys (gath F i)) ⟨same_new hD, [], upd_same, .nil⟩ (fun i H' _ p => hG H' p.1) (fun i x H' H'' hi p hY => ?_) (fun H' p => ?_)
  · obtain ⟨sm, ys, hy, hA⟩ := p
    refine hs i x H' H'' _ _ hi sm hY (fun y d H4 hFi s4 hdp => ?_) (fun hFi H3 s3 => ?_)
    · refine ⟨ys, s4 _ _ hy, ?_, ?_, ys ++ [y], upd_same, ?_⟩
      · have h1 := gath_len F i
        have h2 := dps_len hA
        exact Nat.lt_of_lt_of_le (show ys.length < 100000 by omega) (by decide)
      · exact same_put (sm.trans s4) hD
      · rw [gath_yes hFi]
        exact dps_app (dps_upd (s4 _ _ hy) (gath_noL hF i) (same_dps s4 hA)) (.cons (dp_upd (s4 _ _ hy) (hF i d hFi) hdp) .nil)
    · exact ⟨sm.trans s3, ys, s3 _ _ hy, by rw [gath_no hFi]; exact same_dps s3 hA⟩
  · obtain ⟨sm, ys, hy, hA⟩ := p
    exact hd H' ys sm hy hA
/-! ### the data of bools, of ints -/
theorem dps_bools {K : PySem.W.Frag} {H : Hp} : ∀ {bs : List Bool} {vs : List V}, DpAll K H vs (bs.map PyData.bool) → vs = bs.map V.bl
  | [], _, .nil => rfl
  | b :: bs, _, .cons (.bl _) t => congrArg (V.bl b :: ·) (dps_bools t)
theorem dps_nats {K : PySem.W.Frag} {H : Hp} : ∀ {ns : List Nat} {vs : List V}, DpAll K H vs (ns.map nD) → vs = ns.map nI
  | [], _, .nil => rfl
  | n :: ns, _, .cons (.int _) t => congrArg (nI n :: ·) (dps_nats t)
theorem dps_nats' {K : PySem.W.Frag} {H : Hp} : ∀ (ns : List Nat), DpAll K H (ns.map nI) (ns.map nD)
  | [] => .nil
  | n :: ns => .cons (.int _) (dps_nats' ns)
theorem nI_map (ns : List Nat) : ns.map nI = (ns.map fun (a : Nat) => (a : Int)).map V.int := by
  rw [List.map_map]
  rfl
/-! ### max of a tuple of whole numbers -/
def maxN : List Nat → Nat
  | [] => 0
  | a :: as => max a (maxN as)
theorem maxN_mem : ∀ {as : List Nat}, as ≠ [] → maxN as ∈ as
  | [], h => absurd rfl h
  | [a], _ => by simp [maxN]
  | a :: b :: as, _ => by
    have ih := maxN_mem (as := b :: as) (by simp)
    show max a (maxN (b :: as)) ∈ a :: b :: as
    rcases Nat.le_total a (maxN (b :: as)) with h | h
    · rw [Nat.max_eq_right h]
      exact List.mem_cons_of_mem _ ih
    · rw [Nat.max_eq_left h]
      exact List.mem_cons_self
theorem maxN_le : ∀ {as : List Nat} {a : Nat}, a ∈ as → a ≤ maxN as
  | b :: as, a, h => by
    rcases List.mem_cons.mp h with e | e
    · rw [e]
      exact Nat.le_max_left _ _
    · exact Nat.le_trans (maxN_le e) (Nat.le_max_right _ _)
theorem maxN_uniq {as : List Nat} {m : Nat} (h : m ∈ as) (hm : ∀ a ∈ as, a ≤ m) : m = maxN as :=
  Nat.le_antisymm (maxN_le h) (hm _ (maxN_mem (List.ne_nil_of_mem h)))
def rMaxT (K : PySem.W.Frag) : List V → Hp → VK → Prop := fun vs H Q => ∃ (a : Addr) (ns : List Nat), vs = [V.ref a] ∧ SqT K H a (ns.map nI) ∧ ns ≠ [] ∧ Q (nI (maxN ns)) H
theorem reads_int {h : Heap} {v : Value} {i : Int} {as : List Addr} (r : Reads h v (.int i) as) : ∃ t, v = .int i t := by
  cases r
  exact ⟨_, rfl⟩
theorem foldl_max : ∀ (ns : List Nat) (n : Nat), (ns.map fun (a : Nat) => (a : Int)).foldl max (n : Int) = ((max n (maxN ns) : Nat) : Int)
  | [], n => by simp [maxN]
  | a :: as, n => by
    show (as.map fun (a : Nat) => (a : Int)).foldl max (max (n : Int) (a : Int)) = _
    have e : max (n : Int) (a : Int) = ((max n a : Nat) : Int) := by omega
    rw [e, foldl_max as]
    show ((max (max n a) (maxN as) : Nat) : Int) = ((max n (max a (maxN as)) : Nat) : Int)
    rw [Nat.max_assoc]
theorem depth_ints : ∀ ns : List Int, PyData.depthAll (ns.map PyData.int) = 0
  | [] => by simp [PyData.depthAll]
  | n :: ns => by simp [PyData.depthAll, PyData.depth, depth_ints ns]
theorem alike_ints (ns : List Int) : PySem.W.AlikeAll (ns.map PyData.int) := by
  refine ⟨fun x hx y hy => ?_, fun x hx => ?_⟩
  · obtain ⟨i, _, rfl⟩ := List.mem_map.mp hx
    obtain ⟨j, _, rfl⟩ := List.mem_map.mp hy
    simp only [PySem.W.alike]
  · obtain ⟨i, _, rfl⟩ := List.mem_map.mp hx
    intro z
    cases z
theorem cr_maxT {X : Cx} (hc : X.calm = true) (hu : X.A.units + 1 < cLine) : CallR X (.builtin "max") (rMaxT X.K) := by
  intro pins s σ H vs us Q I r h
  obtain ⟨a, ns, rfl, hs, hne, q⟩ := h
  obtain ⟨its, rv, hl, _⟩ := I.tuple hs
  rw [Vals.ref1 r]
  cases ns with
  | nil => exact absurd rfl hne
  | cons n ns =>
    have hdp : DpAll X.K H ((n :: ns).map nI) (PyData.int (n : Int) :: (ns.map fun (a : Nat) => (a : Int)).map PyData.int) := by
      have h := dps_nats' (K := X.K) (H := H) (n :: ns)
      have e : (n :: ns).map nD = PyData.int (n : Int) :: (ns.map fun (a : Nat) => (a : Int)).map PyData.int := by
        rw [List.map_map]
        rfl
      rw [e] at h
      exact h
    obtain ⟨as, hr⟩ := Dp.readsAll I _ _ its hdp rv
    have ha := alike_ints ((n : Int) :: ns.map fun (a : Nat) => (a : Int))
    have hdep := depth_ints ((n : Int) :: ns.map fun (a : Nat) => (a : Int))
    refine PySem.W.max_tuple_data (I.ok.hd hc) (show s.heap.IsTuple a its.toArray from hl) (x := .int (n : Int)) (xs := (ns.map fun (a : Nat) => (a : Int)).map PyData.int) (by simpa using hr) ha (by rw [show PyData.depthAll (PyData.int (n : Int) :: (ns.map fun (a : Nat) => (a : Int)).map PyData.int) = 0 from hdep]; omega) fun i v h' tk bs hi r hk => ?_
    rw [PySem.W.maxD_ints, foldl_max] at r
    obtain ⟨t, rfl⟩ := reads_int r
    exact ⟨nI (maxN (n :: ns)), H, I.kept hk, ⟨t, rfl⟩, q⟩
/-! ### the rules over a named K (within a comprehension the context's own is told by its letter) -/
section
variable {X : Cx} {K : PySem.W.Frag}
theorem ixL (e : X.K = K)  : IxR X (rIxL K) := by
  subst e
  exact ix_list
theorem ixT (e : X.K = K)  : IxR X (rIxT K) := by
  subst e
  exact ix_tup
theorem ixA (e : X.K = K)  : IxR X (rIx K) := by
  subst e
  exact ix_seq
theorem slL (e : X.K = K)  : SlR X (rSlL K) := by
  subst e
  exact sl_list
theorem slT (e : X.K = K)  : SlR X (rSlA K) := by
  subst e
  exact sl_tupA
theorem inS (e : X.K = K)  : OpR X (compareOp .In) (rIn K false) := by
  subst e
  exact op_in_seq
theorem ninS (e : X.K = K)  : OpR X (compareOp .NotIn) (rIn K true) := by
  subst e
  exact op_notIn_seq
theorem eqD (e : X.K = K) (hu : X.A.units + 64 < cLine) : OpR X (compareOp .Eq) (rEqD K) := by
  subst e
  exact op_eqD hu
theorem neD (e : X.K = K) (hu : X.A.units + 64 < cLine) : OpR X (compareOp .NotEq) (rNeD K) := by
  subst e
  exact op_neD hu
theorem inD (e : X.K = K) (hu : X.A.units + 65 < cLine) : OpR X (compareOp .In) (rInD K) := by
  subst e
  exact op_inD hu
theorem catT (e : X.K = K)  : OpR X (binaryOp .Add) (rCatA K) := by
  subst e
  exact op_catA
theorem repT (e : X.K = K)  : OpR X (binaryOp .Mult) (rRepT K) := by
  subst e
  exact op_repT
theorem lenS (e : X.K = K)  : CallR X (.builtin "len") (fun xs H Q => ∃ p ys, xs = [.ref p] ∧ (SqL K H p ys ∨ SqT K H p ys) ∧ Q (.int ys.length) H) := by
  subst e
  exact call_len_seq
theorem listOf (e : X.K = K)  : CallR X (.type "list") (fun xs H Q => ∃ p ys, xs = [.ref p] ∧ (SqL K H p ys ∨ SqT K H p ys) ∧ ∀ l, H l = none → Q (.ref l) (upd H l (.lst ys))) := by
  subst e
  exact call_list_of
theorem tupleOf (e : X.K = K)  : CallR X (.type "tuple") (fun xs H Q => ∃ p ys, xs = [.ref p] ∧ ((SqL K H p ys ∧ ∀ l, H l = none → Q (.ref l) (upd H l (.tup ys))) ∨ (SqT K H p ys ∧ Q (.ref p) H))) := by
  subst e
  exact call_tuple_of
theorem isInt (e : X.K = K)  : CallR X (.builtin "isinstance") (rIs K "int" isIntD) := by
  subst e
  exact is_int
theorem isBool (e : X.K = K)  : CallR X (.builtin "isinstance") (rIs K "bool" isBoolD) := by
  subst e
  exact is_bool
theorem isStr (e : X.K = K)  : CallR X (.builtin "isinstance") (rIs K "str" isStrD) := by
  subst e
  exact is_str
theorem isList (e : X.K = K)  : CallR X (.builtin "isinstance") (rIs K "list" isListD) := by
  subst e
  exact is_list
theorem isTuple (e : X.K = K)  : CallR X (.builtin "isinstance") (rIs K "tuple" isTupleD) := by
  subst e
  exact is_tuple
theorem crAll (e : X.K = K) (hc : X.calm = true) : CallR X (.builtin "all") (rAll K) := by
  subst e
  exact cr_all hc
theorem crAny (e : X.K = K) (hc : X.calm = true) : CallR X (.builtin "any") (rAny K) := by
  subst e
  exact cr_any hc
theorem crSum (e : X.K = K) (hc : X.calm = true) : CallR X (.builtin "sum") (rSum K) := by
  subst e
  exact cr_sum hc
theorem crMax (e : X.K = K) (hc : X.calm = true) : CallR X (.builtin "max") (rMax K) := by
  subst e
  exact cr_max hc
theorem crMin (e : X.K = K) (hc : X.calm = true) : CallR X (.builtin "min") (rMin K) := by
  subst e
  exact cr_min hc
theorem crMaxT (e : X.K = K) (hc : X.calm = true) (hu : X.A.units + 1 < cLine) : CallR X (.builtin "max") (rMaxT K) := by
  subst e
  exact cr_maxT hc hu
theorem pgT {es : List Expr} {k n : Nat} {t : TGs} {pos : Pos} (e : X.K = K) (hc : X.calm = true) (h : PGs X es t) (hn : (assignEach es X.env).length = n := by rfl) (hst : (assignEach es X.env).findIdx? (·.1) = none := by rfl) : PG X (.Tuple es k pos) (gTup K n t) := by
  subst e
  exact pg_tup hc h hn hst
theorem piL {tg a : Expr} {ta : TE} (e : X.K = K) (ha : PE X a ta) : PI X tg a (iList K ta) := by
  subst e
  exact pi_list ha
theorem piT {tg a : Expr} {ta : TE} (e : X.K = K) (ha : PE X a ta) : PI X tg a (iTup K ta) := by
  subst e
  exact pi_tup ha
theorem piE {a : Expr} {ta : TA} {p pos tpos : Pos} {elts : List Expr} {kk : Nat} (e : X.K = K) (hg : Gl X "enumerate") (hm : X.mg "enumerate" = none) (ha : PA X [a] ta) (hs : starEach [a] X.env = [(false, eval a X.env)] := by rfl) :
    PI X (.Tuple elts kk tpos) (.Call (.Name "enumerate" p) [a] [] pos) (iEnum K ta) := by
  subst e
  exact pi_enum hg hm ha hs
theorem bm {o a : Expr} {es : List Expr} {to : TE} {t : TA} {name : Str} {apos cpos : Pos} {T id : String} {r : V → List V → Hp → VK → Prop} (e : X.K = K) (pa : PlainAttrs T) (slot : Slot T name id) (hty : typeOf (.builtin id) = pure (.type "method_descriptor")) (hm : MtR X id r) (ho : PE X o to) (ha : PA X (a :: es) t)
    (hbase : attributeBase o name X.env (eval o X.env) = eval o X.env := by rfl)
    (hfew : ((backTo cpos (starEach (a :: es) X.env)).all (fun x => !x.1) && (backToKw cpos (keywordEach [] X.env)).all (fun x => x.1.isSome)
      && decide ((a :: es).length + ([] : List Keyword).length + (if ([] : List Keyword).isEmpty then 0 else 1) < 30)) = true := by rfl)
    (hline : (apos.endLine == cpos.line) = true := by rfl) (h1 : starEach (a :: es) X.env = (false, eval a X.env) :: starEach es X.env := by rfl) (h2 : (backTo cpos (starEach es X.env)).any (·.1) = false := by rfl) : PE X (.Call (.Attribute o name apos) (a :: es) [] cpos) (tBM K T r to t) := by
  subst e
  exact pe_bm pa slot hty hm ho ha hbase hfew hline h1 h2
theorem bm0 {o : Expr} {to : TE} {name : Str} {apos cpos : Pos} {T id : String} {r : V → List V → Hp → VK → Prop} (e : X.K = K) (pa : PlainAttrs T) (slot : Slot T name id) (hty : typeOf (.builtin id) = pure (.type "method_descriptor")) (hm : MtR X id r) (ho : PE X o to)
    (hbase : attributeBase o name X.env (eval o X.env) = eval o X.env := by rfl) (hline : (apos.endLine == cpos.line) = true := by rfl) : PE X (.Call (.Attribute o name apos) [] [] cpos) (tBM0 K T r to) := by
  subst e
  exact pe_bm0 pa slot hty hm ho hbase hline
end
theorem walk_nats {n : Nat} : Walk (Itr 0 n) n (fun _ => True) (YFn nI) := walk_range.mono (fun _ h => h) fun i H x H' _ _ y => ⟨y.1, y.2.trans (congrArg V.int (Int.zero_add _))⟩
end Fr
namespace Fr
open PySem PySem.Spec PyProof.Rows L2
/-- a comprehension whose items are some data of a kind, without lists -/
theorem lc_ex {K : PySem.W.Frag} {J : It} {n : Nat} {G : Hp → Prop} {Y : Nat → Hp → V → Hp → Prop} (w : Walk J n G Y) {g : TG} {tt : TT} {te : TE} {vs : List Nat} {σ : L2.St} {H1 : Hp} {D : Addr} {Qd : Hp → Prop}
    (hD : H1 D = none) (hn : n ≤ 100000) (hG : ∀ H', Same H1 H' → G H') (S : PyData → Prop) (hS : ∀ d, S d → noL d = true)
    (hs : ∀ i x H' H'' (A : V → Hp → Prop) (B : Hp → Prop), i < n → Same H1 H' → Y i H' x H'' → (∀ y d H4, S d → Same H' H4 → Dp K H4 y d → A y H4) → (∀ H3, Same H' H3 → B H3) →
      g x (wipe σ vs) H'' fun σ2 H2 => wipe σ2 vs = wipe σ vs ∧ tt σ2 H2 fun b H3 => if b = true then te σ2 H3 A else B H3)
    (hd : ∀ H' ys ds, Same H1 H' → H' D = some (.lst ys) → DpAll K H' ys ds → (∀ d ∈ ds, S d) → ds.length ≤ n → Qd H') :
    ∃ W : Nat → Nat → Hp → Prop, (∃ m, W 0 m (upd H1 D (.lst []))) ∧ ∀ i m H, W i m H →
      (J.stop i H ∧ Qd H) ∨ (J.go i H ∧ ∃ Nx : Hp → Prop, (∀ H', Nx H' → ∃ m', m' < m ∧ W (i + 1) m' H') ∧ ∀ x H', J.yld i H x H' → g x (wipe σ vs) H' fun σ2 H2 => wipe σ2 vs = wipe σ vs ∧ tt σ2 H2 fun b H3 =>
        if b = true then te σ2 H3 fun y H4 => ∃ acc, H4 D = some (.lst acc) ∧ acc.length < sizeLine ∧ Nx (upd H4 D (.lst (acc ++ [y]))) else Nx H3) := by
  refine lc_it w (fun i H' => Same H1 H' ∧ i ≤ n ∧ ∃ ys ds, H' D = some (.lst ys) ∧ DpAll K H' ys ds ∧ (∀ d ∈ ds, S d) ∧ ds.length ≤ i) ⟨same_new hD, Nat.zero_le _, [], [], upd_same, .nil, fun d h => (nomatch h), Nat.le_refl _⟩ (fun i H' _ p => hG H' p.1) (fun i x H' H'' hi p hY => ?_) (fun H' p => ?_)
  · obtain ⟨sm, hin, ys, ds, hy, hA, hAS, hl⟩ := p
    refine hs i x H' H'' _ _ hi sm hY (fun y d H4 hSd s4 hdp => ?_) (fun H3 s3 => ?_)
    · refine ⟨ys, s4 _ _ hy, ?_, ?_, by omega, ys ++ [y], ds ++ [d], upd_same, ?_, ?_, ?_⟩
      · have h2 := dps_len hA
        exact Nat.lt_of_lt_of_le (show ys.length < 100000 by omega) (by decide)
      · exact same_put (sm.trans s4) hD
      · exact dps_app (dps_upd (s4 _ _ hy) (noLs_of fun e he => hS e (hAS e he)) (same_dps s4 hA)) (.cons (dp_upd (s4 _ _ hy) (hS d hSd) hdp) .nil)
      · intro e he
        rcases List.mem_append.mp he with z | z
        · exact hAS e z
        · have : e = d := by simpa using z
          rw [this]
          exact hSd
      · rw [List.length_append]
        show ds.length + 1 ≤ i + 1
        omega
    · exact ⟨sm.trans s3, by omega, ys, ds, s3 _ _ hy, same_dps s3 hA, hAS, by omega⟩
  · obtain ⟨sm, hin, ys, ds, hy, hA, hAS, hl⟩ := p
    exact hd H' ys ds sm hy hA hAS hl
end Fr
namespace Fr
open PySem PySem.Spec PyProof.Rows L2
section
variable {X : Cx}
def rN2 (g : Nat → Nat → Nat) : List V → Hp → VK → Prop := fun xs H Q => ∃ a b : Nat, xs = [nI a, nI b] ∧ Q (nI (g a b)) H
theorem max2N (hc : X.calm = true) : CallR X (.builtin "max") (rN2 max) := by
  intro pins s σ H xs us Q I r h
  obtain ⟨a, b, rfl, q⟩ := h
  refine call_max2 hc pins s σ H _ us Q I r ⟨a, b, rfl, ?_⟩
  have e : (if (b : Int) > (a : Int) then (b : Int) else (a : Int)) = ((max a b : Nat) : Int) := by
    split <;> omega
  rw [e]
  exact q
theorem min2N (hc : X.calm = true) : CallR X (.builtin "min") (rN2 min) := by
  intro pins s σ H xs us Q I r h
  obtain ⟨a, b, rfl, q⟩ := h
  refine call_min2 hc pins s σ H _ us Q I r ⟨a, b, rfl, ?_⟩
  have e : (if (b : Int) < (a : Int) then (b : Int) else (a : Int)) = ((min a b : Nat) : Int) := by
    split <;> omega
  rw [e]
  exact q
/-- what a def that may raise lets out is nothing here -/
theorem passN : Passes (L2N.CX X.prog X.w) X L2.E0 := fun _ _ _ _ _ _ _ h => by
  obtain ⟨_, _, _, _, _, _, _, _, _, _, _, _, z⟩ := h
  exact z.elim
end
end Fr
namespace Fr
open PySem PySem.Spec PyProof.Rows L2
/-! ### numbers, fractions, programs as data -/
def isNumD : PyData → Bool
  | .int i => decide (1 ≤ i) && isNum i.toNat
  | _ => false
def natO : PyData → Nat
  | .int i => i.toNat
  | _ => 0
def isFracD : PyData → Bool
  | .tuple [a, b] => (isNumD a && isNumD b) && (decide (max (natO a) (natO b) ≤ 1000000) && decide (Nat.gcd (natO a) (natO b) = 1))
  | _ => false
def isProgD : PyData → Bool
  | .list ds => decide (ds.length ≤ 16) && ds.all isFracD
  | _ => false
def fracD (p : Nat × Nat) : PyData := .tuple [nD p.1, nD p.2]
def progD (l : Prog) : PyData := .list (l.map fracD)
theorem isNumD_nat (n : Nat) : isNumD (nD n) = isNum n := by
  show (decide (1 ≤ (n : Int)) && isNum (n : Int).toNat) = isNum n
  rw [Int.toNat_natCast]
  by_cases h : 1 ≤ n
  · rw [decide_eq_true (by omega), Bool.true_and]
  · rw [decide_eq_false (by omega), Bool.false_and]
    cases e : isNum n with
    | false => rfl
    | true => exact absurd (isNum_pos e) (by omega)
theorem isNumD_is {d : PyData} (h : isNumD d = true) : ∃ n : Nat, d = nD n ∧ isNum n = true := by
  cases d with
  | int i =>
    obtain ⟨h1, h2⟩ := Bool.and_eq_true_iff.mp (show (decide (1 ≤ i) && isNum i.toNat) = true from h)
    have h1 := of_decide_eq_true h1
    exact ⟨i.toNat, by rw [show nD i.toNat = PyData.int (i.toNat : Int) from rfl, Int.toNat_of_nonneg (by omega)], h2⟩
  | _ => cases h
theorem isFracD_frac (p : Nat × Nat) : isFracD (fracD p) = isFrac p := by
  show ((isNumD (nD p.1) && isNumD (nD p.2)) && (decide (max (p.1 : Int).toNat (p.2 : Int).toNat ≤ 1000000) && decide (Nat.gcd (p.1 : Int).toNat (p.2 : Int).toNat = 1))) = isFrac p
  rw [isNumD_nat, isNumD_nat, Int.toNat_natCast, Int.toNat_natCast]
  rfl
theorem isFracD_is {d : PyData} (h : isFracD d = true) : ∃ p : Nat × Nat, d = fracD p ∧ isFrac p = true := by
  cases d with
  | tuple ds =>
    match ds, h with
    | [a, b], h =>
      obtain ⟨h1, h2⟩ := Bool.and_eq_true_iff.mp (show ((isNumD a && isNumD b) && (decide (max (natO a) (natO b) ≤ 1000000) && decide (Nat.gcd (natO a) (natO b) = 1))) = true from h)
      obtain ⟨ha, hb⟩ := Bool.and_eq_true_iff.mp h1
      obtain ⟨n, rfl, _⟩ := isNumD_is ha
      obtain ⟨m, rfl, _⟩ := isNumD_is hb
      exact ⟨(n, m), rfl, by rw [← isFracD_frac]; exact h⟩
  | _ => cases h
theorem all_frac : ∀ (l : Prog), (l.map fracD).all isFracD = l.all isFrac
  | [] => rfl
  | p :: l => by
    show (isFracD (fracD p) && (l.map fracD).all isFracD) = (isFrac p && l.all isFrac)
    rw [isFracD_frac, all_frac l]
theorem isProgD_prog (l : Prog) : isProgD (progD l) = isProg l := by
  show (decide ((l.map fracD).length ≤ 16) && (l.map fracD).all isFracD) = isProg l
  rw [all_frac, List.length_map]
  rfl
theorem isProgD_is {d : PyData} (h : isProgD d = true) : ∃ l : Prog, d = progD l ∧ isProg l = true := by
  cases d with
  | list ds =>
    obtain ⟨h1, h2⟩ := Bool.and_eq_true_iff.mp (show (decide (ds.length ≤ 16) && ds.all isFracD) = true from h)
    have key : ∀ es : List PyData, es.all isFracD = true → ∃ l : Prog, es = l.map fracD := by
      intro es
      induction es with
      | nil => intro _; exact ⟨[], rfl⟩
      | cons e es ih =>
        intro h
        obtain ⟨a, b⟩ := Bool.and_eq_true_iff.mp (show (isFracD e && es.all isFracD) = true from h)
        obtain ⟨p, rfl, _⟩ := isFracD_is a
        obtain ⟨l, rfl⟩ := ih b
        exact ⟨p :: l, rfl⟩
    obtain ⟨l, rfl⟩ := key ds h2
    exact ⟨l, rfl, by rw [← isProgD_prog]; exact h⟩
  | _ => cases h
theorem noL_frac (p : Nat × Nat) : noL (fracD p) = true := by
  simp [fracD, noL, noLs]
/-- a fraction at its place -/
theorem frac_at {K : PySem.W.Frag} {H : Hp} {v : V} {p : Nat × Nat} (h : Dp K H v (fracD p)) : ∃ b, v = .ref b ∧ SqT K H b [nI p.1, nI p.2] := by
  cases h with
  | tup hs ha =>
    cases ha with
    | cons h1 h2 =>
      cases h2 with
      | cons h2 h3 =>
        cases h3
        cases h1
        cases h2
        exact ⟨_, rfl, hs⟩
theorem prog_at {K : PySem.W.Frag} {H : Hp} {v : V} {l : Prog} (h : Dp K H v (progD l)) : ∃ (a : Addr) (xs : List V), v = .ref a ∧ SqL K H a xs ∧ DpAll K H xs (l.map fracD) ∧ xs.length = l.length := by
  cases h with
  | lst hs ha => exact ⟨_, _, rfl, hs, ha, by rw [dps_len ha, List.length_map]⟩
theorem prog_item {K : PySem.W.Frag} {H : Hp} {l : Prog} {xs : List V} {i : Nat} {x : V} (h : DpAll K H xs (l.map fracD)) (hx : xs[i]? = some x) : ∃ (hi : i < l.length) (b : Addr), x = .ref b ∧ SqT K H b [nI (l[i]).1, nI (l[i]).2] ∧ Dp K H x (fracD l[i]) := by
  obtain ⟨d, hd, hp⟩ := dps_at2 h hx
  rw [List.getElem?_map] at hd
  obtain ⟨p, hp2, rfl⟩ := Option.map_eq_some_iff.mp hd
  obtain ⟨hi, e⟩ := List.getElem?_eq_some_iff.mp hp2
  obtain ⟨b, e2, hs⟩ := frac_at hp
  rw [← e] at hs hp
  exact ⟨hi, b, e2, hs, hp⟩
theorem prog_get {K : PySem.W.Frag} {H : Hp} {l : Prog} {xs : List V} {i : Nat} (h : DpAll K H xs (l.map fracD)) (hi : i < l.length) : ∃ b, xs[i]? = some (.ref b) ∧ SqT K H b [nI (l[i]).1, nI (l[i]).2] := by
  have hl : xs.length = l.length := by rw [dps_len h, List.length_map]
  have hx : xs[i]? = some (xs[i]'(by omega)) := List.getElem?_eq_getElem (by omega)
  obtain ⟨_, b, e, hs, _⟩ := prog_item h hx
  exact ⟨b, by rw [hx, e], hs⟩
theorem atI0 {x : V} {xs : List V} : atI (x :: xs) 0 = some x := atI_nat (j := 0) rfl
theorem atI1 {x y : V} {xs : List V} : atI (x :: y :: xs) 1 = some y := atI_nat (j := 1) rfl
theorem atIn {xs : List V} {i : Nat} {x : V} (h : xs[i]? = some x) : atI xs (i : Int) = some x := atI_nat h
def optV : Option Nat → V
  | none => .non
  | some a => nI a
def optD : Option Nat → PyData
  | none => .none
  | some a => nD a
theorem dp_opt {K : PySem.W.Frag} {H : Hp} (o : Option Nat) : Dp K H (optV o) (optD o) := by
  cases o with
  | none => exact .non
  | some a => exact .int _
/-- a def that refuses by C what is none -/
def spNeed (K : PySem.W.Frag) (C : Addr) (f : PyData → Bool) : Sp := fun vs H Q E => ∃ (v : V) (d : PyData), vs = [v] ∧ Dp K H v d ∧ (f d = true → ∀ H', Same H H' → Q .non H') ∧ (f d = false → ∀ H', Same H H' → E (.ref C) none H')
end Fr
/-! ### lists walked while an exception is handled -/
namespace Hl
open PySem PySem.Spec PyProof.Rows L2 HotX L2H
section
variable {prog : Program} {w : World} {A : Around} {E : Value → Shared → Prop} {s : Shared}
theorem list_end {it l x1 : Addr} {i : Nat} {items : Array Value} {Q : Option Value → Shared → Prop} (hot : HotAt A x1 s.heap) (hx1 : x1 ≠ it)
    (hit : s.heap.IsListIter it l i) (hl : s.heap.IsList l items) (hx : items[i]? = none)
    (hQ : ∀ h', (∀ b o, b ≠ it → s.heap.get? b = some o → h'.get? b = some o) → Q none { s with heap := h' }) : wpAny (model prog w) A (pyNext (.ref it)) Q E s := by
  obtain ⟨hh, o1, vs1, h1, d1, c1⟩ := hot
  obtain ⟨o, ho, hc, hd⟩ := id hit
  obtain ⟨ol, hol, _, nl, hdl⟩ := hl
  have hu : ∀ f, (s.heap.update it f).get? x1 = some o1 := fun f => (Heap.get?_update_other _ _ (Ne.symm hx1)).trans h1
  unfold pyNext
  refine wpAny_bind (wpAny_attempt (wpAny_callSpecial?_slot (name := Str.ofString "__next__") hit.typeIs slot_listiter_next
    (wpAny_call_entry slot_listiter_next hit.typeIs entry_listiter_next ?_ (args_listiter_next _))))
  show wpAny _ _ (field (.ref it) 0 >>= _) _ _ s
  refine wpAny_bind (wpAny_field ho hd (x := .ref l) rfl ?_)
  show wpAny _ _ (if (Value.ref l == Value.none) = true then _ else _) _ _ s
  rw [if_neg (by intro z; cases z)]
  show wpAny _ _ (field (.ref it) 1 >>= _) _ _ s
  refine wpAny_bind (wpAny_field ho hd (x := .int i 0) rfl ?_)
  show wpAny _ _ (seqItems? (.ref l) >>= _) _ _ s
  refine wpAny_bind (wpAny_seqItems hol hdl ?_)
  simp only [Int.toNat_natCast, hx]
  refine wpAny_bind (wpAny_rule ?_)
  refine wpAny_bind (wpAny_setField ho hd (by simp) ?_)
  refine wpAny_bind ?_
  show wpAny _ _ (newExc (.type "StopIteration") []) _ _ _
  simp only [newExc, newTuple]
  refine wpAny_bind (wpAny_newObj_type ?_ (by size_fits))
  refine wpAny_bind (m := firstArgMember _ _) (wpAny_of_eq (a := Value.none) (by first | rfl | (simp only [firstArgMember]; rfl)) ?_)
  refine wpAny_newObj_type ?_ (by size_fits)
  refine raiseNew_hot ⟨hh, o1, vs1, Heap.get?_push_of_some _ (Heap.get?_push_of_some _ (hu _)), d1, c1⟩ (Nat.ne_of_lt (Heap.lt_size (Heap.get?_push_of_some _ (hu _)))) (Heap.get?_push_size _ rfl) rfl (by first | (simp; done) | (simp; omega)) ?_
  refine wpAny_bind (wpAny_isInstance (T := "StopIteration") (b := true) ⟨_, Heap.get?_update_self _ (Heap.get?_push_size _ rfl) rfl, rfl⟩ isSubtype_stop ?_)
  refine wpAny_pure (hQ _ fun b o hb e => ?_)
  have e2 : (s.heap.update it (Obj.mapFields (·.setIfInBounds 0 Value.none))).get? b = some o := (Heap.get?_update_other _ _ (Ne.symm hb)).trans e
  rw [Heap.get?_update_other _ _ (Nat.ne_of_gt (Heap.lt_size (Heap.get?_push_of_some _ e2)))]
  exact Heap.get?_push_of_some _ (Heap.get?_push_of_some _ e2)
theorem walksH {x1 : Addr} {o1 : Obj} {vs1 : Array Value} (hh : A.handled = some (.ref x1)) (d1 : o1.data = .fields vs1) (c1 : vs1[2]? = some .none) (I ax : Addr) (hne : ax ≠ I) (hx : x1 ≠ I) (items : Array Value) :
    Walks prog w A I [I, ax, x1] [I] items.size (fun i v => items[i]? = some v) (fun i h => h.IsListIter I ax i ∧ h.IsList ax items ∧ h.get? x1 = some o1) where
  sub := fun b hb => by simp at hb; simp [hb]
  frame := fun _ _ _ st hk => ⟨st.1.at fun o e => hk I (by simp) o e, st.2.1.at fun o e => hk ax (by simp) o e, hk x1 (by simp) _ st.2.2⟩
  item := fun i s Q E hi st hQ => by
    refine wpAny_pyNext_list_item st.1 st.2.1 (x := items[i]) (by simp [hi]) fun h' hit' hs' => ?_
    exact hQ _ h' s.toks (by simp [hi]) ⟨hit', st.2.1.extBut hs'.extBut hne, hs'.extBut x1 _ hx st.2.2⟩ fun b o hb e => hs'.extBut b o (fun h => hb (by simp [h])) e
  done := fun s Q E st hQ => list_end ⟨hh, o1, vs1, st.2.2, d1, c1⟩ hx st.1 st.2.1 (by simp) fun h' he' => hQ h' s.toks fun b o hb e => he' b o (fun h => hb (by simp [h])) e
  self := fun _ _ _ _ st hQ => wpAny_pyIter_listiter st.1 hQ

/-! ### sum([int(flag) for flag in flags]) -/
def ones (bs : List Bool) : List Int := bs.map fun b => if b then 1 else 0
theorem preSum_take (l : List Int) : ∀ n, n ≤ l.length → preSum (fun i => l.getD i 0) n = (l.take n).sum
  | 0, _ => by simp [preSum]
  | n + 1, h => by
    rw [preSum, preSum_take l n (by omega), List.take_succ, List.sum_append, List.getD_eq_getElem?_getD]
    congr 1
    rw [List.getElem?_eq_getElem (by omega)]
    simp
theorem vals_bl : ∀ {bs : List Bool} {us : List Value}, Vals (bs.map V.bl) us → us = bs.map Value.bool
  | [], _, .nil => rfl
  | b :: bs, _, .cons h t => by
    have e : _ = Value.bool b := h
    rw [e, vals_bl t]
    rfl
theorem paired_ones : ∀ {bs : List Bool} {ys : List Value}, Paired (fun v y => ∃ (b : Bool) (t : Tok), v = Value.bool b ∧ y = .int (if b then 1 else 0) t) (bs.map Value.bool) ys → ∀ (j : Nat) (y : Value), ys[j]? = some y → ∃ t, y = .int ((ones bs).getD j 0) t
  | [], _, .nil, j, y, h => by simp at h
  | b :: bs, _, .cons h t, j, y, e => by
    cases j with
    | zero =>
      obtain ⟨b', t', e1, e2⟩ := h
      cases e1
      rw [List.getElem?_cons_zero] at e
      cases e
      exact ⟨t', e2⟩
    | succ j =>
      rw [List.getElem?_cons_succ] at e
      exact paired_ones t j y e
theorem len_paired {F : Value → Value → Prop} : ∀ {a b : List Value}, Paired F a b → a.length = b.length
  | _, _, .nil => rfl
  | _, _, .cons _ t => congrArg (· + 1) (len_paired t)
end
def tSumB (i : Nat) (K : PySem.W.Frag) : TE := fun σ H Q => ∃ (a : Addr) (bs : List Bool), σ[i]? = some (some (.ref a)) ∧ SqL K H a (bs.map V.bl) ∧ Q (.int (ones bs).sum) H
theorem pe_sumB {X : Cx} {i : Nat} {x y : Str} {scope : Scope} {p1 p2 p3 px py pos pf pc : Pos} (hc : HotC X) (hgs : Gl X "sum") (hms : X.mg "sum" = none) (hmi : X.mg "int" = none)
    (hN : X.N[i]? = some y) (hv : Vis X.env.scope y) (hd : (y == ("__debug__" : Str)) = false) (hcd : (y == ("__classdict__" : Str)) = false) (hdx : (x == ("__debug__" : Str)) = false)
    (hfree : ∀ y ∈ scope.names, y.2 ≠ .free) (hcell : ∀ y ∈ scope.names, y.2 ≠ .cell) (hkind : scope.kind = .function)
    (hnames : ∀ y ∈ scope.names, y.2 = .local → scope.names.lookup y.1 = some .local) (hx : scope.names.lookup x = some .local) (hi : scope.names.lookup ("int" : Str) = some .globalImplicit) :
    PE X (.Call (.Name "sum" pf) [.ListComp (.Call (.Name "int" p1) [.Name x p2] [] p3) [⟨.Name x px, .Name y py, [], 0⟩] scope pos] [] pc) (tSumB i X.K) := by
  refine ⟨fun pins s σ H Q I h => ?_⟩
  obtain ⟨a, bs, e1, hl, q⟩ := h
  obtain ⟨p, ⟨hh, v1, d1, c1⟩, hp⟩ := hc
  have hx1 := (I.pin p (List.mem_append_left _ hp)).1
  obtain ⟨its, rv, hpl, hz⟩ := I.list hl
  have eits := vals_bl rv
  refine wpAny_Call_Name_kw (ld_blt I hgs hms (by rfl) ?_)
  refine PyProof.Rows.callWith_builtin1 ?_ (by rfl) (by rfl)
  refine Calls.spliced_cons ?_
  refine wpAny_ListComp_walk (fun _ => true) (fun v y => ∃ (b : Bool) (t : Tok), v = Value.bool b ∧ y = .int (if b then 1 else 0) t) hfree hcell hkind hnames hx ?_
  refine thn ((pe_var (X := X) (pos := py) hN hv hd hcd).run pins s σ H (fun v H' => v = .ref a ∧ H' = H) I ⟨.ref a, e1, rfl, rfl⟩) fun u s1 ⟨v, H1, I1, r1, ev, eH⟩ => ?_
  subst ev
  obtain rfl : u = Value.ref a := r1
  subst eH
  obtain ⟨its', rv', hpl', _⟩ := I1.list hl
  have eits' := vals_bl rv'
  have hx1' := (I1.pin p (List.mem_append_left _ hp)).1
  have hli := hpl'.isList
  refine wpAny_pyIter_list hli ?_
  have aL : a ≠ s1.heap.objs.size := by
    obtain ⟨o, ho, _⟩ := hli
    exact Nat.ne_of_lt (Heap.lt_size ho)
  have xL : p.1 ≠ s1.heap.objs.size := Nat.ne_of_lt (Heap.lt_size hx1')
  have ps : ∀ {o : Obj} (b : Addr) (u : Obj), s1.heap.get? b = some u → (s1.heap.push o).get? b = some u := fun b u e => Heap.get?_push_of_some _ e
  refine ⟨_, _, _, _, _, _, rfl, walksH hh d1 c1 s1.heap.objs.size a aL xL its'.toArray, ?_, ⟨⟨_, Heap.get?_push_size _ rfl, rfl, rfl⟩, hli.at fun o e => ps _ o e, ps _ _ hx1'⟩, ?_, ?_, ?_⟩
  · rw [eits']
    rw [List.length_map] at hz
    simpa using hz
  · intro b hb
    have e : (s1.heap.push { cls := .type "list_iterator", data := .fields #[.ref a, .int 0 0] }).objs.size = s1.heap.objs.size + 1 := Heap.size_push ..
    show b < (s1.heap.push { cls := .type "list_iterator", data := .fields #[.ref a, .int 0 0] }).objs.size
    rw [e]
    have hlt1 := Heap.lt_size hx1'
    have hlt2 : a < s1.heap.objs.size := by
      obtain ⟨o, ho, _⟩ := hli
      exact Heap.lt_size ho
    have hb' : b = s1.heap.objs.size ∨ b = a ∨ b = p.1 := by simpa using hb
    rcases hb' with rfl | rfl | rfl
    · exact Nat.lt_succ_self _
    · exact Nat.lt_succ_of_lt hlt2
    · exact Nat.lt_succ_of_lt hlt1
  · refine ⟨fun C j v s3 m3 E' hP hn hm hk ht => ?_, fun C j v s3 m3 E' hP hpv hn hm hk ht => ?_⟩
    · rw [List.forIn_nil]
      exact wpAny_pure ⟨rfl, s3.heap, s3.toks, rfl, fun _ _ e => e⟩
    · have old : ∀ b o, X.base.get? b = some o → s3.heap.get? b = some o := fun b o e => hk b o (fun z => by
        have z : b = s1.heap.objs.size := by simpa using z
        exact Nat.ne_of_lt (Heap.lt_size (I1.bk b o e)) z) (ps b o (I1.bk b o e))
      have hvb : ∃ b : Bool, v = .bool b := by
        have hm : v ∈ its' := by
          have := Array.mem_of_getElem? hP
          simpa using this
        rw [eits'] at hm
        obtain ⟨b, _, e⟩ := List.mem_map.mp hm
        exact ⟨b, e.symm⟩
      obtain ⟨b, rfl⟩ := hvb
      obtain ⟨mb, h1, h2⟩ := I1.mod.blt
      refine wpAny_Call_Name_kw (Calls.Name_function_global hkind hi (Calls.loadGlobal_builtin (mg := X.mg) (mb := mb) ?_ hmi ?_ ((h2 "int" (by decide)).trans (by rfl)) ?_))
      · show s3.heap.Ns X.env.globals X.mg
        rw [I1.ok.glob]
        exact I1.mod.glob.keeps old
      · show s3.heap.Ns X.env.builtins mb
        rw [I1.ok.blt]
        exact h1.keeps old
      · refine PyProof.Rows.callWith_type1 ?_ (by rfl) (by rfl)
        refine Calls.spliced_cons (wpAny_Name (wpAny_loadName_local hkind hx hn hm ?_) hdx)
        refine Calls.spliced_nil ?_
        refine call_int_bool ⟨⟨b, _, rfl, rfl⟩, s3.heap, s3.toks + 1, rfl, fun _ _ e => e⟩
  · intro D h' tk ys vs hD hlD hpD hlen hP hF hk
    have evs : vs.filter (fun _ => true) = bs.map Value.bool := by
      rw [List.filter_eq_self.mpr (fun _ _ => rfl), ← eits']
      apply List.ext_getElem?
      intro j
      by_cases hj : j < vs.length
      · have e := hP j vs[j] (List.getElem?_eq_getElem hj)
        rw [List.getElem?_eq_getElem hj, ← e]
        simp
      · rw [List.getElem?_eq_none (by omega), List.getElem?_eq_none]
        have : its'.toArray.size = its'.length := by simp
        omega
    rw [evs] at hF
    have kp : ∀ b o, s1.heap.get? b = some o → h'.get? b = some o := fun b o e => hk b o (fun z => by
        have z : b = s1.heap.objs.size := by simpa using z
        exact Nat.ne_of_lt (Heap.lt_size e) z) (ps b o e)
    refine Calls.spliced_nil ?_
    have hx2 := kp _ _ hx1'
    refine call_sum_walkG (wpAny_pyIter_list hlD ?_)
    have DL : D ≠ h'.objs.size := by
      obtain ⟨o, ho, _⟩ := hlD
      exact Nat.ne_of_lt (Heap.lt_size ho)
    have ps2 : ∀ {o : Obj} (b : Addr) (u : Obj), h'.get? b = some u → (h'.push o).get? b = some u := fun b u e => Heap.get?_push_of_some _ e
    refine ⟨_, _, _, _, _, _, fun i => (ones bs).getD i 0, rfl, walksH (A := X.A.in1) hh d1 c1 h'.objs.size D DL (Nat.ne_of_lt (Heap.lt_size hx2)) ys, ⟨⟨_, Heap.get?_push_size _ rfl, rfl, rfl⟩, hlD.at fun o e => ps2 _ o e, ps2 _ _ hx2⟩, ?_, ?_, ?_⟩
    · intro b hb
      have e : (h'.push { cls := .type "list_iterator", data := .fields #[.ref D, .int 0 0] }).objs.size = h'.objs.size + 1 := Heap.size_push ..
      show b < (h'.push { cls := .type "list_iterator", data := .fields #[.ref D, .int 0 0] }).objs.size
      rw [e]
      have hlt1 := Heap.lt_size hx2
      have hlt2 : D < h'.objs.size := by
        obtain ⟨o, ho, _⟩ := hlD
        exact Heap.lt_size ho
      have hb' : b = h'.objs.size ∨ b = D ∨ b = p.1 := by simpa using hb
      rcases hb' with rfl | rfl | rfl
      · exact Nat.lt_succ_self _
      · exact Nat.lt_succ_of_lt hlt2
      · exact Nat.lt_succ_of_lt hlt1
    · intro j y e
      exact paired_ones hF j y (by simpa using e)
    · intro h2 tk2 t2 hk2
      have eL : ys.size = (ones bs).length := by
        have := len_paired hF
        simp only [List.length_map, Array.length_toList] at this
        unfold ones
        rw [List.length_map]
        exact this.symm
      rw [eL, preSum_take _ _ (Nat.le_refl _), List.take_length]
      refine ⟨.int _, H1, I1.kept fun b o e => hk2 b o (fun z => ?_) (ps2 b o (kp b o e)), ⟨_, rfl⟩, q⟩
      have z : b = h'.objs.size := by simpa using z
      exact Nat.ne_of_lt (Heap.lt_size (kp b o e)) z
end Hl
namespace Hl
open PySem PySem.Spec PyProof.Rows L2 HotX L2H LamX
/-! ### a def called while an exception is handled, told of that very exception -/
theorem run_hot {CX : CXT} {P : Program} {w : World} {K : PySem.W.Frag} {mg : Str → Option Value} {base : Heap} {k : Nat} {x : Str} {params : Arguments} {body : List Stmt} {scope : Scope} {f : Addr} {fd : FuncData} {N ps : List Str}
    (D : FunD K x x params body scope [] [] f fd) (S : FnScope N ps scope) {A : Around} {outer : List Env} {s : Shared} {H : Hp} {args : Args} {us : List Value} {vs : List V} {Q : VK} {E : XK} {p : Addr × Obj}
    (hr : RoomH (k + 1) A) (hpin : PinOk outer H s p) (e0 : Env0 P w K mg base A outer s H) (hb : BindsTo s fd args (ps.zip us)) (r : Vals vs us) (hl : vs.length = ps.length)
    (hbody : ∀ cdv, RoomH k (A.deeper (envOfC x scope s.heap.objs.size f cdv)) → ∃ t, PSs (cxH CX P w K mg base N x scope f cdv A outer s H E p) body t ∧ t { nx := fun _ H' => Q .non H', rt := Q } (L2.start N vs) H) :
    codeAny (model P w) A (.call (.ref f) args) (CR CX outer P w H s Q E) s := by
  obtain ⟨oc, od, dV, kV, doc, pm, an, cdv, ct, osl, rfl, lk, hcd, _, _⟩ := D.ex
  have old : ∀ b o, base.get? b = some o → s.heap.get? b = some o := fun b o e => (e0.bs b o e).1
  refine codeAny_call_function hr.depth (e0.mod.kin.keeps old _ _ lk) rfl S.co S.gen rfl (PySem.W.codeRec_of (e0.mod.kin.keeps old) hcd) (hb _ _ _ _ (wpAny_newFunctionEnv_cells S.kind (fun y hy => ?_) fun env he s1 y1 => ?_))
  · rcases S.par y.1 (List.of_mem_zip (a := y.1) (b := y.2) hy).1 with q | q
    · exact Or.inl q
    · exact Or.inr ⟨q, PySem.W.cellsFrom_some _ _ _ (Or.inl q)⟩
  · subst he
    obtain ⟨t, ht, hq⟩ := hbody cdv (hr.deeper _)
    have I : Inv (cxH CX P w K mg base N x scope f cdv A outer s H E p) [] (L2.start N vs) H s1 := inv_startH S hpin e0 hl r y1
    refine ⟨(e0.mod.nolimit.keeps old).keeps y1.toInCall.keep, codeAny_func (wpAny_mono (ht.run [] s1 _ H _ I hq) (fun fl s' hs => ?_) fun _ _ z => z)⟩
    match fl, hs with
    | .ret u, ⟨v, σ', H', J, rv, z⟩ => exact ⟨v, H', J.os, J.bare, J.base, J.hok, rv, z⟩
    | .next, ⟨σ', H', J, z⟩ => exact ⟨.non, H', J.os, J.bare, J.base, J.hok, rfl, z⟩
    | .brk, ⟨_, _, _, z⟩ => exact z.elim
    | .cont, ⟨_, _, _, z⟩ => exact z.elim
/-- isinstance of the exception that is handled -/
theorem call_isH {X : Cx} {D : Addr} {p : Addr × Obj} (C : ExcC X.K D) (hp : p ∈ X.pn) (h1 : p.2.cls = .ref D) (h2 : p.2.dict = none) (hf : ∃ vs, p.2.data = .fields vs) : CallR X (.builtin "isinstance") (rIsE X.K D p.1) := by
  intro pins s σ H xs us Q I r h
  obtain ⟨c, cv, b, rfl, hcv, e, q⟩ := h
  match r with
  | .cons rx (.cons rt .nil) =>
    cases rx
    have ec := hcv _ rt
    subst ec
    have hget := (I.pin p (List.mem_append_left _ hp)).1
    obtain ⟨a, oc, od, oda, osl⟩ := p
    obtain ⟨vs, hv⟩ := hf
    dsimp only at h1 h2 hv hget
    subst h1 h2 hv
    exact PySem.W.kia_one (PySem.W.handS_kitx_exc C.hg C.hk C.hs C.hd C.ha C.hn C.ht C.hm) I.kIn (x := .ref a) (show PySem.W.InstAt s.heap a _ D none from ⟨hget, rfl, rfl, trivial⟩) e (fun z => nomatch z) fun tk => ⟨.bl b, H, I.kept (t' := tk) fun _ _ z => z, rfl, q⟩
/-! ### the lambda's body, told by the contexts without a context -/
def lamN (X : Cx) (A : Around) (outer : List Env) (s : Shared) (H : Hp) (E : XK) (scope : Scope) (f c' : Addr) : Cx :=
  (lamCx X A outer s H E scope f c').wish fun e s' => wpAny (model X.prog X.w) (A.deeper (lamEnv X scope s.heap.objs.size f c')) (leaving (lamEnv X scope s.heap.objs.size f c') e) (fun _ s'' => L2N.CX X.prog X.w outer H s E e s'') (fun e' s'' => L2N.CX X.prog X.w outer H s E e' s'') s'
section
variable {X : Cx} {pins : List (Addr × Obj)} {σ : L2.St} {H HZ : Hp} {s s1 : Shared}
/-- the lambda called in the context Z, entered at s -/
theorem actN {AZ : Around} {SZ : List Env} {f c' : Addr} {pm ctv : Value} {params : Arguments} {body : Expr} {scope : Scope} {k : Nat} {E : XK} {tb : TE} {Q : VK}
    (I : Inv X pins σ H s) (L : LamS X.env.scope scope) (hf : s.heap.get? f = some (PySem.W.kla_obj "<lambda>" (X.env.qual ++ "<lambda>") params body scope (cloFrom X.env.cells scope.names []) pm c' ctv)) (hfn : H f = none) (hfr : f ∉ frs X.stack)
    (hbind : bindArgs (PySem.W.kla_fn "<lambda>" (X.env.qual ++ "<lambda>") params body scope (cloFrom X.env.cells scope.names []) pm (.ref c') ctv) ⟨[], []⟩ = pure [])
    (e0 : Env0 X.prog X.w X.K X.mg X.base AZ SZ s1 HZ) (un : Un (frs X.stack) [] H HZ s.heap s1.heap) (nl : s1.heap.NoLimit) (hr : Room (k + 1) AZ)
    (hc : HZ c' = some (CodeO c' (X.env.qual ++ "<lambda>"))) (hbody : ∀ (A : Around) (outer : List Env) (s : Shared) (H : Hp), Room k (A.deeper (lamEnv X scope s.heap.objs.size f c')) → PE (lamN X A outer s H E scope f c') body tb) (ht : tb σ HZ Q) :
    codeAny (model X.prog X.w) AZ (.call (.ref f) ⟨[], []⟩) (CR (L2N.CX X.prog X.w) SZ X.prog X.w HZ s1 Q E) s1 := by
  have of1 := un.keep f _ hf hfn hfr (fun z => nomatch (show f ∈ ([] : List Addr) from z))
  obtain ⟨⟨oc, vs, t, hoc, hdc, hvc⟩, _, _⟩ := e0.hok c' _ hc
  refine PySem.W.kla_callFunE hr.depth of1 rfl L.co L.gen rfl ⟨c', oc, vs, t, rfl, hoc, hdc, hvc⟩ (hbind ▸ wpAny_pure ?_)
  refine wpAny_newFunctionEnv (fun y hy => (L.own y hy).2) (fun y hy => absurd hy (by simp)) (fun h₁ hns hsb => ⟨nl.fresh _ hsb, ?_⟩) L.kind
  have kp : ∀ b o, s1.heap.get? b = some o → h₁.get? b = some o := fun b o e => hsb.extBut b o (Nat.ne_of_lt (Heap.lt_size e)) (Heap.get?_push_of_some _ e)
  have J := (lam_start2 (A := AZ) (outer := SZ) (E := E) (f := f) (c' := c') (tk := s1.toks + ([] : List (Str × Value)).length) I L e0 hr.hd un hns kp).wish (fun e s' => wpAny (model X.prog X.w) (AZ.deeper (lamEnv X scope s1.heap.objs.size f c')) (leaving (lamEnv X scope s1.heap.objs.size f c') e) (fun _ s'' => L2N.CX X.prog X.w SZ HZ s1 E e s'') (fun e' s'' => L2N.CX X.prog X.w SZ HZ s1 E e' s'') s')
  show codeAny _ _ (.expr body (lamEnv X scope s1.heap.objs.size f c')) _ _
  refine PySem.W.kla_codeExpr (wpAny_mono ((hbody AZ SZ s1 HZ (hr.deeper _)).run [] _ _ HZ Q J ht) (fun v s' hq => ?_) fun _ _ z => z)
  obtain ⟨w', H', J', rv, q⟩ := hq
  exact ⟨w', H', J'.os, J'.bare, J'.base, J'.hok, rv, q⟩
end
theorem takesN {X : Cx} : L2N.Takes X (fun _ _ _ _ => False) := fun _ _ x => by
  obtain ⟨_, _, _, _, _, _, _, _, _, _, _, _, _, _, _, _, z⟩ := x
  exact z.elim
/-- the def that names the exception: nm D is its word -/
def WordP (P : Program) (w : World) (K : PySem.W.Frag) (mg : Str → Option Value) (base : Heap) (k : Nat) (f : Addr) (fd : FuncData) (nm : Addr → Str → Prop) : Prop :=
  ∀ (A : Around) (outer : List Env) (s : Shared) (H : Hp) (args : Args) (p : Addr × Obj) (D : Addr) (n : Str) (Q : VK), RoomH k A → Hot1 A p → PinOk outer H s p → p.2.cls = .ref D → p.2.dict = none → nm D n →
    Env0 P w K mg base A outer s H → BindsTo s fd args [("e", .ref p.1)] → (∀ H', Same H H' → Q (.str n) H') → codeAny (model P w) A (.call (.ref f) args) (CR L2.CX0 outer P w H s Q C8.E0) s
/-! ### told(lambda: body) -/
abbrev XTold (nm : Addr → Str → Prop) (Q : VK) : XK := fun cls d H' => ∃ D n, cls = .ref D ∧ d = none ∧ nm D n ∧ ∀ H'', Same H' H'' → Q (.str n) H''
def tTold (T : List (Addr × Str)) (nm : Addr → Str → Prop) (t : XK → TE) : TE := fun σ H Q => Tabs T H ∧ ∀ H1, ExtN H H1 → Tabs T H1 → t (XTold nm Q) σ H1 Q
theorem pe_told {X : Cx} {T : List (Addr × Str)} {nm : Addr → Str → Prop} {k kw : Nat} {g gw CS c P : Addr} {fdT fdW : FuncData} {aT : Arguments} {bT : List Stmt} {sT : Scope} {params : Arguments} {body : Expr} {scope : Scope} {t : XK → TE} {p lpos pos p1 p2 p3 p4 p5 p6 p7 p8 p9 p10 : Pos}
    (D : FunD X.K "_law_told" "_law_told" aT bT sT [] [] g fdT) (hbT : bT = [.Try [.Return (some (.Call (.Name "deed" p1) [] [] p2)) p3] [.ExceptHandler (some (.Name "RowError" p4)) (some "e") [.Return (some (.Call (.Name "_law_word" p5) [.Name "e" p6] [] p7)) p8] p9] [] [] p10])
    (Sg : FnScope ["deed", "e"] ["deed"] sT) (hlE : sT.names.lookup ("e" : Str) = some .local) (hlD : sT.names.lookup ("deed" : Str) = some .local) (hgT : Gl X "_law_told") (hmT : X.mg "_law_told" = some (.ref g)) (bdT : L2.Binds X.K fdT ["deed"] [])
    (hRE : X.mg "RowError" = some (.ref CS)) (hgRE : sT.names.lookup ("RowError" : Str) = some .globalImplicit) (hmW : X.mg "_law_word" = some (.ref gw)) (hgW : sT.names.lookup ("_law_word" : Str) = some .globalImplicit) (hkW : PySem.W.keepIn X.K (.ref gw) = true)
    (bdW : L2.Binds X.K fdW ["e"] []) (Wd : WordP X.prog X.w X.K X.mg X.base kw gw fdW nm) (hex : ∀ D n, nm D n → PySem.W.exmOne X.K (.ref D) (.ref CS) = some true)
    (TB : TabB X.base X.mg c P) (hcode : X.env.code = .ref c) (hmem : (P, X.env.qual ++ "<lambda>") ∈ T) (hu : ∀ p ∈ T, p.1 = P → p.2 = X.env.qual ++ "<lambda>") (hr : Room (k + 2) X.A) (hkw : kw ≤ k + 1) (L : LamS X.env.scope scope) (hdef : defaultsOf params X.env = ([], []))
    (hbind : ∀ (q : Str) (cl : List (Str × Addr)) (pm cv ctv : Value), bindArgs (PySem.W.kla_fn "<lambda>" q params body scope cl pm cv ctv) ⟨[], []⟩ = pure [])
    (hbody : ∀ (A : Around) (outer : List Env) (s : Shared) (H : Hp) (E : XK) (f c' : Addr), Room k (A.deeper (lamEnv X scope s.heap.objs.size f c')) → PE (lamN X A outer s H E scope f c') body (t E)) :
    PE X (.Call (.Name "_law_told" p) [.Lambda params body scope lpos] [] pos) (tTold T nm t) := by
  refine ⟨fun pins s σ H Q I h => ?_⟩
  obtain ⟨hT, h⟩ := h
  obtain ⟨oc, od, dV, kV, doc, pmT, an, cdT, ct, osl, rfl, lk, hcd, _, _⟩ := D.ex
  refine wpAny_Call_Name_kw (ld_glob I hgT hmT ?_ (by decide))
  refine PySem.W.callWith_K (h₀ := X.base) I.ok.mod.kin D.kp ?_ (by rfl) (by rfl)
  show wpAny _ _ (spliced ((false, eval (.Lambda params body scope lpos) X.env) :: backTo pos (starEach [] X.env))) _ _ s
  refine Calls.spliced_cons (lam_make2 I TB hcode hmem hu hT hdef (L.has I.ok) fun f c' pm' ctv H1 s' I1 eN T1 hf hfn hfr hco => ?_)
  refine Calls.spliced_nil ⟨I1.kIn, ?_⟩
  have hq := h H1 eN T1
  have rc : codeAny (model X.prog X.w) X.A (.call (.ref g) ⟨[.ref f], []⟩) (CR L2.CX0 X.stack X.prog X.w H1 s' Q C8.E0) s' := by
    refine run_ofS (N := ["deed", "e"]) (ps := ["deed"]) (us := [.ref f]) (vs := [.ref f]) lk hcd Sg hr I1.env0 (bdT s' [.ref f] I1.kIn rfl) (.cons rfl .nil) rfl fun hr' => ?_
    rw [hbT]
    generalize hZ : cxOf L2.CX0 X.prog X.w X.K X.mg X.base ["deed", "e"] "_law_told" sT g cdT X.A X.stack s' H1 C8.E0 = Z0
    have hps : PSs Z0.nox [.Try [.Return (some (.Call (.Name "deed" p1) [] [] p2)) p3] [.ExceptHandler (some (.Name "RowError" p4)) (some "e") [.Return (some (.Call (.Name "_law_word" p5) [.Name "e" p6] [] p7)) p8] p9] [] [] p10] _ :=
      pss_one (L2N.ps_try_as (X := Z0.nox) (c := .ref CS) (i := 1)
        (tb := fun W D σZ HZ => ∃ E : XK, (∀ cls d H'', E cls d H'' → W cls d σZ H'') ∧ σZ[0]? = some (some (.ref f)) ∧ HZ c' = some (CodeO c' (X.env.qual ++ "<lambda>")) ∧ t E σ HZ D.rt)
        (ts := fun a cls d D σZ HZ => ∃ DD n, cls = .ref DD ∧ d = none ∧ nm DD n ∧ σZ[1]? = some (some (.ref a)) ∧ ∀ H'', Same HZ H'' → D.rt (.str n) H'')
        (by rw [← hZ]; rfl) (by rw [← hZ]; rfl) (by rw [← hZ]; exact Sg.nd) (by rw [← hZ]; rfl) (by rw [← hZ]; exact hlE) (by rw [← hZ]; exact ⟨hgRE, by decide, .inl hRE⟩) takesN (fun W pn xe tk _ => ?_) (fun a oe cls d pn hz hdat => ?_))
    · refine ⟨_, hps.nox, XTold nm Q, fun cls d H'' e => ?_, by rfl, hco, hq⟩
      obtain ⟨DD, n, rfl, rfl, hn, q⟩ := e
      have hK : Z0.nox.K = X.K := by rw [← hZ]; rfl
      refine ⟨true, by rw [hK]; exact hex DD n hn, fun _ a na => ⟨DD, n, rfl, rfl, hn, by rfl, q⟩, fun z => nomatch z⟩
    · refine ⟨fun pinsZ sZ σZ HZ DZ IZ hh => ?_⟩
      obtain ⟨E, hW, h0, hc, ht⟩ := hh
      have pe : PE (Z0.nox.tr pn xe) (.Call (.Name "deed" p1) [] [] p2) (fun σZ HZ Q => (∀ cls d H'', E cls d H'' → W cls d σZ H'') ∧ σZ[0]? = some (some (.ref f)) ∧ HZ c' = some (CodeO c' (X.env.qual ++ "<lambda>")) ∧ t E σ HZ Q) := by
        subst hZ
        refine ⟨fun pinsZ sZ σZ HZ QZ IZ h => ?_⟩
        obtain ⟨hW, h0, hc, ht⟩ := h
        refine wpAny_Call_Name_kw (thn ((pe_var (pos := p1) (i := 0) rfl (.inl hlD)).run pinsZ sZ σZ HZ (fun v H2 => v = .ref f ∧ H2 = HZ) IZ ⟨.ref f, h0, rfl, rfl⟩) fun u s1 ⟨v, H2, I2, r2, ev, eH⟩ => ?_)
        subst ev
        subst eH
        obtain rfl : u = Value.ref f := r2
        have un : Un (frs X.stack) [] H1 H2 s'.heap s1.heap := I2.base
        have of1 := un.keep f _ hf hfn hfr (fun z => nomatch (show f ∈ ([] : List Addr) from z))
        refine PySem.W.callWith_F0 ⟨_, _, _, _, of1⟩ ?_
        have rc2 : codeAny (model X.prog X.w) (X.A.deeper (envOfC "_law_told" sT s'.heap.objs.size g cdT)) (.call (.ref f) ⟨[], []⟩) (CR (L2N.CX X.prog X.w) (envOfC "_law_told" sT s'.heap.objs.size g cdT :: X.stack) X.prog X.w H2 s1 QZ E) s1 :=
          actN (X := X) (pm := pm') (ctv := ctv) I1 L hf hfn hfr (hbind _ _ _ _ _) I2.env0 un I2.nolimit hr' hc (fun A outer s H hr2 => hbody A outer s H E f c' hr2) ht
        refine wpAny_call (codeAny_mono rc2 fun r s2 hq2 => ?_)
        match r, hq2 with
        | .error e, hq2 => exact tk e s2 (L2N.XE.of_call I2 (fun cls d H' h => hW cls d H' h) hq2)
        | .ok (.ret u), hq2 => exact I2.after hq2
      exact (pss_one (ps_ret (pos := p3) pe)).run pinsZ sZ σZ HZ DZ IZ ⟨hW, h0, hc, ht⟩
    · refine ⟨fun pinsZ sZ σZ HZ DZ IZ hh => ?_⟩
      have pe : PE (Z0.nox.suite a ((a, oe) :: pn)) (.Call (.Name "_law_word" p5) [.Name "e" p6] [] p7) (fun σZ HZ Q => ∃ DD n, cls = .ref DD ∧ d = none ∧ nm DD n ∧ σZ[1]? = some (some (.ref a)) ∧ ∀ H'', Same HZ H'' → Q (.str n) H'') := by
        subst hZ
        refine ⟨fun pinsZ sZ σZ HZ QZ IZ h => ?_⟩
        obtain ⟨DD, n, rfl, rfl, hn, h1, q⟩ := h
        refine wpAny_Call_Name_kw (ld_glob IZ hgW hmW ?_ (by decide))
        refine PySem.W.callWith_K (h₀ := X.base) IZ.ok.mod.kin hkW ?_ (by rfl) (by rfl)
        refine Calls.spliced_cons (thn ((pe_var (pos := p6) (i := 1) rfl (.inl hlE)).run pinsZ sZ σZ HZ (fun v H2 => v = .ref a ∧ H2 = HZ) IZ ⟨.ref a, h1, rfl, rfl⟩) fun u s1 ⟨v, H2, I2, r2, ev, eH⟩ => ?_)
        subst ev
        subst eH
        obtain rfl : u = Value.ref a := r2
        refine Calls.spliced_nil ⟨I2.kIn, ?_⟩
        have P1 := I2.pin (a, oe) (List.mem_append_left _ List.mem_cons_self)
        have b := bdW s1 [.ref a] I2.kIn rfl
        obtain ⟨vs, hv⟩ := hdat
        refine wpAny_call (codeAny_mono (Wd _ _ s1 H2 ⟨[.ref a], []⟩ (a, oe) DD n QZ (RoomH.mono (k := k + 1) ⟨hr'.dp, hr'.un⟩ hkw) ⟨rfl, vs, hv, hz.2.2 vs hv⟩ ⟨P1.1, P1.2.1, fun hm => (List.mem_cons.mp (I2.stkSub a hm)).elim P1.2.2.1 P1.2.2.2.1, P1.2.2.2.2⟩ hz.1 hz.2.1 hn I2.env0 b q) fun r s2 hq2 => ?_)
        match r, hq2 with
        | .error e, hq2 => exact (show False from hq2).elim
        | .ok (.ret u), hq2 => exact I2.after hq2
      exact (pss_one (ps_ret (pos := p8) pe)).run pinsZ sZ σZ HZ DZ IZ hh
  refine wpAny_call (codeAny_mono rc fun r s2 hq2 => ?_)
  match r, hq2 with
  | .error e, hq2 => exact (show False from hq2).elim
  | .ok (.ret u), hq2 => exact I1.after hq2
end Hl
namespace Fr
open PySem PySem.Spec PyProof.Rows L2 LamX
/-! ### the classes of the refusals -/
def excOne (K : PySem.W.Frag) (names : List Str) (n : Str) : Bool :=
  ((PySem.W.findIn K (.ref (ga K n)) "__getattribute__" == some (some (.builtin "BaseException.__getattribute__"))) && ((PySem.W.findIn K (.ref (ga K n)) "__getattr__" == some none) && ((PySem.W.subIn K (.ref (ga K n)) (.type "BaseException") == some true) && (PySem.W.hasDictIn K (ga K n)
    && ((PySem.W.findIn K (.ref (ga K n)) "__class__" == some (some (.builtin "object.__class__"))) && ((PySem.W.specialIn K (.builtin "object.__class__") "__get__" == some (some (.builtin "getset_descriptor.__get__"))) && ((PySem.W.takesIn K (.builtin "object.__class__") == some true) && ((PySem.W.mroIn K (ga K n) (.type "object") == some true)
    && ((names.all fun m => PySem.W.kitOne K (.ref (ga K n)) (.ref (ga K m)) == some (n == m)) && ((PySem.W.kitOne K (.ref (ga K n)) (.type "ValueError") == some true) && (PySem.W.exmOne K (.ref (ga K n)) (.ref (ga K "RowError")) == some true)))))))))))
def excB (K : PySem.W.Frag) (names : List Str) : Bool := names.all (excOne K names)
theorem exc_of {K : PySem.W.Frag} {names : List Str} {n : Str} (h : excB K names = true) (hn : n ∈ names) :
    ExcC K (ga K n) ∧ (∀ m ∈ names, PySem.W.kitOne K (.ref (ga K n)) (.ref (ga K m)) = some (n == m)) ∧ PySem.W.kitOne K (.ref (ga K n)) (.type "ValueError") = some true ∧ PySem.W.exmOne K (.ref (ga K n)) (.ref (ga K "RowError")) = some true := by
  have h1 := List.all_eq_true.mp h n hn
  unfold excOne at h1
  simp only [Bool.and_eq_true, beq_iff_eq, List.all_eq_true] at h1
  obtain ⟨a1, a2, a3, a4, a5, a6, a7, a8, a9, a10, a11⟩ := h1
  exact ⟨⟨a1, a2, a3, a4, a5, a6, a7, a8⟩, a9, a10, a11⟩
def Nm (K : PySem.W.Frag) (names : List Str) (D : Addr) (n : Str) : Prop := n ∈ names ∧ D = ga K n
/-! ### all but tables stays -/
theorem ext_l {K : PySem.W.Frag} {H H' : Hp} {a : Addr} {xs : List V} (e : ExtN H H') (h : SqL K H a xs) : SqL K H' a xs := by
  rcases h with (h | ⟨o, h⟩) | h
  · exact .inl (.inl (e _ _ h (fun _ z => by cases z)))
  · exact .inl (.inr ⟨o, e _ _ h (fun _ z => by cases z)⟩)
  · exact .inr h
theorem ext_t {K : PySem.W.Frag} {H H' : Hp} {a : Addr} {xs : List V} (e : ExtN H H') (h : SqT K H a xs) : SqT K H' a xs := by
  rcases h with (h | ⟨o, h⟩) | h
  · exact .inl (.inl (e _ _ h (fun _ z => by cases z)))
  · exact .inl (.inr ⟨o, e _ _ h (fun _ z => by cases z)⟩)
  · exact .inr h
mutual
theorem ext_dp {K : PySem.W.Frag} {H H' : Hp} (e : ExtN H H') : ∀ {v : V} {d : PyData}, Dp K H v d → Dp K H' v d
  | _, _, .non => .non
  | _, _, .bl b => .bl b
  | _, _, .int i => .int i
  | _, _, .str x => .str x
  | _, _, .lst h t => .lst (ext_l e h) (ext_dps e t)
  | _, _, .tup h t => .tup (ext_t e h) (ext_dps e t)
theorem ext_dps {K : PySem.W.Frag} {H H' : Hp} (e : ExtN H H') : ∀ {vs : List V} {ds : List PyData}, DpAll K H vs ds → DpAll K H' vs ds
  | _, _, .nil => .nil
  | _, _, .cons h t => .cons (ext_dp e h) (ext_dps e t)
end
theorem ext_same {H H' : Hp} (s : Same H H') : ExtN H H' := ExtN.of s
theorem ext_tabs {T : List (Addr × Str)} {H H' : Hp} (t : Tabs T H) (s : Same H H') : Tabs T H' := t.ext s
/-! ### defs that make lambdas -/
abbrev lamQ (x : Str) : Str := (x ++ ".<locals>.") ++ "<lambda>"
def Tb (K : PySem.W.Frag) (xs : List Str) : List (Addr × Str) := xs.map fun x => ((He.cT K (x, none)).2, lamQ x)
def tabsD (K : PySem.W.Frag) (xs : List Str) : Bool := decide ((xs.map fun x => (He.cT K (x, none)).2).Nodup)
theorem tb_mem {K : PySem.W.Frag} {xs : List Str} {x : Str} (h : x ∈ xs) : ((He.cT K (x, none)).2, lamQ x) ∈ Tb K xs := List.mem_map.mpr ⟨x, h, rfl⟩
theorem nodup_inj {α β : Type} {f : α → β} : ∀ {xs : List α} {x y : α}, (xs.map f).Nodup → x ∈ xs → y ∈ xs → f x = f y → x = y
  | a :: r, x, y, h, hx, hy, e => by
    rw [List.map_cons, List.nodup_cons] at h
    rcases List.mem_cons.mp hx with z1 | z1 <;> rcases List.mem_cons.mp hy with z2 | z2
    · rw [z1, z2]
    · exact absurd (List.mem_map.mpr ⟨y, z2, by rw [← e, z1]⟩) h.1
    · exact absurd (List.mem_map.mpr ⟨x, z1, by rw [e, z2]⟩) h.1
    · exact nodup_inj h.2 z1 z2 e
theorem tb_u {K : PySem.W.Frag} {xs : List Str} {x : Str} (hd : tabsD K xs = true) (h : x ∈ xs) : ∀ p ∈ Tb K xs, p.1 = (He.cT K (x, none)).2 → p.2 = lamQ x := fun p hp e => by
  obtain ⟨y, hy, rfl⟩ := List.mem_map.mp hp
  have e2 : y = x := nodup_inj (of_decide_eq_true hd) hy h e
  rw [e2]
theorem tabs0 {K : PySem.W.Frag} {H : Hp} {xs : List Str} (h : ∀ x ∈ xs, H (He.cT K (x, none)).2 = some (.tbl #[])) : Tabs (Tb K xs) H := fun p hp => by
  obtain ⟨y, hy, rfl⟩ := List.mem_map.mp hp
  exact TabS.nil (h y hy)
/-- what a def that makes lambdas is told of its table -/
abbrev TabX (K : PySem.W.Frag) (mg : Str → Option Value) (base : Heap) (xs : List Str) : Prop := ∀ x ∈ xs, TabB base mg (He.cT K (x, none)).1 (He.cT K (x, none)).2
section
variable {P : Program} {w : World} {K : PySem.W.Frag} {mg : Str → Option Value} {base : Heap}
theorem Cal.mkT {x : Str} {st : Stmt} {N ps : List Str} {k : Nat} {sp : Sp} (D : FnP K x st) (m : mg x = some (.ref (ga K x))) (S : FnScope N ps (defScope st))
    (hb : ∀ (kV doc pm : Value) (an : Option Addr) (cdv ct : Value) (us : List Value), us.length = ps.length → bindArgs (PySem.W.fnOf x x (defArgs st) (defBody st) (defScope st) .none kV doc pm an cdv ct) ⟨us, []⟩ = pure (ps.zip us))
    (len : ∀ vs H Q E, sp vs H Q E → vs.length = ps.length)
    (hbody : ∀ (A : Around) (outer : List Env) (s : Shared) (H : Hp) (vs : List V) (Q : VK) (E : XK), Room k (A.deeper (envOfC x (defScope st) s.heap.objs.size (ga K x) (.ref (He.codeOf K (x, none))))) → sp vs H Q E →
      ∃ t, PSs (cxOf L2.CX0 P w K mg base N x (defScope st) (ga K x) (.ref (He.codeOf K (x, none))) A outer s H E).nox (defBody st) t ∧ t { nx := fun _ H' => Q .non H', rt := Q } (start N vs) H) : Cal P w K mg base L2.CX0 (k + 1) x ps sp := by
  refine ⟨?_, m, D.kp, D.bindsN hb⟩
  have F : FunD K x x (defArgs st) (defBody st) (defScope st) [] [] (ga K x) (fdOf K (x, none)) := D
  obtain ⟨oc, od, dV, kV, doc, pm, an, cdv, ct, osl, e, lk, hcd, _, _⟩ := F.ex
  obtain ⟨c, rfl⟩ := He.codeIn_ref hcd
  rw [e] at lk ⊢
  have ec : He.codeOf K (x, none) = c := He.codeOf_eq lk rfl
  rw [ec] at hbody
  refine fn_of lk hcd S len fun A outer s H vs Q E hr hsp => ?_
  obtain ⟨t, h1, h2⟩ := hbody A outer s H vs Q E hr hsp
  exact ⟨t, h1.nox, h2⟩
end
end Fr
/-! ### zip of any number of lists and tuples -/
namespace Zn
open PySem PySem.Spec PyProof.Rows L2
/-- is it a list, the iterator, what it walks -/
abbrev K3 := Bool × Addr × Addr
def ItAt (h : Heap) (q : K3) (i : Nat) : Prop := match q with
  | (true, it, l) => h.IsListIter it l i
  | (false, it, l) => h.IsTupleIter it l i
def SqAt (h : Heap) (q : K3) (items : Array Value) : Prop := match q with
  | (true, _, l) => h.IsList l items
  | (false, _, l) => h.IsTuple l items
theorem ItAt.at' {h h' : Heap} {q : K3} {i : Nat} (x : ItAt h q i) (e : ∀ o, h.get? q.2.1 = some o → h'.get? q.2.1 = some o) : ItAt h' q i := by
  obtain ⟨b, it, l⟩ := q
  cases b
  · exact Heap.IsTupleIter.at x e
  · exact Heap.IsListIter.at x e
theorem SqAt.at' {h h' : Heap} {q : K3} {a : Array Value} (x : SqAt h q a) (e : ∀ o, h.get? q.2.2 = some o → h'.get? q.2.2 = some o) : SqAt h' q a := by
  obtain ⟨b, it, l⟩ := q
  cases b
  · obtain ⟨o, ho, r⟩ := x
    exact ⟨o, e o ho, r⟩
  · exact Heap.IsList.at x e
theorem ItAt.some {h : Heap} {q : K3} {i : Nat} (x : ItAt h q i) : ∃ o, h.get? q.2.1 = Option.some o ∧ ∃ vs, o.data = .fields vs := by
  obtain ⟨b, it, l⟩ := q
  cases b
  · obtain ⟨o, e, _, d⟩ := x
    exact ⟨o, e, _, d⟩
  · obtain ⟨o, e, _, d⟩ := x
    exact ⟨o, e, _, d⟩
section
variable {prog : Program} {w : World} {A : Around} {E : Value → Shared → Prop} {s : Shared}
theorem nx_item {q : K3} {i : Nat} {items : Array Value} {x : Value} {Q : Value → Shared → Prop} (hit : ItAt s.heap q i) (hl : SqAt s.heap q items) (hx : items[i]? = some x)
    (hQ : ∀ h', ItAt h' q (i + 1) → Heap.SameBut q.2.1 s.heap h' → Q x { s with heap := h' }) : wpAny (model prog w) A (Builtin.SmallTypes.nextOf (.ref q.2.1)) Q E s := by
  obtain ⟨b, it, l⟩ := q
  cases b
  · exact RZ.nextOf_tuple_item hit hl hx hQ
  · exact wpAny_nextOf_list_item hit hl hx hQ
theorem nx_end {q : K3} {i : Nat} {items : Array Value} {Q : Value → Shared → Prop} (hh : A.handled = none) (hit : ItAt s.heap q i) (hl : SqAt s.heap q items) (hx : items[i]? = none)
    (hE : ∀ h' e, Heap.ExtBut q.2.1 s.heap h' → (∃ o, h'.get? e = some o ∧ o.cls = .type "StopIteration") → E (.ref e) { s with heap := h' }) : wpAny (model prog w) A (Builtin.SmallTypes.nextOf (.ref q.2.1)) Q E s := by
  obtain ⟨b, it, l⟩ := q
  cases b
  · exact RZ.nextOf_tuple_end hh hit hl hx hE
  · exact wpAny_nextOf_list_end hh hit hl hx hE
end
abbrev tupO (os : Array Value) : Obj := { cls := .type "tuple", data := .seq os }
abbrev recO (vs : Array Value) : Obj := { cls := .type "zip", data := .fields vs }
def Ready (h : Heap) (i : Nat) : List K3 → List Value → Prop
  | [], [] => True
  | q :: r, x :: xs => ItAt h q i ∧ (∃ items, SqAt h q items ∧ items[i]? = some x) ∧ Ready h i r xs
  | _, _ => False
def Short (h : Heap) (i : Nat) : List K3 → Prop
  | [] => False
  | q :: r => ItAt h q i ∧ ∃ items, SqAt h q items ∧ (items[i]? = none ∨ (∃ x, items[i]? = some x) ∧ Short h i r)
theorem Ready.at' {h h' : Heap} {i : Nat} : ∀ {r : List K3} {xs : List Value}, Ready h i r xs → (∀ q ∈ r, ∀ o, h.get? q.2.1 = some o → h'.get? q.2.1 = some o) → (∀ q ∈ r, ∀ o, h.get? q.2.2 = some o → h'.get? q.2.2 = some o) → Ready h' i r xs
  | [], [], _, _, _ => True.intro
  | q :: r, x :: xs, ⟨a, ⟨items, b, c⟩, d⟩, e1, e2 => ⟨a.at' (e1 q List.mem_cons_self), ⟨items, b.at' (e2 q List.mem_cons_self), c⟩, Ready.at' d (fun p hp => e1 p (List.mem_cons_of_mem _ hp)) fun p hp => e2 p (List.mem_cons_of_mem _ hp)⟩
theorem Short.at' {h h' : Heap} {i : Nat} : ∀ {r : List K3}, Short h i r → (∀ q ∈ r, ∀ o, h.get? q.2.1 = some o → h'.get? q.2.1 = some o) → (∀ q ∈ r, ∀ o, h.get? q.2.2 = some o → h'.get? q.2.2 = some o) → Short h' i r
  | q :: r, ⟨a, items, b, c⟩, e1, e2 => ⟨a.at' (e1 q List.mem_cons_self), items, b.at' (e2 q List.mem_cons_self), c.imp id fun ⟨x, y⟩ => ⟨x, Short.at' y (fun p hp => e1 p (List.mem_cons_of_mem _ hp)) fun p hp => e2 p (List.mem_cons_of_mem _ hp)⟩⟩
abbrev FR := Option PySem.Fin × Unit
/-- a turn of zip's own loop -/
def StepF (prog : Program) (w : World) (A : Around) (f : Value × Nat → FR → Sem (ForInStep FR)) (z TO : Addr) : Prop :=
  ∀ (it : Value) (k : Nat) (c : FR) (Q : ForInStep FR → Shared → Prop) (E : Value → Shared → Prop) (s : Shared),
    wpAny (model prog w) A (Builtin.SmallTypes.nextOf it) (fun x s1 => ∃ os : Array Value, os.size ≤ 100 ∧ s1.heap.get? TO = some (tupO os) ∧ ∀ h', h'.get? TO = some (tupO (os.setIfInBounds k x)) → Heap.SameBut TO s1.heap h' → Q (.yield (none, ())) { s1 with heap := h' })
      (fun e s1 => ∃ vs, s1.heap.get? z = some (recO vs) ∧ 0 < vs.size ∧ ∀ h', Heap.SameBut z s1.heap h' → E e { s1 with heap := h' }) s → wpAny (model prog w) A (f (it, k) c) Q E s
/-- the cells lie apart -/
structure Apart (z TI TO : Addr) (r : List K3) : Prop where
  TIz : TI ≠ z
  TOz : TO ≠ z
  TITO : TI ≠ TO
  nd : (r.map (·.2.1)).Nodup
  iz : ∀ q ∈ r, q.2.1 ≠ z
  iTI : ∀ q ∈ r, q.2.1 ≠ TI
  iTO : ∀ q ∈ r, q.2.1 ≠ TO
  lz : ∀ q ∈ r, q.2.2 ≠ z
  lTO : ∀ q ∈ r, q.2.2 ≠ TO
  li : ∀ q ∈ r, ∀ p ∈ r, q.2.2 ≠ p.2.1
theorem Apart.tail {z TI TO : Addr} {q : K3} {r : List K3} (a : Apart z TI TO (q :: r)) : Apart z TI TO r :=
  ⟨a.TIz, a.TOz, a.TITO, (List.nodup_cons.mp a.nd).2, fun p hp => a.iz p (List.mem_cons_of_mem _ hp), fun p hp => a.iTI p (List.mem_cons_of_mem _ hp), fun p hp => a.iTO p (List.mem_cons_of_mem _ hp), fun p hp => a.lz p (List.mem_cons_of_mem _ hp),
    fun p hp => a.lTO p (List.mem_cons_of_mem _ hp), fun p hp p' hp' => a.li p (List.mem_cons_of_mem _ hp) p' (List.mem_cons_of_mem _ hp')⟩
theorem Apart.other {z TI TO : Addr} {q p : K3} {r : List K3} (a : Apart z TI TO (q :: r)) (hp : p ∈ r) : p.2.1 ≠ q.2.1 := fun e => (List.nodup_cons.mp a.nd).1 (List.mem_map.mpr ⟨p, hp, e⟩)
section
variable {prog : Program} {w : World} {A : Around} {f : Value × Nat → FR → Sem (ForInStep FR)} {z TI TO : Addr} {i : Nat}
theorem loop_item (hf : StepF prog w A f z TO) : ∀ (r : List K3) (xs : List Value) (k : Nat) (s : Shared) (os : Array Value) (Q : FR → Shared → Prop) (E : Value → Shared → Prop), Apart z TI TO r → Ready s.heap i r xs → s.heap.get? TO = some (tupO os) → os.size = k + r.length → os.size ≤ 100 →
    (∀ h' (os' : Array Value), h'.get? TO = some (tupO os') → os'.toList = os.toList.take k ++ xs → (∀ q ∈ r, ItAt h' q (i + 1)) → h'.objs.size = s.heap.objs.size → (∀ c o, c ≠ TO → (∀ q ∈ r, c ≠ q.2.1) → s.heap.get? c = some o → h'.get? c = some o) → Q (none, ()) { s with heap := h' }) →
    wpAny (model prog w) A (forIn ((r.map fun q => Value.ref q.2.1).zipIdx k) ((none, ()) : FR) f) Q E s := by
  intro r
  induction r with
  | nil =>
    intro xs k s os Q E D hr hT hk _ h
    cases xs with
    | cons x xs => exact hr.elim
    | nil =>
    rw [List.map_nil, List.zipIdx_nil, List.forIn_nil]
    refine wpAny_pure (h s.heap os hT ?_ (fun q hq => nomatch hq) rfl fun _ _ _ _ e => e)
    rw [List.append_nil, List.take_of_length_le (by simp at hk; simp [hk])]
  | cons q r ih =>
    intro xs k s os Q E D hr hT hk h100 h
    cases xs with
    | nil => exact hr.elim
    | cons x xs =>
    obtain ⟨h1, ⟨items, h2, h3⟩, h4⟩ := hr
    rw [List.map_cons, List.zipIdx_cons, List.forIn_cons]
    refine wpAny_bind (hf _ _ _ _ _ _ (nx_item h1 h2 h3 fun ha hia sa => ?_))
    have hTa : ha.get? TO = some (tupO os) := sa.extBut _ _ (D.iTO q List.mem_cons_self).symm hT
    refine ⟨os, h100, hTa, fun hb hTb sb => ?_⟩
    have kp : ∀ c o, c ≠ TO → c ≠ q.2.1 → s.heap.get? c = some o → hb.get? c = some o := fun c o c1 c2 e => sb.extBut c o c1 (sa.extBut c o c2 e)
    have hk' : k < os.size := by rw [hk, List.length_cons]; omega
    refine ih xs (k + 1) { s with heap := hb } (os.setIfInBounds k x) Q E D.tail ?_ hTb (by rw [Array.size_setIfInBounds, hk, List.length_cons]; omega) (by rw [Array.size_setIfInBounds]; exact h100) fun h' os' g1 g2 g3 g4 g5 => ?_
    · exact h4.at' (fun p hp o e => kp _ o (D.tail.iTO p hp) (D.other hp) e) fun p hp o e => kp _ o (D.tail.lTO p hp) (D.li p (List.mem_cons_of_mem _ hp) q List.mem_cons_self) e
    · refine h h' os' g1 ?_ (fun p hp => ?_) (by rw [g4]; show hb.objs.size = _; rw [sb.1, sa.1]) fun c o c1 c2 e => g5 c o c1 (fun p hp => c2 p (List.mem_cons_of_mem _ hp)) (kp c o c1 (c2 q List.mem_cons_self) e)
      · rw [g2]
        have hl : k < os.toList.length := by simpa using hk'
        rw [Array.toList_setIfInBounds, List.take_succ, List.take_set_of_le (Nat.le_refl _), List.getElem?_set_self hl]
        simp
      · rcases List.mem_cons.mp hp with rfl | hp
        · refine ItAt.at' hia fun o e => g5 _ o (D.iTO p List.mem_cons_self) (fun p' hp' z => D.other hp' z.symm) (sb.extBut _ o (D.iTO p List.mem_cons_self) e)
        · exact g3 p hp
theorem loop_end (hh : A.handled = none) (hf : StepF prog w A f z TO) : ∀ (r : List K3) (k : Nat) (s : Shared) (os : Array Value) (Q : FR → Shared → Prop) (E : Value → Shared → Prop) (f0 : Value), Apart z TI TO r → Short s.heap i r → IsZip s.heap z TI TO f0 → s.heap.get? TO = some (tupO os) → os.size ≤ 100 →
    (∀ h' e, (∀ c o, c ≠ z → c ≠ TO → (∀ q ∈ r, c ≠ q.2.1) → s.heap.get? c = some o → h'.get? c = some o) → (∃ o, h'.get? e = some o ∧ o.cls = .type "StopIteration") → E (.ref e) { s with heap := h' }) →
    wpAny (model prog w) A (forIn ((r.map fun q => Value.ref q.2.1).zipIdx k) ((none, ()) : FR) f) Q E s := by
  intro r
  induction r with
  | nil =>
    intro k s os Q E f0 D hs
    exact hs.elim
  | cons q r ih =>
    intro k s os Q E f0 D hs hz hT h100 h
    obtain ⟨h1, items, h2, h3⟩ := hs
    rw [List.map_cons, List.zipIdx_cons, List.forIn_cons]
    rcases h3 with h3 | ⟨⟨x, h3⟩, h4⟩
    · refine wpAny_bind (hf _ _ _ _ _ _ (nx_end hh h1 h2 h3 fun ha e sa he => ?_))
      have hz' : IsZip ha z TI TO f0 := sa _ _ (D.iz q List.mem_cons_self).symm hz
      refine ⟨_, hz', by simp, fun hb sb => h hb e (fun c o c1 c2 c3 g => sb.extBut _ _ c1 (sa _ _ (c3 q List.mem_cons_self) g)) ?_⟩
      obtain ⟨o, ho, hc⟩ := he
      refine ⟨o, sb.extBut _ _ (fun y => ?_) ho, hc⟩
      subst y
      rw [hz'] at ho
      cases ho
      simp at hc
    · refine wpAny_bind (hf _ _ _ _ _ _ (nx_item h1 h2 h3 fun ha hia sa => ?_))
      have hTa : ha.get? TO = some (tupO os) := sa.extBut _ _ (D.iTO q List.mem_cons_self).symm hT
      refine ⟨os, h100, hTa, fun hb hTb sb => ?_⟩
      have kp : ∀ c o, c ≠ TO → c ≠ q.2.1 → s.heap.get? c = some o → hb.get? c = some o := fun c o c1 c2 e => sb.extBut c o c1 (sa.extBut c o c2 e)
      refine ih (k + 1) { s with heap := hb } (os.setIfInBounds k x) Q E f0 D.tail ?_ (kp _ _ D.TOz.symm (D.iz q List.mem_cons_self).symm hz) hTb (by rw [Array.size_setIfInBounds]; exact h100) fun h' e g1 g2 => ?_
      · exact h4.at' (fun p hp o e => kp _ o (D.tail.iTO p hp) (D.other hp) e) fun p hp o e => kp _ o (D.tail.lTO p hp) (D.li p (List.mem_cons_of_mem _ hp) q List.mem_cons_self) e
      · exact h h' e (fun c o c1 c2 c3 g => g1 c o c1 c2 (fun p hp => c3 p (List.mem_cons_of_mem _ hp)) (kp c o c2 (c3 q List.mem_cons_self) g)) g2

end
section
variable {prog : Program} {w : World} {A : Around} {E : Value → Shared → Prop} {s : Shared} {z TI TO : Addr} {i : Nat}
theorem next_item {r : List K3} {xs : List Value} {os : Array Value} {Q : Value → Shared → Prop} (D : Apart z TI TO r) (hne : r ≠ []) (h100 : os.size ≤ 100) (hos : os.size = r.length)
    (hz : IsZip s.heap z TI TO .none) (hTI : s.heap.get? TI = some (tupO (r.map fun q => Value.ref q.2.1).toArray)) (hTO : s.heap.get? TO = some (tupO os)) (hr : Ready s.heap i r xs)
    (hQ : ∀ h', IsZip h' z TI TO (rawInt s.heap.objs.size) → h'.get? TI = some (tupO (r.map fun q => Value.ref q.2.1).toArray) → h'.get? TO = some (tupO xs.toArray) → (∀ q ∈ r, ItAt h' q (i + 1)) → h'.get? s.heap.objs.size = some (tupO xs.toArray) → h'.objs.size = s.heap.objs.size + 1 →
      (∀ c o, c ≠ z → c ≠ TO → (∀ q ∈ r, c ≠ q.2.1) → s.heap.get? c = some o → h'.get? c = some o) → Q (.ref s.heap.objs.size) { s with heap := h' }) :
    wpAny (model prog w) A (Builtin.«zip.__next__» ⟨[.ref z], []⟩) (fun fin s' => ∃ v, fin = .done (.ret v) ∧ Q v s') E s := by
  show wpAny _ _ (field (.ref z) 2 >>= _) _ _ _
  refine wpAny_bind (wpAny_field hz rfl (x := .bool false) rfl ?_)
  show wpAny _ _ (field (.ref z) 3 >>= _) _ _ _
  refine wpAny_bind (wpAny_field hz rfl (x := .ref TI) rfl ?_)
  refine wpAny_bind (wpAny_seqItems hTI rfl ?_)
  show wpAny _ _ (if (r.map fun q => Value.ref q.2.1).toArray.isEmpty = true then _ else _) _ _ _
  rw [if_neg (by cases r with | nil => exact absurd rfl hne | cons => simp)]
  show wpAny _ _ (Builtin.SmallTypes.ownedTupleIsFree (.ref z) >>= _) _ _ _
  refine wpAny_bind ?_
  unfold Builtin.SmallTypes.ownedTupleIsFree
  refine wpAny_bind (wpAny_field hz rfl (x := .none) rfl (wpAny_pure ?_))
  simp only [if_true]
  refine wpAny_bind (wpAny_rule ?_)
  refine wpAny_bind (wpAny_field hz rfl (x := .ref TO) rfl ?_)
  refine wpAny_bind (wpAny_setField_rec hz (by simp) fun h₁ hz₁ hs₁ => ?_)
  replace hz₁ : IsZip h₁ z TI TO .ellipsis := hz₁
  refine wpAny_bind ?_
  refine loop_item (i := i) (fun it k c Q E s h => by
    refine wpAny_bind (wpAny_onRaise ?_)
    show wpAny _ _ (Builtin.SmallTypes.nextOf it >>= _) _ _ _
    refine wpAny_bind (wpAny_mono h (fun x s1 hx => wpAny_pure ?_) fun e s1 he => ?_)
    · obtain ⟨os, h100, hT, hq⟩ := hx
      refine wpAny_bind (wpAny_seqItems hT rfl ?_)
      refine wpAny_bind (wpAny_updateSeq hT rfl ?_ (Nat.le_trans h100 (by decide)) (by rw [Array.size_setIfInBounds]; exact Nat.le_trans h100 (by decide)))
      refine wpAny_bind (wpAny_letGo (wpAny_pure (hq _ ?_ (Heap.SameBut.update ..))))
      rw [Heap.get?_update_self _ hT rfl]
      simp [Obj.mapSeq]
    · obtain ⟨vs, hz, h0, hq⟩ := he
      exact wpAny_setField_rec hz h0 fun h' _ sb => hq h' sb) r xs 0 { s with heap := h₁ } os _ _ D ?_ (hs₁.extBut _ _ D.TOz hTO) (by rw [hos, Nat.zero_add]) h100 fun h₂ os' g1 g2 g3 g4 g5 => ?_
  · exact hr.at' (fun q hq o e => hs₁.extBut _ o (D.iz q hq) e) fun q hq o e => hs₁.extBut _ o (D.lz q hq) e
  have eos : os' = xs.toArray := by
    rw [List.take_zero, List.nil_append] at g2
    rw [← g2]
  subst eos
  refine wpAny_bind (wpAny_seqItems g1 rfl ?_)
  have hxl : xs.length ≤ 100 := by
    have e1 : ∀ {h : Heap} {r : List K3} {xs : List Value}, Ready h i r xs → xs.length = r.length := by
      intro h r
      induction r with
      | nil =>
        intro xs hr
        cases xs with
        | nil => rfl
        | cons => exact hr.elim
      | cons q r ih =>
        intro xs hr
        cases xs with
        | nil => exact hr.elim
        | cons x xs => exact congrArg (· + 1) (ih hr.2.2)
    rw [e1 hr, ← hos]
    exact h100
  refine wpAny_bind (wpAny_newTuple ?_ (by show xs.length ≤ sizeLine; exact Nat.le_trans hxl (by decide)))
  have hsz : h₂.objs.size = s.heap.objs.size := by rw [g4]; exact hs₁.1
  have hz₂ : IsZip h₂ z TI TO .ellipsis := g5 _ _ D.TOz.symm (fun q hq => (D.iz q hq).symm) hz₁
  have kp : ∀ c o, c ≠ z → c ≠ TO → (∀ q ∈ r, c ≠ q.2.1) → s.heap.get? c = some o → h₂.get? c = some o := fun c o c1 c2 c3 e => g5 c o c2 c3 (hs₁.extBut _ _ c1 e)
  have hzlt : z < h₂.objs.size := Heap.lt_size hz₂
  show wpAny _ _ (Builtin.SmallTypes.ownedTupleHandOut (.ref z) (.ref h₂.objs.size) >>= _) _ _ _
  refine wpAny_bind ?_
  unfold Builtin.SmallTypes.ownedTupleHandOut
  have hz₆ : IsZip (h₂.push (tupO xs.toArray)) z TI TO .ellipsis := Heap.get?_push_of_some _ hz₂
  refine wpAny_bind (wpAny_setField_rec hz₆ (by simp) fun h₇ hz₇ hs₇ => ?_)
  replace hz₇ : IsZip h₇ z TI TO (rawInt h₂.objs.size) := hz₇
  refine wpAny_setField_rec hz₇ (by simp) fun h₈ hz₈ hs₈ => ?_
  replace hz₈ : IsZip h₈ z TI TO (rawInt h₂.objs.size) := hz₈
  have up : ∀ c o, c ≠ z → h₂.get? c = some o → h₈.get? c = some o := fun c o c1 e => hs₈.extBut _ _ c1 (hs₇.extBut _ _ c1 (Heap.get?_push_of_some _ e))
  have hT₈ : h₈.get? h₂.objs.size = some (tupO xs.toArray) := hs₈.extBut _ _ (Nat.ne_of_gt hzlt) (hs₇.extBut _ _ (Nat.ne_of_gt hzlt) (Heap.get?_push_size _ rfl))
  have hz8 : h₈.objs.size = h₂.objs.size + 1 := by rw [hs₈.1, hs₇.1, Heap.size_push]
  rw [hsz] at hz₈ hT₈ hz8
  refine wpAny_pure ⟨_, rfl, ?_⟩
  show Q (.ref h₂.objs.size) _
  rw [hsz]
  exact hQ h₈ hz₈ (up _ _ D.TIz (kp _ _ D.TIz D.TITO (fun q hq => (D.iTI q hq).symm) hTI)) (up _ _ D.TOz g1) (fun q hq => (g3 q hq).at' fun o e => up _ o (D.iz q hq) e) hT₈ hz8 fun c o c1 c2 c3 e => up c o c1 (kp c o c1 c2 c3 e)
theorem next_end {r : List K3} {os : Array Value} {Q : PySem.Fin → Shared → Prop} (hh : A.handled = none) (D : Apart z TI TO r) (hne : r ≠ []) (h100 : os.size ≤ 100)
    (hz : IsZip s.heap z TI TO .none) (hTI : s.heap.get? TI = some (tupO (r.map fun q => Value.ref q.2.1).toArray)) (hTO : s.heap.get? TO = some (tupO os)) (hr : Short s.heap i r)
    (hE : ∀ h' e, (∀ c o, c ≠ z → c ≠ TO → (∀ q ∈ r, c ≠ q.2.1) → s.heap.get? c = some o → h'.get? c = some o) → (∃ o, h'.get? e = some o ∧ o.cls = .type "StopIteration") → E (.ref e) { s with heap := h' }) :
    wpAny (model prog w) A (Builtin.«zip.__next__» ⟨[.ref z], []⟩) Q E s := by
  show wpAny _ _ (field (.ref z) 2 >>= _) _ _ _
  refine wpAny_bind (wpAny_field hz rfl (x := .bool false) rfl ?_)
  show wpAny _ _ (field (.ref z) 3 >>= _) _ _ _
  refine wpAny_bind (wpAny_field hz rfl (x := .ref TI) rfl ?_)
  refine wpAny_bind (wpAny_seqItems hTI rfl ?_)
  show wpAny _ _ (if (r.map fun q => Value.ref q.2.1).toArray.isEmpty = true then _ else _) _ _ _
  rw [if_neg (by cases r with | nil => exact absurd rfl hne | cons => simp)]
  show wpAny _ _ (Builtin.SmallTypes.ownedTupleIsFree (.ref z) >>= _) _ _ _
  refine wpAny_bind ?_
  unfold Builtin.SmallTypes.ownedTupleIsFree
  refine wpAny_bind (wpAny_field hz rfl (x := .none) rfl (wpAny_pure ?_))
  simp only [if_true]
  refine wpAny_bind (wpAny_rule ?_)
  refine wpAny_bind (wpAny_field hz rfl (x := .ref TO) rfl ?_)
  refine wpAny_bind (wpAny_setField_rec hz (by simp) fun h₁ hz₁ hs₁ => ?_)
  replace hz₁ : IsZip h₁ z TI TO .ellipsis := hz₁
  refine wpAny_bind ?_
  refine loop_end (i := i) hh (fun it k c Q E s h => by
    refine wpAny_bind (wpAny_onRaise ?_)
    show wpAny _ _ (Builtin.SmallTypes.nextOf it >>= _) _ _ _
    refine wpAny_bind (wpAny_mono h (fun x s1 hx => wpAny_pure ?_) fun e s1 he => ?_)
    · obtain ⟨os, h100, hT, hq⟩ := hx
      refine wpAny_bind (wpAny_seqItems hT rfl ?_)
      refine wpAny_bind (wpAny_updateSeq hT rfl ?_ (Nat.le_trans h100 (by decide)) (by rw [Array.size_setIfInBounds]; exact Nat.le_trans h100 (by decide)))
      refine wpAny_bind (wpAny_letGo (wpAny_pure (hq _ ?_ (Heap.SameBut.update ..))))
      rw [Heap.get?_update_self _ hT rfl]
      simp [Obj.mapSeq]
    · obtain ⟨vs, hz, h0, hq⟩ := he
      exact wpAny_setField_rec hz h0 fun h' _ sb => hq h' sb) r 0 { s with heap := h₁ } os _ _ .ellipsis D ?_ hz₁ (hs₁.extBut _ _ D.TOz hTO) h100 fun h₂ e g1 g2 => ?_
  · exact hr.at' (fun q hq o e => hs₁.extBut _ o (D.iz q hq) e) fun q hq o e => hs₁.extBut _ o (D.lz q hq) e
  · exact hE h₂ e (fun c o c1 c2 c3 x => g1 c o c1 c2 c3 (hs₁.extBut _ _ c1 x)) g2
end
end Zn
namespace Zn
open PySem PySem.Spec PyProof.Rows L2
/-! ### a zip made -/
abbrev K2 := Bool × Addr
def made : Nat → List K2 → List K3
  | _, [] => []
  | n, (b, l) :: r => (b, n, l) :: made (n + 1) r
theorem made_len : ∀ (ks : List K2) (n : Nat), (made n ks).length = ks.length
  | [], _ => rfl
  | _ :: r, n => congrArg (· + 1) (made_len r (n + 1))
theorem made_ge : ∀ (ks : List K2) (n : Nat) (q : K3), q ∈ made n ks → n ≤ q.2.1 ∧ @LT.lt Nat _ q.2.1 (n + ks.length)
  | (b, l) :: r, n, q, h => by
    rcases List.mem_cons.mp h with rfl | h
    · exact ⟨Nat.le_refl _, by simp⟩
    · have := made_ge r (n + 1) q h
      simp only [List.length_cons]
      omega
theorem made_src : ∀ (ks : List K2) (n : Nat) (q : K3), q ∈ made n ks → (q.1, q.2.2) ∈ ks
  | (b, l) :: r, n, q, h => by
    rcases List.mem_cons.mp h with rfl | h
    · exact List.mem_cons_self
    · exact List.mem_cons_of_mem _ (made_src r (n + 1) q h)
theorem made_nodup : ∀ (ks : List K2) (n : Nat), ((made n ks).map (·.2.1)).Nodup
  | [], _ => List.nodup_nil
  | (b, l) :: r, n => by
    refine List.nodup_cons.mpr ⟨fun h => ?_, made_nodup r (n + 1)⟩
    obtain ⟨q, hq, e⟩ := List.mem_map.mp h
    have := (made_ge r (n + 1) q hq).1
    have e : @Eq Nat q.2.1 n := e
    omega
def Sq0 (h : Heap) (q : K2) : Prop := ∃ items, SqAt h (q.1, 0, q.2) items
theorem Sq0.lt {h : Heap} {q : K2} (x : Sq0 h q) : q.2 < h.objs.size := by
  obtain ⟨b, l⟩ := q
  obtain ⟨items, x⟩ := x
  cases b
  · obtain ⟨o, e, _⟩ := x
    exact Heap.lt_size e
  · obtain ⟨o, e, _⟩ := x
    exact Heap.lt_size e
theorem Sq0.keep {h h' : Heap} {q : K2} (x : Sq0 h q) (k : ∀ b o, h.get? b = some o → h'.get? b = some o) : Sq0 h' q := by
  obtain ⟨items, x⟩ := x
  exact ⟨items, x.at' fun o e => k _ o e⟩
section
variable {prog : Program} {w : World} {A : Around} {E : Value → Shared → Prop}
theorem iter_one {q : K2} {s : Shared} {Q : Value → Shared → Prop} (hq : Sq0 s.heap q) (h : ∀ h', (∀ b o, s.heap.get? b = some o → h'.get? b = some o) → h'.objs.size = s.heap.objs.size + 1 → ItAt h' (q.1, s.heap.objs.size, q.2) 0 → Q (.ref s.heap.objs.size) { s with heap := h' }) :
    wpAny (model prog w) A (pyIter (.ref q.2)) Q E s := by
  obtain ⟨b, l⟩ := q
  obtain ⟨items, hq⟩ := hq
  cases b
  · exact wpAny_pyIter_tuple hq (h _ (fun b o e => Heap.get?_push_of_some _ e) (Heap.size_push ..) ⟨_, Heap.get?_push_size _ rfl, rfl, rfl⟩)
  · exact wpAny_pyIter_list hq (h _ (fun b o e => Heap.get?_push_of_some _ e) (Heap.size_push ..) ⟨_, Heap.get?_push_size _ rfl, rfl, rfl⟩)
theorem iter_all : ∀ (ks : List K2) (acc : Array Value) (s : Shared) (Q : Array Value → Shared → Prop), (∀ q ∈ ks, Sq0 s.heap q) →
    (∀ h', (∀ b o, s.heap.get? b = some o → h'.get? b = some o) → h'.objs.size = s.heap.objs.size + ks.length → (∀ q ∈ made s.heap.objs.size ks, ItAt h' q 0) → Q (acc ++ ((made s.heap.objs.size ks).map fun q => Value.ref q.2.1).toArray) { s with heap := h' }) →
    wpAny (model prog w) A (forIn (ks.map fun q => Value.ref q.2) acc fun x r => do
      let v ← holding r.toList (pyIter x)
      pure (ForInStep.yield (r.push v))) Q E s := by
  intro ks
  induction ks with
  | nil =>
    intro acc s Q _ h
    rw [List.map_nil, List.forIn_nil]
    have := h s.heap (fun _ _ e => e) rfl (fun q hq => nomatch hq)
    refine wpAny_pure ?_
    simpa [made] using this
  | cons q ks ih =>
    intro acc s Q hq h
    rw [List.map_cons, List.forIn_cons]
    refine wpAny_bind (wpAny_bind (wpAny_holding (iter_one (hq q List.mem_cons_self) fun h1 k1 z1 i1 => wpAny_pure ?_)))
    refine ih _ { s with heap := h1 } Q (fun p hp => (hq p (List.mem_cons_of_mem _ hp)).keep k1) fun h2 k2 z2 i2 => ?_
    have e := h h2 (fun b o e => k2 b o (k1 b o e)) (by rw [z2]; show h1.objs.size + _ = _; rw [z1, List.length_cons]; omega) (fun p hp => ?_)
    · have e2 : acc ++ ((made s.heap.objs.size (q :: ks)).map fun q => Value.ref q.2.1).toArray = acc.push (.ref s.heap.objs.size) ++ ((made h1.objs.size ks).map fun q => Value.ref q.2.1).toArray := by
        rw [z1]
        obtain ⟨b, l⟩ := q
        simp [made]
      rw [e2] at e
      exact e
    · obtain ⟨b, l⟩ := q
      rcases List.mem_cons.mp hp with rfl | hp
      · exact i1.at' fun o e => k2 _ o e
      · have z1 : h1.objs.size = s.heap.objs.size + 1 := z1
        refine i2 p ?_
        show p ∈ made h1.objs.size ks
        rw [z1]
        exact hp
/-- what zip leaves -/
structure Zip0 (n : Nat) (ks : List K2) (h h' : Heap) : Prop where
  z : IsZip h' (n + ks.length + 2) (n + ks.length) (n + ks.length + 1) .none
  ti : h'.get? (n + ks.length) = some (tupO ((made n ks).map fun q => Value.ref q.2.1).toArray)
  to : h'.get? (n + ks.length + 1) = some (tupO (Array.replicate ks.length Value.none))
  its : ∀ q ∈ made n ks, ItAt h' q 0
  keep : ∀ b o, h.get? b = some o → h'.get? b = some o
theorem meets_new (ks : List K2) (h100 : ks.length ≤ 100) : Meets (Builtin.«zip.__new__» ⟨.type "zip" :: ks.map (fun q => Value.ref q.2), []⟩) (fun _ R s => (∀ q ∈ ks, Sq0 s.heap q) ∧ ∀ h', Zip0 s.heap.objs.size ks s.heap h' → R (.ok (.ret (.ref (s.heap.objs.size + ks.length + 2)))) { s with heap := h' }) :=
  .of_wp fun prog w A R s h => by
    obtain ⟨hq, h⟩ := h
    unfold Builtin.«zip.__new__»
    refine wpAny_bind (m := Builtin.SmallTypes.newClass _ _) ?_
    unfold Builtin.SmallTypes.newClass
    refine wpAny_bind (wpAny_of_eq (a := true) (by first | rfl | kernel_rfl) ?_)
    refine wpAny_bind (wpAny_of_eq (a := true) sub_zip ?_)
    refine wpAny_pure ?_
    show wpAny _ _ (Builtin.SmallTypes.iterAll (ks.map fun q => Value.ref q.2) >>= _) _ _ _
    unfold Builtin.SmallTypes.iterAll
    refine wpAny_bind (wpAny_bind (iter_all ks #[] s _ hq fun h1 k1 z1 i1 => wpAny_pure ?_))
    have el : ((#[] : Array Value) ++ ((made s.heap.objs.size ks).map fun (q : K3) => Value.ref q.2.1).toArray).toList = (made s.heap.objs.size ks).map fun (q : K3) => Value.ref q.2.1 := by simp
    rw [el]
    have hl := made_len ks s.heap.objs.size
    refine wpAny_bind (wpAny_newTuple ?_ (by rw [List.length_map, hl]; exact Nat.le_trans h100 (by decide)))
    refine wpAny_bind (wpAny_newTuple ?_ (by rw [List.length_map, List.length_map, hl]; exact Nat.le_trans h100 (by decide)))
    refine wpAny_bind ?_
    unfold Builtin.SmallTypes.newRecord
    refine wpAny_newObj_type ?_ (by show 5 ≤ sizeLine + 2; decide)
    refine wpAny_pure ⟨_, rfl, ?_⟩
    have z1 : h1.objs.size = s.heap.objs.size + ks.length := z1
    have en : ((made s.heap.objs.size ks).map fun q => Value.ref q.2.1).map (fun _ => Value.none) = List.replicate ks.length Value.none := by
      rw [List.map_map]
      have e9 : ∀ l : List K3, l.map ((fun _ => Value.none) ∘ fun (q : K3) => Value.ref q.2.1) = List.replicate l.length Value.none := by
        intro l
        induction l with
        | nil => rfl
        | cons a l ih => rw [List.map_cons, ih]; rfl
      rw [e9, hl]
    rw [en]
    generalize hm : (made s.heap.objs.size ks).map (fun q => Value.ref q.2.1) = ms at *
    have zz1 : (h1.push (tupO ms.toArray)).objs.size = s.heap.objs.size + ks.length + 1 := by rw [Heap.size_push, z1]
    have zz2 : ((h1.push (tupO ms.toArray)).push (tupO (List.replicate ks.length Value.none).toArray)).objs.size = s.heap.objs.size + ks.length + 2 := by rw [Heap.size_push, zz1]
    have g1 : (h1.push (tupO ms.toArray)).get? (s.heap.objs.size + ks.length) = some (tupO ms.toArray) := by rw [← z1]; exact Heap.get?_push_size _ rfl
    have g2 : ((h1.push (tupO ms.toArray)).push (tupO (List.replicate ks.length Value.none).toArray)).get? (s.heap.objs.size + ks.length + 1) = some (tupO (List.replicate ks.length Value.none).toArray) := by rw [← zz1]; exact Heap.get?_push_size _ rfl
    show R (.ok (.ret (.ref ((h1.push (tupO ms.toArray)).push (tupO (List.replicate ks.length Value.none).toArray)).objs.size))) _
    rw [zz2]
    refine h _ ⟨?_, ?_, ?_, fun q hq => (i1 q hq).at' fun o e => Heap.get?_push_of_some _ (Heap.get?_push_of_some _ (Heap.get?_push_of_some _ e)), fun b o e => Heap.get?_push_of_some _ (Heap.get?_push_of_some _ (Heap.get?_push_of_some _ (k1 b o e)))⟩
    · rw [← zz2, ← zz1, ← z1]
      exact Heap.get?_push_size _ rfl
    · rw [hm]
      exact Heap.get?_push_of_some _ (Heap.get?_push_of_some _ g1)
    · have e3 : Array.replicate ks.length Value.none = (List.replicate ks.length Value.none).toArray := by simp
      rw [e3]
      exact Heap.get?_push_of_some _ g2

theorem call_zipN {ks : List K2} {s : Shared} {Q : Value → Shared → Prop} (h100 : ks.length ≤ 100) (h1 : checkTypeCall "zip" ⟨ks.map (fun q => Value.ref q.2), []⟩ = pure ()) (h2 : checkBuiltinCall "zip.__new__" ⟨.type "zip" :: ks.map (fun q => Value.ref q.2), []⟩ = pure ())
    (h3 : ∀ obj, argsOk "object.__init__" ⟨obj :: ks.map (fun q => Value.ref q.2), []⟩) (hq : ∀ q ∈ ks, Sq0 s.heap q) (h : ∀ h', Zip0 s.heap.objs.size ks s.heap h' → Q (.ref (s.heap.objs.size + ks.length + 2)) { s with heap := h' }) :
    wpAny (model prog w) A (call (.type "zip") (ks.map fun q => Value.ref q.2)) Q E s := by
  refine callType_new F.called_zip (by decide) h1 h2 h3 F.entry_zip_new (meets_new ks h100) ⟨hq, fun h' z => ?_⟩
  exact ⟨⟨_, z.z, rfl⟩, h h' z⟩
theorem apart_made {n : Nat} {ks : List K2} (hl : ∀ q ∈ ks, @LT.lt Nat _ q.2 n) : Apart (n + ks.length + 2) (n + ks.length) (n + ks.length + 1) (made n ks) := by
  have lt : ∀ q ∈ made n ks, @LT.lt Nat _ q.2.2 n := fun q hq => hl _ (made_src ks n q hq)
  have ge : ∀ q ∈ made n ks, n ≤ q.2.1 ∧ @LT.lt Nat _ q.2.1 (n + ks.length) := made_ge ks n
  refine ⟨?_, ?_, ?_, made_nodup ks n, fun q hq e => ?_, fun q hq e => ?_, fun q hq e => ?_, fun q hq e => ?_, fun q hq e => ?_, fun q hq p hp e => ?_⟩
  · exact Nat.ne_of_lt (by omega)
  · exact Nat.ne_of_lt (by omega)
  · exact Nat.ne_of_lt (by omega)
  · have e : @Eq Nat q.2.1 _ := e
    have := ge q hq
    omega
  · have e : @Eq Nat q.2.1 _ := e
    have := ge q hq
    omega
  · have e : @Eq Nat q.2.1 _ := e
    have := ge q hq
    omega
  · have e : @Eq Nat q.2.2 _ := e
    have := lt q hq
    omega
  · have e : @Eq Nat q.2.2 _ := e
    have := lt q hq
    omega
  · have e : @Eq Nat q.2.2 _ := e
    have := lt q hq
    have := ge p hp
    omega
end
/-! ### the walk -/
def Sq (K : PySem.W.Frag) (H : Hp) (q : K2) (xs : List V) : Prop := match q with
  | (true, a) => SqL K H a xs
  | (false, a) => SqT K H a xs
/-- row i: an item of each -/
def Row (K : PySem.W.Frag) (H : Hp) (i : Nat) : List K2 → List V → Prop
  | [], [] => True
  | q :: r, x :: xs => (∃ ys, Sq K H q ys ∧ ys[i]? = some x) ∧ Row K H i r xs
  | _, _ => False
def Out (K : PySem.W.Frag) (H : Hp) (i : Nat) : List K2 → Prop
  | [] => False
  | q :: r => ∃ ys, Sq K H q ys ∧ (ys.length ≤ i ∨ i < ys.length ∧ Out K H i r)
def Itn (K : PySem.W.Frag) (ks : List K2) : It :=
  ⟨fun i H => ∃ xs, Row K H i ks xs, fun i H v H' => ∃ T xs, v = .ref T ∧ H T = none ∧ H' = upd H T (.tup xs) ∧ ∀ xs', Row K H i ks xs' → xs' = xs, fun i H => Out K H i ks⟩
section
variable {X : Cx} {pins : List (Addr × Obj)} {σ : L2.St} {H : Hp} {s : Shared}
theorem sq_at (I : Inv X pins σ H s) {q : K2} {xs : List V} (h : Sq X.K H q xs) : ∃ its : List Value, Vals xs its ∧ ∀ n, SqAt s.heap (q.1, n, q.2) its.toArray := by
  obtain ⟨b, a⟩ := q
  cases b
  · obtain ⟨its, r, p, _⟩ := I.tuple h
    exact ⟨its, r, fun _ => p⟩
  · obtain ⟨its, r, p, _⟩ := I.list h
    exact ⟨its, r, fun _ => p.isList⟩
theorem sq_inj (I : Inv X pins σ H s) {q : K2} {xs ys : List V} (h : Sq X.K H q xs) (h' : Sq X.K H q ys) : xs = ys := by
  obtain ⟨b, a⟩ := q
  cases b
  · exact I.tuple_inj h h'
  · exact I.list_inj h h'
theorem row_inj (I : Inv X pins σ H s) {i : Nat} : ∀ {ks : List K2} {xs ys : List V}, Row X.K H i ks xs → Row X.K H i ks ys → xs = ys := by
  intro ks
  induction ks with
  | nil =>
    intro xs ys h1 h2
    cases xs with
    | cons => exact h1.elim
    | nil =>
      cases ys with
      | cons => exact h2.elim
      | nil => rfl
  | cons q ks ih =>
    intro xs ys h1 h2
    cases xs with
    | nil => exact h1.elim
    | cons x xs =>
      cases ys with
      | nil => exact h2.elim
      | cons y ys =>
        obtain ⟨⟨u, a1, a2⟩, a3⟩ := h1
        obtain ⟨⟨v, b1, b2⟩, b3⟩ := h2
        rw [sq_inj I a1 b1, b2] at a2
        rw [Option.some.inj a2, ih a3 b3]
theorem ready_of (I : Inv X pins σ H s) {i : Nat} : ∀ {ks : List K2} {n : Nat} {xs : List V}, (∀ q ∈ made n ks, ItAt s.heap q i) → Row X.K H i ks xs → ∃ us, Vals xs us ∧ Ready s.heap i (made n ks) us := by
  intro ks
  induction ks with
  | nil =>
    intro n xs _ h
    cases xs with
    | cons => exact h.elim
    | nil => exact ⟨[], .nil, True.intro⟩
  | cons q ks ih =>
    intro n xs hi h
    cases xs with
    | nil => exact h.elim
    | cons x xs =>
      obtain ⟨b, l⟩ := q
      obtain ⟨⟨u, a1, a2⟩, a3⟩ := h
      obtain ⟨its, r, p⟩ := sq_at I a1
      obtain ⟨v, hv, rv⟩ := r.get a2
      obtain ⟨us, h1, h2⟩ := ih (n := n + 1) (fun q hq => hi q (List.mem_cons_of_mem _ hq)) a3
      exact ⟨v :: us, .cons rv h1, hi _ List.mem_cons_self, ⟨_, p n, by simpa using hv⟩, h2⟩
theorem short_of (I : Inv X pins σ H s) {i : Nat} : ∀ {ks : List K2} {n : Nat}, (∀ q ∈ made n ks, ItAt s.heap q i) → Out X.K H i ks → Short s.heap i (made n ks) := by
  intro ks
  induction ks with
  | nil =>
    intro n _ h
    exact h.elim
  | cons q ks ih =>
    intro n hi h
    obtain ⟨b, l⟩ := q
    obtain ⟨ys, a1, a2⟩ := h
    obtain ⟨its, r, p⟩ := sq_at I a1
    have hl := r.length
    refine ⟨hi _ List.mem_cons_self, _, p n, ?_⟩
    rcases a2 with a2 | ⟨a2, a3⟩
    · exact .inl (by simp; omega)
    · refine .inr ⟨⟨its[i]'(by omega), by simp⟩, ih (n := n + 1) (fun q hq => hi q (List.mem_cons_of_mem _ hq)) a3⟩
theorem row_len {K : PySem.W.Frag} {i : Nat} : ∀ {ks : List K2} {xs : List V}, Row K H i ks xs → xs.length = ks.length := by
  intro ks
  induction ks with
  | nil =>
    intro xs h
    cases xs with
    | nil => rfl
    | cons => exact h.elim
  | cons q ks ih =>
    intro xs h
    cases xs with
    | nil => exact h.elim
    | cons x xs => exact congrArg (· + 1) (ih h.2)
end
end Zn
namespace Zn
open PySem PySem.Spec PyProof.Rows L2
abbrev fpZ (n : Nat) (ks : List K2) : List Addr := (n + ks.length + 2) :: (n + ks.length) :: (n + ks.length + 1) :: (made n ks).map (·.2.1)
def tnZ (n : Nat) (ks : List K2) (i : Nat) (h : Heap) : Prop :=
  IsZip h (n + ks.length + 2) (n + ks.length) (n + ks.length + 1) .none ∧ h.get? (n + ks.length) = some (tupO ((made n ks).map fun q => Value.ref q.2.1).toArray) ∧ (∃ os : Array Value, os.size = ks.length ∧ h.get? (n + ks.length + 1) = some (tupO os)) ∧ ∀ q ∈ made n ks, ItAt h q i
theorem fpz_cases {n : Nat} {ks : List K2} {c : Addr} (h : c ∈ fpZ n ks) : c = n + ks.length + 2 ∨ c = n + ks.length ∨ c = n + ks.length + 1 ∨ ∃ q ∈ made n ks, c = q.2.1 := by
  rcases List.mem_cons.mp h with h | h
  · exact .inl h
  · rcases List.mem_cons.mp h with h | h
    · exact .inr (.inl h)
    · rcases List.mem_cons.mp h with h | h
      · exact .inr (.inr (.inl h))
      · obtain ⟨q, hq, e⟩ := List.mem_map.mp h
        exact .inr (.inr (.inr ⟨q, hq, e.symm⟩))
theorem fpz_it {n : Nat} {ks : List K2} {q : K3} (h : q ∈ made n ks) : q.2.1 ∈ fpZ n ks := List.mem_cons_of_mem _ (List.mem_cons_of_mem _ (List.mem_cons_of_mem _ (List.mem_map.mpr ⟨q, h, rfl⟩)))
theorem turnN {P : Program} {w : World} {K : PySem.W.Frag} {elts : List Expr} {kk : Nat} {tpos : Pos} {n : Nat} {ks : List K2} (hne : ks ≠ []) (h100 : ks.length ≤ 100) (hl : ∀ q ∈ ks, @LT.lt Nat _ q.2 n) :
    Turn P w K (.Tuple elts kk tpos) (Itn K ks) (fpZ n ks) (n + ks.length + 2) (tnZ n ks) := by
  have D := apart_made (n := n) (ks := ks) hl
  have hne' : made n ks ≠ [] := fun e => hne (List.eq_nil_of_length_eq_zero (by rw [← made_len ks n, e]; rfl))
  have pyn : ∀ {A : Around} {s : Shared} {E : Value → Shared → Prop} {Q : Option Value → Shared → Prop}, IsZip s.heap (n + ks.length + 2) (n + ks.length) (n + ks.length + 1) .none →
      wpAny (model P w) A.in1 (Builtin.«zip.__next__» ⟨[.ref (n + ks.length + 2)], []⟩) (fun fin s' => ∃ v, fin = .done (.ret v) ∧ Q (some v) s') (fun e s' => wpAny (model P w) A (isInstance e (.type "StopIteration") >>= fun b => if b = true then pure none else throw e) Q E s') s → wpAny (model P w) A (pyNext (.ref (n + ks.length + 2))) Q E s := by
    intro A s E Q hz h
    have hT : s.TypeIs (.ref (n + ks.length + 2)) "zip" := ⟨_, hz, rfl⟩
    unfold pyNext
    refine wpAny_bind (wpAny_attempt (wpAny_callSpecial?_slot (name := Str.ofString "__next__") hT F.slot_zip_next
      (wpAny_call_entry F.slot_zip_next hT F.entry_zip_next (wpAny_mono h (fun fin s' hf => ?_) fun e s' he => he) (F.args_zip_next_1 _))))
    obtain ⟨v, e, q⟩ := hf
    exact ⟨v, e, wpAny_pure q⟩
  refine ⟨List.mem_cons_self, ?_, ?_, ?_, ?_, ?_⟩
  · rintro i h ⟨hz, hTI, ⟨os, ho, hTO⟩, hi⟩ c hc
    rcases fpz_cases hc with rfl | rfl | rfl | ⟨q, hq, rfl⟩
    · exact ⟨_, hz, fun v z => nomatch z⟩
    · exact ⟨_, hTI, fun v z => nomatch z⟩
    · exact ⟨_, hTO, fun v z => nomatch z⟩
    · obtain ⟨o, e, vs, d⟩ := (hi q hq).some
      exact ⟨o, e, fun v z => by rw [d] at z; cases z⟩
  · rintro i h h' ⟨hz, hTI, ⟨os, ho, hTO⟩, hi⟩ k
    exact ⟨k _ List.mem_cons_self _ hz, k _ (List.mem_cons_of_mem _ List.mem_cons_self) _ hTI, ⟨os, ho, k _ (List.mem_cons_of_mem _ (List.mem_cons_of_mem _ List.mem_cons_self)) _ hTO⟩, fun q hq => (hi q hq).at' fun o e => k _ (fpz_it hq) o e⟩
  · intro X hP hw hK hc i pins s σ H E I hf st hg
    subst hP hw hK
    obtain ⟨hz, hTI, ⟨os, ho, hTO⟩, hi⟩ := st
    obtain ⟨xs, hrow⟩ := hg
    obtain ⟨us, rv, rd⟩ := ready_of I (n := n) hi hrow
    have hlx := row_len hrow
    have hlu : us.length = ks.length := by rw [← hlx]; exact rv.length.symm
    have hzl : @LT.lt Nat _ (n + ks.length + 2) s.heap.objs.size := Heap.lt_size hz
    refine pyn hz (next_item D hne' (by rw [ho]; exact h100) (by rw [ho, made_len]) hz hTI hTO rd fun h' z' TI' TO' i' T' sz' k' => ?_)
    refine ⟨_, rfl, wpAny_letOwnedTupleGo_zip (s := { s with heap := h' }) z' fun h2 z2 sb => ?_⟩
    have neZ : s.heap.objs.size ≠ n + ks.length + 2 := Nat.ne_of_gt hzl
    have hT2 : h2.get? s.heap.objs.size = some (tupO us.toArray) := (sb.2 _ neZ).trans T'
    have new : ObjOk X.prog X.w (upd H s.heap.objs.size (.tup xs)) h2 s.heap.objs.size (.tup xs) :=
      ⟨by rw [hlx]; exact Nat.le_trans h100 (by decide), us, rv, ⟨_, hT2, rfl, _, rfl⟩⟩
    have I1 : Inv X pins σ (upd H s.heap.objs.size (.tup xs)) { s with heap := h2 } :=
      I.turnedNew (t' := s.toks) (ch := fpZ n ks) (fun c o hb q => (sb.2 c (fun q' => hb (by rw [q']; exact List.mem_cons_self))).trans (k' c o (fun q' => hb (by rw [q']; exact List.mem_cons_self)) (fun q' => hb (by rw [q']; exact List.mem_cons_of_mem _ (List.mem_cons_of_mem _ List.mem_cons_self))) (fun p hp q' => hb (by rw [q']; exact fpz_it hp)) q)) hf (Nat.le_refl _) new
    refine ⟨.ref s.heap.objs.size, _, I1, rfl, ⟨_, xs, rfl, I.hok.fresh (Nat.le_refl _), rfl, fun xs' hx' => row_inj I hx' hrow⟩, ⟨z2, (sb.2 _ D.TIz).trans TI', ⟨us.toArray, by simpa using hlu, (sb.2 _ D.TOz).trans TO'⟩, fun q hq => (i' q hq).at' fun o e => (sb.2 _ (D.iz q hq)).trans e⟩, fun c hcm => ?_⟩
    have hlt : @LT.lt Nat _ c s.heap.objs.size := by
      rcases fpz_cases hcm with rfl | rfl | rfl | ⟨q, hq, rfl⟩
      · exact hzl
      · exact Heap.lt_size hTI
      · exact Heap.lt_size hTO
      · obtain ⟨o, e, _⟩ := (hi q hq).some
        exact Heap.lt_size e
    show upd H s.heap.objs.size (.tup xs) c = none
    rw [upd_ne (Nat.ne_of_lt hlt)]
    exact (hf c hcm).1
  · intro X hP hw hK hc i pins s σ H E I hf st hg
    subst hP hw hK
    obtain ⟨hz, hTI, ⟨os, ho, hTO⟩, hi⟩ := st
    refine pyn hz (next_end (I.ok.hd hc) D hne' (by rw [ho]; exact h100) hz hTI hTO (short_of I hi hg) fun h' e k he => ?_)
    obtain ⟨o, heo, hce⟩ := he
    refine wpAny_bind (wpAny_isInstance (T := "StopIteration") (b := true) ⟨o, heo, hce⟩ isSubtype_stop (wpAny_pure ⟨rfl, ?_⟩))
    exact I.turnedL (t' := s.toks) (ch := fpZ n ks) (fun c o hb q => k c o (fun q' => hb (by rw [q']; exact List.mem_cons_self)) (fun q' => hb (by rw [q']; exact List.mem_cons_of_mem _ (List.mem_cons_of_mem _ List.mem_cons_self))) (fun p hp q' => hb (by rw [q']; exact fpz_it hp)) q) hf
  · intro A i s Q E st h
    exact wpAny_pyIter_zip st.1 h

/-! ### zip(a, b, ..) as what is walked -/
def iZipN (K : PySem.W.Frag) (N : Nat) (ta : TA) : TI := fun σ H R => ta σ H fun vs H1 => ∃ ks : List K2, ks.length = N ∧ vs = ks.map (fun q => V.ref q.2) ∧ (∀ q ∈ ks, ∃ xs, Sq K H1 q xs) ∧ R (Itn K ks) H1
theorem vals_refs : ∀ {ks : List K2} {us : List Value}, Vals (ks.map fun q => V.ref q.2) us → us = ks.map fun q => Value.ref q.2 := by
  intro ks
  induction ks with
  | nil =>
    intro us h
    cases h
    rfl
  | cons q ks ih =>
    intro us h
    cases h with
    | cons a b =>
      cases a
      rw [ih b]
      rfl
section
variable {X : Cx} {pins : List (Addr × Obj)} {σ : L2.St} {H : Hp} {s : Shared}
theorem sq0_of (I : Inv X pins σ H s) {q : K2} {xs : List V} (h : Sq X.K H q xs) : Sq0 s.heap q := by
  obtain ⟨its, _, p⟩ := sq_at I h
  exact ⟨_, p 0⟩
theorem zip_it {ks : List K2} {R : It → Hp → Prop} {elts : List Expr} {kk : Nat} {tpos : Pos} {E : Value → Shared → Prop} (I : Inv X pins σ H s) (hne : ks ≠ []) (h100 : ks.length ≤ 100) (h1 : checkTypeCall "zip" ⟨ks.map (fun q => Value.ref q.2), []⟩ = pure ()) (h2 : checkBuiltinCall "zip.__new__" ⟨.type "zip" :: ks.map (fun q => Value.ref q.2), []⟩ = pure ())
    (h3 : ∀ obj, argsOk "object.__init__" ⟨obj :: ks.map (fun q => Value.ref q.2), []⟩) (hq : ∀ q ∈ ks, ∃ xs, Sq X.K H q xs) (q : R (Itn X.K ks) H) :
    wpAny (model X.prog X.w) X.A (call (.type "zip") (ks.map fun q => Value.ref q.2)) (fun v s1 => wpAny (model X.prog X.w) X.A (pyIter v) (PIE X pins σ (.Tuple elts kk tpos) R) E s1) E s := by
  have h0 : ∀ q ∈ ks, Sq0 s.heap q := fun q hm => by
    obtain ⟨xs, hx⟩ := hq q hm
    exact sq0_of I hx
  refine call_zipN h100 h1 h2 h3 h0 fun h' z => wpAny_pyIter_zip z.z ?_
  have I2 : Inv X pins σ H { s with heap := h' } := I.kept (t' := s.toks) z.keep
  refine ⟨_, fpZ s.heap.objs.size ks, _, _, H, rfl, I2, turnN hne h100 fun q hm => (h0 q hm).lt, ⟨z.z, z.ti, ⟨_, by simp, z.to⟩, z.its⟩, fun c hc => ?_, q⟩
  have hle : @LE.le Nat _ s.heap.objs.size c := by
    rcases fpz_cases hc with rfl | rfl | rfl | ⟨q, hq, rfl⟩
    · show s.heap.objs.size ≤ s.heap.objs.size + ks.length + 2
      omega
    · show s.heap.objs.size ≤ s.heap.objs.size + ks.length
      omega
    · show s.heap.objs.size ≤ s.heap.objs.size + ks.length + 1
      omega
    · exact (made_ge ks _ q hq).1
  exact I.fpOk hle (I.hok.fresh hle)
end
theorem init4 (a b c d : Value) : argsOk "object.__init__" ⟨[a, b, c, d], []⟩ := by
  unfold argsOk; rw [signature?_of (id := "object.__init__") (n := ['_', '_', 't', 'i', 'n', 'i', '_', '_']) (o := ['t', 'c', 'e', 'j', 'b', 'o']) (by kernel_rfl) PySem.F.owner_object]; kernel_rfl
theorem init5 (a b c d e : Value) : argsOk "object.__init__" ⟨[a, b, c, d, e], []⟩ := by
  unfold argsOk; rw [signature?_of (id := "object.__init__") (n := ['_', '_', 't', 'i', 'n', 'i', '_', '_']) (o := ['t', 'c', 'e', 'j', 'b', 'o']) (by kernel_rfl) PySem.F.owner_object]; kernel_rfl
theorem tc3 (a b c : Value) : checkTypeCall "zip" ⟨[a, b, c], []⟩ = pure () := by kernel_rfl
theorem tc4 (a b c d : Value) : checkTypeCall "zip" ⟨[a, b, c, d], []⟩ = pure () := by kernel_rfl
theorem nc3 (a b c : Value) : checkBuiltinCall "zip.__new__" ⟨[.type "zip", a, b, c], []⟩ = pure () := by kernel_rfl
theorem nc4 (a b c d : Value) : checkBuiltinCall "zip.__new__" ⟨[.type "zip", a, b, c, d], []⟩ = pure () := by kernel_rfl
section
variable {X : Cx} {K : PySem.W.Frag} {ta : TA} {p pos tpos : Pos} {elts : List Expr} {kk : Nat} {e1 e2 e3 e4 : Expr}
theorem zip2 (hK : X.K = K) (hg : Gl X "zip") (hm : X.mg "zip" = none) (ha : PA X [e1, e2] ta)
    (hs : starEach [e1, e2] X.env = (false, eval e1 X.env) :: starEach [e2] X.env := by rfl) (hpl : (backTo pos (starEach [e2] X.env)).any (·.1) = false := by rfl) :
    PI X (.Tuple elts kk tpos) (.Call (.Name "zip" p) [e1, e2] [] pos) (iZipN K 2 ta) := by
  subst hK
  refine ⟨fun pins s σ H R I h => ?_⟩
  refine Call_ (ld_blt I hg hm PyProof.Rows.boot_zip (PyProof.Rows.callWith_type1 (thn (ha.run pos pins s σ H _ I h) fun us s1 ⟨vs, H1, I1, r1, q1⟩ => ?_) hs hpl))
  obtain ⟨ks, hl, rfl, hq, q⟩ := q1
  rw [vals_refs r1]
  match ks, hl with
  | [(b1, a1), (b2, a2)], _ => exact zip_it I1 (fun z => nomatch z) (by show 2 ≤ 100; decide) (F.typeCall_zip_2 _ _) (F.newCall_zip_2 _ _) (fun o => F.args_object_init_3 o _ _) hq q
theorem zip3 (hK : X.K = K) (hg : Gl X "zip") (hm : X.mg "zip" = none) (ha : PA X [e1, e2, e3] ta)
    (hs : starEach [e1, e2, e3] X.env = (false, eval e1 X.env) :: starEach [e2, e3] X.env := by rfl) (hpl : (backTo pos (starEach [e2, e3] X.env)).any (·.1) = false := by rfl) :
    PI X (.Tuple elts kk tpos) (.Call (.Name "zip" p) [e1, e2, e3] [] pos) (iZipN K 3 ta) := by
  subst hK
  refine ⟨fun pins s σ H R I h => ?_⟩
  refine Call_ (ld_blt I hg hm PyProof.Rows.boot_zip (PyProof.Rows.callWith_type1 (thn (ha.run pos pins s σ H _ I h) fun us s1 ⟨vs, H1, I1, r1, q1⟩ => ?_) hs hpl))
  obtain ⟨ks, hl, rfl, hq, q⟩ := q1
  rw [vals_refs r1]
  match ks, hl with
  | [(b1, a1), (b2, a2), (b3, a3)], _ => exact zip_it I1 (fun z => nomatch z) (by show 3 ≤ 100; decide) (tc3 _ _ _) (nc3 _ _ _) (fun o => init4 o _ _ _) hq q
theorem zip4 (hK : X.K = K) (hg : Gl X "zip") (hm : X.mg "zip" = none) (ha : PA X [e1, e2, e3, e4] ta)
    (hs : starEach [e1, e2, e3, e4] X.env = (false, eval e1 X.env) :: starEach [e2, e3, e4] X.env := by rfl) (hpl : (backTo pos (starEach [e2, e3, e4] X.env)).any (·.1) = false := by rfl) :
    PI X (.Tuple elts kk tpos) (.Call (.Name "zip" p) [e1, e2, e3, e4] [] pos) (iZipN K 4 ta) := by
  subst hK
  refine ⟨fun pins s σ H R I h => ?_⟩
  refine Call_ (ld_blt I hg hm PyProof.Rows.boot_zip (PyProof.Rows.callWith_type1 (thn (ha.run pos pins s σ H _ I h) fun us s1 ⟨vs, H1, I1, r1, q1⟩ => ?_) hs hpl))
  obtain ⟨ks, hl, rfl, hq, q⟩ := q1
  rw [vals_refs r1]
  match ks, hl with
  | [(b1, a1), (b2, a2), (b3, a3), (b4, a4)], _ => exact zip_it I1 (fun z => nomatch z) (by show 4 ≤ 100; decide) (tc4 _ _ _ _) (nc4 _ _ _ _) (fun o => init5 o _ _ _ _) hq q
end
/-! ### loops over columns -/
def SqAll (K : PySem.W.Frag) (H : Hp) : List K2 → List (List V) → Prop
  | [], [] => True
  | q :: r, y :: ys => Sq K H q y ∧ SqAll K H r ys
  | _, _ => False
def rowAt (i : Nat) (yss : List (List V)) : List V := yss.map fun ys => ys.getD i .non
theorem row_at {K : PySem.W.Frag} {H : Hp} {i : Nat} : ∀ {ks : List K2} {yss : List (List V)}, SqAll K H ks yss → (∀ ys ∈ yss, i < ys.length) → Row K H i ks (rowAt i yss) := by
  intro ks
  induction ks with
  | nil =>
    intro yss h _
    cases yss with
    | nil => exact True.intro
    | cons => exact h.elim
  | cons q ks ih =>
    intro yss h hl
    cases yss with
    | nil => exact h.elim
    | cons y yss =>
      refine ⟨⟨y, h.1, ?_⟩, ih h.2 fun ys hy => hl ys (List.mem_cons_of_mem _ hy)⟩
      show y[i]? = some (y.getD i V.non)
      rw [List.getD_eq_getElem?_getD, List.getElem?_eq_getElem (hl y List.mem_cons_self)]
      rfl
theorem out_at {K : PySem.W.Frag} {H : Hp} {n : Nat} : ∀ {ks : List K2} {yss : List (List V)}, SqAll K H ks yss → (∀ ys ∈ yss, n ≤ ys.length) → (∃ ys ∈ yss, ys.length = n) → Out K H n ks := by
  intro ks
  induction ks with
  | nil =>
    intro yss h _ hm
    cases yss with
    | nil =>
      obtain ⟨_, z, _⟩ := hm
      cases z
    | cons => exact h.elim
  | cons q ks ih =>
    intro yss h hl hm
    cases yss with
    | nil => exact h.elim
    | cons y yss =>
      refine ⟨y, h.1, ?_⟩
      by_cases hy : y.length ≤ n
      · exact .inl hy
      · refine .inr ⟨by omega, ih h.2 (fun ys hy => hl ys (List.mem_cons_of_mem _ hy)) ?_⟩
        obtain ⟨z, hz, e⟩ := hm
        rcases List.mem_cons.mp hz with rfl | hz
        · omega
        · exact ⟨z, hz, e⟩
theorem for_zipN {K : PySem.W.Frag} {ks : List K2} {yss : List (List V)} {n : Nat} {g : TG} {tb : TS} {D : Ends} {σ : L2.St} {H : Hp} (hlen : ∀ ys ∈ yss, n ≤ ys.length) (hmin : ∃ ys ∈ yss, ys.length = n) (Pv : Nat → L2.St → Hp → Prop) (h0 : Pv 0 σ H) (hq : ∀ i σ H, Pv i σ H → SqAll K H ks yss)
    (hs : ∀ (i : Nat) (T : Addr) (σ : L2.St) (H : Hp), i < n → Pv i σ H → H T = none → g (.ref T) σ (upd H T (.tup (rowAt i yss))) fun σ2 H2 => tb { D with nx := Pv (i + 1), ct := Pv (i + 1), bk := D.nx } σ2 H2) (hd : ∀ σ H, Pv n σ H → D.nx σ H) :
    ∃ W : Nat → Nat → L2.St → Hp → Prop, (∃ m, W 0 m σ H) ∧ ∀ i m σ H, W i m σ H →
      ((Itn K ks).stop i H ∧ D.nx σ H) ∨ ((Itn K ks).go i H ∧ ∃ N : L2.St → Hp → Prop, (∀ σ' H', N σ' H' → ∃ m', m' < m ∧ W (i + 1) m' σ' H') ∧ ∀ v H', (Itn K ks).yld i H v H' → g v σ H' fun σ2 H2 => tb { D with nx := N, ct := N, bk := D.nx } σ2 H2) := by
  refine ⟨fun i m σ H => m = n - i ∧ i ≤ n ∧ Pv i σ H, ⟨n, rfl, Nat.zero_le _, h0⟩, fun i m σ H ⟨em, hi, p⟩ => ?_⟩
  have hS := hq i σ H p
  by_cases hlt : i < n
  · have hrow := row_at hS fun ys hy => Nat.lt_of_lt_of_le hlt (hlen ys hy)
    refine .inr ⟨⟨_, hrow⟩, Pv (i + 1), fun σ' H' p' => ⟨n - (i + 1), by omega, rfl, hlt, p'⟩, fun v H' y => ?_⟩
    obtain ⟨T, xs, rfl, hT, rfl, hx⟩ := y
    rw [← hx _ hrow]
    exact hs i T σ H hlt p hT
  · have e : i = n := by omega
    subst e
    exact .inl ⟨out_at hS hlen hmin, hd σ H p⟩
end Zn
namespace Fr
open PySem PySem.Spec PyProof.Rows L2
/-- a comprehension without a test: one item for each -/
theorem lc_all {K : PySem.W.Frag} {J : It} {n : Nat} {G : Hp → Prop} {Y : Nat → Hp → V → Hp → Prop} (w : Walk J n G Y) {g : TG} {tt : TT} {te : TE} {vs : List Nat} {σ : L2.St} {H1 : Hp} {D : Addr} {Qd : Hp → Prop}
    (hD : H1 D = none) (hn : n ≤ 100000) (hG : ∀ H', Same H1 H' → G H') (S : Nat → PyData → Prop) (hS : ∀ i d, S i d → noL d = true)
    (hs : ∀ i x H' H'' (A : V → Hp → Prop) (B : Hp → Prop), i < n → Same H1 H' → Y i H' x H'' → (∀ y d H4, S i d → Same H' H4 → Dp K H4 y d → A y H4) →
      g x (wipe σ vs) H'' fun σ2 H2 => wipe σ2 vs = wipe σ vs ∧ tt σ2 H2 fun b H3 => if b = true then te σ2 H3 A else B H3)
    (hd : ∀ H' ys ds, Same H1 H' → H' D = some (.lst ys) → DpAll K H' ys ds → ds.length = n → (∀ i d, ds[i]? = some d → S i d) → Qd H') :
    ∃ W : Nat → Nat → Hp → Prop, (∃ m, W 0 m (upd H1 D (.lst []))) ∧ ∀ i m H, W i m H →
      (J.stop i H ∧ Qd H) ∨ (J.go i H ∧ ∃ Nx : Hp → Prop, (∀ H', Nx H' → ∃ m', m' < m ∧ W (i + 1) m' H') ∧ ∀ x H', J.yld i H x H' → g x (wipe σ vs) H' fun σ2 H2 => wipe σ2 vs = wipe σ vs ∧ tt σ2 H2 fun b H3 =>
        if b = true then te σ2 H3 fun y H4 => ∃ acc, H4 D = some (.lst acc) ∧ acc.length < sizeLine ∧ Nx (upd H4 D (.lst (acc ++ [y]))) else Nx H3) := by
  refine lc_it w (fun i H' => Same H1 H' ∧ i ≤ n ∧ ∃ ys ds, H' D = some (.lst ys) ∧ DpAll K H' ys ds ∧ ds.length = i ∧ ∀ j d, ds[j]? = some d → S j d) ⟨same_new hD, Nat.zero_le _, [], [], upd_same, .nil, rfl, fun j d h => by simp at h⟩ (fun i H' _ p => hG H' p.1) (fun i x H' H'' hi p hY => ?_) (fun H' p => ?_)
  · obtain ⟨sm, hin, ys, ds, hy, hA, hl, hAS⟩ := p
    refine hs i x H' H'' _ _ hi sm hY (fun y d H4 hSd s4 hdp => ?_)
    refine ⟨ys, s4 _ _ hy, ?_, ?_, by omega, ys ++ [y], ds ++ [d], upd_same, ?_, ?_, ?_⟩
    · have h2 := dps_len hA
      exact Nat.lt_of_lt_of_le (show ys.length < 100000 by omega) (by decide)
    · exact same_put (sm.trans s4) hD
    · exact dps_app (dps_upd (s4 _ _ hy) (noLs_of fun e he => by
        obtain ⟨j, hj⟩ := List.mem_iff_getElem?.mp he
        exact hS j e (hAS j e hj)) (same_dps s4 hA)) (.cons (dp_upd (s4 _ _ hy) (hS i d hSd) hdp) .nil)
    · rw [List.length_append, hl]
      rfl
    · intro j d' e
      by_cases hj : j < ds.length
      · rw [List.getElem?_append_left hj] at e
        exact hAS j d' e
      · rw [List.getElem?_append_right (by omega)] at e
        have hj2 : j - ds.length = 0 := by
          by_cases z : j - ds.length = 0
          · exact z
          · rw [List.getElem?_eq_none (by simp; omega)] at e
            cases e
        rw [hj2] at e
        cases e
        have : j = i := by omega
        rw [this]
        exact hSd
  · obtain ⟨sm, _, ys, ds, hy, hA, hl, hAS⟩ := p
    exact hd H' ys ds sm hy hA hl hAS
end Fr
namespace Fr
open PySem PySem.Spec PyProof.Rows L2
/-! ### written data -/
def tDat (K : PySem.W.Frag) (d : PyData) : TE := fun _ H Q => ∀ v H', Same H H' → Dp K H' v d → Q v H'
def tDats (K : PySem.W.Frag) (ds : List PyData) : TA := fun _ H Q => ∀ vs H', Same H H' → DpAll K H' vs ds → Q vs H'
theorem PE.imp {X : Cx} {e : Expr} {t t' : TE} (h : PE X e t) (i : ∀ σ H Q, t' σ H Q → t σ H Q) : PE X e t' := ⟨fun pins s σ H Q I q => h.run pins s σ H Q I (i σ H Q q)⟩
theorem PA.imp {X : Cx} {es : List Expr} {t t' : TA} (h : PA X es t) (i : ∀ σ H Q, t' σ H Q → t σ H Q) : PA X es t' := ⟨fun pos pins s σ H Q I q => h.run pos pins s σ H Q I (i σ H Q q)⟩
section
variable {X : Cx} {K : PySem.W.Frag} {pos : Pos} {j : Nat}
theorem dl_int {i : Int} : PE X (.Constant (.int i) j pos) (tDat K (.int i)) := PE.imp pe_int fun σ H Q q => q _ H (Same.refl H) (.int i)
theorem dl_neg {i : Int} {p : Pos} : PE X (.UnaryOp .USub (.Constant (.int i) j p) pos) (tDat K (.int (-i))) := PE.imp (pe_un un_neg pe_int) fun σ H Q q => ⟨i, rfl, q _ H (Same.refl H) (.int (-i))⟩
theorem dl_bl {b : Bool} : PE X (.Constant (.bool b) j pos) (tDat K (.bool b)) := PE.imp pe_bl fun σ H Q q => q _ H (Same.refl H) (.bl b)
theorem dl_non : PE X (.Constant .none j pos) (tDat K .none) := PE.imp pe_non fun σ H Q q => q _ H (Same.refl H) .non
theorem dl_str {x : Str} : PE X (.Constant (.str x) j pos) (tDat K (.str x)) := PE.imp pe_str fun σ H Q q => q _ H (Same.refl H) (.str x)
theorem dl_nil : PA X [] (tDats K []) := PA.imp pa_nil fun σ H Q q => q [] H (Same.refl H) .nil
theorem dl_cons {e : Expr} {es : List Expr} {d : PyData} {ds : List PyData} (h : PE X e (tDat K d)) (t : PA X es (tDats K ds)) (hs : starEach (e :: es) X.env = (false, eval e X.env) :: starEach es X.env := by rfl) : PA X (e :: es) (tDats K (d :: ds)) :=
  PA.imp (pa_cons h t hs) fun σ H Q q v H1 s1 h1 vs H2 s2 h2 => q (v :: vs) H2 (s1.trans s2) (.cons (same_dp s2 h1) h2)
theorem dl_tup {es : List Expr} {ds : List PyData} {x1 : Nat} (hl : ds.length ≤ 1000) (h : PA X es (tDats K ds)) : PE X (.Tuple es x1 pos) (tDat K (.tuple ds)) :=
  PE.imp (pe_tup h) fun σ H Q q vs H1 s1 h1 => ⟨by rw [dps_len h1]; exact Nat.le_trans hl (by decide), fun p np => q (.ref p) _ (s1.trans (same_new np)) (.tup (SqT.of upd_same) (same_dps (same_new np) h1))⟩
theorem dl_lst {es : List Expr} {ds : List PyData} (hl : ds.length ≤ 1000) (h : PA X es (tDats K ds)) : PE X (.List es pos) (tDat K (.list ds)) :=
  PE.imp (pe_lst h) fun σ H Q q vs H1 s1 h1 => ⟨by rw [dps_len h1]; exact Nat.le_trans hl (by decide), fun p np => q (.ref p) _ (s1.trans (same_new np)) (.lst (SqL.of upd_same) (same_dps (same_new np) h1))⟩
end
/-! ### zip, walked -/
theorem same_sqAll {K : PySem.W.Frag} {H H' : Hp} (s : Same H H') : ∀ {ks : List Zn.K2} {yss : List (List V)}, Zn.SqAll K H ks yss → Zn.SqAll K H' ks yss := by
  intro ks
  induction ks with
  | nil =>
    intro yss h
    cases yss with
    | nil => exact True.intro
    | cons => exact h.elim
  | cons q ks ih =>
    intro yss h
    cases yss with
    | nil => exact h.elim
    | cons y yss =>
      refine ⟨?_, ih h.2⟩
      obtain ⟨b, a⟩ := q
      cases b
      · exact same_tup s h.1
      · exact s.seq h.1
theorem walk_zipN {K : PySem.W.Frag} {ks : List Zn.K2} {yss : List (List V)} {n : Nat} (hlen : ∀ ys ∈ yss, n ≤ ys.length) (hmin : ∃ ys ∈ yss, ys.length = n) :
    Walk (Zn.Itn K ks) n (fun H => Zn.SqAll K H ks yss) (fun i H x H' => ∃ T, x = .ref T ∧ H T = none ∧ H' = upd H T (.tup (Zn.rowAt i yss))) := by
  refine ⟨fun i H hi q => ⟨_, Zn.row_at q fun ys hy => Nat.lt_of_lt_of_le hi (hlen ys hy)⟩, fun H q => Zn.out_at q hlen hmin, fun i H x H' hi q y => ?_⟩
  obtain ⟨T, xs, rfl, hT, rfl, hx⟩ := y
  refine ⟨T, rfl, hT, ?_⟩
  rw [← hx _ (Zn.row_at q fun ys hy => Nat.lt_of_lt_of_le hi (hlen ys hy))]
end Fr
namespace Fr
open PySem PySem.Spec PyProof.Rows L2
/-! ### a list of one's own that grows -/
theorem app_dp {K : PySem.W.Frag} {H : Hp} {o : Addr} {ys : List V} {ds : List PyData} {y : V} {d : PyData} (ho : H o = some (.lst ys)) (hA : DpAll K H ys ds) (hn : noLs ds = true) (hd : Dp K H y d) (hnd : noL d = true) :
    DpAll K (upd H o (.lst (ys ++ [y]))) (ys ++ [y]) (ds ++ [d]) :=
  dps_app (dps_upd ho hn hA) (.cons (dp_upd ho hnd hd) .nil)
theorem noL_opt (x : Option Nat) : noL (optD x) = true := by cases x <;> rfl
theorem noLs_nats (ns : List Nat) : noLs (ns.map nD) = true := noLs_of fun d hd => by
  obtain ⟨n, _, rfl⟩ := List.mem_map.mp hd
  rfl
theorem cut_take (xs : List V) (i : Nat) : cutV xs none (some (i : Int)) = xs.take i := by
  unfold cutV
  rw [show HT.sIx xs.length xs.length (some (i : Int)) = min i xs.length from HT.sIx_nat xs.length xs.length i, HT.sIx_none]
  rw [List.drop_zero, Nat.sub_zero]
  rcases Nat.le_total i xs.length with h | h
  · rw [Nat.min_eq_left h]
  · rw [Nat.min_eq_right h, List.take_of_length_le (Nat.le_refl _), List.take_of_length_le h]
/-- the least of a list -/
theorem min_int {as : List Nat} {m : Int} (hm : m ∈ as.map fun (x : Nat) => (x : Int)) (hle : ∀ y, y ∈ (as.map fun (x : Nat) => (x : Int)) → m ≤ y) : ∃ k : Nat, m = k ∧ as.min? = some k := by
  obtain ⟨k, hk, rfl⟩ := List.mem_map.mp hm
  refine ⟨k, rfl, ?_⟩
  rw [List.min?_eq_some_iff]
  refine ⟨hk, fun y hy => ?_⟩
  have := hle (y : Int) (List.mem_map.mpr ⟨y, hy, rfl⟩)
  omega
end Fr
namespace Fr
open PySem PySem.Spec PyProof.Rows L2
theorem opNotBl {X : Cx} : OpR X (compareOp .IsNot) (fun x y H Q => ∃ a b, x = .bl a ∧ y = .bl b ∧ Q (.bl (!decide (a = b))) H) := op_isnot_bl
end Fr
namespace Zn
open PySem PySem.Spec PyProof.Rows L2
open AutoSeq1 (wpAny_loadPart')
/-! ### enumerate of a tuple -/
theorem meets_enumT (l : Addr) (items : Array Value) (n : Nat) (dct : Option Addr) (sl : Array (Option Value)) :
    Meets (Builtin.«enumerate.__new__» ⟨[.type "enumerate", .ref l], []⟩) (fun _ R s => s.heap.get? l = some { cls := .type "tuple", dict := dct, data := .seq items n, slots := sl } ∧
      R (.ok (.ret (.ref (s.heap.push { cls := .type "tuple_iterator", data := .fields #[.ref l, .int 0 0] }).objs.size)))
        { s with heap := (s.heap.push { cls := .type "tuple_iterator", data := .fields #[.ref l, .int 0 0] }).push { cls := .type "enumerate", data := .fields #[.none, .bool false, .ref s.heap.objs.size, rawInt 0, .none, .none] } }) :=
  .of_wp fun prog w A R s h => by
    obtain ⟨hp, g, d, tk, os⟩ := s; obtain ⟨hl, h⟩ := h
    have hsub := sub_enumerate
    have hL : Heap.IsTuple (Shared.heap ⟨hp, g, d, tk, os⟩) l items := ⟨_, hl, rfl, n, rfl⟩
    wp_walk using wpAny_loadPart' hl
    refine wpAny_stack_any fun st => wpAny_pure ?_
    split
    · rename_i c _ _ _ _ _
      cases (c == Value.type "enumerate")
      · wp_walk using wpAny_loadPart' hl, wpAny_pyIter_tuple hL
        exact ⟨_, rfl, h⟩
      · wp_walk using wpAny_loadPart' hl, wpAny_pyIter_tuple hL
        exact ⟨_, rfl, h⟩
    · wp_walk using wpAny_loadPart' hl, wpAny_pyIter_tuple hL
      exact ⟨_, rfl, h⟩
theorem call_enumT {prog : Program} {w : World} {A : Around} {E : Value → Shared → Prop} {s : Shared} {l : Addr} {items : Array Value} {Q : Value → Shared → Prop} (hL : s.heap.IsTuple l items)
    (h : ∀ h', IsEnum h' (s.heap.objs.size + 1) s.heap.objs.size 0 .none → h'.IsTupleIter s.heap.objs.size l 0 → h'.objs.size = s.heap.objs.size + 2 →
      (∀ b o, s.heap.get? b = some o → h'.get? b = some o) → Q (.ref (s.heap.objs.size + 1)) { s with heap := h' }) :
    wpAny (model prog w) A (call (.type "enumerate") [.ref l]) Q E s := by
  obtain ⟨⟨c, dct, dt, sl⟩, hl, hc, n, hd⟩ := hL
  replace hc : c = .type "tuple" := hc
  replace hd : dt = .seq items n := hd
  subst hc hd
  refine callType_new F.called_enumerate (by decide) (F.typeCall_enumerate_1 _) (F.newCall_enumerate_1 _) (fun obj => F.args_object_init_2 obj _) F.entry_enumerate_new
    (meets_enumT l items n dct sl) ⟨hl, ?_⟩
  have hz : (s.heap.push { cls := .type "tuple_iterator", data := .fields #[.ref l, .int 0 0] }).objs.size = s.heap.objs.size + 1 := Heap.size_push ..
  show _ ∧ _
  rw [hz]
  have he : IsEnum ((s.heap.push { cls := .type "tuple_iterator", data := .fields #[.ref l, .int 0 0] }).push
      { cls := .type "enumerate", data := .fields #[.none, .bool false, .ref s.heap.objs.size, rawInt 0, .none, .none] }) (s.heap.objs.size + 1) s.heap.objs.size 0 .none := by
    have := Heap.get?_push_size (s.heap.push { cls := .type "tuple_iterator", data := .fields #[.ref l, .int 0 0] })
      (o := { cls := .type "enumerate", data := .fields #[.none, .bool false, .ref s.heap.objs.size, rawInt 0, .none, .none] }) rfl
    rw [hz] at this; exact this
  refine ⟨⟨_, he, rfl⟩, h _ he ⟨_, Heap.get?_push_of_some _ (Heap.get?_push_size _ rfl), rfl, rfl⟩ (by rw [Heap.size_push, hz]) fun b o x => Heap.get?_push_of_some _ (Heap.get?_push_of_some _ x)⟩
/-- the tuple at a, each item in a new pair -/
def IteT (K : PySem.W.Frag) (a : Addr) : It :=
  ⟨fun i H => ∃ (xs : List V) (x : V), SqT K H a xs ∧ xs[i]? = some x, fun i H v H' => ∃ T x, v = .ref T ∧ H T = none ∧ H' = upd H T (.tup [.int (i : Nat), x]) ∧ ∀ xs, SqT K H a xs → xs[i]? = some x, fun i H => ∃ xs : List V, SqT K H a xs ∧ xs.length = i⟩
theorem tup_inj {X : Cx} {pins : List (Addr × Obj)} {σ : L2.St} {H : Hp} {s : Shared} (I : Inv X pins σ H s) {a : Addr} {xs ys : List V} (h : SqT X.K H a xs) (h' : SqT X.K H a ys) : xs = ys := sq_inj I (q := (false, a)) h h'
theorem turn_enumT {P : Program} {w : World} {K : PySem.W.Frag} {elts : List Expr} {kk : Nat} {tpos : Pos} (a e it : Addr) (hai : a ≠ it) (hea : e ≠ a) :
    Turn P w K (.Tuple elts kk tpos) (IteT K a) [e, it] e (fun i h => (∃ old, IsEnum h e it ((i : Nat) : Int) old) ∧ h.IsTupleIter it a i ∧ e ≠ it) where
  mem := by simp
  obj := fun i h st b hb => by
    obtain ⟨⟨old, he⟩, ⟨o, ho, hc, hd⟩, _⟩ := st
    have e' : b = e ∨ b = it := by simpa using hb
    rcases e' with z | z
    · rw [z]; exact ⟨_, he, fun v q => nomatch q⟩
    · rw [z]; exact ⟨o, ho, fun v q => by rw [hd] at q; cases q⟩
  keep := fun i h h' st k => let ⟨⟨old, he⟩, hi, hne⟩ := st; ⟨⟨old, k e (by simp) _ he⟩, hi.at fun o q => k it (by simp) o q, hne⟩
  item := by
    intro X hP hw hK hc i pins s σ H E I hf st hg
    subst hP hw hK
    obtain ⟨⟨old, he⟩, hit, hne⟩ := st
    obtain ⟨xs, x, hq, hx⟩ := hg
    obtain ⟨its, rv, p, hz⟩ := I.tuple hq
    obtain ⟨u, hu, ru⟩ := rv.get hx
    have hlt : i < its.toArray.size := by
      have := (List.getElem?_eq_some_iff.mp hu).1
      simpa using this
    have hel : e < s.heap.objs.size := Heap.lt_size he
    have hil : it < s.heap.objs.size := by obtain ⟨_, q, _⟩ := hit; exact Heap.lt_size q
    refine wpAny_pyNext_enum_itemD (Draws.tuple (A := X.A.in1) (I.ok.hd hc) it a hai its.toArray) he ⟨hit, p⟩ hlt hne (by simp [hne, hea]) fun x' h' tk hx' ho hit' hT hsz hk => ?_
    have ex : x' = u := by
      rw [show its.toArray[i]? = some u by simpa using hu] at hx'
      exact (Option.some.inj hx').symm
    subst ex
    refine ⟨_, rfl, wpAny_letOwnedTupleGo_enum (s := { s with heap := h', toks := tk + 1 }) ho fun h'' he' sb => ?_⟩
    have hT2 : h''.get? s.heap.objs.size = some { cls := .type "tuple", data := .seq #[.int i tk, x'] } := (sb.2 _ (Nat.ne_of_gt hel)).trans hT
    have new : ObjOk X.prog X.w (upd H s.heap.objs.size (.tup [.int (i : Nat), x])) h'' s.heap.objs.size (.tup [.int (i : Nat), x]) :=
      ⟨by show 2 ≤ sizeLine; decide, [.int i tk, x'], .cons ⟨_, rfl⟩ (.cons ru .nil), ⟨_, hT2, rfl, _, rfl⟩⟩
    have I1 : Inv X pins σ (upd H s.heap.objs.size (.tup [.int (i : Nat), x])) { s with heap := h'', toks := tk + 1 } :=
      I.turnedNew (ch := [e, it]) (fun b ob hb q => (sb.2 b (fun z => hb (by simp [z]))).trans (hk b ob (fun z => hb (by simp [z])) (fun z => hb (by simp [z])) q)) hf (Nat.le_refl _) new
    refine ⟨.ref s.heap.objs.size, _, I1, rfl, ⟨_, x, rfl, I.hok.fresh (Nat.le_refl _), rfl, fun ys hy => by rw [tup_inj I hy hq]; exact hx⟩, ⟨⟨x', ?_⟩, hit'.1.at fun o q => (sb.2 it (Ne.symm hne)).trans q, hne⟩, fun b hb => ?_⟩
    · have e1 : ((i + 1 : Nat) : Int) = (i : Int) + 1 := by omega
      rw [e1]; exact he'
    · have hb' : b < s.heap.objs.size := by
        have e' : b = e ∨ b = it := by simpa using hb
        rcases e' with z | z
        · rw [z]; exact hel
        · rw [z]; exact hil
      rw [upd_ne (Nat.ne_of_lt hb')]
      exact (hf b hb).1
  done := by
    intro X hP hw hK hc i pins s σ H E I hf st hg
    subst hP hw hK
    obtain ⟨⟨old, he⟩, hit, hne⟩ := st
    obtain ⟨xs, hq, hx⟩ := hg
    obtain ⟨its, rv, p, hz⟩ := I.tuple hq
    obtain ⟨f0, f1, f2, f3, f4, f5⟩ := hf it (by simp)
    have hl : its.toArray.size = i := by
      have := rv.length
      simp only [List.size_toArray]
      omega
    exact wpAny_pyNext_enum_endD (Draws.tuple (A := X.A.in1) (I.ok.hd hc) it a hai its.toArray) he (by rw [hl]; exact ⟨hit, p⟩) fun h' eb => ⟨rfl, I.turned (t' := s.toks) (fun b o hb q => eb b o hb q) f0 f1 f3 f4 f5⟩
  self := fun A i s Q E st h => let ⟨⟨_, he⟩, _⟩ := st; wpAny_pyIter_enum he h
def iEnumT (K : PySem.W.Frag) (ta : TA) : TI := fun σ H R => ta σ H fun vs H1 => ∃ a xs, vs = [.ref a] ∧ SqT K H1 a xs ∧ R (IteT K a) H1
theorem piET {X : Cx} {K : PySem.W.Frag} {e : Expr} {ta : TA} {p pos tpos : Pos} {elts : List Expr} {kk : Nat} (hK : X.K = K) (hg : Gl X "enumerate") (hm : X.mg "enumerate" = none) (ha : PA X [e] ta) (hs : starEach [e] X.env = [(false, eval e X.env)] := by rfl) :
    PI X (.Tuple elts kk tpos) (.Call (.Name "enumerate" p) [e] [] pos) (iEnumT K ta) := by
  subst hK
  refine ⟨fun pins s σ H R I h => ?_⟩
  refine Call_ (ld_blt I hg hm boot_enumerate (PyProof.Rows.callWith_type1 (thn (ha.run pos pins s σ H _ I h) fun us s1 ⟨vs, H1, I1, r1, q1⟩ => ?_) hs rfl))
  obtain ⟨a, xs, ex, hq, q⟩ := q1
  subst ex
  cases r1 with
  | cons r rr =>
    cases rr
    cases r
    obtain ⟨its, rv, p', hz⟩ := I1.tuple hq
    have hal : a < s1.heap.objs.size := by
      obtain ⟨o, e, _⟩ := p'
      exact Heap.lt_size e
    refine call_enumT p' fun h' he hit hsz hk => wpAny_pyIter_enum he ?_
    have I2 : Inv X pins σ H1 { s1 with heap := h' } := I1.kept (t' := s1.toks) hk
    refine ⟨s1.heap.objs.size + 1, [s1.heap.objs.size + 1, s1.heap.objs.size], _, _, H1, rfl, I2, turn_enumT a (s1.heap.objs.size + 1) s1.heap.objs.size (Nat.ne_of_lt hal) (Nat.ne_of_gt (Nat.lt_succ_of_lt hal)), ⟨⟨.none, he⟩, hit, Nat.succ_ne_self _⟩, fun b hb => ?_, q⟩
    have e' : b = s1.heap.objs.size + 1 ∨ b = s1.heap.objs.size := by simpa using hb
    have hle : s1.heap.objs.size ≤ b := by
      rcases e' with z | z
      · rw [z]; exact Nat.le_add_right _ _
      · rw [z]; exact Nat.le_refl _
    exact I1.fpOk hle (I1.hok.fresh hle)
theorem walk_enumT {K : PySem.W.Frag} {a : Addr} {xs : List V} : Walk (IteT K a) xs.length (fun H => SqT K H a xs) (fun i H v H' => ∃ T x, v = .ref T ∧ H T = none ∧ H' = upd H T (.tup [.int (i : Nat), x]) ∧ xs[i]? = some x) := by
  refine ⟨fun i _ hi q => ⟨xs, xs[i], q, by simp [hi]⟩, fun _ q => ⟨xs, q, rfl⟩, fun i H v H' _ q y => ?_⟩
  obtain ⟨T, x, h1, h2, h3, h4⟩ := y
  exact ⟨T, x, h1, h2, h3, h4 xs q⟩
end Zn
namespace Fr
open PySem PySem.Spec PyProof.Rows L2
/-! ### len(set(t)) of a tuple of ints -/
theorem len_sub {α : Type} [DecidableEq α] : ∀ {l m : List α}, l.Nodup → (∀ x ∈ l, x ∈ m) → l.length ≤ m.length
  | [], _, _, _ => Nat.zero_le _
  | a :: l, m, hn, hs => by
    have ha := hs a List.mem_cons_self
    have hn' := List.nodup_cons.mp hn
    have := len_sub (m := m.erase a) hn'.2 fun x hx => (List.mem_erase_of_ne (fun e : x = a => hn'.1 (by rw [← e]; exact hx))).mpr (hs x (List.mem_cons_of_mem _ hx))
    rw [List.length_erase_of_mem ha] at this
    have h0 : 0 < m.length := List.length_pos_of_mem ha
    simp only [List.length_cons]
    omega
theorem dup_at {α : Type} [DecidableEq α] : ∀ {l : List α}, ¬ l.Nodup → ∃ a, a ∈ l.erase a ∧ a ∈ l
  | [], h => absurd List.nodup_nil h
  | b :: l, h => by
    by_cases hb : b ∈ l
    · exact ⟨b, by simp [hb], List.mem_cons_self⟩
    · have hl : ¬ l.Nodup := fun z => h (List.nodup_cons.mpr ⟨hb, z⟩)
      obtain ⟨a, h1, h2⟩ := dup_at hl
      refine ⟨a, ?_, List.mem_cons_of_mem _ h2⟩
      have hne : b ≠ a := fun e => hb (e ▸ h2)
      rw [List.erase_cons_tail (by simpa using hne)]
      exact List.mem_cons_of_mem _ h1
theorem nodup_of_len {α : Type} [DecidableEq α] {out ns : List α} (hn : out.Nodup) (hs : ∀ x ∈ out, x ∈ ns) (hl : ns.length ≤ out.length) : ns.Nodup := by
  by_cases z : ns.Nodup
  · exact z
  · obtain ⟨a, h1, h2⟩ := dup_at z
    have := len_sub (m := ns.erase a) hn fun x hx => by
      by_cases e : x = a
      · rw [e]
        exact h1
      · exact (List.mem_erase_of_ne e).mpr (hs x hx)
    rw [List.length_erase_of_mem h2] at this
    have := List.length_pos_of_mem h2
    omega
def tLenSetT (K : PySem.W.Frag) (ta : TE) : TE := fun σ H Q => ta σ H fun x H1 => ∃ (l : Addr) (ns : List Int), x = .ref l ∧ SqT K H1 l (ns.map V.int) ∧ ns.length ≤ 1000 ∧ ∀ c : Nat, (ns.Nodup → c = ns.length) → (¬ ns.Nodup → c ≠ ns.length) → Q (.int (c : Nat)) H1
theorem pe_lenSetT {X : Cx} {K : PySem.W.Frag} {a : Expr} {ta : TE} {p p2 q pos : Pos} (hK : X.K = K) (hg : Gl X "len") (hm : X.mg "len" = none) (hg2 : Gl X "set") (hm2 : X.mg "set" = none) (ha : PE X a ta) (hc : X.calm = true := by rfl)
    (na : starEach [a] X.env = (false, eval a X.env) :: starEach [] X.env := by rfl) : PE X (.Call (.Name "len" p) [.Call (.Name "set" p2) [a] [] q] [] pos) (tLenSetT K ta) := by
  subst hK
  refine ⟨fun pins s σ H Q I h => ?_⟩
  refine Call_ (ld_blt I hg hm boot_len ?_)
  refine PyProof.Rows.callWith_builtin1 (PyProof.Rows.args_cons ?_ rfl) rfl rfl
  refine Call_ (ld_blt I hg2 hm2 boot_set ?_)
  refine PyProof.Rows.callWith_type1 (PyProof.Rows.args_cons (thn (ha.run pins s σ H _ I h) fun v s1 ⟨x, H1, I1, r1, q1⟩ => PyProof.Rows.args_nil ?_) na) na rfl
  obtain ⟨l, ns, rfl, hq, hl, q1⟩ := q1
  cases r1
  obtain ⟨its, rv, pt, hz⟩ := I1.tuple hq
  have hi : IntsAre its.toArray.toList ns := ints_of_vals rv
  refine call_set_tupI ns (I1.ok.hd hc) (show s1.heap.IsTuple l its.toArray from pt) hi (by unfold scanBound; omega) fun h' tk c R1 hcn k => ?_
  refine PyProof.Rows.args_nil ?_
  obtain ⟨o, es, ep, t, ho, hex, hdt, g, nd, hm2, hb, hf, hn, hr, hl2⟩ := R1
  have I2 : Inv X pins σ H1 { s1 with heap := h', toks := tk } := I1.kept k
  have hmem : ∀ j, j ∈ es.toList.map keyOf ↔ j ∈ ns := fun j => by rw [← hm2 j, decide_eq_true_eq]
  have hlen : (es.toList.map keyOf).length = c := by rw [List.length_map, Array.length_toList, hn]
  have h1 : c ≤ ns.length := by rw [← hlen]; exact len_sub nd fun x hx => (hmem x).mp hx
  refine call_len_set ho hex hdt hf (by rw [hn]; omega) ⟨.int c, H1, I2.tok _, ⟨_, by rw [hn]⟩, q1 c (fun hnd => ?_) (fun hnd e => hnd ?_)⟩
  · have h2 := len_sub hnd fun x hx => (hmem x).mpr hx
    omega
  · exact nodup_of_len nd (fun x hx => (hmem x).mp hx) (by omega)
end Fr
namespace Fr
open PySem PySem.Spec PyProof.Rows L2
/-! ### t.index(x) of a tuple of flat things -/
def rIndexT (K : PySem.W.Frag) : V → List V → Hp → VK → Prop := fun x xs H Q => ∃ (a : Addr) (ys : List V) (y : V) (j : Nat) (z : V), x = V.ref a ∧ xs = [y] ∧ SqT K H a ys ∧ flatV y = true ∧ ys.all flatV = true ∧ ys[j]? = some z ∧ eqV z y = true ∧
  (∀ (m : Nat) (z' : V), m < j → ys[m]? = some z' → eqV z' y = false) ∧ Q (.int (j : Nat)) H
theorem mt_tidx {X : Cx} {K : PySem.W.Frag} (hK : X.K = K) : MtR X "tuple.index" (rIndexT K) := by
  subst hK
  intro pins s σ H x xs v us Q I rx rxs h
  obtain ⟨a, ys, y, j, z, rfl, rfl, hs, fy, fys, hz, hzj, hno, q⟩ := h
  cases rx
  cases rxs with
  | cons ry rt =>
    rename_i uy ut
    cases rt
    obtain ⟨its, rv, ⟨⟨cls, dd, data, sl⟩, ho, hc, n, hd⟩, hlen⟩ := I.tuple hs
    simp only at hc hd
    subst hc hd
    obtain ⟨u, hu, ru⟩ := rv.get hz
    obtain ⟨hjl, hje⟩ := List.getElem?_eq_some_iff.mp hu
    have hvl := rv.length
    have hj : j < its.toArray.size := by simpa using hjl
    refine call_meets PySem.F.slot_tuple_index ⟨_, ho, rfl⟩ PySem.F.entry_tuple_index (PySem.F.args_tuple_index_2 _ _)
      (TI.tuple_indexAt a its.toArray n dd sl uy (eqU y) j hj ?_ ?_) ⟨ho, fun u' hu' => mem_eqAt ry fy rv fys u' (by simpa using hu'), ?_⟩
    · have e1 : its.toArray[j] = u := by simpa using hje
      rw [e1, eqU_of ru (flat_at fys hz)]
      exact hzj
    · intro m hm hmj
      have hml : m < its.length := by simpa using hm
      have hmy : m < ys.length := by omega
      have hy' : ys[m]? = some ys[m] := List.getElem?_eq_getElem hmy
      obtain ⟨u2, hu2, ru2⟩ := rv.get hy'
      obtain ⟨_, hme⟩ := List.getElem?_eq_some_iff.mp hu2
      have e1 : its.toArray[m] = u2 := by simpa using hme
      rw [e1, eqU_of ru2 (flat_at fys hy')]
      exact hno m _ hmj hy'
    · exact ⟨.int (j : Nat), H, I.tok _, ⟨_, rfl⟩, q⟩
theorem mt_lidx {X : Cx} {K : PySem.W.Frag} (hK : X.K = K) : MtR X "list.index" (rIndex K) := by
  subst hK
  exact mt_index
end Fr
namespace Fr
open PySem PySem.Spec PyProof.Rows L2
/-! ### the texts by their places -/
def topS (i : Nat) : Stmt := PySem.Challenge.pw_fractrows_k80_whole_turns.main.body.getD i (.Pass ⟨0, 0, 0, 0⟩)
abbrev s_is_count : Stmt := topS 11
theorem sc_is_count : FnScope ["thing", "low", "high"] ["thing", "low", "high"] (defScope s_is_count) := ⟨rfl, rfl, rfl, by decide +kernel, rfl, by decide +kernel, by decide +kernel⟩
abbrev s_need_count : Stmt := topS 12
theorem sc_need_count : FnScope ["thing", "low", "high"] ["thing", "low", "high"] (defScope s_need_count) := ⟨rfl, rfl, rfl, by decide +kernel, rfl, by decide +kernel, by decide +kernel⟩
abbrev s_parted : Stmt := topS 13
theorem sc_parted : FnScope ["number", "found", "prime", "many"] ["number"] (defScope s_parted) := ⟨rfl, rfl, rfl, by decide +kernel, rfl, by decide +kernel, by decide +kernel⟩
abbrev s_is_number : Stmt := topS 14
theorem sc_is_number : FnScope ["thing", "found", "left", "many"] ["thing"] (defScope s_is_number) := ⟨rfl, rfl, rfl, by decide +kernel, rfl, by decide +kernel, by decide +kernel⟩
abbrev s_need_number : Stmt := topS 15
theorem sc_need_number : FnScope ["number"] ["number"] (defScope s_need_number) := ⟨rfl, rfl, rfl, by decide +kernel, rfl, by decide +kernel, by decide +kernel⟩
abbrev s_made : Stmt := topS 16
theorem sc_made : FnScope ["rooms", "found", "prime", "many", "turn"] ["rooms"] (defScope s_made) := ⟨rfl, rfl, rfl, by decide +kernel, rfl, by decide +kernel, by decide +kernel⟩
abbrev s_common : Stmt := topS 20
theorem sc_common : FnScope ["one", "other"] ["one", "other"] (defScope s_common) := ⟨rfl, rfl, rfl, by decide +kernel, rfl, by decide +kernel, by decide +kernel⟩
abbrev s_is_fraction : Stmt := topS 21
theorem sc_is_fraction : FnScope ["thing", "one"] ["thing"] (defScope s_is_fraction) := ⟨rfl, rfl, rfl, by decide +kernel, rfl, by decide +kernel, by decide +kernel⟩
abbrev s_is_program : Stmt := topS 22
theorem sc_is_program : FnScope ["thing", "one"] ["thing"] (defScope s_is_program) := ⟨rfl, rfl, rfl, by decide +kernel, rfl, by decide +kernel, by decide +kernel⟩
abbrev s_need_program : Stmt := topS 23
theorem sc_need_program : FnScope ["program"] ["program"] (defScope s_need_program) := ⟨rfl, rfl, rfl, by decide +kernel, rfl, by decide +kernel, by decide +kernel⟩
abbrev s_first_at : Stmt := topS 24
theorem sc_first_at : FnScope ["program", "number", "place", "fraction"] ["program", "number"] (defScope s_first_at) := ⟨rfl, rfl, rfl, by decide +kernel, rfl, by decide +kernel, by decide +kernel⟩
abbrev s_led : Stmt := topS 25
theorem sc_led : FnScope ["program", "number", "place"] ["program", "number"] (defScope s_led) := ⟨rfl, rfl, rfl, by decide +kernel, rfl, by decide +kernel, by decide +kernel⟩
abbrev s_need_room : Stmt := topS 26
theorem sc_need_room : FnScope ["number"] ["number"] (defScope s_need_room) := ⟨rfl, rfl, rfl, by decide +kernel, rfl, by decide +kernel, by decide +kernel⟩
abbrev s_look : Stmt := topS 27
theorem sc_look : FnScope ["program", "number"] ["program", "number"] (defScope s_look) := ⟨rfl, rfl, rfl, by decide +kernel, rfl, by decide +kernel, by decide +kernel⟩
abbrev s_ring : Stmt := topS 30
theorem sc_ring : FnScope ["program", "number", "most", "seen", "here", "place", "later"] ["program", "number", "most"] (defScope s_ring) := ⟨rfl, rfl, rfl, by decide +kernel, rfl, by decide +kernel, by decide +kernel⟩
abbrev s_need_order : Stmt := topS 31
theorem sc_need_order : FnScope ["order", "one"] ["order"] (defScope s_need_order) := ⟨rfl, rfl, rfl, by decide +kernel, rfl, by decide +kernel, by decide +kernel⟩
abbrev s_moved_number : Stmt := topS 32
theorem sc_moved_number : FnScope ["number", "order", "rooms", "found", "room", "goal"] ["number", "order"] (defScope s_moved_number) := ⟨rfl, rfl, rfl, by decide +kernel, rfl, by decide +kernel, by decide +kernel⟩
abbrev s_moved : Stmt := topS 33
theorem sc_moved : FnScope ["number", "order"] ["number", "order"] (defScope s_moved) := ⟨rfl, rfl, rfl, by decide +kernel, rfl, by decide +kernel, by decide +kernel⟩
abbrev s_greatest_rooms : Stmt := topS 34
theorem sc_greatest_rooms : FnScope ["program", "number", "most", "best", "here", "turn", "one", "other"] ["program", "number", "most"] (defScope s_greatest_rooms) := ⟨rfl, rfl, rfl, by decide +kernel, rfl, by decide +kernel, by decide +kernel⟩
abbrev s_used_rooms : Stmt := topS 35
theorem sc_used_rooms : FnScope ["program", "found", "top", "under", "room", "many"] ["program"] (defScope s_used_rooms) := ⟨rfl, rfl, rfl, by decide +kernel, rfl, by decide +kernel, by decide +kernel⟩
abbrev s__law_cell : Stmt := topS 37
theorem sc__law_cell : FnScope ["script", "k"] ["script", "k"] (defScope s__law_cell) := ⟨rfl, rfl, rfl, by decide +kernel, rfl, by decide +kernel, by decide +kernel⟩
abbrev s__law_drawn : Stmt := topS 38
theorem sc__law_drawn : FnScope ["cell", "k", "more"] ["cell", "k"] (defScope s__law_drawn) := ⟨rfl, rfl, rfl, by decide +kernel, rfl, by decide +kernel, by decide +kernel⟩
abbrev s__law_word : Stmt := topS 39
theorem sc__law_word : FnScope ["e", "flags", "flag"] ["e"] (defScope s__law_word) := ⟨rfl, rfl, rfl, by decide +kernel, rfl, by decide +kernel, by decide +kernel⟩
abbrev s__law_told : Stmt := topS 40
theorem sc__law_told : FnScope ["deed", "e"] ["deed"] (defScope s__law_told) := ⟨rfl, rfl, rfl, by decide +kernel, rfl, by decide +kernel, by decide +kernel⟩
abbrev s__law_primes : Stmt := topS 41
theorem sc__law_primes : FnScope [] [] (defScope s__law_primes) := ⟨rfl, rfl, rfl, by decide +kernel, rfl, by decide +kernel, by decide +kernel⟩
abbrev s__law_rooms : Stmt := topS 42
theorem sc__law_rooms : FnScope ["number", "found", "prime", "many"] ["number"] (defScope s__law_rooms) := ⟨rfl, rfl, rfl, by decide +kernel, rfl, by decide +kernel, by decide +kernel⟩
abbrev s__law_some : Stmt := topS 43
theorem sc__law_some : FnScope ["more", "primes", "most", "found", "j"] ["more", "primes", "most"] (defScope s__law_some) := ⟨rfl, rfl, rfl, by decide +kernel, rfl, by decide +kernel, by decide +kernel⟩
abbrev s__law_fraction : Stmt := topS 44
theorem sc__law_fraction : FnScope ["more", "primes", "top", "under", "prime"] ["more", "primes"] (defScope s__law_fraction) := ⟨rfl, rfl, rfl, by decide +kernel, rfl, by decide +kernel, by decide +kernel⟩
abbrev s__law_program : Stmt := topS 45
theorem sc__law_program : FnScope ["more", "primes", "found", "j", "one"] ["more", "primes"] (defScope s__law_program) := ⟨rfl, rfl, rfl, by decide +kernel, rfl, by decide +kernel, by decide +kernel⟩
abbrev s__law_step : Stmt := topS 46
theorem sc__law_step : FnScope ["program", "number", "place", "top", "under"] ["program", "number"] (defScope s__law_step) := ⟨rfl, rfl, rfl, by decide +kernel, rfl, by decide +kernel, by decide +kernel⟩
abbrev s__law_run : Stmt := topS 47
theorem sc__law_run : FnScope ["program", "number", "most", "found", "places", "turn", "one"] ["program", "number", "most"] (defScope s__law_run) := ⟨rfl, rfl, rfl, by decide +kernel, rfl, by decide +kernel, by decide +kernel⟩
abbrev s__law_round : Stmt := topS 48
theorem sc__law_round : FnScope ["more", "here", "some"] ["more"] (defScope s__law_round) := ⟨rfl, rfl, rfl, by decide +kernel, rfl, by decide +kernel, by decide +kernel⟩
abbrev s__law_order : Stmt := topS 49
theorem sc__law_order : FnScope ["more", "left", "found", "j"] ["more"] (defScope s__law_order) := ⟨rfl, rfl, rfl, by decide +kernel, rfl, by decide +kernel, by decide +kernel⟩
abbrev s__law_ring_due : Stmt := topS 50
theorem sc__law_ring_due : FnScope ["row", "later"] ["row"] (defScope s__law_ring_due) := ⟨rfl, rfl, rfl, by decide +kernel, rfl, by decide +kernel, by decide +kernel⟩
abbrev s_law : Stmt := topS 51
theorem sc_law : FnScope ["script", "k", "more", "j", "here", "program", "number", "most", "row", "rooms", "due", "order", "gone", "used", "wide", "one", "room", "top", "under", "own"] ["script"] (defScope s_law) := ⟨rfl, rfl, rfl, by decide +kernel, rfl, by decide +kernel, by decide +kernel⟩
/-! ### what stands behind the top -/
structure Txt (K : PySem.W.Frag) (mg : Str → Option Value) : Prop where
  b_isinstance : mg "isinstance" = none
  b_int : mg "int" = none
  b_bool : mg "bool" = none
  b_list : mg "list" = none
  b_tuple : mg "tuple" = none
  b_len : mg "len" = none
  b_all : mg "all" = none
  b_max : mg "max" = none
  b_min : mg "min" = none
  b_sum : mg "sum" = none
  b_range : mg "range" = none
  b_zip : mg "zip" = none
  b_enumerate : mg "enumerate" = none
  b_set : mg "set" = none
  b_sorted : mg "sorted" = none
  b_ValueError : mg "ValueError" = none
  d_is_count : FnP K "is_count" s_is_count
  m_is_count : mg "is_count" = some (.ref (ga K "is_count"))
  d_need_count : FnP K "need_count" s_need_count
  m_need_count : mg "need_count" = some (.ref (ga K "need_count"))
  d_parted : FnP K "parted" s_parted
  m_parted : mg "parted" = some (.ref (ga K "parted"))
  d_is_number : FnP K "is_number" s_is_number
  m_is_number : mg "is_number" = some (.ref (ga K "is_number"))
  d_need_number : FnP K "need_number" s_need_number
  m_need_number : mg "need_number" = some (.ref (ga K "need_number"))
  d_made : FnP K "made" s_made
  m_made : mg "made" = some (.ref (ga K "made"))
  d_common : FnP K "common" s_common
  m_common : mg "common" = some (.ref (ga K "common"))
  d_is_fraction : FnP K "is_fraction" s_is_fraction
  m_is_fraction : mg "is_fraction" = some (.ref (ga K "is_fraction"))
  d_is_program : FnP K "is_program" s_is_program
  m_is_program : mg "is_program" = some (.ref (ga K "is_program"))
  d_need_program : FnP K "need_program" s_need_program
  m_need_program : mg "need_program" = some (.ref (ga K "need_program"))
  d_first_at : FnP K "first_at" s_first_at
  m_first_at : mg "first_at" = some (.ref (ga K "first_at"))
  d_led : FnP K "led" s_led
  m_led : mg "led" = some (.ref (ga K "led"))
  d_need_room : FnP K "need_room" s_need_room
  m_need_room : mg "need_room" = some (.ref (ga K "need_room"))
  d_look : FnP K "look" s_look
  m_look : mg "look" = some (.ref (ga K "look"))
  d_ring : FnP K "ring" s_ring
  m_ring : mg "ring" = some (.ref (ga K "ring"))
  d_need_order : FnP K "need_order" s_need_order
  m_need_order : mg "need_order" = some (.ref (ga K "need_order"))
  d_moved_number : FnP K "moved_number" s_moved_number
  m_moved_number : mg "moved_number" = some (.ref (ga K "moved_number"))
  d_moved : FnP K "moved" s_moved
  m_moved : mg "moved" = some (.ref (ga K "moved"))
  d_greatest_rooms : FnP K "greatest_rooms" s_greatest_rooms
  m_greatest_rooms : mg "greatest_rooms" = some (.ref (ga K "greatest_rooms"))
  d_used_rooms : FnP K "used_rooms" s_used_rooms
  m_used_rooms : mg "used_rooms" = some (.ref (ga K "used_rooms"))
  d__law_cell : FnP K "_law_cell" s__law_cell
  m__law_cell : mg "_law_cell" = some (.ref (ga K "_law_cell"))
  d__law_drawn : FnP K "_law_drawn" s__law_drawn
  m__law_drawn : mg "_law_drawn" = some (.ref (ga K "_law_drawn"))
  d__law_word : FnP K "_law_word" s__law_word
  m__law_word : mg "_law_word" = some (.ref (ga K "_law_word"))
  d__law_told : FnP K "_law_told" s__law_told
  m__law_told : mg "_law_told" = some (.ref (ga K "_law_told"))
  d__law_primes : FnP K "_law_primes" s__law_primes
  m__law_primes : mg "_law_primes" = some (.ref (ga K "_law_primes"))
  d__law_rooms : FnP K "_law_rooms" s__law_rooms
  m__law_rooms : mg "_law_rooms" = some (.ref (ga K "_law_rooms"))
  d__law_some : FnP K "_law_some" s__law_some
  m__law_some : mg "_law_some" = some (.ref (ga K "_law_some"))
  d__law_fraction : FnP K "_law_fraction" s__law_fraction
  m__law_fraction : mg "_law_fraction" = some (.ref (ga K "_law_fraction"))
  d__law_program : FnP K "_law_program" s__law_program
  m__law_program : mg "_law_program" = some (.ref (ga K "_law_program"))
  d__law_step : FnP K "_law_step" s__law_step
  m__law_step : mg "_law_step" = some (.ref (ga K "_law_step"))
  d__law_run : FnP K "_law_run" s__law_run
  m__law_run : mg "_law_run" = some (.ref (ga K "_law_run"))
  d__law_round : FnP K "_law_round" s__law_round
  m__law_round : mg "_law_round" = some (.ref (ga K "_law_round"))
  d__law_order : FnP K "_law_order" s__law_order
  m__law_order : mg "_law_order" = some (.ref (ga K "_law_order"))
  d__law_ring_due : FnP K "_law_ring_due" s__law_ring_due
  m__law_ring_due : mg "_law_ring_due" = some (.ref (ga K "_law_ring_due"))
  d_law : FnP K "law" s_law
  m_law : mg "law" = some (.ref (ga K "law"))
  m_RowError : mg "RowError" = some (.ref (ga K "RowError"))
  x_RowError : PySem.W.excIn K (ga K "RowError") He.veBase "ValueError.__new__" = true ∧ PySem.W.keepIn K (.ref (ga K "RowError")) = true ∧ PySem.W.subIn K (.ref (ga K "RowError")) (.type "BaseException") = some true ∧ PySem.W.typeIn K (.ref (ga K "RowError")) = some (.type "type")
  m_BadNumber : mg "BadNumber" = some (.ref (ga K "BadNumber"))
  x_BadNumber : PySem.W.excIn K (ga K "BadNumber") He.veBase "ValueError.__new__" = true ∧ PySem.W.keepIn K (.ref (ga K "BadNumber")) = true ∧ PySem.W.subIn K (.ref (ga K "BadNumber")) (.type "BaseException") = some true ∧ PySem.W.typeIn K (.ref (ga K "BadNumber")) = some (.type "type")
  m_BadProgram : mg "BadProgram" = some (.ref (ga K "BadProgram"))
  x_BadProgram : PySem.W.excIn K (ga K "BadProgram") He.veBase "ValueError.__new__" = true ∧ PySem.W.keepIn K (.ref (ga K "BadProgram")) = true ∧ PySem.W.subIn K (.ref (ga K "BadProgram")) (.type "BaseException") = some true ∧ PySem.W.typeIn K (.ref (ga K "BadProgram")) = some (.type "type")
  m_BadMachine : mg "BadMachine" = some (.ref (ga K "BadMachine"))
  x_BadMachine : PySem.W.excIn K (ga K "BadMachine") He.veBase "ValueError.__new__" = true ∧ PySem.W.keepIn K (.ref (ga K "BadMachine")) = true ∧ PySem.W.subIn K (.ref (ga K "BadMachine")) (.type "BaseException") = some true ∧ PySem.W.typeIn K (.ref (ga K "BadMachine")) = some (.type "type")
  m_TooGreat : mg "TooGreat" = some (.ref (ga K "TooGreat"))
  x_TooGreat : PySem.W.excIn K (ga K "TooGreat") He.veBase "ValueError.__new__" = true ∧ PySem.W.keepIn K (.ref (ga K "TooGreat")) = true ∧ PySem.W.subIn K (.ref (ga K "TooGreat")) (.type "BaseException") = some true ∧ PySem.W.typeIn K (.ref (ga K "TooGreat")) = some (.type "type")
  m_BadText : mg "BadText" = some (.ref (ga K "BadText"))
  x_BadText : PySem.W.excIn K (ga K "BadText") He.veBase "ValueError.__new__" = true ∧ PySem.W.keepIn K (.ref (ga K "BadText")) = true ∧ PySem.W.subIn K (.ref (ga K "BadText")) (.type "BaseException") = some true ∧ PySem.W.typeIn K (.ref (ga K "BadText")) = some (.type "type")
  m_Nothing : mg "Nothing" = some (.ref (ga K "Nothing"))
  x_Nothing : PySem.W.excIn K (ga K "Nothing") He.veBase "ValueError.__new__" = true ∧ PySem.W.keepIn K (.ref (ga K "Nothing")) = true ∧ PySem.W.subIn K (.ref (ga K "Nothing")) (.type "BaseException") = some true ∧ PySem.W.typeIn K (.ref (ga K "Nothing")) = some (.type "type")
  m_PRIMES : mg "PRIMES" = some (.ref (ga K "PRIMES"))
  t_PRIMES : ∀ H : Hp, SqT K H (ga K "PRIMES") [.int 2, .int 3, .int 5, .int 7, .int 11, .int 13, .int 17, .int 19, .int 23, .int 29, .int 31, .int 37]
  c_MOST_ROOM : ∃ t, mg "MOST_ROOM" = some (.int 400 t)
  c_MOST_FRACTIONS : ∃ t, mg "MOST_FRACTIONS" = some (.int 16 t)
  c_MOST_PART : ∃ t, mg "MOST_PART" = some (.int 1000000 t)
  c_MOST_LOOKED : ∃ t, mg "MOST_LOOKED" = some (.int 500 t)
  w_exc : excB K ["BadMachine", "BadNumber", "BadProgram", "BadText", "TooGreat", "Nothing"] = true
  w_tab : tabsD K ["law"] = true
end Fr
namespace Fr
open PySem PySem.Spec PyProof.Rows L2
section
variable {P : Program} {w : World} {K : PySem.W.Frag} {mg : Str → Option Value} {base : Heap}
theorem Cal.mk0 {x : Str} {st : Stmt} {N ps : List Str} {k : Nat} {sp : Sp} (D : FnP K x st) (m : mg x = some (.ref (ga K x))) (S : FnScope N ps (defScope st))
    (hb : ∀ (kV doc pm : Value) (an : Option Addr) (cdv ct : Value) (us : List Value), us.length = ps.length → bindArgs (PySem.W.fnOf x x (defArgs st) (defBody st) (defScope st) .none kV doc pm an cdv ct) ⟨us, []⟩ = pure (ps.zip us))
    (len : ∀ vs H Q E, sp vs H Q E → vs.length = ps.length)
    (hbody : ∀ (cdv : Value) (A : Around) (outer : List Env) (s : Shared) (H : Hp) (vs : List V) (Q : VK) (E : XK), Room k (A.deeper (envOfC x (defScope st) s.heap.objs.size (ga K x) cdv)) → sp vs H Q E →
      ∃ t, PSs (cxOf L2.CX0 P w K mg base N x (defScope st) (ga K x) cdv A outer s H E).nox (defBody st) t ∧ t { nx := fun _ H' => Q .non H', rt := Q } (start N vs) H) : Cal P w K mg base L2.CX0 (k + 1) x ps sp := by
  refine ⟨D.ok S len fun cdv A outer s H vs Q E hr h => ?_, m, D.kp, D.bindsN hb⟩
  obtain ⟨t, h1, h2⟩ := hbody cdv A outer s H vs Q E hr h
  exact ⟨t, h1.nox, h2⟩
theorem Cal.mkX {x : Str} {st : Stmt} {N ps : List Str} {k : Nat} {sp : Sp} (D : FnP K x st) (m : mg x = some (.ref (ga K x))) (S : FnScope N ps (defScope st))
    (hb : ∀ (kV doc pm : Value) (an : Option Addr) (cdv ct : Value) (us : List Value), us.length = ps.length → bindArgs (PySem.W.fnOf x x (defArgs st) (defBody st) (defScope st) .none kV doc pm an cdv ct) ⟨us, []⟩ = pure (ps.zip us))
    (len : ∀ vs H Q E, sp vs H Q E → vs.length = ps.length)
    (hbody : ∀ (cdv : Value) (A : Around) (outer : List Env) (s : Shared) (H : Hp) (vs : List V) (Q : VK) (E : XK), Room k (A.deeper (envOfC x (defScope st) s.heap.objs.size (ga K x) cdv)) → sp vs H Q E →
      ∃ t, PSs (cxOf (L2N.CX P w) P w K mg base N x (defScope st) (ga K x) cdv A outer s H E) (defBody st) t ∧ t { nx := fun _ H' => Q .non H', rt := Q } (start N vs) H) : Cal P w K mg base (L2N.CX P w) (k + 1) x ps sp :=
  ⟨D.ok S len hbody, m, D.kp, D.bindsN hb⟩

/-! ### parted -/
def spParted : Sp := fun vs H Q _ => ∃ n : Nat, vs = [nI n] ∧ 0 < n ∧ ∀ p t H', Same H H' → H' t = some (.tup ((rooms n).map nI)) → H' p = some (.tup [.ref t, nI (left n)]) → Q (.ref p) H'
theorem ok_parted (T : Txt K mg) : Cal P w K mg base L2.CX0 1 "parted" ["number"] spParted := by
  refine Cal.mk0 T.d_parted T.m_parted sc_parted (fun _ _ _ _ _ _ us hl => match us, hl with | [_], _ => rfl) (fun vs H Q E h => ?_) (fun cdv A outer s H vs Q E hr h => ?_)
  · obtain ⟨n, rfl, _⟩ := h
    rfl
  obtain ⟨n, rfl, hn, q⟩ := h
  refine ⟨_, (pss_cons (ps_set (i := 1) sc_parted.nd rfl (.inl rfl) (pe_lst pa_nil))
      (pss_cons (ps_for PassesOwn.never rfl (piT rfl (pe_glob (v := .ref (ga K "PRIMES")) (by rfl) T.m_PRIMES rfl)) (pg_name (i := 2) sc_parted.nd rfl (.inl rfl)) (pss_cons (ps_set (i := 3) sc_parted.nd rfl (.inl rfl) pe_int)
      (pss_cons (ps_while PassesOwn.never (pt_cmpR opN_eq (pe_op opN_mod (pv 0) (pv 2)) pe_int (nomark _)) (pss_cons (ps_set (i := 0) sc_parted.nd rfl (.inl rfl) (pe_op opN_div (pv 0) (pv 2)))
      (pss_one (ps_set (i := 3) sc_parted.nd rfl (.inl rfl) (pe_op opN_add (pv 3) pe_int)))))
      (pss_one (ps_expr (bm rfl PySem.F.plainAttrs_list PySem.F.slot_list_append PySem.F.type_list_append mt_append (pv 1) (pa_cons (pv 3) pa_nil)))))))
      (pss_one (ps_ret (pe_tup (pa_cons (pe_callTy (tupleOf rfl) (by rfl) T.b_tuple boot_tuple (pa_cons (pv 1) pa_nil)) (pa_cons (pv 0) pa_nil))))))), ?_⟩
  refine ⟨Nat.zero_le _, fun o no => ?_⟩
  have hP : SqT K (upd H o (.lst [])) (ga K "PRIMES") (primes.map nI) := T.t_PRIMES _
  refine ⟨_, rfl, ⟨_, hP⟩, for_tup (xs := primes.map nI) (fun i σ H3 => ∃ y2 y3, σ = [some (nI (partL (primes.take i) n).2), some (.ref o), y2, y3] ∧ Same H H3 ∧ H3 o = some (.lst ((partL (primes.take i) n).1.map nI))) ?_ ?_ ?_ ?_⟩
  · exact ⟨none, none, rfl, same_new no, upd_same⟩
  · rintro i σ H3 _ _
    exact T.t_PRIMES _
  · rintro i x σ H3 hx ⟨y2, y3, rfl, sm, ho⟩
    rw [List.getElem?_map] at hx
    obtain ⟨p, hp, rfl⟩ := Option.map_eq_some_iff.mp hx
    have hp2 : 2 ≤ p := primes_two p (List.mem_of_getElem? hp)
    have hps : p < 64 := primes_small p (List.mem_of_getElem? hp)
    have hm : 0 < (partL (primes.take i) n).2 := partL_pos _ (fun r hr => primes_two r (List.mem_of_mem_take hr)) n hn
    rw [take_at hp, partL_snoc]
    generalize hA : partL (primes.take i) n = A at *
    refine ⟨fun m σ H4 => ∃ x k : Nat, σ = [some (nI x), some (.ref o), some (nI p), some (nI k)] ∧ H4 = H3 ∧ 0 < x ∧ x = m ∧ (strip p A.2).1 = k + (strip p x).1 ∧ (strip p A.2).2 = (strip p x).2, ⟨_, A.2, 0, rfl, rfl, hm, rfl, by omega, rfl⟩, ?_⟩
    rintro m σ H4 ⟨x, k, rfl, rfl, hx0, rfl, e1, e2⟩
    refine ⟨_, rfl, _, rfl, x, p, rfl, rfl, by omega, _, 0, rfl, rfl, _, rfl, ite2 (fun hd => ?_) (fun hd => ?_)⟩
    · have hd := of_decide_eq_true hd
      obtain ⟨f1, f2, f3⟩ := strip_yes hd hp2 hx0
      refine ⟨fun σ' H' => ∃ x' k' : Nat, x' < x ∧ σ' = [some (nI x'), some (.ref o), some (nI p), some (nI k')] ∧ H' = H4 ∧ 0 < x' ∧ (strip p A.2).1 = k' + (strip p x').1 ∧ (strip p A.2).2 = (strip p x').2, ?_, ?_⟩
      · rintro σ' H' ⟨x', k', h1, h2, h3, h4, h5, h6⟩
        exact ⟨x', h1, x', k', h2, h3, h4, rfl, h5, h6⟩
      · refine ⟨_, rfl, _, rfl, x, p, rfl, rfl, ⟨by omega, ?_⟩, _, rfl, k, 1, rfl, rfl, x / p, k + 1, f3, rfl, rfl, f2, ?_, ?_⟩
        · exact Nat.lt_of_lt_of_le (PySem.Flt.log2_lt_of (by decide) (show p < 2 ^ 6 by omega)) (by decide)
        · rw [e1, f1]; show k + ((strip p (x / p)).1 + 1) = _; omega
        · rw [e2, f1]
    · have hd : ¬ x % p = 0 := fun z => hd (decide_eq_true z)
      rw [strip_no hd hp2] at e1 e2
      refine ⟨_, rfl, .inl ⟨rfl, _, SqL.of ho⟩, _, rfl, o, _, _, rfl, rfl, ho, ?_, ?_⟩
      · rw [List.length_map, ← hA, partL_len]
        exact Nat.lt_of_le_of_lt (List.length_take_le' _ _) (by decide)
      · refine ⟨some (nI p), some (nI k), ?_, same_put sm no, ?_⟩
        · rw [e2]
        · rw [upd_same, e1, List.map_append]
          rfl
  · rintro σ H3 ⟨y2, y3, rfl, sm, ho⟩
    have ep : primes.take (primes.map nI).length = primes := rfl
    rw [ep] at ho ⊢
    refine ⟨_, rfl, o, _, rfl, .inl ⟨SqL.of ho, fun t nt => ?_⟩⟩
    refine ⟨_, rfl, (by show 2 ≤ sizeLine; decide), fun p np => ?_⟩
    have ntp : t ≠ p := ne_of_none upd_same np
    exact q p t _ ((sm.trans (same_new nt)).trans (same_new np)) (by rw [upd_ne ntp, upd_same, rooms_def]) (by rw [upd_same, left_def])
end
end Fr
namespace Fr
open PySem PySem.Spec PyProof.Rows L2
section
variable {P : Program} {w : World} {K : PySem.W.Frag} {mg : Str → Option Value} {base : Heap}
/-! ### is_number -/
def spIsNumber (K : PySem.W.Frag) : Sp := fun vs H Q _ => ∃ (v : V) (d : PyData), vs = [v] ∧ Dp K H v d ∧ ∀ H', Same H H' → Q (.bl (isNumD d)) H'
theorem all_le (as : List Nat) : ((as.map fun a => decide (a ≤ 400)).all id) = as.all fun a => decide (a ≤ 400) := by
  rw [List.all_map]
  rfl
theorem isNum_eq {n : Nat} (h : 1 ≤ n) : isNum n = (decide (left n = 1) && (rooms n).all fun a => decide (a ≤ 400)) := by
  unfold isNum
  rw [decide_eq_true h, Bool.true_and]
theorem ok_is_number (T : Txt K mg) : Cal P w K mg base L2.CX0 2 "is_number" ["thing"] (spIsNumber K) := by
  have c_parted := ok_parted (P := P) (w := w) (base := base) T
  refine Cal.mk0 T.d_is_number T.m_is_number sc_is_number (fun _ _ _ _ _ _ us hl => match us, hl with | [_], _ => rfl) (fun vs H Q E h => ?_) (fun cdv A outer s H vs Q E hr h => ?_)
  · obtain ⟨v, d, rfl, _⟩ := h
    rfl
  obtain ⟨v, d, rfl, hd, q⟩ := h
  refine ⟨_, (pss_cons (ps_if (PW.pt (pw_or (pt_not (pt_val (pe_callB (isInt rfl) (by rfl) T.b_isinstance boot_isinstance (pa_cons (pv 0) (pa_cons (pe_bltn (v := .ty "int") (by rfl) T.b_int boot_int rfl) pa_nil))))) (pw_or (pt_val (pe_callB (isBool rfl) (by rfl) T.b_isinstance boot_isinstance (pa_cons (pv 0) (pa_cons (pe_bltn (v := .ty "bool") (by rfl) T.b_bool boot_bool rfl) pa_nil)))) (pw_or1 (pt_cmpR op_lt (pv 0) pe_int (nomark _)))))) (pss_one (ps_ret pe_bl)) pss_nil)
      (pss_cons (ps_asg (pe_cal c_parted (hr.mono (by decide)) (by rfl) pass0 (pa_cons (pv 0) pa_nil)) (pgT (n := 2) rfl rfl (pgs_cons (pg_name (i := 1) sc_is_number.nd rfl (.inl rfl)) (pgs_cons (pg_name (i := 2) sc_is_number.nd rfl (.inl rfl)) pgs_nil))))
      (pss_one (ps_ret (pe_and (pe_cmpR opN_eq (pv 2) pe_int (nomark _)) (pe_one (pe_callB (crAll rfl rfl) (by rfl) T.b_all boot_all (pa_cons (pe_lc (own := [("many", 3)]) rfl sc_is_number.nd (piT rfl (pv 1)) (blkOk_by (own := [("many", 3)]) (N := ["thing", "found", "left", "many"]) (sc := defScope s_is_number) (by decide +kernel)) (fun _ _ _ _ _ => (pg_name (i := 3) sc_is_number.nd rfl (.inl rfl))) (fun _ _ _ _ _ => pts_nil) (fun _ _ _ _ _ => (pe_cmpR opN_le (pv 3) (pe_glob (v := .int 400) (by rfl) T.c_MOST_ROOM.choose_spec ⟨_, rfl⟩) (nomark _)))) pa_nil)))))))), ?_⟩
  refine ⟨_, rfl, _, _, rfl, hd, _, rfl, ?_⟩
  have q0 := q H (Same.refl H)
  cases d with
  | int i =>
    cases hd
    refine iteF ⟨_, rfl, _, _, rfl, .int i, _, rfl, iteF ⟨_, rfl, i, 1, rfl, rfl, _, rfl, ite2 (fun h1 => ?_) (fun h1 => ?_)⟩⟩
    · have h1 := of_decide_eq_true h1
      have e : isNumD (.int i) = false := by
        show (decide (1 ≤ i) && isNum i.toNat) = false
        rw [decide_eq_false (by omega), Bool.false_and]
      rw [e] at q0
      exact q0
    · have h1 : 1 ≤ i := by
        have : ¬ i < 1 := fun z => h1 (decide_eq_true z)
        omega
      obtain ⟨n, rfl⟩ : ∃ n : Nat, i = n := ⟨i.toNat, by omega⟩
      refine ⟨_, rfl, n, rfl, by omega, fun p t H1 sm ht hp => ?_⟩
      have e : isNumD (.int (n : Int)) = (decide (left n = 1) && (rooms n).all fun a => decide (a ≤ 400)) := by
        show (decide (1 ≤ (n : Int)) && isNum (n : Int).toNat) = _
        rw [decide_eq_true h1, Bool.true_and, Int.toNat_natCast, isNum_eq (by omega)]
      rw [e] at q
      refine ⟨p, _, rfl, SqT.of hp, rfl, _, _, rfl, _, _, rfl, rfl, ?_⟩
      refine ⟨_, rfl, left n, 1, rfl, rfl, _, rfl, ite2 (fun h2 => ?_) (fun h2 => ?_)⟩
      · rw [h2, Bool.true_and] at q
        refine ⟨_, rfl, t, rfl, ⟨_, SqT.of ht⟩, fun D hD => ?_⟩
        refine lc_dp (K := K) walk_tup hD (by rw [List.length_map, rooms_len]; decide) (fun H' s' => same_tup s' (SqT.of ht)) (fun i => ((rooms n)[i]?).map fun a => PyData.bool (decide (a ≤ 400))) ?_ ?_ ?_
        · intro i d e
          obtain ⟨a, _, rfl⟩ := Option.map_eq_some_iff.mp e
          rfl
        · rintro i x H' H'' A B hi s' ⟨rfl, hx⟩ hA hB
          rw [List.getElem?_map] at hx
          obtain ⟨a, ha, rfl⟩ := Option.map_eq_some_iff.mp hx
          exact ⟨rfl, _, rfl, a, 400, rfl, rfl, hA _ _ _ (by rw [ha]; rfl) (Same.refl _) (.bl _)⟩
        · intro H' ys s' hD' hA
          rw [List.length_map, gath_map] at hA
          have e2 : ys = ((rooms n).map fun a => decide (a ≤ 400)).map V.bl := dps_bools (by rw [List.map_map]; exact hA)
          rw [e2] at hD'
          refine ⟨D, _, rfl, SqL.of hD', ?_⟩
          rw [all_le]
          exact q H' (sm.trans s')
      · rw [show decide (left n = 1) = false by simpa using h2, Bool.false_and] at q
        exact q H1 sm
  | bool b =>
    cases hd
    exact iteF ⟨_, rfl, _, _, rfl, .bl b, _, rfl, iteT (iteT q0)⟩
  | none => exact iteT (iteT q0)
  | str x => exact iteT (iteT q0)
  | list xs => exact iteT (iteT q0)
  | tuple xs => exact iteT (iteT q0)
  | dict xs => exact iteT (iteT q0)
end
end Fr
namespace Fr
open PySem PySem.Spec PyProof.Rows L2
section
variable {P : Program} {w : World} {K : PySem.W.Frag} {mg : Str → Option Value} {base : Heap}
theorem ok_need_number (T : Txt K mg) : Cal P w K mg base (L2N.CX P w) 3 "need_number" ["number"] (spNeed K (ga K "BadNumber") isNumD) := by
  have c_is_number := ok_is_number (P := P) (w := w) (base := base) T
  refine Cal.mkX T.d_need_number T.m_need_number sc_need_number (fun _ _ _ _ _ _ us hl => match us, hl with | [_], _ => rfl) (fun vs H Q E h => ?_) (fun cdv A outer s H vs Q E hr h => ?_)
  · obtain ⟨v, d, rfl, _⟩ := h
    rfl
  obtain ⟨v, d, rfl, hd, q1, q2⟩ := h
  refine ⟨_, (pss_one (ps_if (pt_not (pt_val (pe_cal c_is_number (hr.mono (by decide)) (by rfl) pass0 (pa_cons (pv 0) pa_nil)))) (pss_one (L2N.ps_raise rfl (L2N.takes_of rfl rfl rfl rfl) (L2N.pmk_own PySem.F.excBase_ValueError T.x_BadNumber.1 T.m_BadNumber T.x_BadNumber.2.1 (raises_own T.x_BadNumber.2.2.1 T.x_BadNumber.2.2.2) (by rfl)))) pss_nil)), ?_⟩
  refine ⟨_, rfl, v, d, rfl, hd, fun H1 s1 => ⟨_, rfl, ?_⟩⟩
  cases e : isNumD d with
  | true => exact iteF (q1 e H1 s1)
  | false => exact iteT (q2 e H1 s1)
end
end Fr
namespace Fr
open PySem PySem.Spec PyProof.Rows L2
section
variable {P : Program} {w : World} {K : PySem.W.Frag} {mg : Str → Option Value} {base : Heap}
/-! ### made -/
def spMade (K : PySem.W.Frag) : Sp := fun vs H Q _ => ∃ (b : Bool) (a : Addr) (as : List Nat), vs = [.ref a] ∧ Zn.Sq K H (b, a) (as.map nI) ∧ as.length ≤ 12 ∧ (∀ x ∈ as, x ≤ 401) ∧ ∀ H', Same H H' → Q (nI (make as)) H'
theorem same_sq {H H' : Hp} {q : Zn.K2} {xs : List V} (s : Same H H') (h : Zn.Sq K H q xs) : Zn.Sq K H' q xs := by
  obtain ⟨b, a⟩ := q
  cases b
  · exact same_tup s h
  · exact s.seq h
theorem row2 {as : List Nat} {i : Nat} {p x : Nat} (hp : primes[i]? = some p) (hx : as[i]? = some x) : Zn.rowAt i [primes.map nI, as.map nI] = [nI p, nI x] := by
  show [(primes.map nI).getD i .non, (as.map nI).getD i .non] = _
  rw [List.getD_eq_getElem?_getD, List.getD_eq_getElem?_getD, List.getElem?_map, List.getElem?_map, hp, hx]
  rfl
theorem ok_made (T : Txt K mg) : Cal P w K mg base L2.CX0 1 "made" ["rooms"] (spMade K) := by
  refine Cal.mk0 T.d_made T.m_made sc_made (fun _ _ _ _ _ _ us hl => match us, hl with | [_], _ => rfl) (fun vs H Q E h => ?_) (fun cdv A outer s H vs Q E hr h => ?_)
  · obtain ⟨b, a, as, rfl, _⟩ := h
    rfl
  obtain ⟨b, a, as, rfl, hs, hl, hb, q⟩ := h
  refine ⟨_, (pss_cons (ps_set (i := 1) sc_made.nd rfl (.inl rfl) pe_int)
      (pss_cons (ps_for PassesOwn.never rfl (Zn.zip2 rfl (by rfl) T.b_zip (pa_cons (pe_glob (v := .ref (ga K "PRIMES")) (by rfl) T.m_PRIMES rfl) (pa_cons (pv 0) pa_nil))) (pgT (n := 2) rfl rfl (pgs_cons (pg_name (i := 2) sc_made.nd rfl (.inl rfl)) (pgs_cons (pg_name (i := 3) sc_made.nd rfl (.inl rfl)) pgs_nil))) (pss_one (ps_for PassesOwn.never rfl (pi_range1 (by rfl) T.b_range (pa_cons (pv 3) pa_nil)) (pg_name (i := 4) sc_made.nd rfl (.inl rfl)) (pss_one (ps_set (i := 1) sc_made.nd rfl (.inl rfl) (pe_op opN_mul (pv 1) (pv 2)))))))
      (pss_one (ps_ret (pv 1))))), ?_⟩
  refine ⟨_, rfl, [(false, ga K "PRIMES"), (b, a)], rfl, rfl, ?_, Zn.for_zipN (n := as.length) (yss := [primes.map nI, as.map nI]) ?_ ?_ (fun i σ H1 => ∃ y2 y3 y4, σ = [some (.ref a), some (nI (makeL (primes.take i) (as.take i))), y2, y3, y4] ∧ Same H H1) ?_ ?_ ?_ ?_⟩
  · intro q hq
    rcases List.mem_cons.mp hq with rfl | hq
    · exact ⟨_, T.t_PRIMES _⟩
    · rcases List.mem_cons.mp hq with rfl | hq
      · exact ⟨_, hs⟩
      · cases hq
  · intro ys hy
    rcases List.mem_cons.mp hy with rfl | hy
    · rw [List.length_map]
      exact hl
    · rcases List.mem_cons.mp hy with rfl | hy
      · rw [List.length_map]
        exact Nat.le_refl _
      · cases hy
  · exact ⟨as.map nI, by simp, by simp⟩
  · exact ⟨none, none, none, rfl, Same.refl H⟩
  · rintro i σ H1 ⟨y2, y3, y4, rfl, sm⟩
    exact ⟨T.t_PRIMES _, same_sq sm hs, True.intro⟩
  · rintro i Tt σ H1 hi ⟨y2, y3, y4, rfl, sm⟩ hT
    obtain ⟨p, hp⟩ : ∃ p, primes[i]? = some p := ⟨_, List.getElem?_eq_getElem (show i < primes.length by show i < 12; omega)⟩
    have hx : as[i]? = some as[i] := List.getElem?_eq_getElem hi
    have hxb : as[i] ≤ 401 := hb _ (List.getElem_mem hi)
    have hps : p < 64 := primes_small p (List.mem_of_getElem? hp)
    rw [row2 hp hx]
    generalize as[i] = x at hx hxb
    refine ⟨Tt, _, rfl, SqT.of upd_same, rfl, _, _, rfl, _, _, rfl, rfl, ?_⟩
    refine ⟨_, rfl, (x : Int), rfl, by omega, by omega, ?_⟩
    refine for_range (fun j σ H2 => ∃ y5, σ = [some (.ref a), some (nI (makeL (primes.take i) (as.take i) * p ^ j)), some (nI p), some (nI x), y5] ∧ Same H H2) ⟨y4, by rw [Nat.pow_zero, Nat.mul_one]; rfl, sm.trans (same_new hT)⟩ ?_ ?_
    · rintro j σ H2 hj ⟨y5, rfl, sm2⟩
      have hj2 : j < x := by simpa using hj
      have h1 := make_part_lt hb hl i p j hps (by omega)
      have h2 : (makeL (primes.take i) (as.take i) * p ^ j).log2 < 40000 := lt_log2 (k := 40000) h1 (by decide) (by decide)
      have h3 : p.log2 < 6 := lt_log2 (k := 6) (by omega) (by decide) (by decide)
      refine ⟨_, rfl, _, rfl, _, p, rfl, rfl, by omega, some (.int (0 + (j : Int))), ?_, sm2⟩
      rw [Nat.pow_succ, ← Nat.mul_assoc]
      rfl
    · rintro σ H2 ⟨y5, rfl, sm2⟩
      refine ⟨some (nI p), some (nI x), y5, ?_, sm2⟩
      rw [makeL_snoc primes as i p x hp hx]
      simp
  · rintro σ H1 ⟨y2, y3, y4, rfl, sm⟩
    refine ⟨_, rfl, ?_⟩
    rw [← make_take as]
    exact q H1 sm
end
end Fr
namespace Fr
open PySem PySem.Spec PyProof.Rows L2
section
variable {P : Program} {w : World} {K : PySem.W.Frag} {mg : Str → Option Value} {base : Heap}
/-! ### is_count -/
def isCountD (lo hi : Int) : PyData → Bool
  | .int i => decide (lo ≤ i) && decide (i ≤ hi)
  | _ => false
def spCount (K : PySem.W.Frag) : Sp := fun vs H Q _ => ∃ (v : V) (d : PyData) (lo hi : Int), vs = [v, .int lo, .int hi] ∧ Dp K H v d ∧ Q (.bl (isCountD lo hi d)) H
theorem ok_is_count (T : Txt K mg) : Cal P w K mg base L2.CX0 1 "is_count" ["thing", "low", "high"] (spCount K) := by
  refine Cal.mk0 T.d_is_count T.m_is_count sc_is_count (fun _ _ _ _ _ _ us hl => match us, hl with | [_, _, _], _ => rfl) (fun vs H Q E h => ?_) (fun cdv A outer s H vs Q E hr h => ?_)
  · obtain ⟨v, d, lo, hi, rfl, _⟩ := h
    rfl
  obtain ⟨v, d, lo, hi, rfl, hd, q⟩ := h
  refine ⟨_, (pss_one (ps_ret (pe_and (pe_callB (isInt rfl) (by rfl) T.b_isinstance boot_isinstance (pa_cons (pv 0) (pa_cons (pe_bltn (v := .ty "int") (by rfl) T.b_int boot_int rfl) pa_nil))) (pe_and (pe_not (pe_callB (isBool rfl) (by rfl) T.b_isinstance boot_isinstance (pa_cons (pv 0) (pa_cons (pe_bltn (v := .ty "bool") (by rfl) T.b_bool boot_bool rfl) pa_nil)))) (pe_one (pe_chain op_le op_le (pv 1) (pv 0) (pv 2))))))), ?_⟩
  refine ⟨_, rfl, _, _, rfl, hd, _, rfl, ?_⟩
  cases d with
  | int i =>
    cases hd
    refine iteT ⟨_, rfl, _, _, rfl, .int i, _, rfl, _, rfl, iteT ⟨_, rfl, _, rfl, lo, i, rfl, rfl, _, rfl, ?_⟩⟩
    refine ite2 (fun h => ?_) (fun h => ?_)
    · refine ⟨_, rfl, i, hi, rfl, rfl, ?_⟩
      have e : isCountD lo hi (.int i) = decide (i ≤ hi) := by
        show (decide (lo ≤ i) && decide (i ≤ hi)) = _
        rw [h, Bool.true_and]
      rw [e] at q
      exact q
    · have e : isCountD lo hi (.int i) = false := by
        show (decide (lo ≤ i) && decide (i ≤ hi)) = _
        rw [Bool.eq_false_iff.mpr h, Bool.false_and]
      rw [e] at q
      exact q
  | bool b =>
    cases hd
    exact iteT ⟨_, rfl, _, _, rfl, .bl b, _, rfl, _, rfl, iteF q⟩
  | none => exact iteF q
  | str x => exact iteF q
  | list xs => exact iteF q
  | tuple xs => exact iteF q
  | dict xs => exact iteF q
def spNeedC (K : PySem.W.Frag) (C : Addr) : Sp := fun vs H Q E => ∃ (v : V) (d : PyData) (lo hi : Int), vs = [v, .int lo, .int hi] ∧ Dp K H v d ∧ (isCountD lo hi d = true → Q .non H) ∧ (isCountD lo hi d = false → E (.ref C) none H)
theorem ok_need_count (T : Txt K mg) : Cal P w K mg base (L2N.CX P w) 2 "need_count" ["thing", "low", "high"] (spNeedC K (ga K "BadNumber")) := by
  have c_is_count := ok_is_count (P := P) (w := w) (base := base) T
  refine Cal.mkX T.d_need_count T.m_need_count sc_need_count (fun _ _ _ _ _ _ us hl => match us, hl with | [_, _, _], _ => rfl) (fun vs H Q E h => ?_) (fun cdv A outer s H vs Q E hr h => ?_)
  · obtain ⟨v, d, lo, hi, rfl, _⟩ := h
    rfl
  obtain ⟨v, d, lo, hi, rfl, hd, q1, q2⟩ := h
  refine ⟨_, (pss_one (ps_if (pt_not (pt_val (pe_cal c_is_count (hr.mono (by decide)) (by rfl) pass0 (pa_cons (pv 0) (pa_cons (pv 1) (pa_cons (pv 2) pa_nil)))))) (pss_one (L2N.ps_raise rfl (L2N.takes_of rfl rfl rfl rfl) (L2N.pmk_own PySem.F.excBase_ValueError T.x_BadNumber.1 T.m_BadNumber T.x_BadNumber.2.1 (raises_own T.x_BadNumber.2.2.1 T.x_BadNumber.2.2.2) (by rfl)))) pss_nil)), ?_⟩
  refine ⟨_, rfl, _, rfl, _, rfl, v, d, lo, hi, rfl, hd, _, rfl, ?_⟩
  cases e : isCountD lo hi d with
  | true => exact iteF (q1 e)
  | false => exact iteT (q2 e)
end
end Fr
namespace Fr
open PySem PySem.Spec PyProof.Rows L2
section
variable {P : Program} {w : World} {K : PySem.W.Frag} {mg : Str → Option Value} {base : Heap}
/-! ### common -/
def spCommon : Sp := fun vs H Q _ => ∃ a b : Nat, vs = [nI a, nI b] ∧ Q (nI (Nat.gcd a b)) H
theorem gcd_step (a b : Nat) : Nat.gcd b (a % b) = Nat.gcd a b := by
  rw [Nat.gcd_comm b (a % b), ← Nat.gcd_rec, Nat.gcd_comm]
theorem ok_common (T : Txt K mg) : Cal P w K mg base L2.CX0 1 "common" ["one", "other"] spCommon := by
  refine Cal.mk0 T.d_common T.m_common sc_common (fun _ _ _ _ _ _ us hl => match us, hl with | [_, _], _ => rfl) (fun vs H Q E h => ?_) (fun cdv A outer s H vs Q E hr h => ?_)
  · obtain ⟨a, b, rfl, _⟩ := h
    rfl
  obtain ⟨a, b, rfl, q⟩ := h
  refine ⟨_, (pss_cons (ps_while PassesOwn.never (pt_cmpR opN_ne (pv 1) pe_int (nomark _)) (pss_one (ps_par (i := 0) (j := 1) (by rfl) sc_common.nd rfl rfl (by decide) rfl rfl (pa_cons (pv 1) (pa_cons (pe_op opN_mod (pv 0) (pv 1)) pa_nil)) (by rfl))))
      (pss_one (ps_ret (pv 0)))), ?_⟩
  refine ⟨fun m σ H3 => ∃ x : Nat, σ = [some (nI x), some (nI m)] ∧ H3 = H ∧ Nat.gcd x m = Nat.gcd a b, ⟨b, a, rfl, rfl, rfl⟩, ?_⟩
  rintro m σ H3 ⟨x, rfl, rfl, e⟩
  refine ⟨_, rfl, m, 0, rfl, rfl, _, rfl, ?_⟩
  by_cases h : m = 0
  · subst h
    refine iteF ⟨_, rfl, ?_⟩
    rw [Nat.gcd_zero_right] at e
    show Q (nI x) H3
    rw [e]
    exact q
  · rw [decide_eq_false h]
    refine iteT ⟨fun σ' H' => σ' = [some (nI m), some (nI (x % m))] ∧ H' = H3, ?_, ?_⟩
    · rintro σ' H' ⟨h1, h2⟩
      exact ⟨x % m, Nat.mod_lt _ (by omega), m, h1, h2, by rw [gcd_step, e]⟩
    · exact ⟨_, rfl, _, rfl, _, rfl, x, m, rfl, rfl, by omega, _, _, rfl, rfl, rfl⟩
/-! ### is_fraction -/
def spIs (K : PySem.W.Frag) (f : PyData → Bool) : Sp := fun vs H Q _ => ∃ (v : V) (d : PyData), vs = [v] ∧ Dp K H v d ∧ ∀ H', Same H H' → Q (.bl (f d)) H'
theorem ok_is_fraction (T : Txt K mg) : Cal P w K mg base L2.CX0 3 "is_fraction" ["thing"] (spIs K isFracD) := by
  have c_is_number := ok_is_number (P := P) (w := w) (base := base) T
  have c_common := ok_common (P := P) (w := w) (base := base) T
  refine Cal.mk0 T.d_is_fraction T.m_is_fraction sc_is_fraction (fun _ _ _ _ _ _ us hl => match us, hl with | [_], _ => rfl) (fun vs H Q E h => ?_) (fun cdv A outer s H vs Q E hr h => ?_)
  · obtain ⟨v, d, rfl, _⟩ := h
    rfl
  obtain ⟨v, d, rfl, hd, q⟩ := h
  refine ⟨_, (pss_cons (ps_if (PW.pt (pw_or (pt_not (pt_val (pe_callB (isTuple rfl) (by rfl) T.b_isinstance boot_isinstance (pa_cons (pv 0) (pa_cons (pe_bltn (v := .ty "tuple") (by rfl) T.b_tuple boot_tuple rfl) pa_nil))))) (pw_or (pt_cmpR opN_ne (pe_callB (lenS rfl) (by rfl) T.b_len PySem.boot_len (pa_cons (pv 0) pa_nil)) pe_int (nomark _)) (pw_or1 (pt_not (pt_val (pe_callB (crAll rfl rfl) (by rfl) T.b_all boot_all (pa_cons (pe_lc (own := [("one", 1)]) rfl sc_is_fraction.nd (piT rfl (pv 0)) (blkOk_by (own := [("one", 1)]) (N := ["thing", "one"]) (sc := defScope s_is_fraction) (by decide +kernel)) (fun _ _ _ _ _ => (pg_name (i := 1) sc_is_fraction.nd rfl (.inl rfl))) (fun _ _ _ _ _ => pts_nil) (fun _ _ _ _ _ => (pe_cal c_is_number (hr.mono (by decide)) (by rfl) pass0 (pa_cons (pv 1) pa_nil)))) pa_nil)))))))) (pss_one (ps_ret pe_bl)) pss_nil)
      (pss_one (ps_ret (pe_and (pe_cmpR opN_le (pe_callB (crMaxT rfl rfl (hu_of hr)) (by rfl) T.b_max boot_max (pa_cons (pv 0) pa_nil)) (pe_glob (v := .int 1000000) (by rfl) T.c_MOST_PART.choose_spec ⟨_, rfl⟩) (nomark _)) (pe_one (pe_cmpR opN_eq (pe_cal c_common (hr.mono (by decide)) (by rfl) pass0 (pa_cons (pe_ix (ixT rfl) (pv 0) pe_int (fun _ _ => rfl)) (pa_cons (pe_ix (ixT rfl) (pv 0) pe_int (fun _ _ => rfl)) pa_nil))) pe_int (nomark _))))))), ?_⟩
  refine ⟨_, rfl, _, _, rfl, hd, _, rfl, ?_⟩
  have q0 := q H (Same.refl H)
  cases d with
  | tuple ds =>
    cases hd with
    | @tup a xs _ hs ha =>
      have hlen := dps_len ha
      refine iteF ⟨_, rfl, a, xs, rfl, .inr hs, xs.length, 2, rfl, rfl, _, rfl, ?_⟩
      by_cases h2 : xs.length = 2
      · rw [decide_eq_true h2]
        refine iteF ⟨_, rfl, a, rfl, ⟨_, hs⟩, fun D hD => ?_⟩
        refine lc_dp (K := K) walk_tup hD (by rw [h2]; decide) (fun H' s' => same_tup s' hs) (fun i => ds[i]?.map fun d => PyData.bool (isNumD d)) ?_ ?_ ?_
        · intro i d e
          obtain ⟨a, _, rfl⟩ := Option.map_eq_some_iff.mp e
          rfl
        · rintro i x H' H'' A B hi s' ⟨rfl, hx⟩ hA hB
          obtain ⟨d, hd, hp⟩ := dps_at2 ha hx
          exact ⟨rfl, _, rfl, x, d, rfl, same_dp s' hp, fun H4 s4 => hA _ _ _ (by rw [hd]; rfl) s4 (.bl _)⟩
        · intro H' ys s' hD' hA
          rw [hlen, gath_map] at hA
          have e2 : ys = (ds.map isNumD).map V.bl := dps_bools (by rw [List.map_map]; exact hA)
          rw [e2] at hD'
          obtain ⟨x, y, rfl⟩ : ∃ x y, ds = [x, y] := by
            match ds, hlen with
            | [x, y], _ => exact ⟨x, y, rfl⟩
            | [], h => rw [h2] at h; cases h
            | [_], h => rw [h2] at h; cases h
            | _ :: _ :: _ :: _, h => rw [h2] at h; simp at h
          refine ⟨D, [isNumD x, isNumD y], rfl, SqL.of hD', _, rfl, ?_⟩
          have e3 : ([isNumD x, isNumD y].all id) = (isNumD x && isNumD y) := by simp
          rw [e3]
          cases hxy : (isNumD x && isNumD y) with
          | false =>
            have e4 : isFracD (.tuple [x, y]) = false := by
              show ((isNumD x && isNumD y) && _) = false
              rw [hxy, Bool.false_and]
            rw [e4] at q
            exact iteT (q H' s')
          | true =>
            obtain ⟨hx, hy⟩ := Bool.and_eq_true_iff.mp hxy
            obtain ⟨n, rfl, _⟩ := isNumD_is hx
            obtain ⟨m, rfl, _⟩ := isNumD_is hy
            have exs : xs = [n, m].map nI := dps_nats (ns := [n, m]) ha
            have hs' : SqT K H' a ([n, m].map nI) := by rw [← exs]; exact same_tup s' hs
            have e4 : isFracD (.tuple [nD n, nD m]) = (decide (max n m ≤ 1000000) && decide (Nat.gcd n m = 1)) := by
              show ((isNumD (nD n) && isNumD (nD m)) && (decide (max (n : Int).toNat (m : Int).toNat ≤ 1000000) && decide (Nat.gcd (n : Int).toNat (m : Int).toNat = 1))) = _
              rw [hxy, Bool.true_and, Int.toNat_natCast, Int.toNat_natCast]
            rw [e4] at q
            refine iteF ⟨_, rfl, a, [n, m], rfl, hs', by simp, maxN [n, m], 1000000, rfl, rfl, _, rfl, ?_⟩
            have e5 : maxN [n, m] = max n m := by simp [maxN]
            rw [e5]
            cases hmx : decide (max n m ≤ 1000000) with
            | false =>
              rw [hmx, Bool.false_and] at q
              exact iteF (q H' s')
            | true =>
              rw [hmx, Bool.true_and] at q
              refine iteT ⟨_, rfl, a, _, 0, _, rfl, rfl, hs', atI0, _, rfl, a, _, 1, _, rfl, rfl, hs', atI1, n, m, rfl, Nat.gcd n m, 1, rfl, rfl, ?_⟩
              exact q H' s'
      · rw [decide_eq_false h2]
        have e : isFracD (.tuple ds) = false := by
          match ds, hlen with
          | [], _ => rfl
          | [_], _ => rfl
          | [_, _], h => exact absurd h h2
          | _ :: _ :: _ :: _, _ => rfl
        rw [e] at q0
        exact iteT (iteT q0)
  | none => exact iteT (iteT q0)
  | bool b => exact iteT (iteT q0)
  | int i => exact iteT (iteT q0)
  | str x => exact iteT (iteT q0)
  | list xs => exact iteT (iteT q0)
  | dict xs => exact iteT (iteT q0)
/-! ### is_program -/
theorem ok_is_program (T : Txt K mg) : Cal P w K mg base L2.CX0 4 "is_program" ["thing"] (spIs K isProgD) := by
  have c_is_fraction := ok_is_fraction (P := P) (w := w) (base := base) T
  refine Cal.mk0 T.d_is_program T.m_is_program sc_is_program (fun _ _ _ _ _ _ us hl => match us, hl with | [_], _ => rfl) (fun vs H Q E h => ?_) (fun cdv A outer s H vs Q E hr h => ?_)
  · obtain ⟨v, d, rfl, _⟩ := h
    rfl
  obtain ⟨v, d, rfl, hd, q⟩ := h
  refine ⟨_, (pss_cons (ps_if (PW.pt (pw_or (pt_not (pt_val (pe_callB (isList rfl) (by rfl) T.b_isinstance boot_isinstance (pa_cons (pv 0) (pa_cons (pe_bltn (v := .ty "list") (by rfl) T.b_list boot_list rfl) pa_nil))))) (pw_or1 (pt_cmpR opN_gt (pe_callB (lenS rfl) (by rfl) T.b_len PySem.boot_len (pa_cons (pv 0) pa_nil)) (pe_glob (v := .int 16) (by rfl) T.c_MOST_FRACTIONS.choose_spec ⟨_, rfl⟩) (nomark _))))) (pss_one (ps_ret pe_bl)) pss_nil)
      (pss_one (ps_ret (pe_callB (crAll rfl rfl) (by rfl) T.b_all boot_all (pa_cons (pe_lc (own := [("one", 1)]) rfl sc_is_program.nd (piL rfl (pv 0)) (blkOk_by (own := [("one", 1)]) (N := ["thing", "one"]) (sc := defScope s_is_program) (by decide +kernel)) (fun _ _ _ _ _ => (pg_name (i := 1) sc_is_program.nd rfl (.inl rfl))) (fun _ _ _ _ _ => pts_nil) (fun _ _ _ _ _ => (pe_cal c_is_fraction (hr.mono (by decide)) (by rfl) pass0 (pa_cons (pv 1) pa_nil)))) pa_nil))))), ?_⟩
  refine ⟨_, rfl, _, _, rfl, hd, _, rfl, ?_⟩
  have q0 := q H (Same.refl H)
  cases d with
  | list ds =>
    cases hd with
    | @lst a xs _ hs ha =>
      have hlen := dps_len ha
      refine iteF ⟨_, rfl, a, xs, rfl, .inl hs, xs.length, 16, rfl, rfl, _, rfl, ?_⟩
      have e0 : isProgD (.list ds) = (decide (ds.length ≤ 16) && ds.all isFracD) := rfl
      by_cases h2 : 16 < xs.length
      · rw [decide_eq_true h2]
        rw [e0, decide_eq_false (by omega), Bool.false_and] at q0
        exact iteT q0
      · rw [decide_eq_false h2]
        rw [e0, decide_eq_true (by omega), Bool.true_and] at q
        refine iteF ⟨_, rfl, a, rfl, ⟨_, hs⟩, fun D hD => ?_⟩
        refine lc_dp (K := K) walk_list hD (by omega) (fun H' s' => s'.seq hs) (fun i => ds[i]?.map fun d => PyData.bool (isFracD d)) ?_ ?_ ?_
        · intro i d e
          obtain ⟨a, _, rfl⟩ := Option.map_eq_some_iff.mp e
          rfl
        · rintro i x H' H'' A B hi s' ⟨rfl, hx⟩ hA hB
          obtain ⟨d, hd, hp⟩ := dps_at2 ha hx
          exact ⟨rfl, _, rfl, x, d, rfl, same_dp s' hp, fun H4 s4 => hA _ _ _ (by rw [hd]; rfl) s4 (.bl _)⟩
        · intro H' ys s' hD' hA
          rw [hlen, gath_map] at hA
          have e2 : ys = (ds.map isFracD).map V.bl := dps_bools (by rw [List.map_map]; exact hA)
          rw [e2] at hD'
          refine ⟨D, ds.map isFracD, rfl, SqL.of hD', ?_⟩
          have e3 : ((ds.map isFracD).all id) = ds.all isFracD := by rw [List.all_map]; rfl
          rw [e3]
          exact q H' s'
  | none => exact iteT (iteT q0)
  | bool b => exact iteT (iteT q0)
  | int i => exact iteT (iteT q0)
  | str x => exact iteT (iteT q0)
  | tuple xs => exact iteT (iteT q0)
  | dict xs => exact iteT (iteT q0)
theorem ok_need_program (T : Txt K mg) : Cal P w K mg base (L2N.CX P w) 5 "need_program" ["program"] (spNeed K (ga K "BadProgram") isProgD) := by
  have c_is_program := ok_is_program (P := P) (w := w) (base := base) T
  refine Cal.mkX T.d_need_program T.m_need_program sc_need_program (fun _ _ _ _ _ _ us hl => match us, hl with | [_], _ => rfl) (fun vs H Q E h => ?_) (fun cdv A outer s H vs Q E hr h => ?_)
  · obtain ⟨v, d, rfl, _⟩ := h
    rfl
  obtain ⟨v, d, rfl, hd, q1, q2⟩ := h
  refine ⟨_, (pss_one (ps_if (pt_not (pt_val (pe_cal c_is_program (hr.mono (by decide)) (by rfl) pass0 (pa_cons (pv 0) pa_nil)))) (pss_one (L2N.ps_raise rfl (L2N.takes_of rfl rfl rfl rfl) (L2N.pmk_own PySem.F.excBase_ValueError T.x_BadProgram.1 T.m_BadProgram T.x_BadProgram.2.1 (raises_own T.x_BadProgram.2.2.1 T.x_BadProgram.2.2.2) (by rfl)))) pss_nil)), ?_⟩
  refine ⟨_, rfl, v, d, rfl, hd, fun H1 s1 => ⟨_, rfl, ?_⟩⟩
  cases e : isProgD d with
  | true => exact iteF (q1 e H1 s1)
  | false => exact iteT (q2 e H1 s1)
end
end Fr
namespace Fr
open PySem PySem.Spec PyProof.Rows L2
section
variable {P : Program} {w : World} {K : PySem.W.Frag} {mg : Str → Option Value} {base : Heap}
/-! ### first_at -/
def spFirst (K : PySem.W.Frag) : Sp := fun vs H Q _ => ∃ (v : V) (l : Prog) (n : Nat), vs = [v, nI n] ∧ Dp K H v (progD l) ∧ (∀ p ∈ l, 0 < p.2) ∧ ∀ H', Same H H' → Q (optV (firstAt l n)) H'
theorem ok_first_at (T : Txt K mg) : Cal P w K mg base L2.CX0 1 "first_at" ["program", "number"] (spFirst K) := by
  refine Cal.mk0 T.d_first_at T.m_first_at sc_first_at (fun _ _ _ _ _ _ us hl => match us, hl with | [_, _], _ => rfl) (fun vs H Q E h => ?_) (fun cdv A outer s H vs Q E hr h => ?_)
  · obtain ⟨v, l, n, rfl, _⟩ := h
    rfl
  obtain ⟨v, l, n, rfl, hd, hpos, q⟩ := h
  obtain ⟨a, xs, rfl, hs, ha, hlen⟩ := prog_at hd
  refine ⟨_, (pss_cons (ps_for PassesOwn.never rfl (piE rfl (by rfl) T.b_enumerate (pa_cons (pv 0) pa_nil)) (pgT (n := 2) rfl rfl (pgs_cons (pg_name (i := 2) sc_first_at.nd rfl (.inl rfl)) (pgs_cons (pg_name (i := 3) sc_first_at.nd rfl (.inl rfl)) pgs_nil))) (pss_one (ps_if (pt_cmpR opN_eq (pe_op opN_mod (pv 1) (pe_ix (ixT rfl) (pv 3) pe_int (fun _ _ => rfl))) pe_int (nomark _)) (pss_one (ps_ret (pv 2))) pss_nil)))
      (pss_one (ps_ret pe_non))), ?_⟩
  refine ⟨_, rfl, a, xs, rfl, hs, for_it walk_enum (fun i σ H3 => (∃ y2 y3, σ = [some (.ref a), some (nI n), y2, y3]) ∧ Same H H3 ∧ ∀ (j : Nat) (hj : j < l.length), j < i → n % (l[j]).2 ≠ 0) ⟨⟨none, none, rfl⟩, Same.refl H, fun j hj h => absurd h (by omega)⟩ (fun i σ H3 _ p => p.2.1.seq hs) ?_ ?_⟩
  · rintro i x σ H3 H4 hi ⟨⟨y2, y3, rfl⟩, sm, hb⟩ ⟨T', x1, x2, rfl, nT, rfl, e1, e2⟩
    have e1 : x1 = nI i := (Option.some.inj e1).symm
    subst e1
    have sT : Same H3 (upd H3 T' (.tup [nI i, x2])) := same_new nT
    obtain ⟨hi', b, rfl, hb2, _⟩ := prog_item (same_dps (sm.trans sT) ha) e2
    refine ⟨T', _, rfl, SqT.of upd_same, rfl, _, _, rfl, _, _, rfl, rfl, ?_⟩
    refine ⟨_, rfl, _, rfl, b, _, 1, _, rfl, rfl, hb2, atI1, n, (l[i]).2, rfl, rfl, hpos _ (List.getElem_mem hi'), _, 0, rfl, rfl, _, rfl, ?_⟩
    by_cases hf : n % (l[i]).2 = 0
    · rw [decide_eq_true hf]
      refine iteT ⟨_, rfl, ?_⟩
      have e := firstAt_some hi' hf fun j hj hji => hb j hj hji
      rw [e] at q
      exact q _ (sm.trans sT)
    · rw [decide_eq_false hf]
      refine iteF ⟨⟨_, _, rfl⟩, sm.trans sT, fun j hj hji => ?_⟩
      by_cases hji2 : j = i
      · subst hji2
        exact hf
      · exact hb j hj (by omega)
  · rintro σ H3 ⟨⟨y2, y3, rfl⟩, sm, hb⟩
    have e : firstAt l n = none := firstAt_none fun j hj => hb j hj (by omega)
    rw [e] at q
    exact q H3 sm
/-! ### led -/
def spLed (K : PySem.W.Frag) : Sp := fun vs H Q _ => ∃ (v : V) (l : Prog) (n : Nat), vs = [v, nI n] ∧ Dp K H v (progD l) ∧ isProg l = true ∧ n < 2 ^ 30000 ∧ ∀ H', Same H H' → Q (optV (led l n)) H'
theorem ok_led (T : Txt K mg) : Cal P w K mg base L2.CX0 2 "led" ["program", "number"] (spLed K) := by
  have c_first_at := ok_first_at (P := P) (w := w) (base := base) T
  refine Cal.mk0 T.d_led T.m_led sc_led (fun _ _ _ _ _ _ us hl => match us, hl with | [_, _], _ => rfl) (fun vs H Q E h => ?_) (fun cdv A outer s H vs Q E hr h => ?_)
  · obtain ⟨v, l, n, rfl, _⟩ := h
    rfl
  obtain ⟨v, l, n, rfl, hd, hP, hn, q⟩ := h
  refine ⟨_, (pss_cons (ps_set (i := 2) sc_led.nd rfl (.inl rfl) (pe_cal c_first_at (hr.mono (by decide)) (by rfl) pass0 (pa_cons (pv 0) (pa_cons (pv 1) pa_nil))))
      (pss_one (ps_ret (pe_ifExp (pt_cmpR op_isN (pv 2) pe_non (nomark _)) pe_non (pe_op opN_mul (pe_op opN_div (pv 1) (pe_ix (ixT rfl) (pe_ix (ixL rfl) (pv 0) (pv 2) (fun _ _ => rfl)) pe_int (fun _ _ => rfl))) (pe_ix (ixT rfl) (pe_ix (ixL rfl) (pv 0) (pv 2) (fun _ _ => rfl)) pe_int (fun _ _ => rfl))))))), ?_⟩
  refine ⟨_, rfl, _, rfl, v, l, n, rfl, hd, isProg_pos hP, fun H1 s1 => ?_⟩
  cases e : firstAt l n with
  | none =>
    have e2 : led l n = none := by unfold led; rw [e]; rfl
    rw [e2] at q
    exact ⟨_, rfl, rfl, _, rfl, iteT (q H1 s1)⟩
  | some i =>
    have hi := firstAt_lt e
    have e2 : led l n = some (n / (l[i]).2 * (l[i]).1) := by
      unfold led
      rw [e, Option.map_some, unAt_eq hi, upAt_eq hi]
    rw [e2] at q
    obtain ⟨a, xs, rfl, hs, ha, hlen⟩ := prog_at (same_dp s1 hd)
    obtain ⟨b, hb, hbs⟩ := prog_get ha hi
    obtain ⟨f1, f2, f3, f4, f5⟩ := isFrac_iff.mp ((isProg_iff.mp hP).2 _ (List.getElem_mem hi))
    refine ⟨_, rfl, rfl, _, rfl, iteF ?_⟩
    refine ⟨_, rfl, _, rfl, _, rfl, a, xs, i, _, rfl, rfl, hs, atIn hb, b, _, 1, _, rfl, rfl, hbs, atI1, n, (l[i]).2, rfl, rfl, ⟨isNum_pos f2, lt_log2 (mil_lt f4) (by decide) (by decide)⟩, ?_⟩
    refine ⟨_, rfl, _, rfl, a, xs, i, _, rfl, rfl, hs, atIn hb, b, _, 0, _, rfl, rfl, hbs, atI0, n / (l[i]).2, (l[i]).1, rfl, rfl, ?_, q H1 s1⟩
    have h1 : n / (l[i]).2 < 2 ^ 30000 := Nat.lt_of_le_of_lt (Nat.div_le_self _ _) hn
    have h2 := lt_log2 (j := 30000) h1 (by decide) (by decide)
    have h3 := lt_log2 (j := 20) (mil_lt f3) (by decide) (by decide)
    omega
/-! ### need_room -/
def spRoom (K : PySem.W.Frag) (C : Addr) : Sp := fun vs H Q E => ∃ n : Nat, vs = [nI n] ∧ 0 < n ∧ (maxN (rooms n) ≤ 400 → ∀ H', Same H H' → Q .non H') ∧ (400 < maxN (rooms n) → ∀ H', Same H H' → E (.ref C) none H')
theorem rooms_ne (n : Nat) : rooms n ≠ [] := fun z => by
  have h := rooms_len n
  rw [z] at h
  cases h
theorem ok_need_room (T : Txt K mg) : Cal P w K mg base (L2N.CX P w) 3 "need_room" ["number"] (spRoom K (ga K "TooGreat")) := by
  have c_parted := ok_parted (P := P) (w := w) (base := base) T
  refine Cal.mkX T.d_need_room T.m_need_room sc_need_room (fun _ _ _ _ _ _ us hl => match us, hl with | [_], _ => rfl) (fun vs H Q E h => ?_) (fun cdv A outer s H vs Q E hr h => ?_)
  · obtain ⟨n, rfl, _⟩ := h
    rfl
  obtain ⟨n, rfl, hn, q1, q2⟩ := h
  refine ⟨_, (pss_one (ps_if (PW.pt (pw_and (pt_cmpR opN_gt (pe_op opN_div (pe_op opN_div (pv 0) (pe_op opN_pow pe_int pe_int)) (pe_op opN_pow pe_int pe_int)) pe_int (nomark _)) (pw_and1 (pt_cmpR opN_gt (pe_callB (crMaxT rfl rfl (hu_of hr)) (by rfl) T.b_max boot_max (pa_cons (pe_ix (ixT rfl) (pe_cal c_parted (hr.mono (by decide)) (by rfl) pass0 (pa_cons (pv 0) pa_nil)) pe_int (fun _ _ => rfl)) pa_nil)) (pe_glob (v := .int 400) (by rfl) T.c_MOST_ROOM.choose_spec ⟨_, rfl⟩) (nomark _))))) (pss_one (L2N.ps_raise rfl (L2N.takes_of rfl rfl rfl rfl) (L2N.pmk_own PySem.F.excBase_ValueError T.x_TooGreat.1 T.m_TooGreat T.x_TooGreat.2.1 (raises_own T.x_TooGreat.2.2.1 T.x_TooGreat.2.2.2) (by rfl)))) pss_nil)), ?_⟩
  have hT : ((10 : Nat) ^ 60).log2 < 9000 := by decide +kernel
  have hp : 0 < (10 : Nat) ^ 60 := by decide +kernel
  generalize hB : (10 : Nat) ^ 60 = B at hT hp
  refine ⟨_, rfl, 10, 60, rfl, rfl, ⟨by decide, by decide⟩, n, B, rfl, congrArg nI hB, ⟨hp, hT⟩, 10, 60, rfl, rfl, ⟨by decide, by decide⟩, n / B, B, rfl, congrArg nI hB, ⟨hp, hT⟩, n / B / B, 0, rfl, rfl, _, rfl, ?_⟩
  by_cases hg : 0 < n / B / B
  · rw [decide_eq_true hg]
    refine iteT ⟨_, rfl, n, rfl, hn, fun p t H1 s1 ht hp => ?_⟩
    refine ⟨p, _, 0, _, rfl, rfl, SqT.of hp, atI0, t, rooms n, rfl, SqT.of ht, rooms_ne n, maxN (rooms n), 400, rfl, rfl, _, rfl, ?_⟩
    by_cases hm : 400 < maxN (rooms n)
    · rw [decide_eq_true hm]
      exact iteT (q2 hm H1 s1)
    · rw [decide_eq_false hm]
      exact iteF (q1 (by omega) H1 s1)
  · rw [decide_eq_false hg]
    refine iteF (iteF (q1 ?_ H (Same.refl H)))
    rcases Nat.lt_or_ge 400 (maxN (rooms n)) with h | h
    · have z := great hn (maxN_mem (rooms_ne n)) h
      rw [hB] at z
      exact absurd z hg
    · exact h
/-! ### look -/
def spLook (K : PySem.W.Frag) : Sp := fun vs H Q E => ∃ (v u : V) (d e : PyData), vs = [v, u] ∧ Dp K H v d ∧ Dp K H u e ∧ (isProgD d = true → isNumD e = true → ∀ H', Same H H' → Q .non H') ∧
  (isProgD d = false → ∀ H', Same H H' → E (.ref (ga K "BadProgram")) none H') ∧ (isProgD d = true → isNumD e = false → ∀ H', Same H H' → E (.ref (ga K "BadNumber")) none H')
theorem ok_look (T : Txt K mg) : Cal P w K mg base (L2N.CX P w) 6 "look" ["program", "number"] (spLook K) := by
  have c_need_program := ok_need_program (P := P) (w := w) (base := base) T
  have c_need_number := ok_need_number (P := P) (w := w) (base := base) T
  refine Cal.mkX T.d_look T.m_look sc_look (fun _ _ _ _ _ _ us hl => match us, hl with | [_, _], _ => rfl) (fun vs H Q E h => ?_) (fun cdv A outer s H vs Q E hr h => ?_)
  · obtain ⟨v, u, d, e, rfl, _⟩ := h
    rfl
  obtain ⟨v, u, d, e, rfl, hd, he, q1, q2, q3⟩ := h
  refine ⟨_, (pss_cons (ps_expr (pe_cal c_need_program (hr.mono (by decide)) (by rfl) (L2N.passes_call (L2N.takes_of rfl rfl rfl rfl) (fun _ _ _ _ h => h)) (pa_cons (pv 0) pa_nil)))
      (pss_one (ps_expr (pe_cal c_need_number (hr.mono (by decide)) (by rfl) (L2N.passes_call (L2N.takes_of rfl rfl rfl rfl) (fun _ _ _ _ h => h)) (pa_cons (pv 1) pa_nil))))), ?_⟩
  refine ⟨_, rfl, v, d, rfl, hd, fun hp H1 s1 => ?_, fun hp H1 s1 => q2 hp H1 s1⟩
  exact ⟨_, rfl, u, e, rfl, same_dp s1 he, fun hn H2 s2 => q1 hp hn H2 (s1.trans s2), fun hn H2 s2 => q3 hp hn H2 (s1.trans s2)⟩
/-! ### step -/
def isGreat (o : Option Nat) : Bool := match o with
  | some m => decide (400 < maxN (rooms m))
  | none => false
def spStep (K : PySem.W.Frag) : Sp := fun vs H Q E => ∃ (v u : V) (d e : PyData), vs = [v, u] ∧ Dp K H v d ∧ Dp K H u e ∧
  (isProgD d = false → ∀ H', Same H H' → E (.ref (ga K "BadProgram")) none H') ∧ (isProgD d = true → isNumD e = false → ∀ H', Same H H' → E (.ref (ga K "BadNumber")) none H') ∧
  (∀ (l : Prog) (n : Nat), d = progD l → e = nD n → isProg l = true → isNum n = true → (isGreat (led l n) = false → ∀ H', Same H H' → Q (optV (led l n)) H') ∧ (isGreat (led l n) = true → ∀ H', Same H H' → E (.ref (ga K "TooGreat")) none H'))
theorem led_pos {l : Prog} {n m : Nat} (hP : isProg l = true) (hn : 0 < n) (h : led l n = some m) : 0 < m := by
  unfold led at h
  obtain ⟨i, hi, rfl⟩ := Option.map_eq_some_iff.mp h
  obtain ⟨hlt, h0, _⟩ := firstAt_is hi
  obtain ⟨f1, f2, f3, f4, f5⟩ := isFrac_iff.mp ((isProg_iff.mp hP).2 _ (List.getElem_mem hlt))
  rw [unAt_eq hlt, upAt_eq hlt]
  exact Nat.mul_pos (Nat.div_pos (Nat.le_of_dvd hn (Nat.dvd_of_mod_eq_zero h0)) (isNum_pos f2)) (isNum_pos f1)
theorem num_lt {n : Nat} (h : isNum n = true) : n < 2 ^ 30000 := Nat.lt_trans (isNum_lt h) (Nat.pow_lt_pow_right (by decide) (by decide))
end
end Fr
namespace Fr
open PySem PySem.Spec PyProof.Rows L2
section
variable {P : Program} {w : World} {K : PySem.W.Frag} {mg : Str → Option Value} {base : Heap}
/-! ### fits_at -/
/-! ### run -/
def runF (l : Prog) : Nat → Nat → Option (List Nat)
  | 0, n => some [n]
  | f + 1, n => match led l n with
    | none => some [n]
    | some x => if 400 < maxN (rooms x) then none else (runF l f x).map (n :: ·)
theorem maxN_bd {as : List Nat} {b : Nat} (h : maxN as ≤ b) : ∀ a ∈ as, a ≤ b := fun a ha => Nat.le_trans (maxN_le ha) h
theorem led_num {l : Prog} {n x : Nat} (hP : isProg l = true) (hN : isNum n = true) (h : led l n = some x) (hx : ¬ 400 < maxN (rooms x)) : isNum x = true := by
  have hn := isNum_iff.mp hN
  obtain ⟨a, b⟩ := led_left hP hn.1 hn.2.1 h
  exact isNum_iff.mpr ⟨a, b, maxN_bd (by omega)⟩
theorem runF_num {l : Prog} (hP : isProg l = true) : ∀ (f n : Nat) (r : List Nat), isNum n = true → runF l f n = some r → r ≠ [] ∧ r.length ≤ f + 1 ∧ ∀ x ∈ r, isNum x = true := by
  intro f
  induction f with
  | zero =>
    intro n r hn h
    cases h
    exact ⟨by simp, by simp, fun x hx => by rw [List.mem_singleton.mp hx]; exact hn⟩
  | succ f ih =>
    intro n r hn h
    unfold runF at h
    cases e : led l n with
    | none =>
      rw [e] at h
      cases h
      exact ⟨by simp, by simp, fun x hx => by rw [List.mem_singleton.mp hx]; exact hn⟩
    | some x =>
      rw [e] at h
      dsimp only at h
      split at h
      · cases h
      · rename_i hg
        obtain ⟨r', h', rfl⟩ := Option.map_eq_some_iff.mp h
        obtain ⟨a, b, c⟩ := ih x r' (led_num hP hn e hg) h'
        refine ⟨by simp, by simp; omega, fun y hy => ?_⟩
        rcases List.mem_cons.mp hy with rfl | hy
        · exact hn
        · exact c y hy
def spRun (K : PySem.W.Frag) : Sp := fun vs H Q E => ∃ (v u c : V) (d e g : PyData), vs = [v, u, c] ∧ Dp K H v d ∧ Dp K H u e ∧ Dp K H c g ∧
  (isProgD d = false → ∀ H', Same H H' → E (.ref (ga K "BadProgram")) none H') ∧ (isProgD d = true → isNumD e = false → ∀ H', Same H H' → E (.ref (ga K "BadNumber")) none H') ∧
  (isProgD d = true → isNumD e = true → isCountD 0 2000 g = false → ∀ H', Same H H' → E (.ref (ga K "BadNumber")) none H') ∧
  (∀ (l : Prog) (n m : Nat), d = progD l → e = nD n → g = nD m → isProg l = true → isNum n = true → m ≤ 2000 →
    (∀ r, runF l m n = some r → ∀ p H', Same H H' → H p = none → H' p = some (.lst (r.map nI)) → Q (.ref p) H') ∧ (runF l m n = none → ∀ H', Same H H' → E (.ref (ga K "TooGreat")) none H'))
theorem isCount_is {hi : Nat} {g : PyData} (h : isCountD 0 hi g = true) : ∃ m : Nat, g = nD m ∧ m ≤ hi := by
  cases g with
  | int i =>
    have h : (decide ((0 : Int) ≤ i) && decide (i ≤ (hi : Int))) = true := h
    rw [Bool.and_eq_true] at h
    have h1 := of_decide_eq_true h.1
    have h2 := of_decide_eq_true h.2
    refine ⟨i.toNat, ?_, by omega⟩
    show PyData.int i = .int (i.toNat : Int)
    rw [Int.toNat_of_nonneg h1]
  | _ => cases h
/-! ### end -/
theorem at_last (r : List Nat) (z : Nat) : atI ((r ++ [z]).map nI) (-1) = some (nI z) := by
  have e : ixN ((r ++ [z]).map nI).length (-1) = some r.length := by
    rw [List.length_map, List.length_append]
    unfold ixN
    rw [if_neg (by decide), if_pos (by show -((r.length + 1 : Nat) : Int) ≤ -1; omega)]
    show some (-1 + ((r.length + 1 : Nat) : Int)).toNat = _
    congr 1
    omega
  unfold atI
  rw [e]
  show ((r ++ [z]).map nI)[r.length]? = some (nI z)
  simp
end
end Fr
namespace Fr
open PySem PySem.Spec PyProof.Rows L2
section
variable {P : Program} {w : World} {K : PySem.W.Frag} {mg : Str → Option Value} {base : Heap}
theorem lay_ints : ∀ ns : List Int, PyData.canLayAll0 (ns.map PyData.int) = true
  | [] => by simp [PyData.canLayAll0]
  | n :: ns => by simp [PyData.canLayAll0, PyData.canLay0, lay_ints ns]
theorem shaped_ints (ns : List Int) : SeqAt.shaped (.list (ns.map PyData.int)) = true := by
  unfold SeqAt.shaped
  simp [PyData.canLay0, PyData.depth, lay_ints, depth_ints]
/-! ### _law_cell -/
def spCellL (K : PySem.W.Frag) : Sp := fun vs H Q _ => ∃ (a : Addr) (k : Nat) (ns : List Int), vs = [.ref a, nI k] ∧ SqL K H a (ns.map V.int) ∧ ns.length ≤ 63 ∧ k ≤ 1000 ∧ ∀ (c : Int) H', Same H H' → Q (.int c) H'
theorem ok__law_cell (T : Txt K mg) : Cal P w K mg base L2.CX0 1 "_law_cell" ["script", "k"] (spCellL K) := by
  refine Cal.mk0 T.d__law_cell T.m__law_cell sc__law_cell (fun _ _ _ _ _ _ us hl => match us, hl with | [_, _], _ => rfl) (fun vs H Q E h => ?_) (fun cdv A outer s H vs Q E hr h => ?_)
  · obtain ⟨a, k, ns, rfl, _⟩ := h
    rfl
  obtain ⟨a, k, ns, rfl, hs, hl, hk, q⟩ := h
  refine ⟨_, (pss_cons (ps_if (pt_cmpR (eqD rfl hr.units) (pv 0) (pe_lst pa_nil) (nomark _)) (pss_one (ps_ret (pe_op opN_mul (pv 1) pe_int))) pss_nil)
      (pss_one (ps_ret (pe_op op_add (pe_ix (ixL rfl) (pv 0) (pe_op opN_mod (pv 1) (pe_callB (lenS rfl) (by rfl) T.b_len PySem.boot_len (pa_cons (pv 0) pa_nil))) (fun _ _ => rfl)) (pe_op opN_mul (pe_op opN_div (pv 1) (pe_callB (lenS rfl) (by rfl) T.b_len PySem.boot_len (pa_cons (pv 0) pa_nil))) pe_int))))), ?_⟩
  have hk2 : k.log2 < 20 := lt_log2 (k := 20) (by omega) (by decide) (by decide)
  refine ⟨_, rfl, Nat.zero_le _, fun p np => ?_⟩
  have s1 : Same H (upd H p (.lst [])) := same_new np
  refine ⟨.list (ns.map PyData.int), .list [], .lst (s1.seq hs) (dps_ints ns), .lst (SqL.of upd_same) .nil, shaped_ints ns, shaped_ints [], _, rfl, ?_⟩
  cases ns with
  | nil =>
    refine iteT ⟨_, rfl, k, 7919, rfl, rfl, ?_, q _ _ s1⟩
    have : (7919 : Nat).log2 < 20 := by decide
    omega
  | cons n ns =>
    have hlen : ((n :: ns).map V.int).length = ns.length + 1 := by simp
    refine iteF ?_
    have hm : k % (ns.length + 1) < ((n :: ns).map V.int).length := by rw [hlen]; exact Nat.mod_lt _ (by omega)
    have hg : ((n :: ns).map V.int)[k % (ns.length + 1)]? = some (.int ((n :: ns)[k % (ns.length + 1)]'(by simpa using hm))) := by
      rw [List.getElem?_map, List.getElem?_eq_getElem (by simpa using hm)]
      rfl
    simp only [List.length_cons] at hl
    have h3 : (k / (ns.length + 1)).log2 < 20 := lt_log2 (k := 20) (Nat.lt_of_le_of_lt (Nat.div_le_self _ _) (by omega)) (by decide) (by decide)
    have h4 : (104729 : Nat).log2 < 20 := by decide
    refine ⟨_, rfl, _, rfl, _, rfl, a, _, rfl, .inl (s1.seq hs), k, ns.length + 1, rfl, by rw [hlen], by omega, a, _, _, _, rfl, rfl, s1.seq hs, atIn hg, ?_⟩
    refine ⟨_, rfl, _, rfl, a, _, rfl, .inl (s1.seq hs), k, ns.length + 1, rfl, by rw [hlen], ⟨by omega, lt_log2 (k := 20) (by omega) (by decide) (by decide)⟩, _, 104729, rfl, rfl, by omega, _, _, rfl, rfl, q _ _ s1⟩
/-! ### _law_drawn -/
def spDrawn : Sp := fun vs H Q _ => ∃ (c : Int) (k : Nat), vs = [.int c, nI k] ∧ k ≤ 100000 ∧ ∀ d : Nat, d < 2 ^ 129 → Q (nI d) H
theorem ok__law_drawn (T : Txt K mg) : Cal P w K mg base L2.CX0 1 "_law_drawn" ["cell", "k"] spDrawn := by
  refine Cal.mk0 T.d__law_drawn T.m__law_drawn sc__law_drawn (fun _ _ _ _ _ _ us hl => match us, hl with | [_, _], _ => rfl) (fun vs H Q E h => ?_) (fun cdv A outer s H vs Q E hr h => ?_)
  · obtain ⟨c, k, rfl, _⟩ := h
    rfl
  obtain ⟨c, k, rfl, hk, q⟩ := h
  refine ⟨_, (pss_cons (ps_set (i := 2) sc__law_drawn.nd rfl (.inl rfl) (pe_op op_mod (pe_op op_add (pe_op op_mul (pv 0) pe_int) (pe_op opN_mul (pe_op opN_add (pv 1) pe_int) pe_int)) pe_int))
      (pss_cons (ps_set (i := 2) sc__law_drawn.nd rfl (.inl rfl) (pe_op opN_mod (pe_op opN_mul (pv 2) (pv 2)) pe_int))
      (pss_cons (ps_set (i := 2) sc__law_drawn.nd rfl (.inl rfl) (pe_op opN_mul (pe_op opN_mul (pe_op opN_add (pe_op opN_mod (pv 2) pe_int) pe_int) (pe_op opN_add (pe_op opN_div (pv 2) pe_int) pe_int)) (pv 2)))
      (pss_one (ps_ret (pe_op opN_mod (pv 2) pe_int)))))), ?_⟩
  have hk2 : (k + 1).log2 < 20 := lt_log2 (k := 20) (by omega) (by decide) (by decide)
  have hc2 : (1442695040888963407 : Nat).log2 < 64 := by decide +kernel
  refine ⟨_, rfl, c, 6364136223846793005, rfl, rfl, .inr ⟨by decide, by decide⟩, _, rfl, k, 1, rfl, rfl, k + 1, 1442695040888963407, rfl, rfl, by omega, _, _, rfl, rfl, _, 340282366920938463463374607431768211507, rfl, rfl, by omega, ?_⟩
  obtain ⟨m, hm, hm2⟩ : ∃ m : Nat, (c * 6364136223846793005 + (((k + 1) * 1442695040888963407 : Nat) : Int)) % 340282366920938463463374607431768211507 = (m : Int) ∧ m < 340282366920938463463374607431768211507 := by
    have h1 := Int.emod_nonneg (c * 6364136223846793005 + (((k + 1) * 1442695040888963407 : Nat) : Int)) (b := 340282366920938463463374607431768211507) (by decide)
    have h2 := Int.emod_lt_of_pos (c * 6364136223846793005 + (((k + 1) * 1442695040888963407 : Nat) : Int)) (b := 340282366920938463463374607431768211507) (by decide)
    generalize (c * 6364136223846793005 + (((k + 1) * 1442695040888963407 : Nat) : Int)) % 340282366920938463463374607431768211507 = z at h1 h2 ⊢
    exact ⟨z.toNat, (Int.toNat_of_nonneg h1).symm, by omega⟩
  have em : V.int ((c * 6364136223846793005 + (((k + 1) * 1442695040888963407 : Nat) : Int)) % 340282366920938463463374607431768211507) = nI m := by rw [hm]
  have l1 : m.log2 < 129 := lt_log2 (k := 129) (Nat.lt_trans hm2 (by decide +kernel)) (by decide) (by decide)
  have h3 : m * m % 340282366920938463463374607431768211297 < 340282366920938463463374607431768211297 := Nat.mod_lt _ (by decide)
  generalize hx : m * m % 340282366920938463463374607431768211297 = x at h3
  have l2 : x.log2 < 129 := lt_log2 (k := 129) (Nat.lt_trans h3 (by decide +kernel)) (by decide) (by decide)
  have h4 : x % 18446744073709551557 + 1 < 2 ^ 65 := by
    have := Nat.mod_lt x (y := 18446744073709551557) (by decide)
    exact Nat.lt_of_lt_of_le (Nat.succ_lt_succ this) (by decide +kernel)
  have h5 : x / 18446744073709551557 + 1 < 2 ^ 65 := by
    have : x / 18446744073709551557 < 2 ^ 64 + 200 := by
      rw [Nat.div_lt_iff_lt_mul (by decide)]
      exact Nat.lt_trans h3 (by decide +kernel)
    exact Nat.lt_of_lt_of_le (Nat.succ_lt_succ this) (by decide +kernel)
  have l4 := lt_log2 (j := 65) h4 (by decide) (by decide)
  have l5 := lt_log2 (j := 65) h5 (by decide) (by decide)
  have l6 : ((x % 18446744073709551557 + 1) * (x / 18446744073709551557 + 1)).log2 < 130 := lt_log2 (k := 130) (by
    have := Nat.mul_lt_mul'' h4 h5
    rw [← Nat.pow_add] at this
    exact this) (by decide) (by decide)
  refine ⟨nI m, congrArg some (congrArg some em), nI m, congrArg some (congrArg some em), m, m, rfl, rfl, by omega, _, 340282366920938463463374607431768211297, rfl, rfl, by omega, ?_⟩
  have ex : V.int ((m * m % 340282366920938463463374607431768211297 : Nat) : Int) = nI x := by rw [hx]
  refine ⟨nI x, congrArg some (congrArg some ex), x, 18446744073709551557, rfl, rfl, by omega, _, 1, rfl, rfl, nI x, congrArg some (congrArg some ex), x, 18446744073709551557, rfl, rfl, ⟨by decide, by decide +kernel⟩, _, 1, rfl, rfl, _, _, rfl, rfl, by omega, nI x, congrArg some (congrArg some ex), _, x, rfl, rfl, by omega, ?_⟩
  refine ⟨_, rfl, _, 340282366920938463463374607431768211507, rfl, rfl, by omega, q _ ?_⟩
  exact Nat.lt_trans (Nat.mod_lt _ (by decide)) (by decide +kernel)
/-! ### _law_primes -/
def spPrimes : Sp := fun vs H Q _ => vs = [] ∧ ∀ p, H p = none → Q (.ref p) (upd H p (.lst (primes.map nI)))
theorem ok__law_primes (T : Txt K mg) : Cal P w K mg base L2.CX0 1 "_law_primes" [] spPrimes := by
  refine Cal.mk0 T.d__law_primes T.m__law_primes sc__law_primes (fun _ _ _ _ _ _ us hl => match us, hl with | [], _ => rfl) (fun vs H Q E h => ?_) (fun cdv A outer s H vs Q E hr h => ?_)
  · obtain ⟨rfl, _⟩ := h
    rfl
  obtain ⟨rfl, q⟩ := h
  refine ⟨_, (pss_one (ps_ret (pe_lst (pa_cons pe_int (pa_cons pe_int (pa_cons pe_int (pa_cons pe_int (pa_cons pe_int (pa_cons pe_int (pa_cons pe_int (pa_cons pe_int (pa_cons pe_int (pa_cons pe_int (pa_cons pe_int (pa_cons pe_int pa_nil))))))))))))))), ?_⟩
  exact ⟨(by show 12 ≤ sizeLine; decide), fun p np => q p np⟩
end
end Fr
namespace Fr
open PySem PySem.Spec PyProof.Rows L2
section
variable {P : Program} {w : World} {K : PySem.W.Frag} {mg : Str → Option Value} {base : Heap}
/-! ### _law_some -/
def spSome : Sp := fun vs H Q _ => ∃ m k b : Nat, vs = [nI m, nI k, nI b] ∧ 1 ≤ k ∧ k ≤ 12 ∧ b ≤ 50 ∧ ∀ n H', SomeN k b n → Same H H' → Q (nI n) H'
theorem ok__law_some (T : Txt K mg) : Cal P w K mg base L2.CX0 2 "_law_some" ["more", "primes", "most"] spSome := by
  have c__law_primes := ok__law_primes (P := P) (w := w) (base := base) T
  have c__law_drawn := ok__law_drawn (P := P) (w := w) (base := base) T
  refine Cal.mk0 T.d__law_some T.m__law_some sc__law_some (fun _ _ _ _ _ _ us hl => match us, hl with | [_, _, _], _ => rfl) (fun vs H Q E h => ?_) (fun cdv A outer s H vs Q E hr h => ?_)
  · obtain ⟨m, k, b, rfl, _⟩ := h
    rfl
  obtain ⟨m, k, b, rfl, hk1, hk2, hb, q⟩ := h
  refine ⟨_, (pss_cons (ps_set (i := 3) sc__law_some.nd rfl (.inl rfl) pe_int)
      (pss_cons (ps_for PassesOwn.never rfl (pi_range1 (by rfl) T.b_range (pa_cons (pe_op opN_mod (pv 0) (pe_op opN_add (pv 2) pe_int)) pa_nil)) (pg_name (i := 4) sc__law_some.nd rfl (.inl rfl)) (pss_one (ps_set (i := 3) sc__law_some.nd rfl (.inl rfl) (pe_op opN_mul (pv 3) (pe_ix (ixL rfl) (pe_cal0 c__law_primes (hr.mono (by decide)) (by rfl) pass0) (pe_op opN_mod (pe_op opN_div (pe_cal c__law_drawn (hr.mono (by decide)) (by rfl) pass0 (pa_cons (pv 0) (pa_cons (pv 4) pa_nil))) pe_int) (pv 1)) (fun _ _ => rfl))))))
      (pss_one (ps_ret (pv 3))))), ?_⟩
  have hmod : m % (b + 1) < b + 1 := Nat.mod_lt _ (by omega)
  refine ⟨_, rfl, _, rfl, b, 1, rfl, rfl, m, b + 1, rfl, rfl, by omega, ((m % (b + 1) : Nat) : Int), rfl, by omega, by omega, ?_⟩
  have en : ((m % (b + 1) : Nat) : Int).toNat = m % (b + 1) := by omega
  rw [en]
  refine for_it walk_nats (fun i σ H3 => (∃ as y, σ = [some (nI m), some (nI k), some (nI b), some (nI (make as)), y] ∧ as.length = 12 ∧ as.sum = i ∧ ∀ j, k ≤ j → j < 12 → as[j]? = some 0) ∧ Same H H3) ?_ (fun _ _ _ _ _ => trivial) ?_ ?_
  · refine ⟨⟨List.replicate 12 0, none, ?_, by decide, by decide, fun j _ hj => ?_⟩, Same.refl H⟩
    · rw [make_zero]
      rfl
    · rw [List.getElem?_replicate, if_pos hj]
  · rintro i x σ H3 H4 hi ⟨⟨as, y, rfl, hl, hsum, hz⟩, sm⟩ ⟨rfl, rfl⟩
    refine ⟨_, rfl, rfl, fun p np => ⟨_, rfl, _, rfl, (m : Int), i, rfl, by omega, fun d _ => ?_⟩⟩
    have hdk : d / 8 % k < k := Nat.mod_lt _ (by omega)
    have h12 : d / 8 % k < 12 := by omega
    refine ⟨d, 8, rfl, rfl, ⟨by decide, by decide⟩, _, rfl, d / 8, k, rfl, rfl, by omega, ?_⟩
    obtain ⟨ix, hix⟩ : ∃ ix, d / 8 % k = ix := ⟨_, rfl⟩
    rw [hix] at hdk h12
    have hp : primes[ix]? = some (primes[ix]'(by exact h12)) := List.getElem?_eq_getElem (by exact h12)
    have hpm : (primes.map nI)[ix]? = some (nI (primes[ix]'(by exact h12))) := by
      rw [List.getElem?_map, hp]
      rfl
    have ha : as[ix]? = some (as[ix]'(by omega)) := List.getElem?_eq_getElem (by omega)
    have hpl : primes[ix]'(by exact h12) < 2 ^ 6 := primes_small _ (List.getElem_mem _)
    have hml : make as < 2 ^ 301 := Nat.lt_of_le_of_lt (make_le as) (Nat.pow_lt_pow_right (by decide) (by omega))
    have l1 := lt_log2 (j := 6) hpl (by decide) (by decide)
    have l2 := lt_log2 (j := 301) hml (by decide) (by decide)
    refine ⟨p, _, ix, _, rfl, congrArg nI hix, SqL.of upd_same, atIn hpm, make as, primes[ix]'(by exact h12), rfl, rfl, by omega, ⟨as.set ix (as[ix]'(by omega) + 1), some (nI i), ?_, by rw [List.length_set]; exact hl, by rw [sum_set1 ha, hsum], fun j hj1 hj2 => ?_⟩, sm.trans (same_new np)⟩
    · rw [make_set hp ha]
      rfl
    · rw [List.getElem?_set_ne (by omega)]
      exact hz j hj1 hj2
  · rintro σ H3 ⟨⟨as, y, rfl, hl, hsum, hz⟩, sm⟩
    exact ⟨_, rfl, q _ H3 ⟨as, hl, rfl, by omega, hz⟩ sm⟩
end
end Fr
namespace Fr
open PySem PySem.Spec PyProof.Rows L2
section
variable {P : Program} {w : World} {K : PySem.W.Frag} {mg : Str → Option Value} {base : Heap}
/-! ### _law_fraction -/
def spFraction : Sp := fun vs H Q _ => ∃ m k : Nat, vs = [nI m, nI k] ∧ 1 ≤ k ∧ k ≤ 12 ∧ ∀ (f : Nat × Nat) (p : Addr) H', FracN k f → H p = none → Same H H' → H' p = some (.tup [nI f.1, nI f.2]) → Q (.ref p) H'
/-- rooms ahead of place i have nothing in common -/
structure Apart (k b c i : Nat) (as bs : List Nat) : Prop where
  la : as.length = 12
  lb : bs.length = 12
  sa : as.sum ≤ b
  sb : bs.sum ≤ c
  za : ∀ j, k ≤ j → j < 12 → as[j]? = some 0
  zb : ∀ j, k ≤ j → j < 12 → bs[j]? = some 0
  ap : ∀ j, j < i → as[j]? = some 0 ∨ bs[j]? = some 0
theorem set_zero {as : List Nat} {i j a : Nat} (h : as[j]? = some 0) (ha : as[i]? = some (a + 1)) : (as.set i a)[j]? = some 0 := by
  by_cases e : j = i
  · subst e
    rw [h] at ha
    cases ha
  · rw [List.getElem?_set_ne (Ne.symm e)]
    exact h
theorem Apart.down {k b c i a d : Nat} {as bs : List Nat} (h : Apart k b c i as bs) (ha : as[i]? = some (a + 1)) (hb : bs[i]? = some (d + 1)) : Apart k b c i (as.set i a) (bs.set i d) where
  la := by rw [List.length_set]; exact h.la
  lb := by rw [List.length_set]; exact h.lb
  sa := by have := sum_dec ha; have := h.sa; omega
  sb := by have := sum_dec hb; have := h.sb; omega
  za := fun j h1 h2 => set_zero (h.za j h1 h2) ha
  zb := fun j h1 h2 => set_zero (h.zb j h1 h2) hb
  ap := fun j hj => (h.ap j hj).elim (fun z => .inl (set_zero z ha)) fun z => .inr (set_zero z hb)
theorem Apart.up {k b c i : Nat} {as bs : List Nat} (h : Apart k b c i as bs) (hz : as[i]? = some 0 ∨ bs[i]? = some 0) : Apart k b c (i + 1) as bs where
  la := h.la
  lb := h.lb
  sa := h.sa
  sb := h.sb
  za := h.za
  zb := h.zb
  ap := fun j hj => by
    by_cases e : j = i
    · subst e
      exact hz
    · exact h.ap j (by omega)
theorem prime_log {p : Nat} (h : p ∈ primes) : p.log2 < 9000 := lt_log2 (k := 6) (primes_small p h) (by decide) (by decide)
theorem ok__law_fraction (T : Txt K mg) : Cal P w K mg base L2.CX0 3 "_law_fraction" ["more", "primes"] spFraction := by
  have c__law_primes := ok__law_primes (P := P) (w := w) (base := base) T
  have c__law_drawn := ok__law_drawn (P := P) (w := w) (base := base) T
  have c__law_some := ok__law_some (P := P) (w := w) (base := base) T
  refine Cal.mk0 T.d__law_fraction T.m__law_fraction sc__law_fraction (fun _ _ _ _ _ _ us hl => match us, hl with | [_, _], _ => rfl) (fun vs H Q E h => ?_) (fun cdv A outer s H vs Q E hr h => ?_)
  · obtain ⟨m, k, rfl, _⟩ := h
    rfl
  obtain ⟨m, k, rfl, hk1, hk2, q⟩ := h
  refine ⟨_, (pss_cons (ps_par (i := 2) (j := 3) (by rfl) sc__law_fraction.nd rfl rfl (by decide) rfl rfl (pa_cons (pe_cal c__law_some (hr.mono (by decide)) (by rfl) pass0 (pa_cons (pe_cal c__law_drawn (hr.mono (by decide)) (by rfl) pass0 (pa_cons (pv 0) (pa_cons pe_int pa_nil))) (pa_cons (pv 1) (pa_cons pe_int pa_nil)))) (pa_cons (pe_cal c__law_some (hr.mono (by decide)) (by rfl) pass0 (pa_cons (pe_cal c__law_drawn (hr.mono (by decide)) (by rfl) pass0 (pa_cons (pv 0) (pa_cons pe_int pa_nil))) (pa_cons (pv 1) (pa_cons pe_int pa_nil)))) pa_nil)) (by rfl))
      (pss_cons (ps_for PassesOwn.never rfl (piL rfl (pe_cal0 c__law_primes (hr.mono (by decide)) (by rfl) pass0)) (pg_name (i := 4) sc__law_fraction.nd rfl (.inl rfl)) (pss_one (ps_while PassesOwn.never (PW.pt (pw_and (pt_cmpR opN_eq (pe_op opN_mod (pv 2) (pv 4)) pe_int (nomark _)) (pw_and1 (pt_cmpR opN_eq (pe_op opN_mod (pv 3) (pv 4)) pe_int (nomark _))))) (pss_one (ps_par (i := 2) (j := 3) (by rfl) sc__law_fraction.nd rfl rfl (by decide) rfl rfl (pa_cons (pe_op opN_div (pv 2) (pv 4)) (pa_cons (pe_op opN_div (pv 3) (pv 4)) pa_nil)) (by rfl))))))
      (pss_one (ps_ret (pe_tup (pa_cons (pv 2) (pa_cons (pv 3) pa_nil))))))), ?_⟩
  refine ⟨_, rfl, m, 1, rfl, by decide, fun d1 _ => ⟨_, rfl, d1, k, 2, rfl, hk1, hk2, by decide, fun t H1 ht s1 => ?_⟩⟩
  refine ⟨_, rfl, m, 2, rfl, by decide, fun d2 _ => ⟨_, rfl, d2, k, 3, rfl, hk1, hk2, by decide, fun u H2 hu s2 => ⟨_, _, rfl, ?_⟩⟩⟩
  obtain ⟨as0, la, rfl, sa, za⟩ := ht
  obtain ⟨bs0, lb, rfl, sb, zb⟩ := hu
  have A0 : Apart k 2 3 0 as0 bs0 := ⟨la, lb, sa, sb, za, zb, fun j hj => absurd hj (by omega)⟩
  refine ⟨rfl, fun o no => ⟨o, rfl, ⟨_, SqL.of upd_same⟩, ?_⟩⟩
  refine for_it (walk_list (xs := primes.map nI)) (fun i σ H3 => (∃ as bs y, σ = [some (nI m), some (nI k), some (nI (make as)), some (nI (make bs)), y] ∧ Apart k 2 3 i as bs) ∧ H3 o = some (.lst (primes.map nI)) ∧ Same H H3) ⟨⟨as0, bs0, none, rfl, A0⟩, upd_same, (s1.trans s2).trans (same_new no)⟩ (fun i σ H3 _ p => SqL.of p.2.1) ?_ ?_
  · rintro i x σ H3 H4 hi ⟨⟨as, bs, y, rfl, hA⟩, ho, sm⟩ ⟨rfl, hx⟩
    rw [List.getElem?_map] at hx
    obtain ⟨p, hp, rfl⟩ := Option.map_eq_some_iff.mp hx
    have hpm : p ∈ primes := List.mem_of_getElem? hp
    have hp2 : 2 ≤ p := primes_two p hpm
    have hi12 : i < 12 := (List.getElem?_eq_some_iff.mp hp).1
    refine ⟨fun μ σ H5 => ∃ as bs, σ = [some (nI m), some (nI k), some (nI (make as)), some (nI (make bs)), some (nI p)] ∧ H5 = H4 ∧ Apart k 2 3 i as bs ∧ μ = as.sum, ⟨_, as, bs, rfl, rfl, hA, rfl⟩, ?_⟩
    rintro μ σ H5 ⟨as, bs, rfl, rfl, hA, rfl⟩
    have ga : as[i]? = some (as[i]'(by rw [hA.la]; exact hi12)) := List.getElem?_eq_getElem _
    have gb : bs[i]? = some (bs[i]'(by rw [hA.lb]; exact hi12)) := List.getElem?_eq_getElem _
    generalize as[i]'(by rw [hA.la]; exact hi12) = a at ga
    generalize bs[i]'(by rw [hA.lb]; exact hi12) = b at gb
    refine ⟨_, rfl, _, rfl, make as, p, rfl, rfl, by omega, _, 0, rfl, rfl, _, rfl, ?_⟩
    have out : (as[i]? = some 0 ∨ bs[i]? = some 0) → ∃ as' bs' y, [some (nI m), some (nI k), some (nI (make as)), some (nI (make bs)), some (nI p)] = [some (nI m), some (nI k), some (nI (make as')), some (nI (make bs')), y] ∧ Apart k 2 3 (i + 1) as' bs' := fun hz => ⟨as, bs, _, rfl, hA.up hz⟩
    by_cases h1 : make as % p = 0
    · rw [decide_eq_true h1]
      refine iteT ⟨_, rfl, _, rfl, make bs, p, rfl, rfl, by omega, _, 0, rfl, rfl, _, rfl, ?_⟩
      by_cases h2 : make bs % p = 0
      · rw [decide_eq_true h2]
        have a0 := (make_mod hA.la hp ga).mp h1
        have b0 := (make_mod hA.lb hp gb).mp h2
        obtain ⟨a', rfl⟩ : ∃ a', a = a' + 1 := ⟨a - 1, by omega⟩
        obtain ⟨b', rfl⟩ : ∃ b', b = b' + 1 := ⟨b - 1, by omega⟩
        refine iteT ⟨fun σ' H' => σ' = [some (nI m), some (nI k), some (nI (make (as.set i a'))), some (nI (make (bs.set i b'))), some (nI p)] ∧ H' = H5, ?_, ?_⟩
        · rintro σ' H' ⟨h3, h4⟩
          exact ⟨_, by have := sum_dec ga; omega, _, _, h3, h4, hA.down ga gb, rfl⟩
        · refine ⟨_, rfl, _, rfl, make as, p, rfl, rfl, ⟨by omega, prime_log hpm⟩, _, rfl, _, rfl, make bs, p, rfl, rfl, ⟨by omega, prime_log hpm⟩, _, _, rfl, ?_⟩
          refine ⟨?_, rfl⟩
          rw [← make_div hp ga, ← make_div hp gb]
          rfl
      · rw [decide_eq_false h2]
        refine iteF ⟨out (.inr ?_), ho, sm⟩
        rcases Nat.eq_zero_or_pos b with z | z
        · rw [gb, z]
        · exact absurd ((make_mod hA.lb hp gb).mpr z) h2
    · rw [decide_eq_false h1]
      refine iteF (iteF ⟨out (.inl ?_), ho, sm⟩)
      rcases Nat.eq_zero_or_pos a with z | z
      · rw [ga, z]
      · exact absurd ((make_mod hA.la hp ga).mpr z) h1
  · rintro σ H3 ⟨⟨as, bs, y, rfl, hA⟩, ho, sm⟩
    refine ⟨_, rfl, _, rfl, (by show 2 ≤ sizeLine; decide), fun p np => ?_⟩
    refine q (make as, make bs) p _ ⟨⟨as, hA.la, rfl, hA.sa, hA.za⟩, ⟨bs, hA.lb, rfl, hA.sb, hA.zb⟩, ?_⟩ (sm.free np) (sm.trans (same_new np)) upd_same
    refine make_cop fun i => ?_
    by_cases hi : i < 12
    · exact (hA.ap i hi).elim .inl fun z => .inr (.inl z)
    · exact .inr (.inr (by omega))
/-! ### _law_program -/
def spProgram (K : PySem.W.Frag) : Sp := fun vs H Q _ => ∃ m k : Nat, vs = [nI m, nI k] ∧ 1 ≤ k ∧ k ≤ 12 ∧ ∀ (l : Prog) (p : Addr) (xs : List V) H', (∀ f ∈ l, FracN k f) → l.length ≤ 6 → H p = none → Same H H' → H' p = some (.lst xs) → DpAll K H' xs (l.map fracD) → Q (.ref p) H'
theorem fracs_of {k : Nat} : ∀ {ds : List PyData}, (∀ d ∈ ds, ∃ f, d = fracD f ∧ FracN k f) → ∃ l : Prog, ds = l.map fracD ∧ ∀ f ∈ l, FracN k f
  | [], _ => ⟨[], rfl, fun f h => (nomatch h)⟩
  | d :: ds, h => by
    obtain ⟨f, rfl, hf⟩ := h d List.mem_cons_self
    obtain ⟨l, rfl, hl⟩ := fracs_of (ds := ds) fun e he => h e (List.mem_cons_of_mem _ he)
    refine ⟨f :: l, rfl, fun g hg => ?_⟩
    rcases List.mem_cons.mp hg with e | e
    · rw [e]
      exact hf
    · exact hl g e
theorem ok__law_program (T : Txt K mg) : Cal P w K mg base L2.CX0 4 "_law_program" ["more", "primes"] (spProgram K) := by
  have c__law_drawn := ok__law_drawn (P := P) (w := w) (base := base) T
  have c__law_fraction := ok__law_fraction (P := P) (w := w) (base := base) T
  refine Cal.mk0 T.d__law_program T.m__law_program sc__law_program (fun _ _ _ _ _ _ us hl => match us, hl with | [_, _], _ => rfl) (fun vs H Q E h => ?_) (fun cdv A outer s H vs Q E hr h => ?_)
  · obtain ⟨m, k, rfl, _⟩ := h
    rfl
  obtain ⟨m, k, rfl, hk1, hk2, q⟩ := h
  refine ⟨_, (pss_cons (ps_setLc (i := 2) (own := [("j", 3)]) rfl sc__law_program.nd rfl rfl (sw_true rfl rfl rfl (by decide +kernel)) (pi_range1 (by rfl) T.b_range (pa_cons (pe_op opN_mod (pv 0) (pe_ix (ixL rfl) (pe_lst (pa_cons pe_int (pa_cons pe_int pa_nil))) (pe_op opN_mod (pe_op opN_div (pv 0) pe_int) pe_int) (fun _ _ => rfl))) pa_nil)) (blkOk_by (own := [("j", 3)]) (N := ["more", "primes", "found", "j", "one"]) (sc := defScope s__law_program) (by decide +kernel)) (fun _ _ _ _ _ => (pg_name (i := 3) sc__law_program.nd rfl (.inl rfl))) (fun _ _ _ _ _ => pts_nil) (fun _ _ _ _ _ => (pe_cal c__law_fraction (hr.mono (by decide)) (by rfl) pass0 (pa_cons (pe_cal c__law_drawn (hr.mono (by decide)) (by rfl) pass0 (pa_cons (pv 0) (pa_cons (pv 3) pa_nil))) (pa_cons (pv 1) pa_nil)))))
      (pss_one (ps_ret (pe_lc (own := [("one", 4)]) rfl sc__law_program.nd (piL rfl (pv 2)) (blkOk_by (own := [("one", 4)]) (N := ["more", "primes", "found", "j", "one"]) (sc := defScope s__law_program) (by decide +kernel)) (fun _ _ _ _ _ => (pg_name (i := 4) sc__law_program.nd rfl (.inl rfl))) (fun _ _ _ _ _ => (pts_one (PW.pt (pw_or (pt_cmpR opN_gt (pe_ix (ixT rfl) (pv 4) pe_int (fun _ _ => rfl)) pe_int (nomark _)) (pw_or1 (pt_cmpR opN_eq (pe_op opN_mod (pe_op opN_div (pv 0) pe_int) pe_int) pe_int (nomark _))))))) (fun _ _ _ _ _ => (pv 4)))))), ?_⟩
  have h8 : (8 : Nat).log2 < 9000 := by decide
  have h64 : (64 : Nat).log2 < 9000 := by decide
  obtain ⟨c, hc, hc0, hc7⟩ : ∃ c : Nat, ([nI 4, nI 7])[m / 8 % 2]? = some (nI c) ∧ 0 < c ∧ c ≤ 7 := by
    have : m / 8 % 2 < 2 := Nat.mod_lt _ (by decide)
    match m / 8 % 2, this with
    | 0, _ => exact ⟨4, rfl, by decide, by decide⟩
    | 1, _ => exact ⟨7, rfl, by decide, by decide⟩
  refine ⟨_, rfl, (by show 2 ≤ sizeLine; decide), fun p4 np4 => ⟨_, rfl, m, 8, rfl, rfl, ⟨by decide, h8⟩, _, 2, rfl, rfl, by omega, p4, _, _, _, rfl, rfl, SqL.of upd_same, atIn hc, m, c, rfl, rfl, hc0, _, rfl, ?_, ?_, ?_⟩⟩
  · omega
  · have := Nat.mod_lt m hc0
    omega
  have s1 : Same H (upd H p4 (.lst [nI 4, nI 7])) := same_new np4
  intro D hD
  have en : (((m % c : Nat) : Int)).toNat = m % c := by omega
  have hmc : m % c ≤ 6 := by have := Nat.mod_lt m hc0; omega
  rw [en]
  refine lc_ex (K := K) walk_nats hD (by omega) (fun _ _ => trivial) (fun d => ∃ f, d = fracD f ∧ FracN k f) (fun d ⟨f, e, _⟩ => by rw [e]; exact noL_frac f) ?_ ?_
  · rintro i x H' H'' A B hi s' ⟨rfl, rfl⟩ hA hB
    refine ⟨rfl, _, rfl, _, rfl, (m : Int), i, rfl, by omega, fun d _ => ⟨_, rfl, d, k, rfl, hk1, hk2, fun f p H4 hf np s4 hp => ?_⟩⟩
    exact hA _ (fracD f) H4 ⟨f, rfl, hf⟩ s4 (.tup (SqT.of hp) (.cons (.int _) (.cons (.int _) .nil)))
  · intro H2 ys ds s2 hD2 hA hS hl
    have s12 := s1.trans s2
    refine ⟨_, rfl, D, rfl, ⟨_, SqL.of hD2⟩, fun D2 nD2 => ?_⟩
    have hyl := dps_len hA
    refine lc_ex (K := K) walk_list nD2 (by omega) (fun H' s' => s'.seq (SqL.of hD2)) (fun d => ∃ f, d = fracD f ∧ FracN k f) (fun d ⟨f, e, _⟩ => by rw [e]; exact noL_frac f) ?_ ?_
    · rintro i x H' H'' A B hi s' ⟨rfl, hx⟩ hA' hB
      obtain ⟨d, hd, hdp⟩ := dps_at2 (same_dps s' hA) hx
      obtain ⟨f, rfl, hf⟩ := hS d (List.mem_of_getElem? hd)
      obtain ⟨b, rfl, hb⟩ := frac_at hdp
      refine ⟨rfl, _, rfl, b, _, 1, _, rfl, rfl, hb, atI1, f.2, 1, rfl, rfl, _, rfl, ?_⟩
      have yes : tVar 4 [some (nI m), some (nI k), some (.ref D), none, some (.ref b)] H'' A := ⟨_, rfl, hA' _ _ _ ⟨f, rfl, hf⟩ (Same.refl _) hdp⟩
      by_cases h1 : 1 < f.2
      · rw [decide_eq_true h1]
        exact iteT (iteT yes)
      · rw [decide_eq_false h1]
        refine iteF ⟨_, rfl, m, 64, rfl, rfl, ⟨by decide, h64⟩, _, 4, rfl, rfl, by omega, _, 0, rfl, rfl, _, rfl, ?_⟩
        exact ite2 (fun _ => yes) (fun _ => hB _ (Same.refl _))
    · intro H3 zs es s3 hD3 hA3 hS3 hl3
      obtain ⟨l, rfl, hlF⟩ := fracs_of hS3
      rw [List.length_map] at hl3
      exact q l D2 zs H3 hlF (by omega) (s12.free nD2) (s12.trans s3) hD3 hA3
/-! ### _law_step -/
def spLawStep (K : PySem.W.Frag) : Sp := fun vs H Q _ => ∃ (v : V) (l : Prog) (n : Nat), vs = [v, nI n] ∧ Dp K H v (progD l) ∧ (∀ p ∈ l, 0 < p.2 ∧ p.1 < 2 ^ 20 ∧ p.2 < 2 ^ 20) ∧ n < 2 ^ 100000 ∧
  (lawStep l n = none → ∀ H', Same H H' → Q .non H') ∧ ∀ i m, lawStep l n = some (i, m) → ∀ p H', H p = none → Same H H' → H' p = some (.tup [nI i, nI m]) → Q (.ref p) H'
theorem lawStep_some {l : Prog} {n i : Nat} (hi : i < l.length) (h : n * (l[i]).1 % (l[i]).2 = 0) (hb : ∀ (j : Nat) (hj : j < l.length), j < i → n * (l[j]).1 % (l[j]).2 ≠ 0) : lawStep l n = some (i, n * (l[i]).1 / (l[i]).2) := by
  unfold lawStep
  have e : (l.findIdx? fun p => decide (n * p.1 % p.2 = 0)) = some i := by
    rw [List.findIdx?_eq_some_iff_getElem]
    refine ⟨hi, by simpa using h, fun j hj => ?_⟩
    have := hb j (by omega) hj
    simpa using this
  rw [e, Option.map_some, unAt_eq hi, upAt_eq hi]
theorem lawStep_none {l : Prog} {n : Nat} (h : ∀ (j : Nat) (hj : j < l.length), n * (l[j]).1 % (l[j]).2 ≠ 0) : lawStep l n = none := by
  unfold lawStep
  have e : (l.findIdx? fun p => decide (n * p.1 % p.2 = 0)) = none := by
    rw [List.findIdx?_eq_none_iff]
    intro p hp
    obtain ⟨j, hj, e⟩ := List.mem_iff_getElem.mp hp
    have := h j hj
    rw [e] at this
    simpa using this
  rw [e]
  rfl
theorem ok__law_step (T : Txt K mg) : Cal P w K mg base L2.CX0 1 "_law_step" ["program", "number"] (spLawStep K) := by
  refine Cal.mk0 T.d__law_step T.m__law_step sc__law_step (fun _ _ _ _ _ _ us hl => match us, hl with | [_, _], _ => rfl) (fun vs H Q E h => ?_) (fun cdv A outer s H vs Q E hr h => ?_)
  · obtain ⟨v, l, n, rfl, _⟩ := h
    rfl
  obtain ⟨v, l, n, rfl, hd, hpos, hn, q1, q2⟩ := h
  obtain ⟨a, xs, rfl, hs, ha, hlen⟩ := prog_at hd
  refine ⟨_, (pss_cons (ps_for PassesOwn.never rfl (piE rfl (by rfl) T.b_enumerate (pa_cons (pv 0) pa_nil)) (pgT (n := 2) rfl rfl (pgs_cons (pg_name (i := 2) sc__law_step.nd rfl (.inl rfl)) (pgs_cons (pgT (n := 2) rfl rfl (pgs_cons (pg_name (i := 3) sc__law_step.nd rfl (.inl rfl)) (pgs_cons (pg_name (i := 4) sc__law_step.nd rfl (.inl rfl)) pgs_nil))) pgs_nil))) (pss_one (ps_if (pt_cmpR opN_eq (pe_op opN_mod (pe_op opN_mul (pv 1) (pv 3)) (pv 4)) pe_int (nomark _)) (pss_one (ps_ret (pe_tup (pa_cons (pv 2) (pa_cons (pe_op opN_div (pe_op opN_mul (pv 1) (pv 3)) (pv 4)) pa_nil))))) pss_nil)))
      (pss_one (ps_ret pe_non))), ?_⟩
  refine ⟨_, rfl, a, xs, rfl, hs, for_it walk_enum (fun i σ H3 => (∃ y2 y3 y4, σ = [some (.ref a), some (nI n), y2, y3, y4]) ∧ Same H H3 ∧ ∀ (j : Nat) (hj : j < l.length), j < i → n * (l[j]).1 % (l[j]).2 ≠ 0) ⟨⟨none, none, none, rfl⟩, Same.refl H, fun j hj h => absurd h (by omega)⟩ (fun i σ H3 _ p => p.2.1.seq hs) ?_ ?_⟩
  · rintro i x σ H3 H4 hi ⟨⟨y2, y3, y4, rfl⟩, sm, hb⟩ ⟨T', x1, x2, rfl, nT, rfl, e1, e2⟩
    have e1 : x1 = nI i := (Option.some.inj e1).symm
    subst e1
    have sT : Same H3 (upd H3 T' (.tup [nI i, x2])) := same_new nT
    obtain ⟨hi', b, rfl, hb2, _⟩ := prog_item (same_dps (sm.trans sT) ha) e2
    obtain ⟨p1, p2, p3⟩ := hpos _ (List.getElem_mem hi')
    have l1 := lt_log2 (j := 20) p2 (by decide) (by decide)
    have l2 := lt_log2 (j := 9000) p3 (by decide) (by decide)
    have l3 := lt_log2 (j := 100000) hn (by decide) (by decide)
    refine ⟨T', _, rfl, SqT.of upd_same, rfl, _, _, rfl, _, _, rfl, ⟨b, _, rfl, hb2, rfl, _, _, rfl, _, _, rfl, rfl, rfl, ?_⟩⟩
    refine ⟨_, rfl, _, rfl, n, (l[i]).1, rfl, rfl, by omega, _, rfl, _, (l[i]).2, rfl, rfl, p1, _, 0, rfl, rfl, _, rfl, ?_⟩
    by_cases hf : n * (l[i]).1 % (l[i]).2 = 0
    · rw [decide_eq_true hf]
      have e := lawStep_some hi' hf fun j hj hji => hb j hj hji
      refine iteT ⟨_, rfl, _, rfl, _, rfl, n, (l[i]).1, rfl, rfl, by omega, _, rfl, _, (l[i]).2, rfl, rfl, ⟨p1, l2⟩, (by show 2 ≤ sizeLine; decide), fun p np => ?_⟩
      exact q2 _ _ e p _ ((sm.trans sT).free np) ((sm.trans sT).trans (same_new np)) upd_same
    · rw [decide_eq_false hf]
      refine iteF ⟨⟨_, _, _, rfl⟩, sm.trans sT, fun j hj hji => ?_⟩
      by_cases hji2 : j = i
      · subst hji2
        exact hf
      · exact hb j hj (by omega)
  · rintro σ H3 ⟨⟨y2, y3, y4, rfl⟩, sm, hb⟩
    exact q1 (lawStep_none fun j hj => hb j hj (by omega)) H3 sm
end
end Fr
namespace Fr
open PySem PySem.Spec PyProof.Rows L2
section
variable {P : Program} {w : World} {K : PySem.W.Frag} {mg : Str → Option Value} {base : Heap}
/-! ### _law_rooms -/
def spLawRooms : Sp := fun vs H Q _ => ∃ n : Nat, vs = [nI n] ∧ 0 < n ∧ ∀ p H', Same H H' → H p = none → H' p = some (.lst ((rooms n).map nI)) → Q (.ref p) H'
theorem ok__law_rooms (T : Txt K mg) : Cal P w K mg base L2.CX0 2 "_law_rooms" ["number"] spLawRooms := by
  have c__law_primes := ok__law_primes (P := P) (w := w) (base := base) T
  refine Cal.mk0 T.d__law_rooms T.m__law_rooms sc__law_rooms (fun _ _ _ _ _ _ us hl => match us, hl with | [_], _ => rfl) (fun vs H Q E h => ?_) (fun cdv A outer s H vs Q E hr h => ?_)
  · obtain ⟨n, rfl, _⟩ := h
    rfl
  obtain ⟨n, rfl, hn, q⟩ := h
  refine ⟨_, (pss_cons (ps_set (i := 1) sc__law_rooms.nd rfl (.inl rfl) (pe_lst pa_nil))
      (pss_cons (ps_for PassesOwn.never rfl (piL rfl (pe_cal0 c__law_primes (hr.mono (by decide)) (by rfl) pass0)) (pg_name (i := 2) sc__law_rooms.nd rfl (.inl rfl)) (pss_cons (ps_set (i := 3) sc__law_rooms.nd rfl (.inl rfl) pe_int)
      (pss_cons (ps_while PassesOwn.never (pt_cmpR opN_eq (pe_op opN_mod (pv 0) (pv 2)) pe_int (nomark _)) (pss_one (ps_par (i := 0) (j := 3) (by rfl) sc__law_rooms.nd rfl rfl (by decide) rfl rfl (pa_cons (pe_op opN_div (pv 0) (pv 2)) (pa_cons (pe_op opN_add (pv 3) pe_int) pa_nil)) (by rfl))))
      (pss_one (ps_expr (bm rfl PySem.F.plainAttrs_list PySem.F.slot_list_append PySem.F.type_list_append mt_append (pv 1) (pa_cons (pv 3) pa_nil)))))))
      (pss_one (ps_ret (pv 1))))), ?_⟩
  refine ⟨Nat.zero_le _, fun o no => ?_⟩
  refine ⟨rfl, fun t nt => ?_⟩
  have hto : o ≠ t := ne_of_none upd_same nt
  refine ⟨t, rfl, ⟨_, SqL.of upd_same⟩, for_list (xs := primes.map nI) (fun i σ H3 => ∃ y2 y3, σ = [some (nI (partL (primes.take i) n).2), some (.ref o), y2, y3] ∧ Same H H3 ∧ H3 o = some (.lst ((partL (primes.take i) n).1.map nI)) ∧ H3 t = some (.lst (primes.map nI))) ?_ ?_ ?_ ?_⟩
  · exact ⟨none, none, rfl, (same_new no).trans (same_new nt), (same_new nt) _ _ upd_same, upd_same⟩
  · rintro i σ H3 _ ⟨y2, y3, _, _, _, ht⟩
    exact SqL.of ht
  · rintro i x σ H3 hx ⟨y2, y3, rfl, sm, ho, ht⟩
    rw [List.getElem?_map] at hx
    obtain ⟨p, hp, rfl⟩ := Option.map_eq_some_iff.mp hx
    have hp2 : 2 ≤ p := primes_two p (List.mem_of_getElem? hp)
    have hps : p < 64 := primes_small p (List.mem_of_getElem? hp)
    have hm : 0 < (partL (primes.take i) n).2 := partL_pos _ (fun r hr => primes_two r (List.mem_of_mem_take hr)) n hn
    rw [take_at hp, partL_snoc]
    generalize hA : partL (primes.take i) n = A at *
    refine ⟨fun m σ H4 => ∃ x k : Nat, σ = [some (nI x), some (.ref o), some (nI p), some (nI k)] ∧ H4 = H3 ∧ 0 < x ∧ x = m ∧ (strip p A.2).1 = k + (strip p x).1 ∧ (strip p A.2).2 = (strip p x).2, ⟨_, A.2, 0, rfl, rfl, hm, rfl, by omega, rfl⟩, ?_⟩
    rintro m σ H4 ⟨x, k, rfl, rfl, hx0, rfl, e1, e2⟩
    refine ⟨_, rfl, _, rfl, x, p, rfl, rfl, by omega, _, 0, rfl, rfl, _, rfl, ite2 (fun hd => ?_) (fun hd => ?_)⟩
    · have hd := of_decide_eq_true hd
      obtain ⟨f1, f2, f3⟩ := strip_yes hd hp2 hx0
      refine ⟨fun σ' H' => ∃ x' k' : Nat, x' < x ∧ σ' = [some (nI x'), some (.ref o), some (nI p), some (nI k')] ∧ H' = H4 ∧ 0 < x' ∧ (strip p A.2).1 = k' + (strip p x').1 ∧ (strip p A.2).2 = (strip p x').2, ?_, ?_⟩
      · rintro σ' H' ⟨x', k', h1, h2, h3, h4, h5, h6⟩
        exact ⟨x', h1, x', k', h2, h3, h4, rfl, h5, h6⟩
      · refine ⟨_, rfl, _, rfl, x, p, rfl, rfl, ⟨by omega, ?_⟩, _, rfl, k, 1, rfl, rfl, _, _, rfl, x / p, k + 1, f3, rfl, rfl, f2, ?_, ?_⟩
        · exact Nat.lt_of_lt_of_le (PySem.Flt.log2_lt_of (by decide) (show p < 2 ^ 6 by omega)) (by decide)
        · rw [e1, f1]; show k + ((strip p (x / p)).1 + 1) = _; omega
        · rw [e2, f1]
    · have hd : ¬ x % p = 0 := fun z => hd (decide_eq_true z)
      rw [strip_no hd hp2] at e1 e2
      refine ⟨_, rfl, .inl ⟨rfl, _, SqL.of ho⟩, _, rfl, o, _, _, rfl, rfl, ho, ?_, ?_⟩
      · rw [List.length_map, ← hA, partL_len]
        exact Nat.lt_of_le_of_lt (List.length_take_le' _ _) (by decide)
      · refine ⟨some (nI p), some (nI k), ?_, same_put sm no, ?_, ?_⟩
        · rw [e2]
        · rw [upd_same, e1, List.map_append]
          rfl
        · rw [upd_ne (Ne.symm hto)]
          exact ht
  · rintro σ H3 ⟨y2, y3, rfl, sm, ho, _⟩
    refine ⟨_, rfl, q o H3 sm no ?_⟩
    rw [rooms_def]
    exact ho
/-! ### _law_number -/
end
end Fr
namespace Fr
open PySem PySem.Spec PyProof.Rows L2 LamX
section
variable {P : Program} {w : World} {K : PySem.W.Frag} {mg : Str → Option Value} {base : Heap}
abbrev words : List Str := ["BadMachine", "BadNumber", "BadProgram", "BadText", "TooGreat", "Nothing"]
theorem ok__law_word (T : Txt K mg) : Hl.WordP P w K mg base 1 (ga K "_law_word") (fdOf K ("_law_word", none)) (Nm K words) := by
  intro A outer s H args p D n Q hr hot hpin hcls hdict hn e0 hb q
  obtain ⟨hn, rfl⟩ := hn
  obtain ⟨C, hk, hv, hx⟩ := exc_of T.w_exc hn
  have hf : ∃ vs, p.2.data = .fields vs := by
    obtain ⟨_, vs, e, _⟩ := hot
    exact ⟨vs, e⟩
  refine Hl.run_hot (CX := L2.CX0) (mg := mg) (base := base) (us := [.ref p.1]) (vs := [.ref p.1]) T.d__law_word sc__law_word hr hpin e0 hb (.cons rfl .nil) rfl fun cdv hr => ?_
  refine ⟨_, PSs.nox (pss_cons (ps_set (i := 1) sc__law_word.nd rfl (.inl rfl) (pe_lst (pa_cons (pe_callB (Hl.call_isH C List.mem_cons_self hcls hdict hf) (by rfl) T.b_isinstance boot_isinstance (pa_cons (pv 0) (pa_cons (pe_glob (v := .ref (ga K "BadMachine")) (by rfl) T.m_BadMachine rfl) pa_nil))) (pa_cons (pe_callB (Hl.call_isH C List.mem_cons_self hcls hdict hf) (by rfl) T.b_isinstance boot_isinstance (pa_cons (pv 0) (pa_cons (pe_glob (v := .ref (ga K "BadNumber")) (by rfl) T.m_BadNumber rfl) pa_nil))) (pa_cons (pe_callB (Hl.call_isH C List.mem_cons_self hcls hdict hf) (by rfl) T.b_isinstance boot_isinstance (pa_cons (pv 0) (pa_cons (pe_glob (v := .ref (ga K "BadProgram")) (by rfl) T.m_BadProgram rfl) pa_nil))) (pa_cons (pe_callB (Hl.call_isH C List.mem_cons_self hcls hdict hf) (by rfl) T.b_isinstance boot_isinstance (pa_cons (pv 0) (pa_cons (pe_glob (v := .ref (ga K "BadText")) (by rfl) T.m_BadText rfl) pa_nil))) pa_nil))))))
      (pss_cons (ps_set (i := 1) sc__law_word.nd rfl (.inl rfl) (pe_op op_cat (pv 1) (pe_lst (pa_cons (pe_callB (Hl.call_isH C List.mem_cons_self hcls hdict hf) (by rfl) T.b_isinstance boot_isinstance (pa_cons (pv 0) (pa_cons (pe_glob (v := .ref (ga K "TooGreat")) (by rfl) T.m_TooGreat rfl) pa_nil))) (pa_cons (pe_callB (Hl.call_isH C List.mem_cons_self hcls hdict hf) (by rfl) T.b_isinstance boot_isinstance (pa_cons (pv 0) (pa_cons (pe_glob (v := .ref (ga K "Nothing")) (by rfl) T.m_Nothing rfl) pa_nil))) pa_nil)))))
      (pss_cons (ps_if (PW.pt (pw_or (pt_cmpR op_ne (Hl.pe_sumB (i := 1) ⟨p, hot, List.mem_cons_self⟩ (by rfl) T.b_sum T.b_int rfl (.inl rfl) rfl rfl rfl (by decide +kernel) (by decide +kernel) rfl (by decide +kernel) rfl rfl) pe_int (nomark _)) (pw_or1 (pt_not (pt_val (pe_callB (Hl.call_isH C List.mem_cons_self hcls hdict hf) (by rfl) T.b_isinstance boot_isinstance (pa_cons (pv 0) (pa_cons (pe_bltn (v := .ty "ValueError") (by rfl) T.b_ValueError (by rfl) rfl) pa_nil)))))))) (pss_one (ps_ret pe_str)) pss_nil)
      (pss_one (ps_ret (pe_ix (ixL rfl) (pe_lst (pa_cons pe_str (pa_cons pe_str (pa_cons pe_str (pa_cons pe_str (pa_cons pe_str (pa_cons pe_str pa_nil))))))) (bm rfl PySem.F.plainAttrs_list PySem.F.slot_list_index PySem.F.type_list_index mt_index (pv 1) (pa_cons pe_bl pa_nil)) (fun _ _ => rfl))))))), ?_⟩
  have k_BadMachine := hk "BadMachine" (by simp)
  have k_BadNumber := hk "BadNumber" (by simp)
  have k_BadProgram := hk "BadProgram" (by simp)
  have k_BadText := hk "BadText" (by simp)
  have k_TooGreat := hk "TooGreat" (by simp)
  have k_Nothing := hk "Nothing" (by simp)
  have hn2 : n = "BadMachine" ∨ n = "BadNumber" ∨ n = "BadProgram" ∨ n = "BadText" ∨ n = "TooGreat" ∨ n = "Nothing" := by simpa using hn
  rcases hn2 with rfl | rfl | rfl | rfl | rfl | rfl
  · refine ⟨_, rfl, _, _, _, rfl, fun _ h => h, k_BadMachine, _, rfl, _, _, _, rfl, fun _ h => h, k_BadNumber, _, rfl, _, _, _, rfl, fun _ h => h, k_BadProgram, _, rfl, _, _, _, rfl, fun _ h => h, k_BadText, (by show 4 ≤ sizeLine; decide), fun a na => ?_⟩
    refine ⟨_, rfl, _, rfl, _, _, _, rfl, fun _ h => h, k_TooGreat, _, rfl, _, _, _, rfl, fun _ h => h, k_Nothing, (by show 2 ≤ sizeLine; decide), fun b nb => ?_⟩
    have hab : a ≠ b := ne_of_none upd_same nb
    refine ⟨a, b, _, _, rfl, rfl, by rw [upd_ne hab, upd_same], upd_same, (by show 4 + 2 ≤ sizeLine; decide), fun c nc => ?_⟩
    have sH : Same H (upd (upd (upd H a (.lst [.bl ("BadMachine" == "BadMachine"), .bl ("BadMachine" == "BadNumber"), .bl ("BadMachine" == "BadProgram"), .bl ("BadMachine" == "BadText")])) b (.lst [.bl ("BadMachine" == "TooGreat"), .bl ("BadMachine" == "Nothing")])) c (.lst [.bl ("BadMachine" == "BadMachine"), .bl ("BadMachine" == "BadNumber"), .bl ("BadMachine" == "BadProgram"), .bl ("BadMachine" == "BadText"), .bl ("BadMachine" == "TooGreat"), .bl ("BadMachine" == "Nothing")])) := ((same_new na).trans (same_new nb)).trans (same_new nc)
    refine ⟨c, [true, false, false, false, false, false], rfl, SqL.of upd_same, ?_⟩
    refine ⟨rfl, _, rfl, iteF ?_⟩
    refine ⟨_, rfl, _, _, _, rfl, fun _ h => h, hv, _, rfl, iteF ?_⟩
    refine ⟨(by show 6 ≤ sizeLine; decide), fun d nd => ?_⟩
    refine ⟨_, rfl, .inl ⟨rfl, _, SqL.of ((same_new nd) _ _ upd_same)⟩, c, _, _, 0, .bl true, rfl, rfl, SqL.of ((same_new nd) _ _ upd_same), rfl, rfl, rfl, rfl, fun m z hm hz => ?_, ?_⟩
    · exact absurd hm (by omega)
    · exact ⟨d, _, 0, .str "BadMachine", rfl, rfl, SqL.of upd_same, atIn (i := 0) rfl, q _ (sH.trans (same_new nd))⟩
  · refine ⟨_, rfl, _, _, _, rfl, fun _ h => h, k_BadMachine, _, rfl, _, _, _, rfl, fun _ h => h, k_BadNumber, _, rfl, _, _, _, rfl, fun _ h => h, k_BadProgram, _, rfl, _, _, _, rfl, fun _ h => h, k_BadText, (by show 4 ≤ sizeLine; decide), fun a na => ?_⟩
    refine ⟨_, rfl, _, rfl, _, _, _, rfl, fun _ h => h, k_TooGreat, _, rfl, _, _, _, rfl, fun _ h => h, k_Nothing, (by show 2 ≤ sizeLine; decide), fun b nb => ?_⟩
    have hab : a ≠ b := ne_of_none upd_same nb
    refine ⟨a, b, _, _, rfl, rfl, by rw [upd_ne hab, upd_same], upd_same, (by show 4 + 2 ≤ sizeLine; decide), fun c nc => ?_⟩
    have sH : Same H (upd (upd (upd H a (.lst [.bl ("BadNumber" == "BadMachine"), .bl ("BadNumber" == "BadNumber"), .bl ("BadNumber" == "BadProgram"), .bl ("BadNumber" == "BadText")])) b (.lst [.bl ("BadNumber" == "TooGreat"), .bl ("BadNumber" == "Nothing")])) c (.lst [.bl ("BadNumber" == "BadMachine"), .bl ("BadNumber" == "BadNumber"), .bl ("BadNumber" == "BadProgram"), .bl ("BadNumber" == "BadText"), .bl ("BadNumber" == "TooGreat"), .bl ("BadNumber" == "Nothing")])) := ((same_new na).trans (same_new nb)).trans (same_new nc)
    refine ⟨c, [false, true, false, false, false, false], rfl, SqL.of upd_same, ?_⟩
    refine ⟨rfl, _, rfl, iteF ?_⟩
    refine ⟨_, rfl, _, _, _, rfl, fun _ h => h, hv, _, rfl, iteF ?_⟩
    refine ⟨(by show 6 ≤ sizeLine; decide), fun d nd => ?_⟩
    refine ⟨_, rfl, .inl ⟨rfl, _, SqL.of ((same_new nd) _ _ upd_same)⟩, c, _, _, 1, .bl true, rfl, rfl, SqL.of ((same_new nd) _ _ upd_same), rfl, rfl, rfl, rfl, fun m z hm hz => ?_, ?_⟩
    · match m, hm with
      | 0, _ => cases hz; rfl
    · exact ⟨d, _, 1, .str "BadNumber", rfl, rfl, SqL.of upd_same, atIn (i := 1) rfl, q _ (sH.trans (same_new nd))⟩
  · refine ⟨_, rfl, _, _, _, rfl, fun _ h => h, k_BadMachine, _, rfl, _, _, _, rfl, fun _ h => h, k_BadNumber, _, rfl, _, _, _, rfl, fun _ h => h, k_BadProgram, _, rfl, _, _, _, rfl, fun _ h => h, k_BadText, (by show 4 ≤ sizeLine; decide), fun a na => ?_⟩
    refine ⟨_, rfl, _, rfl, _, _, _, rfl, fun _ h => h, k_TooGreat, _, rfl, _, _, _, rfl, fun _ h => h, k_Nothing, (by show 2 ≤ sizeLine; decide), fun b nb => ?_⟩
    have hab : a ≠ b := ne_of_none upd_same nb
    refine ⟨a, b, _, _, rfl, rfl, by rw [upd_ne hab, upd_same], upd_same, (by show 4 + 2 ≤ sizeLine; decide), fun c nc => ?_⟩
    have sH : Same H (upd (upd (upd H a (.lst [.bl ("BadProgram" == "BadMachine"), .bl ("BadProgram" == "BadNumber"), .bl ("BadProgram" == "BadProgram"), .bl ("BadProgram" == "BadText")])) b (.lst [.bl ("BadProgram" == "TooGreat"), .bl ("BadProgram" == "Nothing")])) c (.lst [.bl ("BadProgram" == "BadMachine"), .bl ("BadProgram" == "BadNumber"), .bl ("BadProgram" == "BadProgram"), .bl ("BadProgram" == "BadText"), .bl ("BadProgram" == "TooGreat"), .bl ("BadProgram" == "Nothing")])) := ((same_new na).trans (same_new nb)).trans (same_new nc)
    refine ⟨c, [false, false, true, false, false, false], rfl, SqL.of upd_same, ?_⟩
    refine ⟨rfl, _, rfl, iteF ?_⟩
    refine ⟨_, rfl, _, _, _, rfl, fun _ h => h, hv, _, rfl, iteF ?_⟩
    refine ⟨(by show 6 ≤ sizeLine; decide), fun d nd => ?_⟩
    refine ⟨_, rfl, .inl ⟨rfl, _, SqL.of ((same_new nd) _ _ upd_same)⟩, c, _, _, 2, .bl true, rfl, rfl, SqL.of ((same_new nd) _ _ upd_same), rfl, rfl, rfl, rfl, fun m z hm hz => ?_, ?_⟩
    · match m, hm with
      | 0, _ => cases hz; rfl
      | 1, _ => cases hz; rfl
    · exact ⟨d, _, 2, .str "BadProgram", rfl, rfl, SqL.of upd_same, atIn (i := 2) rfl, q _ (sH.trans (same_new nd))⟩
  · refine ⟨_, rfl, _, _, _, rfl, fun _ h => h, k_BadMachine, _, rfl, _, _, _, rfl, fun _ h => h, k_BadNumber, _, rfl, _, _, _, rfl, fun _ h => h, k_BadProgram, _, rfl, _, _, _, rfl, fun _ h => h, k_BadText, (by show 4 ≤ sizeLine; decide), fun a na => ?_⟩
    refine ⟨_, rfl, _, rfl, _, _, _, rfl, fun _ h => h, k_TooGreat, _, rfl, _, _, _, rfl, fun _ h => h, k_Nothing, (by show 2 ≤ sizeLine; decide), fun b nb => ?_⟩
    have hab : a ≠ b := ne_of_none upd_same nb
    refine ⟨a, b, _, _, rfl, rfl, by rw [upd_ne hab, upd_same], upd_same, (by show 4 + 2 ≤ sizeLine; decide), fun c nc => ?_⟩
    have sH : Same H (upd (upd (upd H a (.lst [.bl ("BadText" == "BadMachine"), .bl ("BadText" == "BadNumber"), .bl ("BadText" == "BadProgram"), .bl ("BadText" == "BadText")])) b (.lst [.bl ("BadText" == "TooGreat"), .bl ("BadText" == "Nothing")])) c (.lst [.bl ("BadText" == "BadMachine"), .bl ("BadText" == "BadNumber"), .bl ("BadText" == "BadProgram"), .bl ("BadText" == "BadText"), .bl ("BadText" == "TooGreat"), .bl ("BadText" == "Nothing")])) := ((same_new na).trans (same_new nb)).trans (same_new nc)
    refine ⟨c, [false, false, false, true, false, false], rfl, SqL.of upd_same, ?_⟩
    refine ⟨rfl, _, rfl, iteF ?_⟩
    refine ⟨_, rfl, _, _, _, rfl, fun _ h => h, hv, _, rfl, iteF ?_⟩
    refine ⟨(by show 6 ≤ sizeLine; decide), fun d nd => ?_⟩
    refine ⟨_, rfl, .inl ⟨rfl, _, SqL.of ((same_new nd) _ _ upd_same)⟩, c, _, _, 3, .bl true, rfl, rfl, SqL.of ((same_new nd) _ _ upd_same), rfl, rfl, rfl, rfl, fun m z hm hz => ?_, ?_⟩
    · match m, hm with
      | 0, _ => cases hz; rfl
      | 1, _ => cases hz; rfl
      | 2, _ => cases hz; rfl
    · exact ⟨d, _, 3, .str "BadText", rfl, rfl, SqL.of upd_same, atIn (i := 3) rfl, q _ (sH.trans (same_new nd))⟩
  · refine ⟨_, rfl, _, _, _, rfl, fun _ h => h, k_BadMachine, _, rfl, _, _, _, rfl, fun _ h => h, k_BadNumber, _, rfl, _, _, _, rfl, fun _ h => h, k_BadProgram, _, rfl, _, _, _, rfl, fun _ h => h, k_BadText, (by show 4 ≤ sizeLine; decide), fun a na => ?_⟩
    refine ⟨_, rfl, _, rfl, _, _, _, rfl, fun _ h => h, k_TooGreat, _, rfl, _, _, _, rfl, fun _ h => h, k_Nothing, (by show 2 ≤ sizeLine; decide), fun b nb => ?_⟩
    have hab : a ≠ b := ne_of_none upd_same nb
    refine ⟨a, b, _, _, rfl, rfl, by rw [upd_ne hab, upd_same], upd_same, (by show 4 + 2 ≤ sizeLine; decide), fun c nc => ?_⟩
    have sH : Same H (upd (upd (upd H a (.lst [.bl ("TooGreat" == "BadMachine"), .bl ("TooGreat" == "BadNumber"), .bl ("TooGreat" == "BadProgram"), .bl ("TooGreat" == "BadText")])) b (.lst [.bl ("TooGreat" == "TooGreat"), .bl ("TooGreat" == "Nothing")])) c (.lst [.bl ("TooGreat" == "BadMachine"), .bl ("TooGreat" == "BadNumber"), .bl ("TooGreat" == "BadProgram"), .bl ("TooGreat" == "BadText"), .bl ("TooGreat" == "TooGreat"), .bl ("TooGreat" == "Nothing")])) := ((same_new na).trans (same_new nb)).trans (same_new nc)
    refine ⟨c, [false, false, false, false, true, false], rfl, SqL.of upd_same, ?_⟩
    refine ⟨rfl, _, rfl, iteF ?_⟩
    refine ⟨_, rfl, _, _, _, rfl, fun _ h => h, hv, _, rfl, iteF ?_⟩
    refine ⟨(by show 6 ≤ sizeLine; decide), fun d nd => ?_⟩
    refine ⟨_, rfl, .inl ⟨rfl, _, SqL.of ((same_new nd) _ _ upd_same)⟩, c, _, _, 4, .bl true, rfl, rfl, SqL.of ((same_new nd) _ _ upd_same), rfl, rfl, rfl, rfl, fun m z hm hz => ?_, ?_⟩
    · match m, hm with
      | 0, _ => cases hz; rfl
      | 1, _ => cases hz; rfl
      | 2, _ => cases hz; rfl
      | 3, _ => cases hz; rfl
    · exact ⟨d, _, 4, .str "TooGreat", rfl, rfl, SqL.of upd_same, atIn (i := 4) rfl, q _ (sH.trans (same_new nd))⟩
  · refine ⟨_, rfl, _, _, _, rfl, fun _ h => h, k_BadMachine, _, rfl, _, _, _, rfl, fun _ h => h, k_BadNumber, _, rfl, _, _, _, rfl, fun _ h => h, k_BadProgram, _, rfl, _, _, _, rfl, fun _ h => h, k_BadText, (by show 4 ≤ sizeLine; decide), fun a na => ?_⟩
    refine ⟨_, rfl, _, rfl, _, _, _, rfl, fun _ h => h, k_TooGreat, _, rfl, _, _, _, rfl, fun _ h => h, k_Nothing, (by show 2 ≤ sizeLine; decide), fun b nb => ?_⟩
    have hab : a ≠ b := ne_of_none upd_same nb
    refine ⟨a, b, _, _, rfl, rfl, by rw [upd_ne hab, upd_same], upd_same, (by show 4 + 2 ≤ sizeLine; decide), fun c nc => ?_⟩
    have sH : Same H (upd (upd (upd H a (.lst [.bl ("Nothing" == "BadMachine"), .bl ("Nothing" == "BadNumber"), .bl ("Nothing" == "BadProgram"), .bl ("Nothing" == "BadText")])) b (.lst [.bl ("Nothing" == "TooGreat"), .bl ("Nothing" == "Nothing")])) c (.lst [.bl ("Nothing" == "BadMachine"), .bl ("Nothing" == "BadNumber"), .bl ("Nothing" == "BadProgram"), .bl ("Nothing" == "BadText"), .bl ("Nothing" == "TooGreat"), .bl ("Nothing" == "Nothing")])) := ((same_new na).trans (same_new nb)).trans (same_new nc)
    refine ⟨c, [false, false, false, false, false, true], rfl, SqL.of upd_same, ?_⟩
    refine ⟨rfl, _, rfl, iteF ?_⟩
    refine ⟨_, rfl, _, _, _, rfl, fun _ h => h, hv, _, rfl, iteF ?_⟩
    refine ⟨(by show 6 ≤ sizeLine; decide), fun d nd => ?_⟩
    refine ⟨_, rfl, .inl ⟨rfl, _, SqL.of ((same_new nd) _ _ upd_same)⟩, c, _, _, 5, .bl true, rfl, rfl, SqL.of ((same_new nd) _ _ upd_same), rfl, rfl, rfl, rfl, fun m z hm hz => ?_, ?_⟩
    · match m, hm with
      | 0, _ => cases hz; rfl
      | 1, _ => cases hz; rfl
      | 2, _ => cases hz; rfl
      | 3, _ => cases hz; rfl
      | 4, _ => cases hz; rfl
    · exact ⟨d, _, 5, .str "Nothing", rfl, rfl, SqL.of upd_same, atIn (i := 5) rfl, q _ (sH.trans (same_new nd))⟩
abbrev lams : List Str := ["law"]
theorem told {X : Cx} (T : Txt X.K X.mg) {x : Str} (hx : x ∈ lams) (hB : TabX X.K X.mg X.base lams) (hcode : X.env.code = .ref (He.codeOf X.K (x, none))) (hq : X.env.qual = x ++ ".<locals>.") {k : Nat} {params : Arguments} {body : Expr} {scope : Scope} {t : XK → TE} {p lpos pos : Pos}
    (hgT : Gl X "_law_told") (hr : Room (k + 2) X.A) (L : LamS X.env.scope scope) (hdef : defaultsOf params X.env = ([], []))
    (hbind : ∀ (q : Str) (cl : List (Str × Addr)) (pm cv ctv : Value), bindArgs (PySem.W.kla_fn "<lambda>" q params body scope cl pm cv ctv) ⟨[], []⟩ = pure [])
    (hbody : ∀ (A : Around) (outer : List Env) (s : Shared) (H : Hp) (E : XK) (f c' : Addr), Room k (A.deeper (lamEnv X scope s.heap.objs.size f c')) → PE (Hl.lamN X A outer s H E scope f c') body (t E)) :
    PE X (.Call (.Name "_law_told" p) [.Lambda params body scope lpos] [] pos) (Hl.tTold (Tb X.K lams) (Nm X.K words) t) := by
  refine Hl.pe_told (c := (He.cT X.K (x, none)).1) (P := (He.cT X.K (x, none)).2) T.d__law_told rfl sc__law_told rfl rfl hgT T.m__law_told (T.d__law_told.bindsN (fun _ _ _ _ _ _ us hl => match us, hl with | [_], _ => rfl)) T.m_RowError rfl T.m__law_word rfl T.d__law_word.kp
    (T.d__law_word.bindsN (fun _ _ _ _ _ _ us hl => match us, hl with | [_], _ => rfl)) (ok__law_word T) (fun D n h => ?_) (hB x hx) hcode ?_ ?_ hr (by omega) L hdef hbind hbody
  · obtain ⟨hn, rfl⟩ := h
    exact (exc_of T.w_exc hn).2.2.2
  · rw [hq]
    exact tb_mem hx
  · rw [hq]
    exact tb_u T.w_tab hx
end
end Fr
namespace Fr
open PySem PySem.Spec PyProof.Rows L2
section
variable {P : Program} {w : World} {K : PySem.W.Frag} {mg : Str → Option Value} {base : Heap}
/-! ### max of a list of numbers -/
theorem max_int {as : List Nat} {m : Int} (hm : m ∈ as.map fun (x : Nat) => (x : Int)) (hle : ∀ y, y ∈ (as.map fun (x : Nat) => (x : Int)) → y ≤ m) : m = (maxN as : Nat) := by
  obtain ⟨k, hk, rfl⟩ := List.mem_map.mp hm
  have e : k = maxN as := maxN_uniq hk fun y hy => by
    have := hle (y : Int) (List.mem_map.mpr ⟨y, hy, rfl⟩)
    omega
  rw [e]
/-! ### _law_run -/
def placeF (l : Prog) : Nat → Nat → List Nat
  | 0, _ => []
  | f + 1, n => match lawStep l n with
    | none => []
    | some (i, x) => if 400 < maxN (rooms x) then [] else i :: placeF l f x
theorem prog_small {l : Prog} (hP : isProg l = true) : ∀ p ∈ l, 0 < p.2 ∧ p.1 < 2 ^ 20 ∧ p.2 < 2 ^ 20 := fun p hp => by
  obtain ⟨f1, f2, f3, f4, f5⟩ := isFrac_iff.mp ((isProg_iff.mp hP).2 p hp)
  exact ⟨isNum_pos f2, mil_lt f3, mil_lt f4⟩
theorem num_lt5 {n : Nat} (h : isNum n = true) : n < 2 ^ 100000 := Nat.lt_trans (isNum_lt h) (Nat.pow_lt_pow_right (by decide) (by decide))
def spLawRun (K : PySem.W.Frag) : Sp := fun vs H Q _ => ∃ (v : V) (l : Prog) (n m : Nat), vs = [v, nI n, nI m] ∧ Dp K H v (progD l) ∧ isProg l = true ∧ isNum n = true ∧ m ≤ 1000 ∧
  (∀ r, runF l m n = some r → ∀ t a b H', Same H H' → H a = none → H b = none → a ≠ b → H' t = some (.tup [.ref a, .ref b]) → H' a = some (.lst (r.map nI)) → H' b = some (.lst ((placeF l m n).map nI)) → Q (.ref t) H') ∧
  (runF l m n = none → ∀ t b H', Same H H' → H b = none → H' t = some (.tup [.non, .ref b]) → H' b = some (.lst ((placeF l m n).map nI)) → Q (.ref t) H')
theorem ok__law_run (T : Txt K mg) : Cal P w K mg base L2.CX0 3 "_law_run" ["program", "number", "most"] (spLawRun K) := by
  have c__law_step := ok__law_step (P := P) (w := w) (base := base) T
  have c__law_rooms := ok__law_rooms (P := P) (w := w) (base := base) T
  refine Cal.mk0 T.d__law_run T.m__law_run sc__law_run (fun _ _ _ _ _ _ us hl => match us, hl with | [_, _, _], _ => rfl) (fun vs H Q E h => ?_) (fun cdv A outer s H vs Q E hr h => ?_)
  · obtain ⟨v, l, n, m, rfl, _⟩ := h
    rfl
  obtain ⟨v, l, n, m, rfl, hd, hP, hN, hm, q1, q2⟩ := h
  refine ⟨_, (pss_cons (ps_par (i := 3) (j := 4) (by rfl) sc__law_run.nd rfl rfl (by decide) rfl rfl (pa_cons (pe_lst (pa_cons (pv 1) pa_nil)) (pa_cons (pe_lst pa_nil) pa_nil)) (by rfl))
      (pss_cons (ps_for PassesOwn.never rfl (pi_range1 (by rfl) T.b_range (pa_cons (pv 2) pa_nil)) (pg_name (i := 5) sc__law_run.nd rfl (.inl rfl)) (pss_cons (ps_set (i := 6) sc__law_run.nd rfl (.inl rfl) (pe_cal c__law_step (hr.mono (by decide)) (by rfl) pass0 (pa_cons (pv 0) (pa_cons (pe_ix (ixL rfl) (pv 3) (pe_un un_neg pe_int) (fun _ _ => rfl)) pa_nil))))
      (pss_cons (ps_if (pt_cmpR op_isN (pv 6) pe_non (nomark _)) (pss_one (ps_ret (pe_tup (pa_cons (pv 3) (pa_cons (pv 4) pa_nil))))) pss_nil)
      (C8.pss_cut (ps_if (PW.pt (pw_and (pt_cmpR opN_gt (pe_op opN_div (pe_op opN_div (pe_ix (ixT rfl) (pv 6) pe_int (fun _ _ => rfl)) (pe_op opN_pow pe_int pe_int)) (pe_op opN_pow pe_int pe_int)) pe_int (nomark _)) (pw_and1 (pt_cmpR opN_gt (pe_callB (crMax rfl rfl) (by rfl) T.b_max boot_max (pa_cons (pe_cal c__law_rooms (hr.mono (by decide)) (by rfl) pass0 (pa_cons (pe_ix (ixT rfl) (pv 6) pe_int (fun _ _ => rfl)) pa_nil)) pa_nil)) pe_int (nomark _))))) (pss_one (ps_ret (pe_tup (pa_cons pe_non (pa_cons (pv 4) pa_nil))))) pss_nil)
      (pss_cons (ps_expr (bm rfl PySem.F.plainAttrs_list PySem.F.slot_list_append PySem.F.type_list_append mt_append (pv 3) (pa_cons (pe_ix (ixT rfl) (pv 6) pe_int (fun _ _ => rfl)) pa_nil)))
      (pss_one (ps_expr (bm rfl PySem.F.plainAttrs_list PySem.F.slot_list_append PySem.F.type_list_append mt_append (pv 4) (pa_cons (pe_ix (ixT rfl) (pv 6) pe_int (fun _ _ => rfl)) pa_nil)))))))))
      (pss_one (ps_ret (pe_tup (pa_cons (pv 3) (pa_cons (pv 4) pa_nil))))))), ?_⟩
  refine ⟨_, rfl, (by show 1 ≤ sizeLine; decide), fun a na => ⟨(by show 0 ≤ sizeLine; decide), fun b nb => ?_⟩⟩
  have hab : a ≠ b := ne_of_none upd_same nb
  have hbH : H b = none := (same_new (o := .lst [nI n]) na).free nb
  refine ⟨_, _, rfl, ?_⟩
  refine ⟨_, rfl, (m : Int), rfl, by omega, by omega, ?_⟩
  refine for_range (fun i σ H4 => ∃ (fs ps : List Nat) (z j : Nat) (y5 y6 : Option V), σ = [some v, some (nI n), some (nI m), some (.ref a), some (.ref b), y5, y6] ∧ Same H H4 ∧ H4 a = some (.lst ((fs ++ [z]).map nI)) ∧ H4 b = some (.lst (ps.map nI)) ∧ isNum z = true ∧ fs.length = i ∧ ps.length = i ∧ i + j = m ∧ runF l m n = (runF l j z).map (fs ++ ·) ∧ placeF l m n = ps ++ placeF l j z) ?_ ?_ ?_
  · exact ⟨[], [], n, m, none, none, rfl, (same_new na).trans (same_new nb), (same_new nb) _ _ upd_same, upd_same, hN, rfl, rfl, by omega, by simp, rfl⟩
  · rintro i σ H4 hi ⟨fs, ps, z, j, y5, y6, rfl, s4, ha, hb, hz, hf, hps, hj, hrun, hpl⟩
    have hi2 : i < m := by simpa using hi
    obtain ⟨j, rfl⟩ : ∃ j', j = j' + 1 := ⟨j - 1, by omega⟩
    have hzn := isNum_iff.mp hz
    have hld := lawStep_led hP z
    refine ⟨_, rfl, _, rfl, 1, rfl, a, _, _, _, rfl, rfl, SqL.of ha, at_last fs z, v, l, z, rfl, same_dp s4 hd, prog_small hP, num_lt5 hz, fun hno H5 s5 => ?_, fun i' x hs p H5 np s5 hp => ?_⟩
    · rw [hno] at hld
      have hrl : runF l (j + 1) z = some [z] := by
        unfold runF
        rw [← hld]
        rfl
      have hpl2 : placeF l (j + 1) z = [] := by
        unfold placeF
        rw [hno]
      rw [hrl] at hrun
      rw [hpl2, List.append_nil] at hpl
      refine ⟨_, rfl, rfl, _, rfl, iteT ⟨_, rfl, _, rfl, (by show 2 ≤ sizeLine; decide), fun t nt => ?_⟩⟩
      refine q1 (fs ++ [z]) (by rw [hrun]; rfl) t a b _ ((s4.trans s5).trans (same_new nt)) na hbH hab upd_same ((same_new nt) _ _ (s5 _ _ ha)) ?_
      rw [hpl]
      exact (same_new nt) _ _ (s5 _ _ hb)
    · rw [hs] at hld
      have hl : led l z = some x := hld.symm
      obtain ⟨hx0, hxl⟩ := led_left hP hzn.1 hzn.2.1 hl
      have hrl : runF l (j + 1) z = if 400 < maxN (rooms x) then none else (runF l j x).map (z :: ·) := by
        conv => lhs; unfold runF
        rw [hl]
      have hpl2 : placeF l (j + 1) z = if 400 < maxN (rooms x) then [] else i' :: placeF l j x := by
        conv => lhs; unfold placeF
        rw [hs]
      have hT : ((10 : Nat) ^ 60).log2 < 9000 := by decide +kernel
      have hp0 : 0 < (10 : Nat) ^ 60 := by decide +kernel
      have hgreat : ∀ y ∈ rooms x, 400 < y → 0 < x / 10 ^ 60 / 10 ^ 60 := fun y hy h4 => great hx0 hy h4
      generalize hB : (10 : Nat) ^ 60 = B at hT hp0 hgreat
      have s45 := s4.trans s5
      refine ⟨_, rfl, rfl, _, rfl, iteF ?_⟩
      refine ⟨fun σ H6 => σ = [some v, some (nI n), some (nI m), some (.ref a), some (.ref b), some (.int (0 + (i : Int))), some (.ref p)] ∧ Same H5 H6 ∧ ¬ 400 < maxN (rooms x), ?_, ?_⟩
      · refine ⟨_, rfl, p, _, 1, _, rfl, rfl, SqT.of hp, atI1, 10, 60, rfl, rfl, ⟨by decide, by decide⟩, x, B, rfl, congrArg nI hB, ⟨hp0, hT⟩, 10, 60, rfl, rfl, ⟨by decide, by decide⟩, x / B, B, rfl, congrArg nI hB, ⟨hp0, hT⟩, x / B / B, 0, rfl, rfl, _, rfl, ite2 (fun hg => ?_) (fun hg => ?_)⟩
        · refine ⟨_, rfl, p, _, 1, _, rfl, rfl, SqT.of hp, atI1, x, rfl, hx0, fun p2 H6 s6 np2 hp2 => ?_⟩
          refine ⟨p2, (rooms x).map fun (y : Nat) => (y : Int), rfl, (by rw [List.map_map]; exact SqL.of hp2), (by rw [List.length_map, rooms_len]; decide), fun mx hm hle => ?_⟩
          obtain rfl := max_int hm hle
          refine ⟨maxN (rooms x), 400, rfl, rfl, _, rfl, ite2 (fun h4 => ?_) (fun h4 => ?_)⟩
          · have h4 := of_decide_eq_true h4
            rw [if_pos h4] at hrl hpl2
            rw [hrl] at hrun
            rw [hpl2, List.append_nil] at hpl
            refine ⟨_, rfl, (by show 2 ≤ sizeLine; decide), fun t nt => ?_⟩
            refine q2 (by rw [hrun]; rfl) t b _ ((s45.trans s6).trans (same_new nt)) hbH upd_same ?_
            rw [hpl]
            exact (same_new nt) _ _ (s6 _ _ (s5 _ _ hb))
          · exact ⟨rfl, s6, fun z => h4 (decide_eq_true z)⟩
        · refine ⟨rfl, Same.refl _, fun z => hg (decide_eq_true (hgreat _ (maxN_mem (rooms_ne x)) z))⟩
      · rintro σ H6 ⟨rfl, s6, hng⟩
        rw [if_neg hng] at hrl hpl2
        have hlen : ((fs ++ [z]).map nI).length = i + 1 := by simp [hf]
        have hlen2 : (ps.map nI).length = i := by simp [hps]
        have ha6 := s6 _ _ (s5 _ _ ha)
        have hb6 := s6 _ _ (s5 _ _ hb)
        have hp6 := s6 _ _ hp
        have hpa : p ≠ a := fun e => by rw [e, ha] at np; cases np
        have hpb : p ≠ b := fun e => by rw [e, hb] at np; cases np
        refine ⟨_, rfl, .inl ⟨rfl, _, SqL.of ha6⟩, _, rfl, p, _, 1, _, rfl, rfl, SqT.of hp6, atI1, a, _, _, rfl, rfl, ha6, (by rw [hlen]; exact Nat.lt_of_lt_of_le (show i + 1 < 3000 by omega) (by decide)), ?_⟩
        have hb7 : (upd H6 a (.lst ((fs ++ [z]).map nI ++ [nI x]))) b = some (.lst (ps.map nI)) := by rw [upd_ne (Ne.symm hab)]; exact hb6
        have hp7 : (upd H6 a (.lst ((fs ++ [z]).map nI ++ [nI x]))) p = some (.tup [nI i', nI x]) := by rw [upd_ne hpa]; exact hp6
        refine ⟨_, rfl, .inl ⟨rfl, _, SqL.of hb7⟩, _, rfl, p, _, 0, _, rfl, rfl, SqT.of hp7, atI0, b, _, _, rfl, rfl, hb7, (by rw [hlen2]; exact Nat.lt_of_lt_of_le (show i < 3000 by omega) (by decide)), ?_⟩
        refine ⟨fs ++ [z], ps ++ [i'], x, j, _, _, rfl, same_put (same_put (s45.trans s6) na) hbH, ?_, ?_, led_num hP hz hl hng, by simp [hf], by simp [hps], by omega, ?_, ?_⟩
        · rw [upd_ne hab, upd_same, List.map_append, List.map_append, List.map_append]
          rfl
        · rw [upd_same, List.map_append]
          rfl
        · rw [hrun, hrl]
          cases runF l j x with
          | none => rfl
          | some r => simp
        · rw [hpl, hpl2]
          simp
  · rintro σ H4 ⟨fs, ps, z, j, y5, y6, rfl, s4, ha, hb, hz, hf, hps, hj, hrun, hpl⟩
    have hj0 : j = 0 := by
      have : m + j = m := by simpa using hj
      omega
    subst hj0
    refine ⟨_, rfl, _, rfl, (by show 2 ≤ sizeLine; decide), fun t nt => ?_⟩
    refine q1 (fs ++ [z]) (by rw [hrun]; rfl) t a b _ (s4.trans (same_new nt)) na hbH hab upd_same ((same_new nt) _ _ ha) ?_
    rw [hpl]
    unfold placeF
    rw [List.append_nil]
    exact (same_new nt) _ _ hb
end
end Fr
namespace Fr
open PySem PySem.Spec PyProof.Rows L2
theorem rooms_getD (n i : Nat) (hi : i < 12) : ((rooms n).map nI).getD i .non = nI (rm n i) := by
  unfold rm
  rw [List.getD_eq_getElem?_getD, List.getD_eq_getElem?_getD, List.getElem?_map, List.getElem?_eq_getElem (by rw [rooms_len]; exact hi)]
  rfl
theorem rm_le {n : Nat} (h : isNum n = true) (r : Nat) : rm n r ≤ 400 := by
  unfold rm
  rw [List.getD_eq_getElem?_getD]
  cases e : (rooms n)[r]? with
  | none => exact Nat.zero_le _
  | some a => exact (isNum_iff.mp h).2.2 a (List.mem_of_getElem? e)
theorem row22 {n u i : Nat} (hi : i < 12) : Zn.rowAt i [(rooms n).map nI, (rooms u).map nI] = [nI (rm n i), nI (rm u i)] := by
  show [((rooms n).map nI).getD i .non, ((rooms u).map nI).getD i .non] = _
  rw [rooms_getD n i hi, rooms_getD u i hi]
end Fr
namespace Fr
open PySem PySem.Spec PyProof.Rows L2
/-! ### data that may be held against one another -/
def Shp (k : Nat) (d : PyData) : Prop := d.canLay0 = true ∧ d.depth ≤ k
theorem Shp.mono {k j : Nat} {d : PyData} (h : Shp k d) (hk : k ≤ j) : Shp j d := ⟨h.1, Nat.le_trans h.2 hk⟩
theorem Shp.int {i : Int} {k : Nat} : Shp k (.int i) := ⟨by simp [PyData.canLay0], by simp [PyData.depth]⟩
theorem Shp.bool {i : Bool} {k : Nat} : Shp k (.bool i) := ⟨by simp [PyData.canLay0], by simp [PyData.depth]⟩
theorem Shp.non {k : Nat} : Shp k .none := ⟨by simp [PyData.canLay0], by simp [PyData.depth]⟩
theorem Shp.str {x : Str} {k : Nat} (h : PyData.strOk x = true) : Shp k (.str x) := ⟨by simp [PyData.canLay0, h], by simp [PyData.depth]⟩
theorem shp_all {k : Nat} : ∀ {ds : List PyData}, (∀ d ∈ ds, Shp k d) → PyData.canLayAll0 ds = true ∧ PyData.depthAll ds ≤ k
  | [], _ => ⟨by simp [PyData.canLayAll0], by simp [PyData.depthAll]⟩
  | d :: ds, h => by
    have h1 := h d List.mem_cons_self
    have h2 := shp_all fun e he => h e (List.mem_cons_of_mem _ he)
    refine ⟨?_, ?_⟩
    · simp only [PyData.canLayAll0, h1.1, h2.1, Bool.and_self]
    · simp only [PyData.depthAll]
      exact Nat.max_le.mpr ⟨h1.2, h2.2⟩
theorem Shp.lst {k : Nat} {ds : List PyData} (h : ∀ d ∈ ds, Shp k d) : Shp (k + 1) (.list ds) := by
  have := shp_all h
  exact ⟨by simp only [PyData.canLay0]; exact this.1, by simp only [PyData.depth]; exact Nat.succ_le_succ this.2⟩
theorem Shp.tup {k : Nat} {ds : List PyData} (h : ∀ d ∈ ds, Shp k d) : Shp (k + 1) (.tuple ds) := by
  have := shp_all h
  exact ⟨by simp only [PyData.canLay0]; exact this.1, by simp only [PyData.depth]; exact Nat.succ_le_succ this.2⟩
theorem Shp.ok {k : Nat} {d : PyData} (h : Shp k d) (hk : k ≤ 64) : SeqAt.shaped d = true := by
  unfold SeqAt.shaped
  rw [h.1, decide_eq_true (Nat.le_trans h.2 hk)]
  rfl
theorem Shp.nil {k : Nat} : ∀ d ∈ ([] : List PyData), Shp k d := fun _ h => nomatch h
theorem Shp.cons {k : Nat} {d : PyData} {ds : List PyData} (h : Shp k d) (t : ∀ e ∈ ds, Shp k e) : ∀ e ∈ d :: ds, Shp k e := fun e he => by
  rcases List.mem_cons.mp he with rfl | z
  · exact h
  · exact t e z
theorem Shp.map {α : Type} {k : Nat} {f : α → PyData} {l : List α} (h : ∀ a ∈ l, Shp k (f a)) : ∀ e ∈ l.map f, Shp k e := fun e he => by
  obtain ⟨a, ha, rfl⟩ := List.mem_map.mp he
  exact h a ha
theorem Shp.opt {k : Nat} (o : Option Nat) : Shp k (optD o) := by
  cases o with
  | none => exact .non
  | some a => exact .int
theorem Shp.frac {k : Nat} (f : Nat × Nat) : Shp (k + 1) (fracD f) := .tup (.cons .int (.cons .int .nil))
theorem Shp.prog {k : Nat} (l : Prog) : Shp (k + 2) (progD l) := .lst (.map fun f _ => .frac f)
theorem Shp.nats {k : Nat} (ns : List Nat) : ∀ e ∈ ns.map nD, Shp k e := .map fun _ _ => .int
/-- held against the same -/
def rNeS (K : PySem.W.Frag) : R2 := fun x y H Q => ∃ d, Dp K H x d ∧ Dp K H y d ∧ Shp 60 d ∧ Q (.bl false) H
def rEqS (K : PySem.W.Frag) : R2 := fun x y H Q => ∃ d, Dp K H x d ∧ Dp K H y d ∧ Shp 60 d ∧ Q (.bl true) H
section
variable {X : Cx} {K : PySem.W.Frag}
theorem neS (e : X.K = K) (hu : X.A.units + 64 < cLine) : OpR X (compareOp .NotEq) (rNeS K) := by
  intro pins s σ H x y v u Q I rx ry h
  obtain ⟨d, h1, h2, h3, q⟩ := h
  refine neD e hu pins s σ H x y v u Q I rx ry ⟨d, d, h1, h2, h3.ok (by decide), h3.ok (by decide), ?_⟩
  rw [SeqAt.eqv_refl _ h3.1]
  exact q
theorem eqS (e : X.K = K) (hu : X.A.units + 64 < cLine) : OpR X (compareOp .Eq) (rEqS K) := by
  intro pins s σ H x y v u Q I rx ry h
  obtain ⟨d, h1, h2, h3, q⟩ := h
  refine eqD e hu pins s σ H x y v u Q I rx ry ⟨d, d, h1, h2, h3.ok (by decide), h3.ok (by decide), ?_⟩
  rw [SeqAt.eqv_refl _ h3.1]
  exact q
/-- a list held against the empty one -/
def rNeE (K : PySem.W.Frag) : R2 := fun x y H Q => ∃ ds, Dp K H x (.list ds) ∧ Dp K H y (.list []) ∧ (∀ d ∈ ds, Shp 50 d) ∧ Q (.bl (!ds.isEmpty)) H
theorem neE (e : X.K = K) (hu : X.A.units + 64 < cLine) : OpR X (compareOp .NotEq) (rNeE K) := by
  intro pins s σ H x y v u Q I rx ry h
  obtain ⟨ds, h1, h2, h3, q⟩ := h
  refine neD e hu pins s σ H x y v u Q I rx ry ⟨_, _, h1, h2, (Shp.lst h3).ok (by decide), (Shp.lst (k := 0) Shp.nil).ok (by decide), ?_⟩
  cases ds with
  | nil => exact q
  | cons d ds => exact q
end
theorem row33 {n u v i : Nat} (hi : i < 12) : Zn.rowAt i [(rooms n).map nI, (rooms u).map nI, (rooms v).map nI] = [nI (rm n i), nI (rm u i), nI (rm v i)] := by
  show [((rooms n).map nI).getD i .non, ((rooms u).map nI).getD i .non, ((rooms v).map nI).getD i .non] = _
  rw [rooms_getD n i hi, rooms_getD u i hi, rooms_getD v i hi]
def rEqE (K : PySem.W.Frag) : R2 := fun x y H Q => ∃ ds, Dp K H x (.list ds) ∧ Dp K H y (.list []) ∧ (∀ d ∈ ds, Shp 50 d) ∧ Q (.bl ds.isEmpty) H
theorem eqE {X : Cx} {K : PySem.W.Frag} (e : X.K = K) (hu : X.A.units + 64 < cLine) : OpR X (compareOp .Eq) (rEqE K) := by
  intro pins s σ H x y v u Q I rx ry h
  obtain ⟨ds, h1, h2, h3, q⟩ := h
  refine eqD e hu pins s σ H x y v u Q I rx ry ⟨_, _, h1, h2, (Shp.lst h3).ok (by decide), (Shp.lst (k := 0) Shp.nil).ok (by decide), ?_⟩
  cases ds with
  | nil => exact q
  | cons d ds => exact q
theorem maxN_rm {x : Nat} : 400 < maxN (rooms x) ↔ ∃ r, r < 12 ∧ 400 < rm x r := by
  constructor
  · intro h
    have h1 := maxN_mem (rooms_ne x)
    obtain ⟨r, hr, e⟩ := List.mem_iff_getElem.mp h1
    rw [rooms_len] at hr
    refine ⟨r, hr, ?_⟩
    unfold rm
    rw [List.getD_eq_getElem?_getD, List.getElem?_eq_getElem (by rw [rooms_len]; exact hr), e]
    exact h
  · rintro ⟨r, hr, h⟩
    unfold rm at h
    rw [List.getD_eq_getElem?_getD, List.getElem?_eq_getElem (by rw [rooms_len]; exact hr)] at h
    exact Nat.lt_of_lt_of_le h (maxN_le (List.getElem_mem _))
theorem sum_ints : ∀ ns : List Nat, (ns.map fun (x : Nat) => (x : Int)).sum = ((ns.sum : Nat) : Int)
  | [] => rfl
  | n :: ns => by
    rw [List.map_cons, List.sum_cons, List.sum_cons, sum_ints ns]
    omega
theorem dp_tup {K : PySem.W.Frag} {H : Hp} {v : V} {ds : List PyData} (h : Dp K H v (.tuple ds)) : ∃ (a : Addr) (xs : List V), v = .ref a ∧ SqT K H a xs ∧ DpAll K H xs ds := by
  cases h with
  | @tup a xs _ hs ha => exact ⟨a, xs, rfl, hs, ha⟩
theorem dp_lst {K : PySem.W.Frag} {H : Hp} {v : V} {ds : List PyData} (h : Dp K H v (.list ds)) : ∃ (a : Addr) (xs : List V), v = .ref a ∧ SqL K H a xs ∧ DpAll K H xs ds := by
  cases h with
  | @lst a xs _ hs ha => exact ⟨a, xs, rfl, hs, ha⟩
theorem dp_two {K : PySem.W.Frag} {H : Hp} {v : V} {d e : PyData} (h : Dp K H v (.tuple [d, e])) : ∃ (a : Addr) (x y : V), v = .ref a ∧ SqT K H a [x, y] ∧ Dp K H x d ∧ Dp K H y e := by
  obtain ⟨a, xs, rfl, hs, ha⟩ := dp_tup h
  cases ha with
  | cons h1 h2 => cases h2 with
    | cons h3 h4 => cases h4 with
      | nil => exact ⟨a, _, _, rfl, hs, h1, h3⟩
theorem dp_optV {K : PySem.W.Frag} {H : Hp} {v : V} {o : Option Nat} (h : Dp K H v (optD o)) : v = optV o := by
  cases o with
  | none => cases h; rfl
  | some a => cases h; rfl
theorem rm_one (r : Nat) : rm 1 r = 0 := by
  have := rm_pow (a := 2) (by decide) r 0
  simpa using this
theorem count_yes {m b : Nat} (h : m ≤ b) : isCountD 0 b (nD m) = true := by
  show (decide ((0 : Int) ≤ (m : Int)) && decide ((m : Int) ≤ (b : Int))) = true
  rw [decide_eq_true (by omega), decide_eq_true (by omega)]
  rfl
/-- a written list, new -/
def tDatN (K : PySem.W.Frag) (ds : List PyData) : TE := fun _ H Q => ∀ p vs H', Same H H' → H' p = some (.lst vs) → DpAll K H' vs ds → Q (.ref p) H'
theorem dl_lstN {X : Cx} {K : PySem.W.Frag} {pos : Pos} {es : List Expr} {ds : List PyData} (hl : ds.length ≤ 1000) (h : PA X es (tDats K ds)) : PE X (.List es pos) (tDatN K ds) :=
  PE.imp (pe_lst h) fun σ H Q q vs H1 s1 h1 => ⟨by rw [dps_len h1]; exact Nat.le_trans hl (by decide), fun p np => q p vs _ (s1.trans (same_new np)) upd_same (same_dps (same_new np) h1)⟩
theorem left_1 : left 1 = 1 := by
  have := left_pow (a := 1) (by decide)
  rw [left_def]
  decide +kernel
/-! ### tuples by their data -/
def cutD (ds : List PyData) (lo hi : Option Int) : List PyData := (ds.drop (HT.sIx ds.length 0 lo)).take (HT.sIx ds.length ds.length hi - HT.sIx ds.length 0 lo)
def rSlD (K : PySem.W.Frag) : V → Option Int → Option Int → Hp → VK → Prop := fun x lo hi H Q => ∃ ds, Dp K H x (.tuple ds) ∧ ∀ v H', Same H H' → Dp K H' v (.tuple (cutD ds lo hi)) → Q v H'
theorem slD {X : Cx} {K : PySem.W.Frag} (e : X.K = K) : SlR X (rSlD K) := by
  subst e
  intro pins s σ H x v vl vu lo hi sl Q I rx hs pl pu h
  obtain ⟨ds, hd, q⟩ := h
  obtain ⟨a, xs, rfl, hx, ha⟩ := dp_tup hd
  have hlen := dps_len ha
  refine sl_tupA pins s σ H _ v vl vu lo hi sl Q I rx hs pl pu ⟨a, xs, rfl, hx, fun hw => ?_, fun _ p np => ?_⟩
  · refine q _ H (Same.refl H) ?_
    unfold cutD
    rw [← hlen, hw.1, hw.2, List.drop_zero, Nat.sub_zero, List.take_of_length_le (by omega)]
    exact .tup hx ha
  · refine q _ _ (same_new np) (.tup (SqT.of upd_same) ?_)
    unfold cutV cutD
    rw [← hlen]
    exact dps_take _ (dps_drop _ (same_dps (same_new np) ha))
def rCatD (K : PySem.W.Frag) : R2 := fun x y H Q => ∃ ds es, Dp K H x (.tuple ds) ∧ Dp K H y (.tuple es) ∧ ds.length + es.length ≤ 1000 ∧ ∀ v H', Same H H' → Dp K H' v (.tuple (ds ++ es)) → Q v H'
theorem catD {X : Cx} {K : PySem.W.Frag} (e : X.K = K) : OpR X (binaryOp .Add) (rCatD K) := by
  subst e
  intro pins s σ H x y v u Q I rx ry h
  obtain ⟨ds, es, hd, he, hl, q⟩ := h
  obtain ⟨a, xs, rfl, hx, ha⟩ := dp_tup hd
  obtain ⟨b, ys, rfl, hy, hb⟩ := dp_tup he
  have h1 := dps_len ha
  have h2 := dps_len hb
  refine op_catA pins s σ H _ _ v u Q I rx ry ⟨a, b, xs, ys, rfl, rfl, hx, hy, Nat.le_trans (show xs.length + ys.length ≤ 1000 by omega) (by decide), fun z => ?_, fun _ z => ?_, fun _ _ p np => ?_⟩
  · subst z
    have : ds = [] := List.length_eq_zero_iff.mp (by rw [← h1]; rfl)
    subst this
    exact q _ H (Same.refl H) he
  · subst z
    have : es = [] := List.length_eq_zero_iff.mp (by rw [← h2]; rfl)
    subst this
    rw [List.append_nil] at q
    exact q _ H (Same.refl H) hd
  · exact q _ _ (same_new np) (.tup (SqT.of upd_same) (dps_app (same_dps (same_new np) ha) (same_dps (same_new np) hb)))
theorem cutD_from (ds : List PyData) (i : Nat) : cutD ds (some (i : Int)) none = ds.drop i := by
  unfold cutD
  rw [show HT.sIx ds.length 0 (some (i : Int)) = min i ds.length from HT.sIx_nat ds.length 0 i, HT.sIx_none]
  rcases Nat.le_total i ds.length with h | h
  · rw [Nat.min_eq_left h, List.take_of_length_le (by rw [List.length_drop]; exact Nat.le_refl _)]
  · rw [Nat.min_eq_right h, List.drop_of_length_le h, List.drop_length, List.take_nil]
theorem cutD_to (ds : List PyData) (i : Nat) : cutD ds none (some (i : Int)) = ds.take i := by
  unfold cutD
  rw [show HT.sIx ds.length ds.length (some (i : Int)) = min i ds.length from HT.sIx_nat ds.length ds.length i, HT.sIx_none]
  rw [List.drop_zero, Nat.sub_zero]
  rcases Nat.le_total i ds.length with h | h
  · rw [Nat.min_eq_left h]
  · rw [Nat.min_eq_right h, List.take_of_length_le (Nat.le_refl _), List.take_of_length_le h]
end Fr
namespace Fr
open PySem PySem.Spec PyProof.Rows L2 LamX
/-! ### the world goes on: all but tables stays, the tables are good -/
structure Stp (T : List (Addr × Str)) (H H' : Hp) : Prop where
  e : ExtN H H'
  t : Tabs T H'
theorem Stp.same {T : List (Addr × Str)} {H H' H'' : Hp} (a : Stp T H H') (s : Same H' H'') : Stp T H H'' := ⟨a.e.trans (ext_same s), ext_tabs a.t s⟩
theorem Stp.told {T : List (Addr × Str)} {H H' H'' : Hp} (a : Stp T H H') (e : ExtN H' H'') (t : Tabs T H'') : Stp T H H'' := ⟨a.e.trans e, t⟩
theorem Stp.trans {T : List (Addr × Str)} {H H' H'' : Hp} (a : Stp T H H') (b : Stp T H' H'') : Stp T H H'' := ⟨a.e.trans b.e, b.t⟩
theorem Stp.refl {T : List (Addr × Str)} {H : Hp} (t : Tabs T H) : Stp T H H := ⟨ExtN.refl H, t⟩
theorem ext_lst {H H' : Hp} {a : Addr} {xs : List V} (e : ExtN H H') (h : H a = some (.lst xs)) : H' a = some (.lst xs) := e _ _ h (fun _ z => by cases z)
theorem ext_tup {H H' : Hp} {a : Addr} {xs : List V} (e : ExtN H H') (h : H a = some (.tup xs)) : H' a = some (.tup xs) := e _ _ h (fun _ z => by cases z)
theorem xtold {K : PySem.W.Frag} {n : Str} {Q : VK} {H' : Hp} (hn : n ∈ words) (q : ∀ H'', Same H' H'' → Q (.str n) H'') : Hl.XTold (Nm K words) Q (.ref (ga K n)) none H' := ⟨_, n, rfl, rfl, ⟨hn, rfl⟩, q⟩
/-- the texts of the classes -/
theorem strOk_BN : PyData.strOk "BadNumber" = true := by decide +kernel
theorem strOk_BP : PyData.strOk "BadProgram" = true := by decide +kernel
theorem strOk_TG : PyData.strOk "TooGreat" = true := by decide +kernel
theorem strOk_BM : PyData.strOk "BadMachine" = true := by decide +kernel
theorem strOk_BT : PyData.strOk "BadText" = true := by decide +kernel
theorem strOk_No : PyData.strOk "Nothing" = true := by decide +kernel
theorem pow_small {b : Nat} (h : b ≤ 1000) : ((2 : Nat) ^ b).log2 < 1001 := by
  rw [Nat.log2_two_pow]
  omega
theorem tabs_put {T : List (Addr × Str)} {H : Hp} {p : Addr} {xs : List V} {o : HO} (t : Tabs T H) (h : H p = some (.lst xs)) : Tabs T (upd H p o) := fun q hq => by
  obtain ⟨ps, h1, h2, h3⟩ := t q hq
  refine ⟨ps, by rw [upd_ne (ne_of h1 h (by intro z; cases z))]; exact h1, h2, fun pos cv hc => ?_⟩
  obtain ⟨c, e1, e2⟩ := h3 pos cv hc
  exact ⟨c, e1, by rw [upd_ne (ne_of e2 h (by intro z; cases z))]; exact e2⟩
/-- a list of one's own, that no one else has -/
structure Own (T : List (Addr × Str)) (K : PySem.W.Frag) (H0 : Hp) (p : Addr) (ds : List PyData) (H : Hp) : Prop where
  st : Stp T H0 H
  ap : ∀ o, H0 p = some o → (∀ ps, o ≠ .tbl ps) → False
  lst : ∃ vs, H p = some (.lst vs) ∧ DpAll K H vs ds
  no : noLs ds = true
theorem Own.new {T : List (Addr × Str)} {K : PySem.W.Frag} {H0 H : Hp} {p : Addr} {ds : List PyData} {vs : List V} (a : Stp T H0 H) (np : H p = none) (h : DpAll K H vs ds) (no : noLs ds = true) : Own T K H0 p ds (upd H p (.lst vs)) :=
  ⟨a.same (same_new np), (fun o h1 h2 => by
    have := a.e _ _ h1 h2
    rw [np] at this
    cases this), ⟨vs, upd_same, same_dps (same_new np) h⟩, no⟩
theorem Own.go {T : List (Addr × Str)} {K : PySem.W.Frag} {H0 H H' : Hp} {p : Addr} {ds : List PyData} (a : Own T K H0 p ds H) (e : ExtN H H') (t : Tabs T H') : Own T K H0 p ds H' := by
  obtain ⟨vs, h1, h2⟩ := a.lst
  exact ⟨a.st.told e t, a.ap, ⟨vs, ext_lst e h1, ext_dps e h2⟩, a.no⟩
theorem Own.same {T : List (Addr × Str)} {K : PySem.W.Frag} {H0 H H' : Hp} {p : Addr} {ds : List PyData} (a : Own T K H0 p ds H) (s : Same H H') : Own T K H0 p ds H' := a.go (ext_same s) (ext_tabs a.st.t s)
theorem Own.put {T : List (Addr × Str)} {K : PySem.W.Frag} {H0 H : Hp} {p : Addr} {ds : List PyData} {d : PyData} {y : V} {vs : List V} (a : Own T K H0 p ds H) (h : H p = some (.lst vs)) (hd : Dp K H y d) (no : noL d = true) : Own T K H0 p (ds ++ [d]) (upd H p (.lst (vs ++ [y]))) := by
  obtain ⟨vs', h1, h2⟩ := a.lst
  rw [h] at h1
  cases h1
  refine ⟨⟨fun b o h1 h3 => ?_, tabs_put a.st.t h⟩, a.ap, ⟨_, upd_same, app_dp h h2 a.no hd no⟩, by rw [noLs_app, a.no, noLs, no]; simp [noLs]⟩
  rw [upd_ne fun e => a.ap o (by rw [← e]; exact h1) h3]
  exact a.st.e _ _ h1 h3
theorem Own.dp {T : List (Addr × Str)} {K : PySem.W.Frag} {H0 H : Hp} {p : Addr} {ds : List PyData} (a : Own T K H0 p ds H) : Dp K H (.ref p) (.list ds) := by
  obtain ⟨vs, h1, h2⟩ := a.lst
  exact .lst (SqL.of h1) h2
theorem Own.len {T : List (Addr × Str)} {K : PySem.W.Frag} {H0 H : Hp} {p : Addr} {ds : List PyData} {vs : List V} (a : Own T K H0 p ds H) (h : H p = some (.lst vs)) : vs.length = ds.length := by
  obtain ⟨vs', h1, h2⟩ := a.lst
  rw [h] at h1
  cases h1
  exact dps_len h2
end Fr
namespace Fr
open PySem PySem.Spec PyProof.Rows L2
theorem erase_map {α β : Type} (f : α → β) : ∀ (l : List α) (k : Nat), (l.map f).eraseIdx k = (l.eraseIdx k).map f
  | [], k => by simp
  | a :: l, 0 => rfl
  | a :: l, k + 1 => by
    show f a :: (l.map f).eraseIdx k = f a :: (l.eraseIdx k).map f
    rw [erase_map f l k]
theorem erase_not {α : Type} : ∀ {l : List α} {k : Nat} {a : α}, l.Nodup → l[k]? = some a → a ∉ l.eraseIdx k
  | [], k, a, _, h => by simp at h
  | b :: l, 0, a, hn, h => by
    have : b = a := Option.some.inj h
    subst this
    exact (List.nodup_cons.mp hn).1
  | b :: l, k + 1, a, hn, h => by
    have hn' := List.nodup_cons.mp hn
    have h' : l[k]? = some a := h
    intro z
    rcases List.mem_cons.mp (show a ∈ b :: l.eraseIdx k from z) with e | e
    · exact hn'.1 (e ▸ List.mem_of_getElem? h')
    · exact erase_not hn'.2 h' e
/-- what is left of the rooms, and what was taken -/
structure Draw (i : Nat) (lv ov : List Nat) : Prop where
  ll : lv.length + i = 12
  lo : ov.length = i
  nl : lv.Nodup
  no : ov.Nodup
  ap : ∀ x ∈ lv, x ∉ ov
  bl : ∀ x ∈ lv, x < 12
  bo : ∀ x ∈ ov, x < 12
theorem Draw.start : Draw 0 (List.range 12) [] := ⟨rfl, rfl, List.nodup_range, List.nodup_nil, (fun x _ z => nomatch z), (fun x h => List.mem_range.mp h), (fun x z => nomatch z)⟩
theorem Draw.next {i k a : Nat} {lv ov : List Nat} (h : Draw i lv ov) (ha : lv[k]? = some a) : Draw (i + 1) (lv.eraseIdx k) (ov ++ [a]) where
  ll := by
    have := (List.getElem?_eq_some_iff.mp ha).1
    have h1 := h.ll
    rw [List.length_eraseIdx, if_pos this]
    omega
  lo := by rw [List.length_append, h.lo]; rfl
  nl := List.Nodup.sublist (List.eraseIdx_sublist _ _) h.nl
  no := by
    rw [List.nodup_append]
    refine ⟨h.no, by simp, fun x hx y hy => ?_⟩
    rw [List.mem_singleton.mp hy]
    intro e
    exact h.ap a (List.mem_of_getElem? ha) (e ▸ hx)
  ap := fun x hx hy => by
    rcases List.mem_append.mp hy with z | z
    · exact h.ap x (List.mem_of_mem_eraseIdx hx) z
    · rw [List.mem_singleton.mp z] at hx
      exact erase_not h.nl ha hx
  bl := fun x hx => h.bl x (List.mem_of_mem_eraseIdx hx)
  bo := fun x hx => by
    rcases List.mem_append.mp hx with z | z
    · exact h.bo x z
    · rw [List.mem_singleton.mp z]
      exact h.bl a (List.mem_of_getElem? ha)
theorem rgV_nats : rgV 0 12 = (List.range 12).map nI := by rfl
theorem seqIx {n i : Nat} (h : i < n) : seqIndex? (i : Int) n = some i := by
  unfold seqIndex?
  simp
  omega
end Fr
namespace Fr
/-! ### orders of the rooms -/
structure IsOrder (o : List Nat) : Prop where
  len : o.length = 12
  nod : o.Nodup
  lt : ∀ x ∈ o, x < 12
theorem IsOrder.all {o : List Nat} (h : IsOrder o) {r : Nat} (hr : r < 12) : r ∈ o := by
  by_cases z : r ∈ o
  · exact z
  · have := len_sub (l := r :: o) (m := List.range 12) (List.nodup_cons.mpr ⟨z, h.nod⟩) fun x hx => by
      rcases List.mem_cons.mp hx with rfl | hx
      · exact List.mem_range.mpr hr
      · exact List.mem_range.mpr (h.lt x hx)
    rw [List.length_cons, h.len, List.length_range] at this
    omega
def oAt (o : List Nat) (i : Nat) : Nat := o.getD i 0
theorem oAt_get {o : List Nat} {i : Nat} (h : i < o.length) : o[i]? = some (oAt o i) := by
  unfold oAt
  rw [List.getD_eq_getElem?_getD, List.getElem?_eq_getElem h]
  rfl
theorem IsOrder.at_lt {o : List Nat} (h : IsOrder o) {i : Nat} (hi : i < 12) : oAt o i < 12 := h.lt _ (List.mem_of_getElem? (oAt_get (by rw [h.len]; exact hi)))
theorem IsOrder.inj {o : List Nat} (h : IsOrder o) {i j : Nat} (hi : i < 12) (hj : j < 12) (e : oAt o i = oAt o j) : i = j := by
  have h1 := oAt_get (o := o) (i := i) (by rw [h.len]; exact hi)
  have h2 := oAt_get (o := o) (i := j) (by rw [h.len]; exact hj)
  rw [← e] at h2
  have e1 := (List.getElem?_eq_some_iff.mp h1).2
  have e2 := (List.getElem?_eq_some_iff.mp h2).2
  have hp := List.pairwise_iff_getElem.mp h.nod
  rcases Nat.lt_trichotomy i j with z | z | z
  · exact absurd (e1.trans e2.symm) (hp i j (by rw [h.len]; exact hi) (by rw [h.len]; exact hj) z)
  · exact z
  · exact absurd (e2.trans e1.symm) (hp j i (by rw [h.len]; exact hj) (by rw [h.len]; exact hi) z)
theorem IsOrder.sur {o : List Nat} (h : IsOrder o) {r : Nat} (hr : r < 12) : ∃ i, i < 12 ∧ oAt o i = r := by
  obtain ⟨i, hi, e⟩ := List.mem_iff_getElem.mp (h.all hr)
  refine ⟨i, by rw [← h.len]; exact hi, ?_⟩
  have := oAt_get hi
  rw [List.getElem?_eq_getElem hi, e] at this
  exact (Option.some.inj this).symm
/-- rooms moved, as far as k -/
def movT (o as : List Nat) : Nat → List Nat
  | 0 => List.replicate 12 0
  | k + 1 => (movT o as k).set (oAt o k) (as.getD k 0)
theorem movT_len (o as : List Nat) : ∀ k, (movT o as k).length = 12
  | 0 => by simp [movT]
  | k + 1 => by show ((movT o as k).set _ _).length = 12; rw [List.length_set]; exact movT_len o as k
theorem movT_at {o as : List Nat} (h : IsOrder o) : ∀ k, k ≤ 12 → ∀ i, i < 12 → (movT o as k)[oAt o i]? = some (if i < k then as.getD i 0 else 0) := by
  intro k
  induction k with
  | zero =>
    intro _ i hi
    show (List.replicate 12 0)[oAt o i]? = _
    rw [List.getElem?_replicate, if_pos (h.at_lt hi), if_neg (by omega)]
  | succ k ih =>
    intro hk i hi
    show ((movT o as k).set (oAt o k) (as.getD k 0))[oAt o i]? = _
    by_cases e : i = k
    · subst e
      rw [List.getElem?_set_self (by rw [movT_len]; exact h.at_lt hi), if_pos (by omega)]
    · rw [List.getElem?_set_ne (fun z => e (h.inj hi (by omega) z.symm)), ih (by omega) i hi]
      by_cases z : i < k
      · rw [if_pos z, if_pos (by omega)]
      · rw [if_neg z, if_neg (by omega)]
theorem sum_put : ∀ {as : List Nat} {i v : Nat}, as[i]? = some 0 → (as.set i v).sum = as.sum + v
  | [], i, v, h => by simp at h
  | a :: as, 0, v, h => by
    have : a = 0 := by simpa using h
    subst this
    show v + as.sum = 0 + as.sum + v
    omega
  | a :: as, i + 1, v, h => by
    show a + (as.set i v).sum = a + as.sum + v
    rw [sum_put (i := i) (by simpa using h)]
    omega
theorem movT_sum {o as : List Nat} (h : IsOrder o) (hl : as.length = 12) : ∀ k, k ≤ 12 → (movT o as k).sum = (as.take k).sum := by
  intro k
  induction k with
  | zero => intro _; show (List.replicate 12 0).sum = _; simp
  | succ k ih =>
    intro hk
    have h1 := movT_at (as := as) h k (by omega) k (by omega)
    rw [if_neg (by omega)] at h1
    show ((movT o as k).set (oAt o k) (as.getD k 0)).sum = _
    rw [sum_put h1, ih (by omega)]
    have h2 : as[k]? = some (as.getD k 0) := by rw [List.getD_eq_getElem?_getD, List.getElem?_eq_getElem (by omega)]; rfl
    rw [take_at h2, List.sum_append]
    simp
def mov (o as : List Nat) : List Nat := movT o as 12
/-- the number with its rooms moved -/
@[irreducible] def mapN (o : List Nat) (n : Nat) : Nat := make (mov o (rooms n))
theorem mapN_def (o : List Nat) (n : Nat) : mapN o n = make (mov o (rooms n)) := by unfold mapN; rfl
theorem mov_len (o as : List Nat) : (mov o as).length = 12 := movT_len o as 12
theorem map_pos (o : List Nat) (n : Nat) : 0 < mapN o n := by rw [mapN_def]; exact make_pos' _
theorem map_left (o : List Nat) (n : Nat) : left (mapN o n) = 1 := by rw [mapN_def]; exact left_make (mov_len _ _)
theorem map_rooms (o : List Nat) (n : Nat) : rooms (mapN o n) = mov o (rooms n) := by rw [mapN_def]; exact rooms_make (mov_len _ _)
theorem map_rm {o : List Nat} (h : IsOrder o) (n : Nat) {i : Nat} (hi : i < 12) : rm (mapN o n) (oAt o i) = rm n i := by
  unfold rm
  rw [map_rooms]
  have := movT_at (as := rooms n) h 12 (Nat.le_refl _) i hi
  rw [if_pos hi] at this
  rw [List.getD_eq_getElem?_getD, show (mov o (rooms n))[oAt o i]? = _ from this]
  rfl
theorem all_map {o : List Nat} (h : IsOrder o) {P : Nat → Prop} : (∀ r, r < 12 → P r) ↔ ∀ i, i < 12 → P (oAt o i) :=
  ⟨fun z i hi => z _ (h.at_lt hi), fun z r hr => by
    obtain ⟨i, hi, rfl⟩ := h.sur hr
    exact z i hi⟩
theorem ex_map {o : List Nat} (h : IsOrder o) {P : Nat → Prop} : (∃ r, r < 12 ∧ P r) ↔ ∃ i, i < 12 ∧ P (oAt o i) :=
  ⟨fun ⟨r, hr, z⟩ => by
    obtain ⟨i, hi, rfl⟩ := h.sur hr
    exact ⟨i, hi, z⟩, fun ⟨i, hi, z⟩ => ⟨_, h.at_lt hi, z⟩⟩
def Gd (n : Nat) : Prop := 0 < n ∧ left n = 1
theorem Gd.of {n : Nat} (h : isNum n = true) : Gd n := ⟨(isNum_iff.mp h).1, (isNum_iff.mp h).2.1⟩
theorem map_gd (o : List Nat) (n : Nat) : Gd (mapN o n) := ⟨map_pos o n, map_left o n⟩
theorem map_dvd {o : List Nat} (h : IsOrder o) {n u : Nat} (hn : Gd n) (hu : Gd u) : mapN o n % mapN o u = 0 ↔ n % u = 0 := by
  rw [dvd_rm (map_pos o u) (map_pos o n) (map_left o u) (map_left o n), dvd_rm hu.1 hn.1 hu.2 hn.2, all_map h]
  refine forall_congr' fun i => forall_congr' fun hi => ?_
  rw [map_rm h n hi, map_rm h u hi]
theorem map_mul {o : List Nat} (h : IsOrder o) {a b : Nat} (ha : 0 < a) (hb : 0 < b) : mapN o (a * b) = mapN o a * mapN o b := by
  refine num_ext (map_pos _ _) (Nat.mul_pos (map_pos _ _) (map_pos _ _)) (map_left _ _) (by rw [left_mul (map_pos _ _) (map_pos _ _), map_left, map_left]) ?_
  rw [all_map h]
  intro i hi
  rw [rm_mul (map_pos _ _) (map_pos _ _), map_rm h _ hi, map_rm h _ hi, map_rm h _ hi, rm_mul ha hb]
theorem map_div {o : List Nat} (h : IsOrder o) {n u : Nat} (hn : 0 < n) (hu : 0 < u) (hd : n % u = 0) : mapN o (n / u) = mapN o n / mapN o u := by
  have hq : 0 < n / u := Nat.div_pos (Nat.le_of_dvd hn (Nat.dvd_of_mod_eq_zero hd)) hu
  have e := map_mul h hq hu
  rw [Nat.div_mul_cancel (Nat.dvd_of_mod_eq_zero hd)] at e
  rw [e, Nat.mul_div_cancel _ (map_pos _ _)]
theorem map_one {o : List Nat} (h : IsOrder o) : mapN o 1 = 1 := by
  refine num_ext (map_pos _ _) (by decide) (map_left _ _) left_1 ?_
  rw [all_map h]
  intro i hi
  rw [map_rm h _ hi, rm_one, rm_one]
theorem map_pow {o : List Nat} (h : IsOrder o) {a : Nat} (ha : 0 < a) : ∀ t, mapN o (a ^ t) = mapN o a ^ t
  | 0 => by rw [Nat.pow_zero, Nat.pow_zero]; exact map_one h
  | t + 1 => by rw [Nat.pow_succ, Nat.pow_succ, map_mul h (Nat.pow_pos ha) ha, map_pow h ha t]
theorem map_great {o : List Nat} (h : IsOrder o) (n : Nat) : 400 < maxN (rooms (mapN o n)) ↔ 400 < maxN (rooms n) := by
  rw [maxN_rm, maxN_rm, ex_map h]
  refine exists_congr fun i => and_congr_right fun hi => ?_
  rw [map_rm h n hi]
theorem map_num {o : List Nat} (h : IsOrder o) {n : Nat} (hn : isNum n = true) : isNum (mapN o n) = true := by
  refine isNum_iff.mpr ⟨map_pos _ _, map_left _ _, maxN_bd (Nat.le_of_not_lt fun z => ?_)⟩
  have := (map_great h n).mp z
  have h2 := (isNum_iff.mp hn).2.2 _ (maxN_mem (rooms_ne n))
  omega
theorem map_some {o : List Nat} (h : IsOrder o) {k b n : Nat} (hn : SomeN k b n) : SomeN 12 b (mapN o n) := by
  obtain ⟨as, h1, rfl, h2, _⟩ := hn
  refine ⟨mov o (rooms (make as)), mov_len _ _, mapN_def _ _, ?_, fun j hj hj2 => by omega⟩
  unfold mov
  rw [movT_sum h (rooms_len _) 12 (Nat.le_refl _), rooms_make h1, List.take_of_length_le (by omega)]
  exact h2
end Fr
namespace Fr
/-! ### programs -/
def mapF (o : List Nat) (p : Nat × Nat) : Nat × Nat := (mapN o p.1, mapN o p.2)
def mapP (o : List Nat) (l : Prog) : Prog := l.map (mapF o)
theorem gcd_rm {a b : Nat} (ha : Gd a) (hb : Gd b) (h : ∀ r, r < 12 → rm a r = 0 ∨ rm b r = 0) : Nat.gcd a b = 1 := by
  have ea := make_rooms1 ha.1 ha.2
  have eb := make_rooms1 hb.1 hb.2
  rw [← ea, ← eb]
  refine make_cop fun i => ?_
  rcases Nat.lt_or_ge i 12 with z | z
  · have e1 : ∀ n, (rooms n)[i]? = some (rm n i) := fun n => by
      unfold rm
      rw [List.getD_eq_getElem?_getD, List.getElem?_eq_getElem (by rw [rooms_len]; exact z)]
      rfl
    rw [e1, e1]
    rcases h i z with y | y
    · exact .inl (by rw [y])
    · exact .inr (.inl (by rw [y]))
  · exact .inr (.inr z)
theorem map_frac {o : List Nat} (h : IsOrder o) {k : Nat} {p : Nat × Nat} (hp : FracN k p) : FracN 12 (mapF o p) := by
  refine ⟨map_some h hp.1, map_some h hp.2.1, gcd_rm (map_gd _ _) (map_gd _ _) ?_⟩
  have F := frac1 (l := [p]) (i := 0) (isProg_iff.mpr ⟨by simp, fun q hq => by rw [List.mem_singleton.mp hq]; exact hp.frac⟩) (by simp)
  rw [all_map h]
  intro i hi
  show rm (mapN o p.1) _ = 0 ∨ rm (mapN o p.2) _ = 0
  rw [map_rm h _ hi, map_rm h _ hi]
  exact (F.cop i hi).symm
/-- a program whose numbers are right -/
def GdP (l : Prog) : Prop := ∀ p ∈ l, Gd p.1 ∧ Gd p.2
theorem GdP.of {l : Prog} (h : isProg l = true) : GdP l := fun p hp => by
  have := isFrac_iff.mp ((isProg_iff.mp h).2 p hp)
  exact ⟨Gd.of this.1, Gd.of this.2.1⟩
theorem first_map {o : List Nat} (h : IsOrder o) {n : Nat} (hn : Gd n) : ∀ {l : Prog}, GdP l → firstAt (mapP o l) (mapN o n) = firstAt l n := by
  intro l
  unfold firstAt mapP
  rw [List.findIdx?_map]
  induction l with
  | nil => intro _; rfl
  | cons p l ih =>
    intro hl
    rw [List.findIdx?_cons, List.findIdx?_cons, ih fun q hq => hl q (List.mem_cons_of_mem _ hq)]
    have e : (Function.comp (fun p : Nat × Nat => decide (mapN o n % p.2 = 0)) (mapF o)) p = decide (n % p.2 = 0) := by
      show decide (mapN o n % mapN o p.2 = 0) = _
      rw [Bool.eq_iff_iff, decide_eq_true_iff, decide_eq_true_iff]
      exact map_dvd h hn (hl p List.mem_cons_self).2
    rw [e]
theorem mapP_len (o : List Nat) (l : Prog) : (mapP o l).length = l.length := List.length_map _
theorem map_un (o : List Nat) {l : Prog} {i : Nat} (hi : i < l.length) : unAt (mapP o l) i = mapN o (unAt l i) := by
  unfold unAt mapP
  rw [List.getD_eq_getElem?_getD, List.getD_eq_getElem?_getD, List.getElem?_map, List.getElem?_eq_getElem hi]
  rfl
theorem map_up (o : List Nat) {l : Prog} {i : Nat} (hi : i < l.length) : upAt (mapP o l) i = mapN o (upAt l i) := by
  unfold upAt mapP
  rw [List.getD_eq_getElem?_getD, List.getD_eq_getElem?_getD, List.getElem?_map, List.getElem?_eq_getElem hi]
  rfl
theorem led_map {o : List Nat} (h : IsOrder o) {n : Nat} (hn : Gd n) {l : Prog} (hl : GdP l) : led (mapP o l) (mapN o n) = (led l n).map (mapN o) := by
  unfold led
  rw [first_map h hn hl]
  cases e : firstAt l n with
  | none => rfl
  | some i =>
    obtain ⟨hi, h0, _⟩ := firstAt_is e
    have hg := hl _ (List.getElem_mem hi)
    show some (mapN o n / unAt (mapP o l) i * upAt (mapP o l) i) = some (mapN o (n / unAt l i * upAt l i))
    rw [map_un o hi, map_up o hi, unAt_eq hi, upAt_eq hi]
    have hq : 0 < n / (l[i]).2 := Nat.div_pos (Nat.le_of_dvd hn.1 (Nat.dvd_of_mod_eq_zero h0)) hg.2.1
    rw [map_mul h hq hg.1.1, map_div h hn.1 hg.2.1 h0]
theorem Gd.led {l : Prog} {n x : Nat} (hP : isProg l = true) (hn : Gd n) (h : led l n = some x) : Gd x := led_left hP hn.1 hn.2 h
theorem run_map {o : List Nat} (h : IsOrder o) {l : Prog} (hP : isProg l = true) : ∀ (m n : Nat), Gd n → runF (mapP o l) m (mapN o n) = (runF l m n).map (·.map (mapN o)) := by
  intro m
  induction m with
  | zero => intro n _; rfl
  | succ m ih =>
    intro n hn
    unfold runF
    rw [led_map h hn (GdP.of hP)]
    cases e : led l n with
    | none => rfl
    | some x =>
      dsimp only [Option.map_some]
      by_cases z : 400 < maxN (rooms x)
      · rw [if_pos z, if_pos ((map_great h x).mpr z)]
        rfl
      · rw [if_neg z, if_neg fun y => z ((map_great h x).mp y), ih x (Gd.led hP hn e)]
        cases runF l m x with
        | none => rfl
        | some r => rfl
theorem idle_map {o : List Nat} (h : IsOrder o) {l : Prog} (hP : isProg l = true) : idleOf (mapP o l) = idleOf l := by
  unfold idleOf
  rw [mapP_len]
  refine List.filter_congr fun i hi => ?_
  have hi := List.mem_range.mp hi
  unfold isIdle
  rw [map_un o hi, first_map h ?_ (GdP.of hP)]
  rw [unAt_eq hi]
  exact (GdP.of hP _ (List.getElem_mem hi)).2
theorem lean_map {o : List Nat} (h : IsOrder o) {l : Prog} (hP : isProg l = true) : leanOf (mapP o l) = mapP o (leanOf l) := by
  unfold leanOf
  rw [idle_map h hP]
  show ((l.map (mapF o)).zipIdx.filterMap _) = ((l.zipIdx.filterMap _).map (mapF o))
  rw [List.zipIdx_map, List.filterMap_map, List.map_filterMap]
  congr 1
  funext p
  show (if p.2 ∈ idleOf l then none else some (mapF o p.1)) = (if p.2 ∈ idleOf l then none else some p.1).map (mapF o)
  split <;> rfl
end Fr
namespace Fr
open PySem PySem.Spec PyProof.Rows L2
/-! ### rings -/
/-- what ring tells: some none, some pair, or none: too great -/
def ringF (l : Prog) : Nat → List Nat → Nat → Option (Option (Nat × Nat))
  | 0, seen, x => match seen.idxOf? x with
    | some a => some (some (a, seen.length))
    | none => some none
  | k + 1, seen, x => match seen.idxOf? x with
    | some a => some (some (a, seen.length))
    | none => match led l x with
      | none => some none
      | some y => if 400 < maxN (rooms y) then none else ringF l k (seen ++ [x]) y
abbrev kI (x : Nat) : L2.Key := Sum.inl (x : Int)
/-- the dict of what was seen -/
def seenK (seen : List Nat) : List (L2.Key × V) := seen.zipIdx.map fun p => (kI p.1, nI p.2)
theorem seen_val (seen : List Nat) (x : Nat) : valV (seenK seen) (kI x) = (seen.idxOf? x).map nI := by
  unfold seenK
  have key : ∀ (l : List Nat) (j : Nat), valV ((l.zipIdx j).map fun p => (kI p.1, nI p.2)) (kI x) = (l.idxOf? x).map fun a => nI (j + a) := by
    intro l
    induction l with
    | nil => intro j; rfl
    | cons y l ih =>
      intro j
      rw [List.zipIdx_cons, List.map_cons]
      by_cases e : y = x
      · subst e
        unfold valV
        rw [List.find?_cons_of_pos (by simp), List.idxOf?_cons]
        simp
      · have hne : ¬ kI y = kI x := fun z => e (by
          have := Sum.inl.inj z
          omega)
        have ih' := ih (j + 1)
        unfold valV at ih' ⊢
        rw [List.find?_cons_of_neg (by simpa using hne), ih', List.idxOf?_cons]
        rw [if_neg (by simpa using e)]
        cases l.idxOf? x with
        | none => rfl
        | some a =>
          show some (nI (j + 1 + a)) = some (nI (j + (a + 1)))
          congr 2
          omega
  have := key seen 0
  rw [this]
  cases seen.idxOf? x with
  | none => rfl
  | some a =>
    show some (nI (0 + a)) = some (nI a)
    rw [Nat.zero_add]
theorem seen_put (seen : List Nat) (x : Nat) (h : seen.idxOf? x = none) : putK (seenK seen) (kI x) (nI seen.length) = seenK (seen ++ [x]) := by
  have hno : (seenK seen).any (fun kv => decide (kv.1 = kI x)) = false := by
    rw [List.any_eq_false]
    intro kv hkv
    obtain ⟨p, hp, rfl⟩ := List.mem_map.mp hkv
    have hx : x ∉ seen := List.idxOf?_eq_none_iff.mp h
    have hpm : p.1 ∈ seen := by
      have := List.mem_map_of_mem (f := Prod.fst) hp
      rwa [List.zipIdx_map_fst] at this
    intro z
    have := of_decide_eq_true z
    have := Sum.inl.inj this
    exact hx (by
      have e : p.1 = x := by omega
      rw [← e]
      exact hpm)
  unfold putK
  rw [if_neg (by rw [hno]; decide)]
  unfold seenK
  rw [List.zipIdx_append, List.map_append]
  simp
theorem seenK_len (seen : List Nat) : (seenK seen).length = seen.length := by unfold seenK; simp
def pairO' : Option (Nat × Nat) → PyData
  | none => .none
  | some p => .tuple [nD p.1, nD p.2]
section
variable {P : Program} {w : World} {K : PySem.W.Frag} {mg : Str → Option Value} {base : Heap}
def spRing (K : PySem.W.Frag) : Sp := fun vs H Q E => ∃ (v u c : V) (d e g : PyData), vs = [v, u, c] ∧ Dp K H v d ∧ Dp K H u e ∧ Dp K H c g ∧
  (isProgD d = false → ∀ H', Same H H' → E (.ref (ga K "BadProgram")) none H') ∧ (isProgD d = true → isNumD e = false → ∀ H', Same H H' → E (.ref (ga K "BadNumber")) none H') ∧
  (isProgD d = true → isNumD e = true → isCountD 0 500 g = false → ∀ H', Same H H' → E (.ref (ga K "BadNumber")) none H') ∧
  (∀ (l : Prog) (n m : Nat), d = progD l → e = nD n → g = nD m → isProg l = true → isNum n = true → m ≤ 500 →
    (∀ r, ringF l m [] n = some r → ∀ x H', Same H H' → Dp K H' x (pairO' r) → Q x H') ∧ (ringF l m [] n = none → ∀ H', Same H H' → E (.ref (ga K "TooGreat")) none H'))
theorem ok_ring (T : Txt K mg) : Cal P w K mg base (L2N.CX P w) 7 "ring" ["program", "number", "most"] (spRing K) := by
  have c_look := ok_look (P := P) (w := w) (base := base) T
  have c_need_count := ok_need_count (P := P) (w := w) (base := base) T
  have c_led := ok_led (P := P) (w := w) (base := base) T
  have c_need_room := ok_need_room (P := P) (w := w) (base := base) T
  refine Cal.mkX T.d_ring T.m_ring sc_ring (fun _ _ _ _ _ _ us hl => match us, hl with | [_, _, _], _ => rfl) (fun vs H Q E h => ?_) (fun cdv A outer s H vs Q E hr h => ?_)
  · obtain ⟨v, u, c, d, e, g, rfl, _⟩ := h
    rfl
  obtain ⟨v, u, c, d, e, g, rfl, hd, he, hg, q1, q2, q3, q4⟩ := h
  refine ⟨_, (pss_cons (ps_expr (pe_cal c_look (hr.mono (by decide)) (by rfl) (L2N.passes_call (L2N.takes_of rfl rfl rfl rfl) (fun _ _ _ _ h => h)) (pa_cons (pv 0) (pa_cons (pv 1) pa_nil))))
      (pss_cons (ps_expr (pe_cal c_need_count (hr.mono (by decide)) (by rfl) (L2N.passes_call (L2N.takes_of rfl rfl rfl rfl) (fun _ _ _ _ h => h)) (pa_cons (pv 2) (pa_cons pe_int (pa_cons (pe_glob (v := .int 500) (by rfl) T.c_MOST_LOOKED.choose_spec ⟨_, rfl⟩) pa_nil)))))
      (pss_cons (ps_par (i := 3) (j := 4) (by rfl) sc_ring.nd rfl rfl (by decide) rfl rfl (pa_cons pe_dnewK (pa_cons (pv 1) pa_nil)) (by rfl))
      (pss_cons (ps_for (passes_of rfl) rfl (pi_range1 (by rfl) T.b_range (pa_cons (pe_op opN_add (pv 2) pe_int) pa_nil)) (pg_name (i := 5) sc_ring.nd rfl (.inl rfl)) (pss_cons (ps_if (pt_cmp (pc_din (hu_of hr) (pv 4) (pv 3))) (pss_one (ps_ret (pe_tup (pa_cons (pe_dget (hu_of hr) (pv 3) (pv 4) (fun _ _ => rfl)) (pa_cons (pv 5) pa_nil))))) pss_nil)
      (pss_cons (ps_dput (hu_of hr) (pv 3) (pv 4) (pv 5) rfl)
      (pss_cons (ps_set (i := 6) sc_ring.nd rfl (.inl rfl) (pe_cal c_led (hr.mono (by decide)) (by rfl) pass0 (pa_cons (pv 0) (pa_cons (pv 4) pa_nil))))
      (pss_cons (ps_if (pt_cmpR op_isN (pv 6) pe_non (nomark _)) (pss_one (ps_ret pe_non)) pss_nil)
      (pss_cons (ps_if (pt_cmpR opN_lt (pv 5) (pv 2) (nomark _)) (pss_one (ps_expr (pe_cal c_need_room (hr.mono (by decide)) (by rfl) (L2N.passes_call (L2N.takes_of rfl rfl rfl rfl) (fun _ _ _ _ h => h)) (pa_cons (pv 6) pa_nil)))) pss_nil)
      (pss_one (ps_set (i := 4) sc_ring.nd rfl (.inl rfl) (pv 6)))))))))
      (pss_one (ps_ret pe_non)))))), ?_⟩
  refine ⟨_, rfl, _, rfl, v, u, d, e, rfl, hd, he, fun hp hn H1 s1 => ?_, q1, q2⟩
  refine ⟨_, rfl, c, g, 0, 500, rfl, same_dp s1 hg, fun hc => ?_, fun hc => q3 hp hn hc H1 s1⟩
  obtain ⟨l, rfl, hP⟩ := isProgD_is hp
  obtain ⟨n, rfl, hN⟩ := isNumD_is hn
  obtain ⟨m, rfl, hm⟩ := isCount_is (hi := 500) hc
  cases he
  cases hg
  obtain ⟨q5, q6⟩ := q4 l n m rfl rfl rfl hP hN hm
  intro o no
  refine ⟨_, rfl, _, _, rfl, ?_⟩
  have hoH : H o = none := s1.free no
  refine ⟨_, rfl, m, 1, rfl, rfl, ((m + 1 : Nat) : Int), rfl, by omega, by omega, ?_⟩
  rw [Int.toNat_natCast]
  refine for_it walk_nats (fun i σ H4 => ∃ (seen : List Nat) (z j : Nat) (y5 y6 : Option V), σ = [some v, some (nI n), some (nI m), some (.ref o), some (nI z), y5, y6] ∧ Same H H4 ∧ H4 o = some (.dK (seenK seen)) ∧ seen.length = i ∧ 0 < z ∧ left z = 1 ∧ z < 2 ^ 30000 ∧ ((i + j = m ∧ isNum z = true ∧ ringF l m [] n = ringF l j seen z) ∨ (i = m + 1 ∧ ringF l m [] n = some none))) ⟨[], n, m, none, none, rfl, s1.trans (same_new no), upd_same, rfl, isNum_pos hN, (isNum_iff.mp hN).2.1, num_lt hN, .inl ⟨by omega, hN, rfl⟩⟩ (fun _ _ _ _ _ => trivial) ?_ ?_
  · rintro i x σ H4 H4' hi ⟨seen, z, j, y5, y6, rfl, s4, ho, hsl, hz0, hzl, hzb, hz⟩ ⟨rfl, rfl⟩
    obtain ⟨hij, hzn, hrun⟩ : i + j = m ∧ isNum z = true ∧ ringF l m [] n = ringF l j seen z := by
      rcases hz with h | h
      · exact h
      · omega
    refine ⟨_, rfl, _, rfl, o, _, rfl, DGet.k (k := kI z) ho, _, rfl, ?_⟩
    rw [seen_val]
    cases hix : seen.idxOf? z with
    | some a =>
      have er : ringF l j seen z = some (some (a, seen.length)) := by
        cases j <;> (unfold ringF; rw [hix])
      rw [hrun, er] at q5
      refine iteT ⟨_, rfl, _, rfl, o, nI a, rfl, ?_, _, rfl, (by show 2 ≤ sizeLine; decide), fun p np => ?_⟩
      · have := DGet.k (k := kI z) ho
        rw [seen_val, hix] at this
        exact this
      · have e2 : some (a, seen.length) = some (a, i) := by rw [hsl]
        rw [e2] at q5
        exact q5 _ rfl _ _ (s4.trans (same_new np)) (.tup (SqT.of upd_same) (.cons (.int _) (.cons (.int _) .nil)))
    | none =>
      have hpl : (seenK seen).length < sizeLine := by rw [seenK_len, hsl]; exact Nat.lt_of_lt_of_le (show i < 3000 by omega) (by decide)
      refine iteF ⟨_, rfl, _, rfl, _, rfl, o, _, rfl, DPut.k (k := kI z) ho hpl, ?_⟩
      have ep := seen_put seen z hix
      rw [hsl] at ep
      rw [ep]
      have s5 : Same H (upd H4' o (.dK (seenK (seen ++ [z])))) := same_put s4 hoH
      have ho5 : (upd H4' o (.dK (seenK (seen ++ [z])))) o = some (.dK (seenK (seen ++ [z]))) := upd_same
      generalize upd H4' o (.dK (seenK (seen ++ [z]))) = H5 at *
      refine ⟨_, rfl, _, rfl, v, l, z, rfl, same_dp s5 hd, hP, hzb, fun H6 s6 => ?_⟩
      cases hl : led l z with
      | none =>
        have er : ringF l j seen z = some none := by
          cases j with
          | zero => unfold ringF; rw [hix]
          | succ j => unfold ringF; rw [hix]; dsimp only; rw [hl]
        rw [hrun, er] at q5
        exact ⟨_, rfl, rfl, _, rfl, iteT (q5 none rfl _ _ (s5.trans s6) .non)⟩
      | some y =>
        obtain ⟨hy0, hyl⟩ := led_left hP hz0 hzl hl
        have hyb : y < 2 ^ 30000 := by
          have h1 := led_le hP hl
          have h2 := isNum_lt hzn
          have h3 : y < 2 ^ 28801 * 2 ^ 20 := Nat.lt_of_le_of_lt h1 (Nat.mul_lt_mul'' h2 (by decide))
          rw [← Nat.pow_add] at h3
          exact Nat.lt_of_lt_of_le h3 (Nat.pow_le_pow_right (by decide) (by decide))
        refine ⟨_, rfl, rfl, _, rfl, iteF ⟨_, rfl, _, rfl, i, m, rfl, rfl, _, rfl, ite2 (fun hlt => ?_) (fun hlt => ?_)⟩⟩
        · have hlt := of_decide_eq_true hlt
          obtain ⟨j, rfl⟩ : ∃ j', j = j' + 1 := ⟨j - 1, by omega⟩
          have er : ringF l (j + 1) seen z = if 400 < maxN (rooms y) then none else ringF l j (seen ++ [z]) y := by
            conv => lhs; unfold ringF
            rw [hix]
            dsimp only
            rw [hl]
          refine ⟨_, rfl, y, rfl, hy0, (fun hle H7 s7 => ?_), fun hgt H7 s7 => q6 (by rw [hrun, er, if_pos hgt]) H7 ((s5.trans s6).trans s7)⟩
          refine ⟨_, rfl, seen ++ [z], y, j, _, _, rfl, (s5.trans s6).trans s7, (s6.trans s7) _ _ ho5, by simp [hsl], hy0, hyl, hyb, .inl ⟨by omega, led_num hP hzn hl (by omega), by rw [hrun, er, if_neg (by omega)]⟩⟩
        · have hlt : ¬ i < m := fun z => hlt (decide_eq_true z)
          obtain rfl : j = 0 := by omega
          have er : ringF l 0 seen z = some none := by unfold ringF; rw [hix]
          refine ⟨_, rfl, seen ++ [z], y, 0, _, _, rfl, s5.trans s6, s6 _ _ ho5, by simp [hsl], hy0, hyl, hyb, .inr ⟨by omega, by rw [hrun, er]⟩⟩
  · rintro σ H4 ⟨seen, z, j, y5, y6, rfl, s4, ho, hsl, hz0, hzl, hzb, hz⟩
    obtain hrun : ringF l m [] n = some none := by
      rcases hz with h | h
      · omega
      · exact h.2
    exact q5 none hrun _ _ s4 .non
end
end Fr
namespace Fr
open PySem PySem.Spec PyProof.Rows L2
/-! ### orders -/
def isOrderD : PyData → Bool
  | .tuple ds => decide (ds.length = 12) && (ds.all (isCountD 0 11) && decide ((ds.map natO).Nodup))
  | _ => false
theorem counts_of {b : Nat} : ∀ {ds : List PyData}, ds.all (isCountD 0 b) = true → ∃ as : List Nat, ds = as.map nD ∧ ∀ a ∈ as, a ≤ b := by
  intro ds
  induction ds with
  | nil => intro _; exact ⟨[], rfl, fun a h => nomatch h⟩
  | cons d ds ih =>
    intro h
    rw [List.all_cons, Bool.and_eq_true] at h
    obtain ⟨as, rfl, hb⟩ := ih h.2
    obtain ⟨a, rfl, ha⟩ := isCount_is h.1
    exact ⟨a :: as, rfl, fun x hx => by
      rcases List.mem_cons.mp hx with rfl | hx
      · exact ha
      · exact hb x hx⟩
theorem natO_map (as : List Nat) : (as.map nD).map natO = as := by
  rw [List.map_map]
  have : (natO ∘ nD) = id := by
    funext a
    show (a : Int).toNat = a
    exact Int.toNat_natCast a
  rw [this, List.map_id]
theorem isOrder_is {d : PyData} (h : isOrderD d = true) : ∃ o : List Nat, d = .tuple (o.map nD) ∧ IsOrder o := by
  cases d with
  | tuple ds =>
    have h : (decide (ds.length = 12) && (ds.all (isCountD 0 11) && decide ((ds.map natO).Nodup))) = true := h
    rw [Bool.and_eq_true, Bool.and_eq_true] at h
    obtain ⟨h1, h2, h3⟩ := h
    obtain ⟨o, rfl, hb⟩ := counts_of (b := 11) h2
    rw [natO_map] at h3
    refine ⟨o, rfl, by simpa using of_decide_eq_true h1, of_decide_eq_true h3, fun x hx => ?_⟩
    have := hb x hx
    omega
  | _ => cases h
theorem order_is {o : List Nat} (h : IsOrder o) : isOrderD (.tuple (o.map nD)) = true := by
  show (decide ((o.map nD).length = 12) && ((o.map nD).all (isCountD 0 11) && decide (((o.map nD).map natO).Nodup))) = true
  rw [List.length_map, decide_eq_true h.len, Bool.true_and, natO_map, decide_eq_true h.nod, Bool.and_true, List.all_map, List.all_eq_true]
  intro x hx
  have := h.lt x hx
  exact count_yes (b := 11) (by omega)
section
variable {P : Program} {w : World} {K : PySem.W.Frag} {mg : Str → Option Value} {base : Heap}
theorem ok_need_order (T : Txt K mg) : Cal P w K mg base (L2N.CX P w) 2 "need_order" ["order"] (spNeed K (ga K "BadNumber") isOrderD) := by
  have c_is_count := ok_is_count (P := P) (w := w) (base := base) T
  refine Cal.mkX T.d_need_order T.m_need_order sc_need_order (fun _ _ _ _ _ _ us hl => match us, hl with | [_], _ => rfl) (fun vs H Q E h => ?_) (fun cdv A outer s H vs Q E hr h => ?_)
  · obtain ⟨v, d, rfl, _⟩ := h
    rfl
  obtain ⟨v, d, rfl, hd, q1, q2⟩ := h
  refine ⟨_, (pss_cons (ps_if (PW.pt (pw_or (pt_not (pt_val (pe_callB (isTuple rfl) (by rfl) T.b_isinstance boot_isinstance (pa_cons (pv 0) (pa_cons (pe_bltn (v := .ty "tuple") (by rfl) T.b_tuple boot_tuple rfl) pa_nil))))) (pw_or1 (pt_cmpR opN_ne (pe_callB (lenS rfl) (by rfl) T.b_len PySem.boot_len (pa_cons (pv 0) pa_nil)) (pe_callB (lenS rfl) (by rfl) T.b_len PySem.boot_len (pa_cons (pe_glob (v := .ref (ga K "PRIMES")) (by rfl) T.m_PRIMES rfl) pa_nil)) (nomark _))))) (pss_one (L2N.ps_raise rfl (L2N.takes_of rfl rfl rfl rfl) (L2N.pmk_own PySem.F.excBase_ValueError T.x_BadNumber.1 T.m_BadNumber T.x_BadNumber.2.1 (raises_own T.x_BadNumber.2.2.1 T.x_BadNumber.2.2.2) (by rfl)))) pss_nil)
      (pss_one (ps_if (PW.pt (pw_or (pt_not (pt_val (pe_callB (crAll rfl rfl) (by rfl) T.b_all boot_all (pa_cons (pe_lc (own := [("one", 1)]) rfl sc_need_order.nd (piT rfl (pv 0)) (blkOk_by (own := [("one", 1)]) (N := ["order", "one"]) (sc := defScope s_need_order) (by decide +kernel)) (fun _ _ _ _ _ => (pg_name (i := 1) sc_need_order.nd rfl (.inl rfl))) (fun _ _ _ _ _ => pts_nil) (fun _ _ _ _ _ => (pe_cal c_is_count (hr.mono (by decide)) (by rfl) pass0 (pa_cons (pv 1) (pa_cons pe_int (pa_cons (pe_op opN_sub (pe_callB (lenS rfl) (by rfl) T.b_len PySem.boot_len (pa_cons (pe_glob (v := .ref (ga K "PRIMES")) (by rfl) T.m_PRIMES rfl) pa_nil)) pe_int) pa_nil)))))) pa_nil)))) (pw_or1 (pt_cmpR opN_ne (pe_lenSetT rfl (by rfl) T.b_len (by rfl) T.b_set (pv 0)) (pe_callB (lenS rfl) (by rfl) T.b_len PySem.boot_len (pa_cons (pv 0) pa_nil)) (nomark _))))) (pss_one (L2N.ps_raise rfl (L2N.takes_of rfl rfl rfl rfl) (L2N.pmk_own PySem.F.excBase_ValueError T.x_BadNumber.1 T.m_BadNumber T.x_BadNumber.2.1 (raises_own T.x_BadNumber.2.2.1 T.x_BadNumber.2.2.2) (by rfl)))) pss_nil))), ?_⟩
  refine ⟨_, rfl, _, _, rfl, hd, _, rfl, ?_⟩
  have q20 : isOrderD d = false → E (.ref (ga K "BadNumber")) none H := fun z => q2 z H (Same.refl H)
  cases d with
  | tuple ds =>
    obtain ⟨a, xs, rfl, hs, ha⟩ := dp_tup hd
    have hlen := dps_len ha
    have e0 : isOrderD (.tuple ds) = (decide (ds.length = 12) && (ds.all (isCountD 0 11) && decide ((ds.map natO).Nodup))) := rfl
    refine iteF ⟨_, rfl, a, xs, rfl, .inr hs, ga K "PRIMES", _, rfl, .inr (T.t_PRIMES _), xs.length, 12, rfl, rfl, _, rfl, ?_⟩
    by_cases h12 : xs.length = 12
    · rw [decide_eq_true h12]
      rw [decide_eq_true (by omega), Bool.true_and] at e0
      refine iteF ?_
      refine ⟨_, rfl, a, rfl, ⟨_, hs⟩, fun D hD => ?_⟩
      refine lc_dp (K := K) walk_tup hD (by omega) (fun H' s' => same_tup s' hs) (fun i => ds[i]?.map fun d => PyData.bool (isCountD 0 11 d)) ?_ ?_ ?_
      · intro i d e
        obtain ⟨a, _, rfl⟩ := Option.map_eq_some_iff.mp e
        rfl
      · rintro i x H' H'' A B hi s' ⟨rfl, hx⟩ hA hB
        obtain ⟨d, hd, hp⟩ := dps_at2 ha hx
        exact ⟨rfl, _, rfl, ga K "PRIMES", _, rfl, .inr (T.t_PRIMES _), 12, 1, rfl, rfl, by decide, x, d, 0, 11, rfl, same_dp s' hp, hA _ _ _ (by rw [hd]; rfl) (Same.refl _) (.bl _)⟩
      · intro H' ys s' hD' hA
        rw [hlen, gath_map] at hA
        have e2 : ys = (ds.map (isCountD 0 11)).map V.bl := dps_bools (by rw [List.map_map]; exact hA)
        rw [e2] at hD'
        refine ⟨D, _, rfl, SqL.of hD', _, rfl, ?_⟩
        have e3 : ((ds.map (isCountD 0 11)).all id) = ds.all (isCountD 0 11) := by rw [List.all_map]; rfl
        rw [e3]
        cases hall : ds.all (isCountD 0 11) with
        | false =>
          rw [hall, Bool.false_and] at e0
          exact iteT (iteT (q2 e0 H' s'))
        | true =>
          rw [hall, Bool.true_and] at e0
          obtain ⟨o, rfl, hb⟩ := counts_of (b := 11) hall
          rw [natO_map] at e0
          have exs : xs = o.map nI := dps_nats ha
          subst exs
          have hs' := same_tup s' hs
          have enod : (o.map fun (x : Nat) => (x : Int)).Nodup ↔ o.Nodup := by
            unfold List.Nodup
            rw [List.pairwise_map]
            refine ⟨fun h => h.imp fun hne e => hne (by rw [e]), fun h => h.imp fun hne e => hne (by omega)⟩
          have hol : o.length = 12 := by simpa using h12
          refine iteF ⟨_, rfl, a, o.map fun (x : Nat) => (x : Int), rfl, by rw [List.map_map]; exact hs', by rw [List.length_map]; omega, fun c hc1 hc2 => ?_⟩
          rw [List.length_map, enod] at hc1 hc2
          refine ⟨_, rfl, a, _, rfl, .inr hs', c, o.length, rfl, by rw [List.length_map], _, rfl, ?_⟩
          by_cases hnd : o.Nodup
          · rw [decide_eq_true (hc1 hnd)]
            rw [decide_eq_true hnd] at e0
            exact iteF (q1 e0 H' s')
          · rw [decide_eq_false (hc2 hnd)]
            rw [decide_eq_false hnd] at e0
            exact iteT (q2 e0 H' s')
    · rw [decide_eq_false h12]
      rw [decide_eq_false (by omega), Bool.false_and] at e0
      exact iteT (q20 e0)
  | none => exact iteT (iteT (q20 rfl))
  | bool b => exact iteT (iteT (q20 rfl))
  | int i => exact iteT (iteT (q20 rfl))
  | str x => exact iteT (iteT (q20 rfl))
  | list xs => exact iteT (iteT (q20 rfl))
  | dict xs => exact iteT (iteT (q20 rfl))
/-! ### moved -/
def spMovedN (K : PySem.W.Frag) : Sp := fun vs H Q _ => ∃ (a : Addr) (o : List Nat) (n : Nat), vs = [nI n, .ref a] ∧ SqT K H a (o.map nI) ∧ IsOrder o ∧ isNum n = true ∧ ∀ H', Same H H' → Q (nI (mapN o n)) H'
theorem at_nat {as : List Nat} {i a : Nat} (h : as[i]? = some a) : atI (as.map nI) (i : Int) = some (nI a) := atIn (by rw [List.getElem?_map, h]; rfl)
theorem ixN_nat {n i : Nat} (h : i < n) : ixN n (i : Int) = some i := by
  unfold ixN
  rw [if_pos (by omega), if_pos (by omega)]
  rfl
theorem ok_moved_number (T : Txt K mg) : Cal P w K mg base L2.CX0 2 "moved_number" ["number", "order"] (spMovedN K) := by
  have c_parted := ok_parted (P := P) (w := w) (base := base) T
  have c_made := ok_made (P := P) (w := w) (base := base) T
  refine Cal.mk0 T.d_moved_number T.m_moved_number sc_moved_number (fun _ _ _ _ _ _ us hl => match us, hl with | [_, _], _ => rfl) (fun vs H Q E h => ?_) (fun cdv A outer s H vs Q E hr h => ?_)
  · obtain ⟨a, o, n, rfl, _⟩ := h
    rfl
  obtain ⟨a, o, n, rfl, ha, ho, hN, q⟩ := h
  refine ⟨_, (pss_cons (ps_set (i := 2) sc_moved_number.nd rfl (.inl rfl) (pe_ix (ixT rfl) (pe_cal c_parted (hr.mono (by decide)) (by rfl) pass0 (pa_cons (pv 0) pa_nil)) pe_int (fun _ _ => rfl)))
      (pss_cons (ps_set (i := 3) sc_moved_number.nd rfl (.inl rfl) (pe_op op_rep (pe_lst (pa_cons pe_int pa_nil)) (pe_callB (lenS rfl) (by rfl) T.b_len PySem.boot_len (pa_cons (pe_glob (v := .ref (ga K "PRIMES")) (by rfl) T.m_PRIMES rfl) pa_nil))))
      (pss_cons (ps_for PassesOwn.never rfl (Zn.piET rfl (by rfl) T.b_enumerate (pa_cons (pv 1) pa_nil)) (pgT (n := 2) rfl rfl (pgs_cons (pg_name (i := 4) sc_moved_number.nd rfl (.inl rfl)) (pgs_cons (pg_name (i := 5) sc_moved_number.nd rfl (.inl rfl)) pgs_nil))) (pss_one (ps_asg (pe_ix (ixT rfl) (pv 2) (pv 4) (fun _ _ => rfl)) (pg_sub (pv 3) (pv 5) set_list))))
      (pss_one (ps_ret (pe_cal c_made (hr.mono (by decide)) (by rfl) pass0 (pa_cons (pv 3) pa_nil))))))), ?_⟩
  refine ⟨_, rfl, n, rfl, isNum_pos hN, fun p0 t H0 s0 ht hp0 => ⟨p0, _, 0, _, rfl, rfl, SqT.of hp0, atI0, ?_⟩⟩
  refine ⟨(by show 1 ≤ sizeLine; decide), fun p1 np1 => ⟨ga K "PRIMES", _, rfl, .inr (T.t_PRIMES _), p1, 12, _, rfl, rfl, upd_same, by decide, by decide, (by show 1 * 12 ≤ sizeLine; decide), fun p np => ?_⟩⟩
  have s01 := (same_new (o := .lst [V.int 0]) np1)
  have npH0 : H0 p = none := s01.free np
  have s1 := s01.trans (same_new (o := .lst (List.replicate (12 : Int).toNat [V.int 0]).flatten) np)
  have hp : (upd (upd H0 p1 (.lst [V.int 0])) p (.lst (List.replicate (12 : Int).toNat [V.int 0]).flatten)) p = some (.lst ((movT o (rooms n) 0).map nI)) := by
    rw [upd_same]
    rfl
  have ht1 := s1 _ _ ht
  generalize upd (upd H0 p1 (.lst [V.int 0])) p (.lst (List.replicate (12 : Int).toNat [V.int 0]).flatten) = H1 at *
  have ha1 := same_tup (s0.trans s1) ha
  refine ⟨_, rfl, a, _, rfl, ha1, for_it Zn.walk_enumT (fun i σ H3 => ∃ y4 y5, σ = [some (nI n), some (.ref a), some (.ref t), some (.ref p), y4, y5] ∧ Same H0 H3 ∧ H3 t = some (.tup ((rooms n).map nI)) ∧ H3 p = some (.lst ((movT o (rooms n) i).map nI))) ⟨none, none, rfl, s1, ht1, hp⟩ (fun i σ H3 _ ⟨_, _, _, h, _⟩ => same_tup (s0.trans h) ha) ?_ ?_⟩
  · rintro i x σ H3 H4 hi ⟨y4, y5, rfl, s3, ht3, hp3⟩ ⟨T', x', rfl, nT, rfl, hx⟩
    have hi12 : i < 12 := by
      have : i < (o.map nI).length := hi
      rw [List.length_map, ho.len] at this
      exact this
    have hoi := oAt_get (o := o) (i := i) (by rw [ho.len]; exact hi12)
    have ex : x' = nI (oAt o i) := by
      rw [List.getElem?_map, hoi] at hx
      exact (Option.some.inj hx).symm
    subst ex
    have hri : (rooms n)[i]? = some ((rooms n).getD i 0) := by rw [List.getD_eq_getElem?_getD, List.getElem?_eq_getElem (by rw [rooms_len]; exact hi12)]; rfl
    have sT : Same H3 (upd H3 T' (.tup [.int (i : Nat), nI (oAt o i)])) := same_new nT
    have hp4 := sT _ _ hp3
    have ht4 := sT _ _ ht3
    have htp : t ≠ p := fun e => by rw [e, hp3] at ht3; cases ht3
    refine ⟨T', _, rfl, SqT.of upd_same, rfl, _, _, rfl, _, _, rfl, rfl, ?_⟩
    refine ⟨_, rfl, _, rfl, t, _, i, _, rfl, rfl, SqT.of ht4, at_nat hri, _, rfl, _, rfl, p, _, (oAt o i : Int), oAt o i, rfl, rfl, hp4, ixN_nat (by rw [List.length_map, movT_len]; exact ho.at_lt hi12), ?_⟩
    refine ⟨_, _, rfl, same_put (s3.trans sT) npH0, ?_, ?_⟩
    · rw [upd_ne htp]
      exact ht4
    · rw [upd_same]
      show _ = some (HO.lst (((movT o (rooms n) i).set (oAt o i) ((rooms n).getD i 0)).map nI))
      rw [List.map_set]
  · rintro σ H3 ⟨y4, y5, rfl, s3, ht3, hp3⟩
    have e12 : (o.map nI).length = 12 := by rw [List.length_map, ho.len]
    rw [e12] at hp3
    have hnum := map_num ho hN
    refine ⟨_, rfl, true, p, mov o (rooms n), rfl, SqL.of hp3, by rw [mov_len]; decide, fun x hx => ?_, fun H5 s5 => ?_⟩
    · have := (isNum_iff.mp hnum).2.2 x (by rw [map_rooms]; exact hx)
      omega
    · rw [← mapN_def]
      exact q H5 ((s0.trans s3).trans s5)
def spMoved (K : PySem.W.Frag) : Sp := fun vs H Q E => ∃ (v u : V) (d e : PyData), vs = [v, u] ∧ Dp K H v d ∧ Dp K H u e ∧ (isNumD d = false → ∀ H', Same H H' → E (.ref (ga K "BadNumber")) none H') ∧ (isNumD d = true → isOrderD e = false → ∀ H', Same H H' → E (.ref (ga K "BadNumber")) none H') ∧
  ∀ (n : Nat) (o : List Nat), d = nD n → e = .tuple (o.map nD) → isNum n = true → IsOrder o → ∀ H', Same H H' → Q (nI (mapN o n)) H'
theorem ok_moved (T : Txt K mg) : Cal P w K mg base (L2N.CX P w) 4 "moved" ["number", "order"] (spMoved K) := by
  have c_need_number := ok_need_number (P := P) (w := w) (base := base) T
  have c_need_order := ok_need_order (P := P) (w := w) (base := base) T
  have c_moved_number := ok_moved_number (P := P) (w := w) (base := base) T
  refine Cal.mkX T.d_moved T.m_moved sc_moved (fun _ _ _ _ _ _ us hl => match us, hl with | [_, _], _ => rfl) (fun vs H Q E h => ?_) (fun cdv A outer s H vs Q E hr h => ?_)
  · obtain ⟨v, u, d, e, rfl, _⟩ := h
    rfl
  obtain ⟨v, u, d, e, rfl, hd, he, q1, q2, q3⟩ := h
  refine ⟨_, (pss_cons (ps_expr (pe_cal c_need_number (hr.mono (by decide)) (by rfl) (L2N.passes_call (L2N.takes_of rfl rfl rfl rfl) (fun _ _ _ _ h => h)) (pa_cons (pv 0) pa_nil)))
      (pss_cons (ps_expr (pe_cal c_need_order (hr.mono (by decide)) (by rfl) (L2N.passes_call (L2N.takes_of rfl rfl rfl rfl) (fun _ _ _ _ h => h)) (pa_cons (pv 1) pa_nil)))
      (pss_one (ps_ret (pe_cal c_moved_number (hr.mono (by decide)) (by rfl) pass0 (pa_cons (pv 0) (pa_cons (pv 1) pa_nil))))))), ?_⟩
  refine ⟨_, rfl, v, d, rfl, hd, fun hn H1 s1 => ?_, fun hn => q1 hn⟩
  refine ⟨_, rfl, u, e, rfl, same_dp s1 he, fun ho H2 s2 => ?_, fun ho H2 s2 => q2 hn ho H2 (s1.trans s2)⟩
  obtain ⟨n, rfl, hN⟩ := isNumD_is hn
  obtain ⟨o, rfl, hO⟩ := isOrder_is ho
  cases hd
  obtain ⟨a, xs, rfl, hs, ha⟩ := dp_tup (same_dp (s1.trans s2) he)
  obtain rfl := dps_nats ha
  exact ⟨_, rfl, _, rfl, a, o, n, rfl, hs, hO, hN, fun H3 s3 => q3 n o rfl rfl hN hO H3 ((s1.trans s2).trans s3)⟩
/-! ### greatest_rooms -/
def maxL (as bs : List Nat) : List Nat := List.zipWith max as bs
def greatF (l : Prog) : Nat → List Nat → Nat → Option (List Nat)
  | 0, best, _ => some best
  | k + 1, best, x => match led l x with
    | none => some best
    | some y => if 400 < maxN (rooms y) then none else greatF l k (maxL best (rooms y)) y
def spGreatest (K : PySem.W.Frag) : Sp := fun vs H Q E => ∃ (v u c : V) (d e g : PyData), vs = [v, u, c] ∧ Dp K H v d ∧ Dp K H u e ∧ Dp K H c g ∧
  (isProgD d = false → ∀ H', Same H H' → E (.ref (ga K "BadProgram")) none H') ∧ (isProgD d = true → isNumD e = false → ∀ H', Same H H' → E (.ref (ga K "BadNumber")) none H') ∧
  (isProgD d = true → isNumD e = true → isCountD 0 500 g = false → ∀ H', Same H H' → E (.ref (ga K "BadNumber")) none H') ∧
  (∀ (l : Prog) (n m : Nat), d = progD l → e = nD n → g = nD m → isProg l = true → isNum n = true → m ≤ 500 →
    (∀ r, greatF l m (rooms n) n = some r → ∀ p H', Same H H' → H' p = some (.tup (r.map nI)) → Q (.ref p) H') ∧ (greatF l m (rooms n) n = none → ∀ H', Same H H' → E (.ref (ga K "TooGreat")) none H'))
theorem row_mx {as : List Nat} {x i a : Nat} (ha : as[i]? = some a) (hi : i < 12) : Zn.rowAt i [as.map nI, (rooms x).map nI] = [nI a, nI (rm x i)] := by
  show [(as.map nI).getD i .non, ((rooms x).map nI).getD i .non] = _
  rw [rooms_getD x i hi, List.getD_eq_getElem?_getD, List.getElem?_map, ha]
  rfl
theorem rooms_at' (x c : Nat) (hc : c < 12) : (rooms x)[c]? = some (rm x c) := by
  unfold rm
  rw [List.getD_eq_getElem?_getD, List.getElem?_eq_getElem (by rw [rooms_len]; exact hc)]
  rfl
theorem gath_some {F : Nat → Option PyData} {G : Nat → PyData} : ∀ {n : Nat}, (∀ i, i < n → F i = some (G i)) → gath F n = (List.range n).map G
  | 0, _ => rfl
  | n + 1, h => by
    rw [gath_yes (h n (Nat.lt_succ_self n)), gath_some fun i hi => h i (by omega), List.range_succ, List.map_append]
    rfl
theorem maxL_gath {best : List Nat} (hb : best.length = 12) (y : Nat) : gath (fun c => best[c]?.map fun a => nD (max a (rm y c))) 12 = (maxL best (rooms y)).map nD := by
  refine List.ext_getElem? fun i => ?_
  have e : gath (fun c => best[c]?.map fun a => nD (max a (rm y c))) 12 = (List.range 12).map fun c => nD (max (best.getD c 0) (rm y c)) := by
    refine gath_some fun c hc => ?_
    rw [List.getD_eq_getElem?_getD, List.getElem?_eq_getElem (by omega)]
    rfl
  rw [e]
  unfold maxL
  rw [List.getElem?_map, List.getElem?_map, List.getElem?_zipWith]
  rcases Nat.lt_or_ge i 12 with h | h
  · rw [List.getElem?_range h, rooms_at' y i h, List.getElem?_eq_getElem (by omega)]
    show some (nD (max (best.getD i 0) (rm y i))) = some (nD (max best[i] (rm y i)))
    rw [List.getD_eq_getElem?_getD, List.getElem?_eq_getElem (by omega)]
    rfl
  · rw [List.getElem?_eq_none (by simpa using h), List.getElem?_eq_none (by omega)]
    rfl
theorem maxL_len {best : List Nat} (hb : best.length = 12) (y : Nat) : (maxL best (rooms y)).length = 12 := by
  unfold maxL
  rw [List.length_zipWith, hb, rooms_len]
  rfl
theorem ok_greatest_rooms (T : Txt K mg) : Cal P w K mg base (L2N.CX P w) 7 "greatest_rooms" ["program", "number", "most"] (spGreatest K) := by
  have c_look := ok_look (P := P) (w := w) (base := base) T
  have c_need_count := ok_need_count (P := P) (w := w) (base := base) T
  have c_parted := ok_parted (P := P) (w := w) (base := base) T
  have c_led := ok_led (P := P) (w := w) (base := base) T
  have c_need_room := ok_need_room (P := P) (w := w) (base := base) T
  refine Cal.mkX T.d_greatest_rooms T.m_greatest_rooms sc_greatest_rooms (fun _ _ _ _ _ _ us hl => match us, hl with | [_, _, _], _ => rfl) (fun vs H Q E h => ?_) (fun cdv A outer s H vs Q E hr h => ?_)
  · obtain ⟨v, u, c, d, e, g, rfl, _⟩ := h
    rfl
  obtain ⟨v, u, c, d, e, g, rfl, hd, he, hg, q1, q2, q3, q4⟩ := h
  refine ⟨_, (pss_cons (ps_expr (pe_cal c_look (hr.mono (by decide)) (by rfl) (L2N.passes_call (L2N.takes_of rfl rfl rfl rfl) (fun _ _ _ _ h => h)) (pa_cons (pv 0) (pa_cons (pv 1) pa_nil))))
      (pss_cons (ps_expr (pe_cal c_need_count (hr.mono (by decide)) (by rfl) (L2N.passes_call (L2N.takes_of rfl rfl rfl rfl) (fun _ _ _ _ h => h)) (pa_cons (pv 2) (pa_cons pe_int (pa_cons (pe_glob (v := .int 500) (by rfl) T.c_MOST_LOOKED.choose_spec ⟨_, rfl⟩) pa_nil)))))
      (pss_cons (ps_par (i := 3) (j := 4) (by rfl) sc_greatest_rooms.nd rfl rfl (by decide) rfl rfl (pa_cons (pe_callTy (listOf rfl) (by rfl) T.b_list boot_list (pa_cons (pe_ix (ixT rfl) (pe_cal c_parted (hr.mono (by decide)) (by rfl) pass0 (pa_cons (pv 1) pa_nil)) pe_int (fun _ _ => rfl)) pa_nil)) (pa_cons (pv 1) pa_nil)) (by rfl))
      (pss_cons (ps_for (passes_of rfl) rfl (pi_range1 (by rfl) T.b_range (pa_cons (pv 2) pa_nil)) (pg_name (i := 5) sc_greatest_rooms.nd rfl (.inl rfl)) (pss_cons (ps_set (i := 4) sc_greatest_rooms.nd rfl (.inl rfl) (pe_cal c_led (hr.mono (by decide)) (by rfl) pass0 (pa_cons (pv 0) (pa_cons (pv 4) pa_nil))))
      (pss_cons (ps_if (pt_cmpR op_isN (pv 4) pe_non (nomark _)) (pss_one (ps_ret (pe_callTy (tupleOf rfl) (by rfl) T.b_tuple boot_tuple (pa_cons (pv 3) pa_nil)))) pss_nil)
      (pss_cons (ps_expr (pe_cal c_need_room (hr.mono (by decide)) (by rfl) (L2N.passes_call (L2N.takes_of rfl rfl rfl rfl) (fun _ _ _ _ h => h)) (pa_cons (pv 4) pa_nil)))
      (pss_one (ps_setLc (i := 3) (own := [("one", 6), ("other", 7)]) rfl sc_greatest_rooms.nd rfl rfl (sw_true rfl rfl rfl (by decide +kernel)) (Zn.zip2 rfl (by rfl) T.b_zip (pa_cons (pv 3) (pa_cons (pe_ix (ixT rfl) (pe_cal c_parted (hr.mono (by decide)) (by rfl) pass0 (pa_cons (pv 4) pa_nil)) pe_int (fun _ _ => rfl)) pa_nil))) (blkOk_by (own := [("one", 6), ("other", 7)]) (N := ["program", "number", "most", "best", "here", "turn", "one", "other"]) (sc := defScope s_greatest_rooms) (by decide +kernel)) (fun _ _ _ _ _ => (pgT (n := 2) rfl rfl (pgs_cons (pg_name (i := 6) sc_greatest_rooms.nd rfl (.inl rfl)) (pgs_cons (pg_name (i := 7) sc_greatest_rooms.nd rfl (.inl rfl)) pgs_nil)))) (fun _ _ _ _ _ => pts_nil) (fun _ _ _ _ _ => (pe_callB (max2N rfl) (by rfl) T.b_max boot_max (pa_cons (pv 6) (pa_cons (pv 7) pa_nil))))))))))
      (pss_one (ps_ret (pe_callTy (tupleOf rfl) (by rfl) T.b_tuple boot_tuple (pa_cons (pv 3) pa_nil)))))))), ?_⟩
  refine ⟨_, rfl, _, rfl, v, u, d, e, rfl, hd, he, fun hp hn H1 s1 => ?_, q1, q2⟩
  refine ⟨_, rfl, c, g, 0, 500, rfl, same_dp s1 hg, fun hc => ?_, fun hc => q3 hp hn hc H1 s1⟩
  obtain ⟨l, rfl, hP⟩ := isProgD_is hp
  obtain ⟨n, rfl, hN⟩ := isNumD_is hn
  obtain ⟨m, rfl, hm⟩ := isCount_is (hi := 500) hc
  cases he
  cases hg
  obtain ⟨q5, q6⟩ := q4 l n m rfl rfl rfl hP hN hm
  refine ⟨_, rfl, n, rfl, isNum_pos hN, fun p0 t H2 s2 ht hp0 => ⟨p0, _, 0, _, rfl, rfl, SqT.of hp0, atI0, t, _, rfl, .inr (SqT.of ht), fun b nb => ⟨_, rfl, _, _, rfl, ?_⟩⟩⟩
  have s02 := (s1.trans s2).trans (same_new (o := .lst ((rooms n).map nI)) nb)
  refine ⟨_, rfl, (m : Int), rfl, by omega, by omega, ?_⟩
  rw [Int.toNat_natCast]
  refine for_it walk_nats (fun i σ H4 => ∃ (best : List Nat) (z j : Nat) (pb : Addr) (y5 : Option V), σ = [some v, some (nI n), some (nI m), some (.ref pb), some (nI z), y5, none, none] ∧ Same H H4 ∧ H4 pb = some (.lst (best.map nI)) ∧ best.length = 12 ∧ isNum z = true ∧ i + j = m ∧ greatF l m (rooms n) n = greatF l j best z) ⟨rooms n, n, m, b, none, rfl, s02, upd_same, rooms_len n, hN, by omega, rfl⟩ (fun _ _ _ _ _ => trivial) ?_ ?_
  · rintro i x σ H4 H4' hi ⟨best, z, j, pb, y5, rfl, s4, hpb, hbl, hz, hij, hrun⟩ ⟨rfl, rfl⟩
    obtain ⟨j, rfl⟩ : ∃ j', j = j' + 1 := ⟨j - 1, by omega⟩
    refine ⟨_, rfl, _, rfl, v, l, z, rfl, same_dp s4 hd, hP, num_lt hz, fun H5 s5 => ?_⟩
    cases hl : led l z with
    | none =>
      have er : greatF l (j + 1) best z = some best := by unfold greatF; rw [hl]
      refine ⟨_, rfl, rfl, _, rfl, iteT ⟨_, rfl, pb, _, rfl, .inl ⟨SqL.of (s5 _ _ hpb), fun t6 nt6 => ?_⟩⟩⟩
      exact q5 best (by rw [hrun, er]) t6 _ ((s4.trans s5).trans (same_new nt6)) upd_same
    | some y =>
      have hzn := isNum_iff.mp hz
      obtain ⟨hy0, hyl⟩ := led_left hP hzn.1 hzn.2.1 hl
      have er : greatF l (j + 1) best z = if 400 < maxN (rooms y) then none else greatF l j (maxL best (rooms y)) y := by
        conv => lhs; unfold greatF
        rw [hl]
      refine ⟨_, rfl, rfl, _, rfl, iteF ⟨_, rfl, y, rfl, hy0, (fun hle H6 s6 => ?_), fun hgt H6 s6 => q6 (by rw [hrun, er, if_pos hgt]) H6 ((s4.trans s5).trans s6)⟩⟩
      have hpb6 := (s5.trans s6) _ _ hpb
      refine ⟨_, rfl, _, rfl, y, rfl, hy0, fun p7 t7 H7 s7 ht7 hp7 => ⟨p7, _, 0, _, rfl, rfl, SqT.of hp7, atI0, [(true, pb), (false, t7)], rfl, rfl, ?_, fun D hD => ?_⟩⟩
      · intro q hq
        simp only [List.mem_cons, List.not_mem_nil, or_false] at hq
        rcases hq with rfl | rfl
        · exact ⟨_, SqL.of (s7 _ _ hpb6)⟩
        · exact ⟨_, SqT.of ht7⟩
      refine lc_dp (K := K) (walk_zipN (yss := [best.map nI, (rooms y).map nI]) (n := 12) ?_ ?_) hD (by decide) (fun H' s' => ⟨s'.seq (SqL.of (s7 _ _ hpb6)), same_tup s' (SqT.of ht7), True.intro⟩) (fun c => best[c]?.map fun a => nD (max a (rm y c))) ?_ ?_ ?_
      · intro ys hy
        simp only [List.mem_cons, List.not_mem_nil, or_false] at hy
        rcases hy with rfl | rfl
        · rw [List.length_map, hbl]; exact Nat.le_refl _
        · rw [List.length_map, rooms_len]; exact Nat.le_refl _
      · exact ⟨_, List.mem_cons_self, by rw [List.length_map, hbl]⟩
      · intro c d e
        obtain ⟨a, _, rfl⟩ := Option.map_eq_some_iff.mp e
        rfl
      · rintro c x' H' H'' A B hc s' ⟨Tt, rfl, nT, rfl⟩ hA hB
        have hg : best[c]? = some (best[c]'(by omega)) := List.getElem?_eq_getElem (by omega)
        generalize best[c]'(by omega) = a at hg
        rw [row_mx hg hc]
        refine ⟨Tt, _, rfl, SqT.of upd_same, rfl, _, _, rfl, _, _, rfl, rfl, rfl, ?_⟩
        exact ⟨_, rfl, _, rfl, a, rm y c, rfl, hA _ _ _ (by rw [hg]; rfl) (same_new nT) (.int _)⟩
      · intro H8 ys s8 hD8 hA8
        rw [maxL_gath hbl] at hA8
        have ey := dps_nats hA8
        rw [ey] at hD8
        exact ⟨maxL best (rooms y), y, j, D, _, rfl, ((s4.trans (s5.trans s6)).trans s7).trans s8, hD8, maxL_len hbl y, led_num hP hz hl (by omega), by omega, by rw [hrun, er, if_neg (by omega)]⟩
  · rintro σ H4 ⟨best, z, j, pb, y5, rfl, s4, hpb, hbl, hz, hij, hrun⟩
    obtain rfl : j = 0 := by omega
    refine ⟨_, rfl, pb, _, rfl, .inl ⟨SqL.of hpb, fun t6 nt6 => ?_⟩⟩
    exact q5 best (by rw [hrun]; rfl) t6 _ (s4.trans (same_new nt6)) upd_same
end
end Fr
namespace Fr
open PySem PySem.Spec PyProof.Rows L2
theorem sort_ext : ∀ {as bs : List Int}, as.Pairwise (· < ·) → bs.Pairwise (· < ·) → (∀ x, x ∈ as ↔ x ∈ bs) → as = bs
  | [], [], _, _, _ => rfl
  | [], b :: bs, _, _, h => by have := (h b).mpr List.mem_cons_self; cases this
  | a :: as, [], _, _, h => by have := (h a).mp List.mem_cons_self; cases this
  | a :: as, b :: bs, ha, hb, h => by
    rw [List.pairwise_cons] at ha hb
    have e : a = b := by
      rcases List.mem_cons.mp ((h a).mp List.mem_cons_self) with e | e
      · exact e
      · rcases List.mem_cons.mp ((h b).mpr List.mem_cons_self) with e2 | e2
        · exact e2.symm
        · have h1 := hb.1 a e
          have h2 := ha.1 b e2
          omega
    subst e
    rw [sort_ext ha.2 hb.2 fun x => ?_]
    constructor
    · intro hx
      rcases List.mem_cons.mp ((h x).mp (List.mem_cons_of_mem _ hx)) with e | e
      · have := ha.1 x hx
        omega
      · exact e
    · intro hx
      rcases List.mem_cons.mp ((h x).mpr (List.mem_cons_of_mem _ hx)) with e | e
      · have := hb.1 x hx
        omega
      · exact e
/-- the rooms that a program has -/
def usedB (l : Prog) (c : Nat) : Bool := l.any fun p => decide (0 < rm (p.1 * p.2) c)
def usedOf (l : Prog) : List Nat := (List.range 12).filter (usedB l)
abbrev ksK (ks : List Nat) : List (L2.Key × V) := ks.map fun c => (kI c, .bl true)
theorem kI_inj {a b : Nat} (h : kI a = kI b) : a = b := by
  have := Sum.inl.inj h
  omega
theorem ksK_put (ks : List Nat) (c : Nat) : putK (ksK ks) (kI c) (.bl true) = ksK (if c ∈ ks then ks else ks ++ [c]) := by
  unfold putK
  have e : (ksK ks).any (fun kv => decide (kv.1 = kI c)) = decide (c ∈ ks) := by
    rw [Bool.eq_iff_iff, List.any_eq_true, decide_eq_true_iff]
    constructor
    · rintro ⟨kv, h1, h2⟩
      obtain ⟨x, hx, rfl⟩ := List.mem_map.mp h1
      have := kI_inj (of_decide_eq_true h2)
      rw [← this]
      exact hx
    · intro h
      exact ⟨_, List.mem_map.mpr ⟨c, h, rfl⟩, decide_eq_true rfl⟩
  rw [e]
  by_cases h : c ∈ ks
  · rw [if_pos (decide_eq_true h), if_pos h]
    show (ks.map _).map _ = ks.map _
    rw [List.map_map]
    refine List.map_congr_left fun x hx => ?_
    show (if kI x = kI c then (kI x, V.bl true) else (kI x, V.bl true)) = (kI x, V.bl true)
    split <;> rfl
  · rw [if_neg (by rw [decide_eq_false h]; decide), if_neg h]
    show ks.map _ ++ [_] = (ks ++ [c]).map _
    rw [List.map_append]
    rfl
theorem sqt_updD {K : PySem.W.Frag} {H : Hp} {D b : Addr} {ys zs : List (L2.Key × V)} {xs : List V} (hD : H D = some (.dK ys)) (h : SqT K H b xs) : SqT K (upd H D (.dK zs)) b xs := by
  rcases h with (h | ⟨o, h⟩) | h
  · have n : b ≠ D := ne_of h hD (by intro z; cases z)
    exact .inl (.inl (by rw [upd_ne n]; exact h))
  · have n : b ≠ D := ne_of h hD (by intro z; cases z)
    exact .inl (.inr ⟨o, by rw [upd_ne n]; exact h⟩)
  · exact .inr h
mutual
theorem dp_updD {K : PySem.W.Frag} {H : Hp} {D : Addr} {ys zs : List (L2.Key × V)} (hD : H D = some (.dK ys)) : ∀ {d : PyData} {v : V}, noL d = true → Dp K H v d → Dp K (upd H D (.dK zs)) v d
  | .none, _, _, .non => .non
  | .bool _, _, _, .bl b => .bl b
  | .int _, _, _, .int i => .int i
  | .str _, _, _, .str x => .str x
  | .list _, _, h, _ => by simp [noL] at h
  | .tuple ds, _, h, .tup t a => .tup (sqt_updD hD t) (dps_updD hD (by simpa [noL] using h) a)
theorem dps_updD {K : PySem.W.Frag} {H : Hp} {D : Addr} {ys zs : List (L2.Key × V)} (hD : H D = some (.dK ys)) : ∀ {ds : List PyData} {vs : List V}, noLs ds = true → DpAll K H vs ds → DpAll K (upd H D (.dK zs)) vs ds
  | [], _, _, .nil => .nil
  | d :: ds, _, h, .cons a b => by
    have h2 : noL d = true ∧ noLs ds = true := by simpa [noLs] using h
    exact .cons (dp_updD hD h2.1 a) (dps_updD hD h2.2 b)
end
theorem noLs_fracs (l : Prog) : noLs (l.map fracD) = true := noLs_of fun d hd => by
  obtain ⟨n, _, rfl⟩ := List.mem_map.mp hd
  rfl
section
variable {P : Program} {w : World} {K : PySem.W.Frag} {mg : Str → Option Value} {base : Heap}
def spUsed (K : PySem.W.Frag) : Sp := fun vs H Q E => ∃ (v : V) (d : PyData), vs = [v] ∧ Dp K H v d ∧ (isProgD d = false → ∀ H', Same H H' → E (.ref (ga K "BadProgram")) none H') ∧
  (∀ l : Prog, d = progD l → isProg l = true → ∀ p H', H p = none → Same H H' → H' p = some (.lst ((usedOf l).map nI)) → Q (.ref p) H')
theorem ok_used_rooms (T : Txt K mg) : Cal P w K mg base (L2N.CX P w) 6 "used_rooms" ["program"] (spUsed K) := by
  have c_need_program := ok_need_program (P := P) (w := w) (base := base) T
  have c_parted := ok_parted (P := P) (w := w) (base := base) T
  refine Cal.mkX T.d_used_rooms T.m_used_rooms sc_used_rooms (fun _ _ _ _ _ _ us hl => match us, hl with | [_], _ => rfl) (fun vs H Q E h => ?_) (fun cdv A outer s H vs Q E hr h => ?_)
  · obtain ⟨v, d, rfl, _⟩ := h
    rfl
  obtain ⟨v, d, rfl, hd, q1, q2⟩ := h
  refine ⟨_, (pss_cons (ps_expr (pe_cal c_need_program (hr.mono (by decide)) (by rfl) (L2N.passes_call (L2N.takes_of rfl rfl rfl rfl) (fun _ _ _ _ h => h)) (pa_cons (pv 0) pa_nil)))
      (pss_cons (ps_set (i := 1) sc_used_rooms.nd rfl (.inl rfl) pe_dnewK)
      (pss_cons (ps_for (passes_of rfl) rfl (piL rfl (pv 0)) (pgT (n := 2) rfl rfl (pgs_cons (pg_name (i := 2) sc_used_rooms.nd rfl (.inl rfl)) (pgs_cons (pg_name (i := 3) sc_used_rooms.nd rfl (.inl rfl)) pgs_nil))) (pss_one (ps_for (passes_of rfl) rfl (Zn.piET rfl (by rfl) T.b_enumerate (pa_cons (pe_ix (ixT rfl) (pe_cal c_parted (hr.mono (by decide)) (by rfl) pass0 (pa_cons (pe_op opN_mul (pv 2) (pv 3)) pa_nil)) pe_int (fun _ _ => rfl)) pa_nil)) (pgT (n := 2) rfl rfl (pgs_cons (pg_name (i := 4) sc_used_rooms.nd rfl (.inl rfl)) (pgs_cons (pg_name (i := 5) sc_used_rooms.nd rfl (.inl rfl)) pgs_nil))) (pss_one (ps_if (pt_cmpR opN_gt (pv 5) pe_int (nomark _)) (pss_one (ps_dput (hu_of hr) (pv 1) (pv 4) pe_bl rfl)) pss_nil)))))
      (pss_one (ps_ret (pe_callB (call_sortedDI rfl) (by rfl) T.b_sorted boot_sorted (pa_cons (pv 1) pa_nil))))))), ?_⟩
  refine ⟨_, rfl, v, d, rfl, hd, fun hp H1 s1 => ?_, q1⟩
  obtain ⟨l, rfl, hP⟩ := isProgD_is hp
  have q2 := q2 l rfl hP
  intro o no
  have hoH : H o = none := s1.free no
  have s2 := s1.trans (same_new (o := .dK []) no)
  obtain ⟨a, xs, rfl, hs, ha, hlen⟩ := prog_at (same_dp s2 hd)
  have ho2 : (upd H1 o (.dK [])) o = some (.dK (ksK [])) := upd_same
  generalize upd H1 o (.dK []) = H2 at *
  refine ⟨_, rfl, a, rfl, ⟨_, hs⟩, for_list (xs := xs) (fun i σ H3 => ∃ (ks : List Nat) (y2 y3 y4 y5 : Option V), σ = [some (.ref a), some (.ref o), y2, y3, y4, y5] ∧ Same H H3 ∧ SqL K H3 a xs ∧ DpAll K H3 xs (l.map fracD) ∧ H3 o = some (.dK (ksK ks)) ∧ ks.Nodup ∧ (∀ c, c ∈ ks ↔ c < 12 ∧ usedB (l.take i) c = true)) ?_ ?_ ?_ ?_⟩
  · exact ⟨[], none, none, none, none, rfl, s2, hs, ha, ho2, List.nodup_nil, fun c => ⟨(fun z => nomatch z), fun z => by
    have h2 := z.2
    rw [List.take_zero] at h2
    exact absurd h2 (by unfold usedB; simp)⟩⟩
  · rintro i σ H3 _ ⟨ks, y2, y3, y4, y5, rfl, s3, hs3, _⟩
    exact hs3
  · rintro i x σ H3 hx ⟨ks, y2, y3, y4, y5, rfl, s3, hs3, ha3, ho3, hnd, hks⟩
    obtain ⟨hi, b, rfl, hb, _⟩ := prog_item ha3 hx
    have hg : l[i]? = some l[i] := List.getElem?_eq_getElem hi
    have hfr := isFrac_iff.mp ((isProg_iff.mp hP).2 _ (List.getElem_mem hi))
    rw [take_at hg]
    generalize l[i] = f at *
    refine ⟨b, _, rfl, hb, rfl, _, _, rfl, _, _, rfl, rfl, ?_⟩
    have l1 := lt_log2 (j := 20) (mil_lt hfr.2.2.1) (by decide) (by decide)
    have l2 := lt_log2 (j := 20) (mil_lt hfr.2.2.2.1) (by decide) (by decide)
    refine ⟨_, rfl, _, rfl, f.1, f.2, rfl, rfl, by omega, f.1 * f.2, rfl, Nat.mul_pos (isNum_pos hfr.1) (isNum_pos hfr.2.1), fun p4 t4 H4 s4 ht4 hp4 => ⟨p4, _, 0, _, rfl, rfl, SqT.of hp4, atI0, t4, _, rfl, SqT.of ht4, ?_⟩⟩
    refine for_it Zn.walk_enumT (fun j σ H5 => ∃ (ks' : List Nat) (y4 y5 : Option V), σ = [some (.ref a), some (.ref o), some (nI f.1), some (nI f.2), y4, y5] ∧ Same H H5 ∧ SqL K H5 a xs ∧ DpAll K H5 xs (l.map fracD) ∧ H5 t4 = some (.tup ((rooms (f.1 * f.2)).map nI)) ∧ H5 o = some (.dK (ksK ks')) ∧ ks'.Nodup ∧ (∀ c, c ∈ ks' ↔ c ∈ ks ∨ (c < j ∧ c < 12 ∧ 0 < rm (f.1 * f.2) c))) ⟨ks, y4, y5, rfl, s3.trans s4, s4.seq hs3, same_dps s4 ha3, ht4, s4 _ _ ho3, hnd, fun c => ⟨fun z => .inl z, fun z => z.elim id fun z => absurd z.1 (by omega)⟩⟩ (fun j σ H5 _ ⟨_, _, _, _, _, _, _, h, _⟩ => SqT.of h) ?_ ?_
    · rintro j x' σ H5 H6 hj ⟨ks', y4, y5, rfl, s5, hs5, ha5, ht5, ho5, hnd5, hks5⟩ ⟨T', x'', rfl, nT, rfl, hx'⟩
      have hj12 : j < 12 := by
        have : j < ((rooms (f.1 * f.2)).map nI).length := hj
        rw [List.length_map, rooms_len] at this
        exact this
      have ex : x'' = nI (rm (f.1 * f.2) j) := by
        rw [List.getElem?_map, List.getElem?_eq_getElem (by rw [rooms_len]; exact hj12)] at hx'
        rw [← Option.some.inj hx']
        unfold rm
        rw [List.getD_eq_getElem?_getD, List.getElem?_eq_getElem (by rw [rooms_len]; exact hj12)]
        rfl
      subst ex
      have sT : Same H5 (upd H5 T' (.tup [.int (j : Nat), nI (rm (f.1 * f.2) j)])) := same_new nT
      have ho6 := sT _ _ ho5
      have hs6 := sT.seq hs5
      have ha6 := same_dps sT ha5
      have ht6 := sT _ _ ht5
      have s6 := s5.trans sT
      refine ⟨T', _, rfl, SqT.of upd_same, rfl, _, _, rfl, _, _, rfl, rfl, ?_⟩
      generalize upd H5 T' (.tup [.int (j : Nat), nI (rm (f.1 * f.2) j)]) = H6 at *
      refine ⟨_, rfl, rm (f.1 * f.2) j, 0, rfl, rfl, _, rfl, ite2 (fun hpos => ?_) (fun hpos => ?_)⟩
      · have hpos := of_decide_eq_true hpos
        have hkl : (ksK ks').length < sizeLine := by
          rw [List.length_map]
          have := len_sub (m := List.range 12) hnd5 fun x hx => List.mem_range.mpr (by
            rcases (hks5 x).mp hx with z | z
            · exact ((hks x).mp z).1
            · exact z.2.1)
          rw [List.length_range] at this
          exact Nat.lt_of_lt_of_le (show ks'.length < 100 by omega) (by decide)
        refine ⟨_, rfl, _, rfl, o, _, rfl, DPut.k (k := kI j) ho6 hkl, ?_⟩
        rw [ksK_put]
        have hto : t4 ≠ o := fun e => by rw [e, ho6] at ht6; cases ht6
        have hao : ∀ {ys : List V}, SqL K H6 a ys → SqL K (upd H6 o (.dK (ksK (if j ∈ ks' then ks' else ks' ++ [j])))) a ys := fun {ys} h => by
          rcases h with (h | ⟨p, h⟩) | h
          · exact .inl (.inl (by rw [upd_ne (ne_of h ho6 (by intro z; cases z))]; exact h))
          · exact .inl (.inr ⟨p, by rw [upd_ne (ne_of h ho6 (by intro z; cases z))]; exact h⟩)
          · exact .inr h
        refine ⟨if j ∈ ks' then ks' else ks' ++ [j], _, _, rfl, same_put s6 hoH, hao hs6, dps_updD ho6 (noLs_fracs l) ha6, by rw [upd_ne hto]; exact ht6, upd_same, ?_, fun c => ?_⟩
        · split
          · exact hnd5
          · rename_i hn
            rw [List.nodup_append]
            refine ⟨hnd5, by simp, fun x hx y hy e => hn ?_⟩
            rw [List.mem_singleton.mp hy] at e
            rw [← e]
            exact hx
        · have e1 : c ∈ (if j ∈ ks' then ks' else ks' ++ [j]) ↔ c ∈ ks' ∨ c = j := by
            split
            · rename_i hm
              exact ⟨fun z => .inl z, fun z => z.elim id fun e => by rw [e]; exact hm⟩
            · rw [List.mem_append, List.mem_singleton]
          rw [e1, hks5 c]
          constructor
          · rintro ((z | z) | z)
            · exact .inl z
            · exact .inr ⟨by omega, z.2⟩
            · subst z
              exact .inr ⟨by omega, hj12, hpos⟩
          · rintro (z | z)
            · exact .inl (.inl z)
            · rcases Nat.lt_or_ge c j with h | h
              · exact .inl (.inr ⟨h, z.2⟩)
              · exact .inr (by omega)
      · have hpos : ¬ 0 < rm (f.1 * f.2) j := fun z => hpos (decide_eq_true z)
        refine ⟨ks', _, _, rfl, s6, hs6, ha6, ht6, ho6, hnd5, fun c => ?_⟩
        rw [hks5 c]
        constructor
        · rintro (z | z)
          · exact .inl z
          · exact .inr ⟨by omega, z.2⟩
        · rintro (z | z)
          · exact .inl z
          · rcases Nat.lt_or_ge c j with h | h
            · exact .inr ⟨h, z.2⟩
            · obtain rfl : c = j := by omega
              exact absurd z.2.2 hpos
    · rintro σ H5 ⟨ks', y4, y5, rfl, s5, hs5, ha5, ht5, ho5, hnd5, hks5⟩
      rw [List.length_map, rooms_len] at hks5
      refine ⟨ks', _, _, _, _, rfl, s5, hs5, ha5, ho5, hnd5, fun c => ?_⟩
      rw [hks5 c, hks c]
      have eu : usedB (l.take i ++ [f]) c = (usedB (l.take i) c || decide (0 < rm (f.1 * f.2) c)) := by
        unfold usedB
        rw [List.any_append]
        simp
      rw [eu, Bool.or_eq_true, decide_eq_true_iff]
      constructor
      · rintro (z | z)
        · exact ⟨z.1, .inl z.2⟩
        · exact ⟨z.2.1, .inr z.2.2⟩
      · rintro ⟨z1, z2 | z2⟩
        · exact .inl ⟨z1, z2⟩
        · exact .inr ⟨z1, z1, z2⟩
  · rintro σ H3 ⟨ks, y2, y3, y4, y5, rfl, s3, hs3, ha3, ho3, hnd, hks⟩
    rw [hlen, List.take_length] at hks
    have hkl := len_sub (m := List.range 12) hnd fun x hx => List.mem_range.mpr ((hks x).mp hx).1
    rw [List.length_range] at hkl
    refine ⟨_, rfl, o, ksK ks, ks.map fun (c : Nat) => (c : Int), rfl, .inl ho3, by rw [List.map_map, List.map_map]; rfl, by rw [List.length_map]; omega, fun ys p hperm hsort np => ?_⟩
    have hys : ys = (usedOf l).map fun (c : Nat) => (c : Int) := by
      refine sort_ext ?_ ?_ fun x => ?_
      · have hn2 : ys.Nodup := hperm.nodup_iff.mpr (by
          unfold List.Nodup
          rw [List.pairwise_map]
          exact hnd.imp fun hne e => hne (by omega))
        have := List.pairwise_and_iff.mpr ⟨hsort, hn2⟩
        exact this.imp fun h => by
          have h1 := h.1
          have h2 := h.2
          omega
      · rw [List.pairwise_map]
        unfold usedOf
        exact (List.pairwise_lt_range.filter _).imp fun h => by omega
      · rw [hperm.mem_iff, List.mem_map, List.mem_map]
        refine exists_congr fun c => and_congr_left fun _ => ?_
        rw [hks c]
        unfold usedOf
        rw [List.mem_filter, List.mem_range]
    have := q2 p (upd H3 p (.lst (ys.map V.int))) (s3.free np) (s3.trans (same_new np)) (by rw [upd_same, hys, List.map_map]; rfl)
    exact this
end
end Fr
namespace L2
open PySem PySem.Spec PyProof.Rows
/-- a new tuple of which it is known that it has no dict -/
def FrzT (H : Hp) (p : Addr) (ys : List V) : Prop := ∃ ob : Obj, H p = some (.frz ob (.tup ys)) ∧ ob.cls = .type "tuple" ∧ ob.dict = none
def rTupF (K : PySem.W.Frag) : List V → Hp → VK → Prop := fun xs H Q => ∃ p ys, xs = [V.ref p] ∧ SqL K H p ys ∧ ∀ l ob, H l = none → ob.cls = .type "tuple" → ob.dict = none → Q (.ref l) (upd H l (.frz ob (.tup ys)))
section
variable {X : Cx}
theorem call_tupleF : CallR X (.type "tuple") (rTupF X.K) := by
  intro pins s σ H xs us Q I r h
  obtain ⟨p, ys, rfl, hq, q⟩ := h
  obtain ⟨u, rfl, rx⟩ := vals1 r
  cases rx
  obtain ⟨its, r', pl, hz⟩ := I.list hq
  have hlen := r'.length
  refine call_tuple_list pl.isList (fun h' kp => ?_) (by simp only [List.size_toArray] <;> omega)
  have I1 : Inv X pins σ H { s with heap := h' } := I.kept (t' := s.toks) kp
  have I2 : Inv X pins σ (upd H h'.objs.size (.frz { cls := .type "tuple", data := .seq its.toArray } (.tup ys))) { s with heap := h'.push { cls := .type "tuple", data := .seq its.toArray } } :=
    I1.laid (t' := s.toks) (fun b o e => Heap.get?_push_of_some _ e) (Nat.le_refl _) (show ObjOk X.prog X.w _ _ _ (.frz { cls := .type "tuple", data := .seq its.toArray } (.tup ys)) from ⟨Heap.get?_push_size _ rfl, hz, its, r', IsTup.new _ _⟩)
  exact ⟨.ref h'.objs.size, _, I2, rfl, q _ _ (I1.hok.fresh (Nat.le_refl _)) rfl rfl⟩
def tBMF (r : V → List V → Hp → VK → Prop) (to : TE) (t : TA) : TE := fun σ H Q => to σ H fun x H1 => (∃ p ys, x = .ref p ∧ FrzT H1 p ys) ∧ t σ H1 fun xs H2 => r x xs H2 Q
theorem pe_bmF {o e : Expr} {es : List Expr} {to : TE} {t : TA} {name : Str} {apos cpos : Pos} {id : String} {r : V → List V → Hp → VK → Prop} (pa : PlainAttrs "tuple") (slot : Slot "tuple" name id) (hty : typeOf (.builtin id) = pure (.type "method_descriptor")) (hm : MtR X id r) (ho : PE X o to) (ha : PA X (e :: es) t)
    (hbase : attributeBase o name X.env (eval o X.env) = eval o X.env := by rfl)
    (hfew : ((backTo cpos (starEach (e :: es) X.env)).all (fun x => !x.1) && (backToKw cpos (keywordEach [] X.env)).all (fun x => x.1.isSome)
      && decide ((e :: es).length + ([] : List Keyword).length + (if ([] : List Keyword).isEmpty then 0 else 1) < 30)) = true := by rfl)
    (hline : (apos.endLine == cpos.line) = true := by rfl) (hs : starEach (e :: es) X.env = (false, eval e X.env) :: starEach es X.env := by rfl) (hplain : (backTo cpos (starEach es X.env)).any (·.1) = false := by rfl) :
    PE X (.Call (.Attribute o name apos) (e :: es) [] cpos) (tBMF r to t) := by
  refine ⟨fun pins s σ H Q I h => ?_⟩
  refine wpAny_Call_method_late hbase hfew hline rfl (thn (ho.run pins s σ H _ I h) fun v s1 ⟨x, H1, I1, r1, ty, q1⟩ => ?_)
  obtain ⟨h1, h2⟩ : s1.TypeIs v "tuple" ∧ ∀ a, v = .ref a → ∃ ob, s1.heap.get? a = some ob ∧ ob.dict = none := by
    obtain ⟨p, ys, rfl, ob, hp, hc, hd⟩ := ty
    cases r1
    obtain ⟨e1, _⟩ := I1.hok p _ hp
    refine ⟨⟨ob, e1, hc⟩, fun a ea => ?_⟩
    cases ea
    exact ⟨ob, e1, hd⟩
  refine ⟨"tuple", id, pa, slot, hty, h1, h2, ?_⟩
  have hA := ha.run cpos pins s1 σ H1 _ I1 q1
  rw [hs] at hA ⊢
  refine Calls.callWith_builtin (by show (false || (backTo cpos (starEach es X.env)).any (·.1)) = false; rw [hplain] <;> rfl) (Calls.evalArgs_plain ?_)
  exact thn hA fun us s2 ⟨vs, H2, I2, r2, q2⟩ => hm pins s2 σ H2 x vs v us Q I2 r1 r2 q2
end
end L2
namespace Fr
open PySem PySem.Spec PyProof.Rows L2
theorem tupF {X : Cx} {K : PySem.W.Frag} (e : X.K = K) : CallR X (.type "tuple") (rTupF K) := by
  subst e
  exact call_tupleF
theorem _root_.L2.FrzT.sq {K : PySem.W.Frag} {H : Hp} {p : Addr} {ys : List V} (h : FrzT H p ys) : SqT K H p ys := by
  obtain ⟨ob, h, _⟩ := h
  exact .inl (.inr ⟨ob, h⟩)
theorem _root_.L2.FrzT.same {H H' : Hp} {p : Addr} {ys : List V} (s : Same H H') (h : FrzT H p ys) : FrzT H' p ys := by
  obtain ⟨ob, h, a⟩ := h
  exact ⟨ob, s _ _ h, a⟩
/-- where it stands first -/
def rIxT (K : PySem.W.Frag) : V → List V → Hp → VK → Prop := fun x xs H Q => ∃ (a : Addr) (o : List Nat) (r j : Nat), x = V.ref a ∧ xs = [nI r] ∧ SqT K H a (o.map nI) ∧ o.idxOf? r = some j ∧ Q (nI j) H
theorem flat_nats (o : List Nat) : (o.map nI).all flatV = true := by
  rw [List.all_map, List.all_eq_true]
  intro x _
  rfl
theorem eqV_nat (a b : Nat) : eqV (nI a) (nI b) = decide (a = b) := by
  show decide ((a : Int) = (b : Int)) = decide (a = b)
  rw [Bool.eq_iff_iff]
  simp
  omega
theorem mt_ixT {X : Cx} {K : PySem.W.Frag} (hK : X.K = K) : MtR X "tuple.index" (rIxT K) := by
  intro pins s σ H x xs v us Q I rx rxs h
  obtain ⟨a, o, r, j, rfl, rfl, hs, hj, q⟩ := h
  obtain ⟨hlt, h1, h2⟩ := List.findIdx?_eq_some_iff_getElem.mp (show List.findIdx? (· == r) o = some j from hj)
  have h1 : o[j] = r := by simpa using h1
  refine mt_tidx hK pins s σ H _ _ v us Q I rx rxs ⟨a, _, nI r, j, nI r, rfl, rfl, hs, rfl, flat_nats o, ?_, ?_, ?_, q⟩
  · rw [List.getElem?_map, List.getElem?_eq_getElem hlt, h1]
    rfl
  · rw [eqV_nat]
    simp
  · intro m z hm hz
    rw [List.getElem?_map, List.getElem?_eq_getElem (by omega)] at hz
    cases hz
    rw [eqV_nat, decide_eq_false]
    have := h2 m hm
    simpa using this
end Fr
namespace Fr
open PySem PySem.Spec PyProof.Rows L2
section
variable {P : Program} {w : World} {K : PySem.W.Frag} {mg : Str → Option Value} {base : Heap}
theorem Draw.order {o lv : List Nat} (h : Draw 12 lv o) : IsOrder o := ⟨h.lo, h.no, h.bo⟩
/-! ### _law_order -/
def spOrderF : Sp := fun vs H Q _ => ∃ m : Nat, vs = [nI m] ∧ ∀ (o : List Nat) (p : Addr) H', IsOrder o → Same H H' → FrzT H' p (o.map nI) → Q (.ref p) H'
theorem ok__law_order (T : Txt K mg) : Cal P w K mg base L2.CX0 2 "_law_order" ["more"] spOrderF := by
  have c__law_drawn := ok__law_drawn (P := P) (w := w) (base := base) T
  refine Cal.mk0 T.d__law_order T.m__law_order sc__law_order (fun _ _ _ _ _ _ us hl => match us, hl with | [_], _ => rfl) (fun vs H Q E h => ?_) (fun cdv A outer s H vs Q E hr h => ?_)
  · obtain ⟨m, rfl, _⟩ := h
    rfl
  obtain ⟨m, rfl, q⟩ := h
  refine ⟨_, (pss_cons (ps_par (i := 1) (j := 2) (by rfl) sc__law_order.nd rfl rfl (by decide) rfl rfl (pa_cons (pe_listRg rfl (by rfl) T.b_list (prg_1 (by rfl) T.b_range pe_int)) (pa_cons (pe_lst pa_nil) pa_nil)) (by rfl))
      (pss_cons (ps_for PassesOwn.never rfl (pi_range1 (by rfl) T.b_range (pa_cons pe_int pa_nil)) (pg_name (i := 3) sc__law_order.nd rfl (.inl rfl)) (pss_one (ps_expr (bm rfl PySem.F.plainAttrs_list PySem.F.slot_list_append PySem.F.type_list_append mt_append (pv 2) (pa_cons (bm rfl PySem.F.plainAttrs_list PySem.F.slot_list_pop PySem.F.type_list_pop mt_popAt (pv 1) (pa_cons (pe_op opN_mod (pe_cal c__law_drawn (hr.mono (by decide)) (by rfl) pass0 (pa_cons (pv 0) (pa_cons (pe_op opN_add pe_int (pv 3)) pa_nil))) (pe_callB (lenS rfl) (by rfl) T.b_len PySem.boot_len (pa_cons (pv 1) pa_nil))) pa_nil)) pa_nil)))))
      (pss_one (ps_ret (pe_callTy (tupF rfl) (by rfl) T.b_tuple boot_tuple (pa_cons (pv 2) pa_nil)))))), ?_⟩
  refine ⟨12, rfl, ⟨by decide, by decide, by decide, by decide, by decide⟩, fun ql nql => ⟨Nat.zero_le _, fun qo nqo => ⟨_, _, rfl, ?_⟩⟩⟩
  rw [rgV_nats] at *
  have hlo : ql ≠ qo := ne_of_none upd_same nqo
  have hqo0 : H qo = none := (same_new (o := .lst ((List.range 12).map nI)) nql).free nqo
  have s2 := (same_new (o := .lst ((List.range 12).map nI)) nql).trans (same_new (o := .lst []) nqo)
  have hql : (upd (upd H ql (.lst ((List.range 12).map nI))) qo (.lst [])) ql = some (.lst ((List.range 12).map nI)) := (same_new nqo) _ _ upd_same
  have hqo : (upd (upd H ql (.lst ((List.range 12).map nI))) qo (.lst [])) qo = some (.lst (([] : List Nat).map nI)) := upd_same
  generalize upd (upd H ql (.lst ((List.range 12).map nI))) qo (.lst []) = H2 at *
  refine ⟨12, rfl, by omega, by omega, ?_⟩
  refine for_it walk_nats (fun i σ H3 => ∃ (lv ov : List Nat) (a3 : Option V), σ = [some (nI m), some (.ref ql), some (.ref qo), a3] ∧ Same H H3 ∧ H3 ql = some (.lst (lv.map nI)) ∧ H3 qo = some (.lst (ov.map nI)) ∧ Draw i lv ov) ⟨List.range 12, [], none, rfl, s2, hql, hqo, Draw.start⟩ (fun _ _ _ _ _ => trivial) ?_ ?_
  · rintro i x σ H3 H3' hi ⟨lv, ov, a3, rfl, s3, hl3, ho3, hdr⟩ ⟨rfl, rfl⟩
    have hi12 : i < 12 := hi
    have hll := hdr.ll
    refine ⟨_, rfl, .inl ⟨rfl, _, SqL.of ho3⟩, _, rfl, .inl ⟨rfl, _, SqL.of hl3⟩, _, rfl, _, rfl, 200, i, rfl, rfl, (m : Int), 200 + i, rfl, by omega, fun d _ => ?_⟩
    refine ⟨_, rfl, ql, _, rfl, .inl (SqL.of hl3), d, lv.length, rfl, by rw [List.length_map], by omega, ?_⟩
    have hz : d % lv.length < lv.length := Nat.mod_lt _ (by omega)
    have hzg : lv[d % lv.length]? = some (lv[d % lv.length]) := List.getElem?_eq_getElem hz
    generalize hz' : d % lv.length = z at *
    generalize lv[z] = a at *
    refine ⟨ql, _, (z : Int), z, nI a, rfl, (by show [V.int ((d % lv.length : Nat) : Int)] = _; rw [hz']), hl3, by omega, by omega, seqIx (by rw [List.length_map]; exact hz), by rw [List.getElem?_map, hzg]; rfl, ?_⟩
    have hoo : (upd H3' ql (.lst ((lv.map nI).eraseIdx z))) qo = some (.lst (ov.map nI)) := by rw [upd_ne (Ne.symm hlo)]; exact ho3
    refine ⟨qo, _, _, rfl, rfl, hoo, (by rw [List.length_map, hdr.lo]; exact Nat.lt_of_lt_of_le (show i < 100 by omega) (by decide)), ?_⟩
    refine ⟨lv.eraseIdx z, ov ++ [a], _, rfl, same_put (same_put s3 nql) hqo0, ?_, ?_, hdr.next hzg⟩
    · rw [upd_ne hlo, upd_same, erase_map]
    · rw [upd_same, List.map_append]
      rfl
  · rintro σ H3 ⟨lv, ov, a3, rfl, s3, hl3, ho3, hdr⟩
    refine ⟨_, rfl, qo, _, rfl, SqL.of ho3, fun p ob np hc hd => ?_⟩
    exact q ov p _ hdr.order (s3.trans (same_new np)) ⟨ob, upd_same, hc, hd⟩
end
end Fr
namespace Fr
open PySem PySem.Spec PyProof.Rows L2 LamX
/-! ### promises at right things, and at wrong ones -/
theorem nD_inj {n m : Nat} (h : nD n = nD m) : n = m := by
  have := PyData.int.inj h
  omega
theorem fracD_inj {x y : Nat × Nat} (h : fracD x = fracD y) : x = y := by
  have h1 := PyData.tuple.inj h
  injection h1 with h2 h3
  injection h3 with h4 h5
  have h6 := PyData.int.inj h2
  have h7 := PyData.int.inj h4
  exact Prod.ext (by omega) (by omega)
theorem progD_inj {l l' : Prog} (h : progD l = progD l') : l = l' := (List.map_inj_right fun _ _ => fracD_inj).mp (PyData.list.inj h)
theorem progD_prog {l : Prog} (h : isProg l = true) : isProgD (progD l) = true := by
  show (decide ((l.map fracD).length ≤ 16) && (l.map fracD).all isFracD) = true
  have h1 := isProg_iff.mp h
  rw [List.length_map, decide_eq_true h1.1, Bool.true_and, List.all_map, List.all_eq_true]
  intro p hp
  have h2 := isFrac_iff.mp (h1.2 p hp)
  show (isNumD (nD p.1) && isNumD (nD p.2) && (decide (max (p.1 : Int).toNat (p.2 : Int).toNat ≤ 1000000) && decide (Nat.gcd (p.1 : Int).toNat (p.2 : Int).toNat = 1))) = true
  rw [isNumD_nat, isNumD_nat, h2.1, h2.2.1, Int.toNat_natCast, Int.toNat_natCast, decide_eq_true (by omega), decide_eq_true h2.2.2.2.2]
  rfl
theorem numD_num {n : Nat} (h : isNum n = true) : isNumD (nD n) = true := by rw [isNumD_nat]; exact h
theorem no_yes {b : Bool} (h : b = false) (h' : b = true) : False := by rw [h] at h'; cases h'
section
variable {K : PySem.W.Frag} {H : Hp} {Q : VK} {E : XK} {v u c : V} {l : Prog} {n m : Nat} {d e g : PyData}
end
end Fr
namespace Fr
open PySem PySem.Spec PyProof.Rows L2 LamX
section
variable {K : PySem.W.Frag} {H : Hp} {Q : VK} {E : XK} {v u c : V} {l : Prog} {n m : Nat} {d e g : PyData}
theorem ring_badP (hd : Dp K H v d) (he : Dp K H u e) (hg : Dp K H c g) (hb : isProgD d = false) (q : ∀ H', Same H H' → E (.ref (ga K "BadProgram")) none H') : spRing K [v, u, c] H Q E :=
  ⟨v, u, c, d, e, g, rfl, hd, he, hg, fun _ => q, fun z => (no_yes hb z).elim, fun z => (no_yes hb z).elim, fun l' n' m' el _ _ hP _ _ => by subst el; exact (no_yes hb (progD_prog hP)).elim⟩
theorem ring_badN (hd : Dp K H v (progD l)) (hP : isProg l = true) (he : Dp K H u e) (hg : Dp K H c g) (hb : isNumD e = false) (q : ∀ H', Same H H' → E (.ref (ga K "BadNumber")) none H') : spRing K [v, u, c] H Q E :=
  ⟨v, u, c, progD l, e, g, rfl, hd, he, hg, fun z => (no_yes z (progD_prog hP)).elim, fun _ _ => q, fun _ z => (no_yes hb z).elim, fun l' n' m' _ en _ _ hN _ => by subst en; exact (no_yes hb (numD_num hN)).elim⟩
theorem ring_badC (hd : Dp K H v (progD l)) (hP : isProg l = true) (he : Dp K H u (nD n)) (hN : isNum n = true) (hg : Dp K H c g) (hb : isCountD 0 500 g = false) (q : ∀ H', Same H H' → E (.ref (ga K "BadNumber")) none H') : spRing K [v, u, c] H Q E :=
  ⟨v, u, c, progD l, nD n, g, rfl, hd, he, hg, fun z => (no_yes z (progD_prog hP)).elim, fun _ z => (no_yes z (numD_num hN)).elim, fun _ _ _ => q, fun l' n' m' _ _ em _ _ hm => by subst em; exact (no_yes hb (count_yes hm)).elim⟩
theorem ring_good (hd : Dp K H v (progD l)) (hP : isProg l = true) (he : Dp K H u (nD n)) (hN : isNum n = true) (hg : Dp K H c (nD m)) (hm : m ≤ 500) (q : ∀ r, ringF l m [] n = some r → ∀ x H', Same H H' → Dp K H' x (pairO' r) → Q x H') (q2 : ringF l m [] n = none → ∀ H', Same H H' → E (.ref (ga K "TooGreat")) none H') : spRing K [v, u, c] H Q E :=
  ⟨v, u, c, progD l, nD n, nD m, rfl, hd, he, hg, fun z => (no_yes z (progD_prog hP)).elim, fun _ z => (no_yes z (numD_num hN)).elim, fun _ _ z => (no_yes z (count_yes hm)).elim, fun l' n' m' el en em _ _ _ => by
    obtain rfl := progD_inj el
    obtain rfl := nD_inj en
    obtain rfl := nD_inj em
    exact ⟨q, q2⟩⟩
theorem great_badP (hd : Dp K H v d) (he : Dp K H u e) (hg : Dp K H c g) (hb : isProgD d = false) (q : ∀ H', Same H H' → E (.ref (ga K "BadProgram")) none H') : spGreatest K [v, u, c] H Q E :=
  ⟨v, u, c, d, e, g, rfl, hd, he, hg, fun _ => q, fun z => (no_yes hb z).elim, fun z => (no_yes hb z).elim, fun l' n' m' el _ _ hP _ _ => by subst el; exact (no_yes hb (progD_prog hP)).elim⟩
theorem great_badN (hd : Dp K H v (progD l)) (hP : isProg l = true) (he : Dp K H u e) (hg : Dp K H c g) (hb : isNumD e = false) (q : ∀ H', Same H H' → E (.ref (ga K "BadNumber")) none H') : spGreatest K [v, u, c] H Q E :=
  ⟨v, u, c, progD l, e, g, rfl, hd, he, hg, fun z => (no_yes z (progD_prog hP)).elim, fun _ _ => q, fun _ z => (no_yes hb z).elim, fun l' n' m' _ en _ _ hN _ => by subst en; exact (no_yes hb (numD_num hN)).elim⟩
theorem great_badC (hd : Dp K H v (progD l)) (hP : isProg l = true) (he : Dp K H u (nD n)) (hN : isNum n = true) (hg : Dp K H c g) (hb : isCountD 0 500 g = false) (q : ∀ H', Same H H' → E (.ref (ga K "BadNumber")) none H') : spGreatest K [v, u, c] H Q E :=
  ⟨v, u, c, progD l, nD n, g, rfl, hd, he, hg, fun z => (no_yes z (progD_prog hP)).elim, fun _ z => (no_yes z (numD_num hN)).elim, fun _ _ _ => q, fun l' n' m' _ _ em _ _ hm => by subst em; exact (no_yes hb (count_yes hm)).elim⟩
theorem great_good (hd : Dp K H v (progD l)) (hP : isProg l = true) (he : Dp K H u (nD n)) (hN : isNum n = true) (hg : Dp K H c (nD m)) (hm : m ≤ 500) (q : ∀ r, greatF l m (rooms n) n = some r → ∀ p H', Same H H' → H' p = some (.tup (r.map nI)) → Q (.ref p) H') (q2 : greatF l m (rooms n) n = none → ∀ H', Same H H' → E (.ref (ga K "TooGreat")) none H') : spGreatest K [v, u, c] H Q E :=
  ⟨v, u, c, progD l, nD n, nD m, rfl, hd, he, hg, fun z => (no_yes z (progD_prog hP)).elim, fun _ z => (no_yes z (numD_num hN)).elim, fun _ _ z => (no_yes z (count_yes hm)).elim, fun l' n' m' el en em _ _ _ => by
    obtain rfl := progD_inj el
    obtain rfl := nD_inj en
    obtain rfl := nD_inj em
    exact ⟨q, q2⟩⟩
theorem used_bad (hd : Dp K H v d) (hb : isProgD d = false) (q : ∀ H', Same H H' → E (.ref (ga K "BadProgram")) none H') : spUsed K [v] H Q E :=
  ⟨v, d, rfl, hd, fun _ => q, fun l' el hP => by subst el; exact (no_yes hb (progD_prog hP)).elim⟩
theorem used_good (hd : Dp K H v (progD l)) (hP : isProg l = true) (q : ∀ p H', H p = none → Same H H' → H' p = some (.lst ((usedOf l).map nI)) → Q (.ref p) H') : spUsed K [v] H Q E :=
  ⟨v, progD l, rfl, hd, fun z => (no_yes z (progD_prog hP)).elim, fun l' el _ => by obtain rfl := progD_inj el; exact q⟩
theorem moved_badN (hd : Dp K H v d) (he : Dp K H u e) (hb : isNumD d = false) (q : ∀ H', Same H H' → E (.ref (ga K "BadNumber")) none H') : spMoved K [v, u] H Q E :=
  ⟨v, u, d, e, rfl, hd, he, fun _ => q, fun z => (no_yes hb z).elim, fun n o en _ hN _ => by subst en; exact (no_yes hb (numD_num hN)).elim⟩
theorem moved_badO (hd : Dp K H v (nD n)) (hN : isNum n = true) (he : Dp K H u e) (hb : isOrderD e = false) (q : ∀ H', Same H H' → E (.ref (ga K "BadNumber")) none H') : spMoved K [v, u] H Q E :=
  ⟨v, u, nD n, e, rfl, hd, he, fun z => (no_yes z (numD_num hN)).elim, fun _ _ => q, fun n' o _ eo _ hO => by subst eo; exact (no_yes hb (order_is hO)).elim⟩
theorem moved_good {o : List Nat} (hd : Dp K H v (nD n)) (hN : isNum n = true) (he : Dp K H u (.tuple (o.map nD))) (hO : IsOrder o) (q : ∀ H', Same H H' → Q (nI (mapN o n)) H') : spMoved K [v, u] H Q E :=
  ⟨v, u, nD n, _, rfl, hd, he, fun z => (no_yes z (numD_num hN)).elim, fun _ z => (no_yes z (order_is hO)).elim, fun n' o' en eo _ _ => by
    obtain rfl := nD_inj en
    obtain rfl : o = o' := (List.map_inj_right fun _ _ => nD_inj).mp (PyData.tuple.inj eo)
    exact q⟩
end
end Fr
namespace Fr
open PySem PySem.Spec PyProof.Rows L2 LamX
theorem dps_rep {K : PySem.W.Frag} {H : Hp} {vs : List V} {ds : List PyData} (h : DpAll K H vs ds) : ∀ n, DpAll K H (List.replicate n vs).flatten (List.replicate n ds).flatten
  | 0 => .nil
  | n + 1 => by
    rw [List.replicate_succ, List.replicate_succ, List.flatten_cons, List.flatten_cons]
    exact dps_app h (dps_rep h n)
theorem dp_reps {K : PySem.W.Frag} {H : Hp} {x : Str} (n : Nat) : DpAll K H (List.replicate n [V.str x]).flatten (List.replicate n (PyData.str x)) := by
  induction n with
  | zero => exact .nil
  | succ n ih =>
    rw [List.replicate_succ, List.replicate_succ, List.flatten_cons]
    exact .cons (.str _) ih
theorem nats_of {b : Nat} : ∀ {ds : List PyData}, (∀ (i : Nat) (d : PyData), ds[i]? = some d → ∃ a : Nat, d = nD a ∧ a ≤ b) → ∃ as : List Nat, ds = as.map nD ∧ ∀ a ∈ as, a ≤ b := by
  intro ds
  induction ds with
  | nil => intro _; exact ⟨[], rfl, fun a h => nomatch h⟩
  | cons d ds ih =>
    intro h
    obtain ⟨a, rfl, ha⟩ := h 0 d rfl
    obtain ⟨as, rfl, hb⟩ := ih fun i d e => h (i + 1) d e
    refine ⟨a :: as, rfl, fun x hx => ?_⟩
    rcases List.mem_cons.mp hx with rfl | hx
    · exact ha
    · exact hb x hx
theorem atL {xs : List V} {x : V} (h : xs.getLast? = some x) : atI xs (-1) = some x := by
  obtain ⟨r, rfl⟩ : ∃ r, xs = r ++ [x] := List.getLast?_eq_some_iff.mp h
  have e : ixN (r ++ [x]).length (-1) = some r.length := by
    rw [List.length_append]
    unfold ixN
    rw [if_neg (by decide), if_pos (by show -((r.length + 1 : Nat) : Int) ≤ -1; omega)]
    show some (-1 + ((r.length + 1 : Nat) : Int)).toNat = _
    congr 1
    omega
  unfold atI
  rw [e]
  show (r ++ [x])[r.length]? = some x
  simp
theorem dps_last {K : PySem.W.Frag} {H : Hp} {ds : List PyData} {vs : List V} {d : PyData} (h : DpAll K H vs ds) (hd : ds.getLast? = some d) : ∃ v, vs.getLast? = some v ∧ Dp K H v d := by
  rw [List.getLast?_eq_getElem?] at hd
  obtain ⟨v, hv, hp⟩ := dps_at h hd
  exact ⟨v, by rw [List.getLast?_eq_getElem?, dps_len h]; exact hv, hp⟩
end Fr
namespace Fr
open PySem PySem.Spec PyProof.Rows L2
/-! ### rings by the run -/
def ringD : List Nat → List Nat → Option (Nat × Nat)
  | _, [] => none
  | seen, x :: r => match seen.idxOf? x with
    | some j => some (j, seen.length)
    | none => ringD (seen ++ [x]) r
theorem ring_run {l : Prog} : ∀ (m : Nat) (seen : List Nat) (n : Nat) (r : List Nat), runF l m n = some r → ringF l m seen n = some (ringD seen r)
  | 0, seen, n, r, h => by
    cases h
    unfold ringF ringD
    cases e : seen.idxOf? n with
    | some j => rfl
    | none => cases led l n <;> rfl
  | m + 1, seen, n, r, h => by
    unfold runF at h
    unfold ringF
    cases hl : led l n with
    | none =>
      rw [hl] at h
      cases h
      unfold ringD
      cases e : seen.idxOf? n <;> rfl
    | some x =>
      rw [hl] at h
      dsimp only at h
      split at h
      · cases h
      · rename_i hg
        obtain ⟨r', h', rfl⟩ := Option.map_eq_some_iff.mp h
        show _ = some (ringD seen (n :: r'))
        unfold ringD
        cases e : seen.idxOf? n with
        | some j => rfl
        | none =>
          show (if 400 < maxN (rooms x) then none else ringF l m (seen ++ [n]) x) = _
          rw [if_neg hg]
          exact ring_run m (seen ++ [n]) x r' h'
/-! ### the greatest rooms by the run -/
def topR (r : List Nat) (c : Nat) : Nat := maxN (r.map fun x => rm x c)
theorem maxN_cons (a : Nat) (as : List Nat) : maxN (a :: as) = max a (maxN as) := rfl
theorem maxL_at {best : List Nat} {x c : Nat} (hb : best.length = 12) (hc : c < 12) : (maxL best (rooms x)).getD c 0 = max (best.getD c 0) (rm x c) := by
  unfold maxL rm
  rw [List.getD_eq_getElem?_getD, List.getElem?_zipWith, List.getD_eq_getElem?_getD, List.getD_eq_getElem?_getD, List.getElem?_eq_getElem (by omega), List.getElem?_eq_getElem (by rw [rooms_len]; exact hc)]
  rfl
theorem great_run {l : Prog} : ∀ (m : Nat) (best : List Nat) (n : Nat) (r : List Nat), best.length = 12 → (∀ c, c < 12 → rm n c ≤ best.getD c 0) → runF l m n = some r → ∃ b, greatF l m best n = some b ∧ b.length = 12 ∧ ∀ c, c < 12 → b.getD c 0 = max (best.getD c 0) (topR r c)
  | 0, best, n, r, hb, hle, h => by
    cases h
    refine ⟨best, rfl, hb, fun c hc => ?_⟩
    have := hle c hc
    show _ = max _ (max (rm n c) 0)
    omega
  | m + 1, best, n, r, hb, hle, h => by
    unfold runF at h
    unfold greatF
    cases hl : led l n with
    | none =>
      rw [hl] at h
      cases h
      refine ⟨best, rfl, hb, fun c hc => ?_⟩
      have := hle c hc
      show _ = max _ (max (rm n c) 0)
      omega
    | some x =>
      rw [hl] at h
      dsimp only at h
      split at h
      · cases h
      · rename_i hg
        obtain ⟨r', h', rfl⟩ := Option.map_eq_some_iff.mp h
        show ∃ b, (if 400 < maxN (rooms x) then none else greatF l m (maxL best (rooms x)) x) = some b ∧ _
        rw [if_neg hg]
        obtain ⟨b, e1, e2, e3⟩ := great_run m (maxL best (rooms x)) x r' (maxL_len hb x) (fun c hc => by rw [maxL_at hb hc]; omega) h'
        refine ⟨b, e1, e2, fun c hc => ?_⟩
        rw [e3 c hc, maxL_at hb hc]
        have h1 := hle c hc
        have h2 : rm x c ≤ topR r' c := by
          have : x ∈ r' := by
            cases m with
            | zero => cases h'; simp
            | succ m =>
              unfold runF at h'
              cases hx : led l x with
              | none => rw [hx] at h'; cases h'; simp
              | some y =>
                rw [hx] at h'
                dsimp only at h'
                split at h'
                · cases h'
                · obtain ⟨r2, _, rfl⟩ := Option.map_eq_some_iff.mp h'
                  simp
          exact maxN_le (List.mem_map.mpr ⟨x, this, rfl⟩)
        show _ = max _ (max (rm n c) (topR r' c))
        omega
theorem list12 {b : List Nat} {f : Nat → Nat} (hb : b.length = 12) (h : ∀ c, c < 12 → b.getD c 0 = f c) : b = (List.range 12).map f := by
  refine List.ext_getElem? fun c => ?_
  by_cases hc : c < 12
  · have := h c hc
    rw [List.getD_eq_getElem?_getD, List.getElem?_eq_getElem (by omega)] at this
    rw [List.getElem?_eq_getElem (by omega), List.getElem?_map, List.getElem?_range hc]
    exact congrArg some this
  · rw [List.getElem?_eq_none (by omega), List.getElem?_eq_none (by simp; omega)]
theorem great_top {l : Prog} {m n : Nat} {r : List Nat} (h : runF l m n = some r) : greatF l m (rooms n) n = some ((List.range 12).map (topR r)) := by
  obtain ⟨b, e1, e2, e3⟩ := great_run m (rooms n) n r (rooms_len n) (fun c _ => Nat.le_refl _) h
  rw [e1]
  congr 1
  refine list12 e2 fun c hc => ?_
  rw [e3 c hc]
  have : rm n c ≤ topR r c := by
    have hm : n ∈ r := by
      cases m with
      | zero => cases h; simp
      | succ m =>
        unfold runF at h
        cases hx : led l n with
        | none => rw [hx] at h; cases h; simp
        | some y =>
          rw [hx] at h
          dsimp only at h
          split at h
          · cases h
          · obtain ⟨r2, _, rfl⟩ := Option.map_eq_some_iff.mp h
            simp
    exact maxN_le (List.mem_map.mpr ⟨n, hm, rfl⟩)
  have e : (rooms n).getD c 0 = rm n c := rfl
  omega
/-! ### an order the other way -/
def iAt (o : List Nat) (c : Nat) : Nat := (o.idxOf? c).getD 0
theorem iAt_is {o : List Nat} (h : IsOrder o) {c : Nat} (hc : c < 12) : o.idxOf? c = some (iAt o c) ∧ iAt o c < 12 ∧ oAt o (iAt o c) = c := by
  have hm := h.all hc
  cases e : o.idxOf? c with
  | none =>
    have := List.findIdx?_eq_none_iff.mp (show List.findIdx? (· == c) o = none from e) c hm
    simp at this
  | some j =>
    obtain ⟨h1, h2, _⟩ := List.findIdx?_eq_some_iff_getElem.mp (show List.findIdx? (· == c) o = some j from e)
    have h2 : o[j] = c := by simpa using h2
    have hi : iAt o c = j := by unfold iAt; rw [e]; rfl
    rw [hi]
    refine ⟨rfl, by rw [← h.len]; exact h1, ?_⟩
    have := oAt_get (o := o) (i := j) h1
    rw [List.getElem?_eq_getElem h1, h2] at this
    exact (Option.some.inj this).symm
def invO (o : List Nat) : List Nat := (List.range 12).map (iAt o)
theorem invO_at {o : List Nat} {c : Nat} (hc : c < 12) : oAt (invO o) c = iAt o c := by
  unfold oAt invO
  rw [List.getD_eq_getElem?_getD, List.getElem?_map, List.getElem?_range hc]
  rfl
theorem iAt_inj {o : List Nat} (h : IsOrder o) {c d : Nat} (hc : c < 12) (hd : d < 12) (e : iAt o c = iAt o d) : c = d := by
  have h1 := (iAt_is h hc).2.2
  have h2 := (iAt_is h hd).2.2
  rw [e] at h1
  omega
theorem invO_order {o : List Nat} (h : IsOrder o) : IsOrder (invO o) := by
  refine ⟨by unfold invO; simp, ?_, fun x hx => ?_⟩
  · unfold invO
    rw [List.nodup_iff_pairwise_ne, List.pairwise_map]
    refine List.Pairwise.imp_of_mem (R := (· ≠ ·)) (fun {a b} ha hb hne e => hne (iAt_inj h (List.mem_range.mp ha) (List.mem_range.mp hb) e)) (List.nodup_iff_pairwise_ne.mp List.nodup_range)
  · unfold invO at hx
    obtain ⟨c, hc, rfl⟩ := List.mem_map.mp hx
    exact (iAt_is h (List.mem_range.mp hc)).2.1
theorem map_inv {o : List Nat} (h : IsOrder o) {n : Nat} (hn : Gd n) : mapN (invO o) (mapN o n) = n := by
  refine num_ext (map_pos _ _) hn.1 (map_left _ _) hn.2 ?_
  refine (all_map (invO_order h)).mpr fun i hi => ?_
  rw [map_rm (invO_order h) _ hi, invO_at hi]
  obtain ⟨_, h2, h3⟩ := iAt_is h hi
  have := map_rm h n h2
  rw [h3] at this
  exact this
theorem rm_inv {o : List Nat} (h : IsOrder o) (n : Nat) {c : Nat} (hc : c < 12) : rm (mapN o n) c = rm n (iAt o c) := by
  obtain ⟨_, h2, h3⟩ := iAt_is h hc
  have := map_rm h n h2
  rw [h3] at this
  exact this
theorem top_map {o : List Nat} (h : IsOrder o) (r : List Nat) {c : Nat} (hc : c < 12) : topR (r.map (mapN o)) c = topR r (iAt o c) := by
  unfold topR
  rw [List.map_map]
  congr 1
  refine List.map_congr_left fun x _ => ?_
  exact rm_inv h x hc
theorem prog_map {o : List Nat} (h : IsOrder o) {l : Prog} (hP : isProg l = true) (hb : ∀ p ∈ mapP o l, p.1 ≤ 1000000 ∧ p.2 ≤ 1000000) : isProg (mapP o l) = true := by
  have h1 := isProg_iff.mp hP
  refine isProg_iff.mpr ⟨by rw [mapP_len]; exact h1.1, fun p hp => ?_⟩
  obtain ⟨q, hq, rfl⟩ := List.mem_map.mp hp
  have hq1 := isFrac_iff.mp (h1.2 q hq)
  have hb1 := hb _ hp
  refine isFrac_iff.mpr ⟨map_num h hq1.1, map_num h hq1.2.1, hb1.1, hb1.2, ?_⟩
  refine gcd_rm (map_gd _ _) (map_gd _ _) ((all_map h).mpr fun i hi => ?_)
  show rm (mapN o q.1) (oAt o i) = 0 ∨ rm (mapN o q.2) (oAt o i) = 0
  rw [map_rm h _ hi, map_rm h _ hi]
  have F := frac1 (l := [q]) (i := 0) (isProg_iff.mpr ⟨by simp, fun q' hq' => by rw [List.mem_singleton.mp hq']; exact h1.2 q hq⟩) (by simp)
  exact (F.cop i hi).symm
end Fr
namespace Fr
open PySem PySem.Spec PyProof.Rows L2
section
variable {P : Program} {w : World} {K : PySem.W.Frag} {mg : Str → Option Value} {base : Heap}
/-! ### _law_ring_due -/
def spRingDue (K : PySem.W.Frag) : Sp := fun vs H Q _ => ∃ (a : Addr) (r : List Nat), vs = [.ref a] ∧ SqL K H a (r.map nI) ∧ r.length ≤ 1000 ∧ ∀ x H', Same H H' → Dp K H' x (pairO' (ringD [] r)) → Q x H'
theorem inV_nat (x : Nat) (o : List Nat) : inV (nI x) (o.map nI) = decide (x ∈ o) := by
  unfold inV
  rw [List.any_map]
  induction o with
  | nil => rfl
  | cons a o ih =>
    rw [List.any_cons, ih]
    show (eqV (nI a) (nI x) || _) = _
    rw [eqV_nat]
    by_cases h : a = x
    · subst h
      simp
    · rw [decide_eq_false h, Bool.false_or]
      have : (x ∈ a :: o) ↔ x ∈ o := by
        rw [List.mem_cons]
        exact ⟨fun z => z.resolve_left fun e => h e.symm, .inr⟩
      simp only [this]
theorem ringD_split (r : List Nat) : ∀ i, i ≤ r.length → (∀ j, j < i → ∀ x, r[j]? = some x → x ∉ r.take j) → ringD [] r = ringD (r.take i) (r.drop i)
  | 0, _, _ => by simp
  | i + 1, hi, h => by
    rw [ringD_split r i (by omega) fun j hj => h j (by omega)]
    have hx : r[i]? = some r[i] := List.getElem?_eq_getElem (by omega)
    have hno := h i (by omega) _ hx
    rw [List.drop_eq_getElem_cons (by omega), List.take_succ_eq_append_getElem (by omega)]
    conv => lhs; unfold ringD
    have : (r.take i).idxOf? r[i] = none := by
      show List.findIdx? (· == r[i]) (r.take i) = none
      rw [List.findIdx?_eq_none_iff]
      intro y hy
      have : y ≠ r[i] := fun e => hno (e ▸ hy)
      simpa using this
    rw [this]
theorem ok__law_ring_due (T : Txt K mg) : Cal P w K mg base L2.CX0 1 "_law_ring_due" ["row"] (spRingDue K) := by
  refine Cal.mk0 T.d__law_ring_due T.m__law_ring_due sc__law_ring_due (fun _ _ _ _ _ _ us hl => match us, hl with | [_], _ => rfl) (fun vs H Q E h => ?_) (fun cdv A outer s H vs Q E hr h => ?_)
  · obtain ⟨a, r, rfl, _⟩ := h
    rfl
  obtain ⟨a, r, rfl, hs, hl, q⟩ := h
  refine ⟨_, (pss_cons (ps_for PassesOwn.never rfl (pi_range1 (by rfl) T.b_range (pa_cons (pe_callB (lenS rfl) (by rfl) T.b_len PySem.boot_len (pa_cons (pv 0) pa_nil)) pa_nil)) (pg_name (i := 1) sc__law_ring_due.nd rfl (.inl rfl)) (pss_one (ps_if (pt_cmpR (inS rfl) (pe_ix (ixL rfl) (pv 0) (pv 1) (fun _ _ => rfl)) (pe_slice (slL rfl) (pv 0) po_none (po_some (pv 1))) (by rfl)) (pss_one (ps_ret (pe_tup (pa_cons (bm rfl PySem.F.plainAttrs_list PySem.F.slot_list_index PySem.F.type_list_index mt_index (pv 0) (pa_cons (pe_ix (ixL rfl) (pv 0) (pv 1) (fun _ _ => rfl)) pa_nil)) (pa_cons (pv 1) pa_nil))))) pss_nil)))
      (pss_one (ps_ret pe_non))), ?_⟩
  have hlen : (r.map nI).length = r.length := List.length_map _
  refine ⟨_, rfl, a, _, rfl, .inl hs, ((r.map nI).length : Int), rfl, by omega, by omega, ?_⟩
  have e0 : (((r.map nI).length : Nat) : Int).toNat = r.length := by omega
  rw [e0]
  refine for_it walk_nats (fun i σ H3 => ∃ y1, σ = [some (.ref a), y1] ∧ Same H H3 ∧ ∀ j, j < i → ∀ x, r[j]? = some x → x ∉ r.take j) ⟨none, rfl, Same.refl _, fun j hj => absurd hj (Nat.not_lt_zero _)⟩ (fun _ _ _ _ _ => trivial) ?_ ?_
  · rintro i x σ H3 H4 hi ⟨y1, rfl, s3, hno⟩ ⟨rfl, rfl⟩
    have hx : r[i]? = some r[i] := List.getElem?_eq_getElem hi
    have hxm : (r.map nI)[i]? = some (nI r[i]) := by rw [List.getElem?_map, hx]; rfl
    refine ⟨_, rfl, _, rfl, a, _, (i : Int), _, rfl, rfl, s3.seq hs, atIn hxm, _, rfl, _, rfl, (i : Int), rfl, a, _, rfl, s3.seq hs, fun p np => ?_⟩
    have s4 := same_new (o := .lst (cutV (r.map nI) none (some (i : Int)))) np
    have ec : cutV (r.map nI) none (some (i : Int)) = (r.take i).map nI := by
      unfold cutV
      rw [show HT.sIx (r.map nI).length (r.map nI).length (some (i : Int)) = min i (r.map nI).length from HT.sIx_nat _ _ i, HT.sIx_none, List.drop_zero, Nat.sub_zero, Nat.min_eq_left (by omega), List.map_take]
    rw [ec] at s4 ⊢
    refine ⟨p, _, rfl, .inl (SqL.of upd_same), rfl, flat_nats _, _, rfl, ?_⟩
    have s34 := s3.trans s4
    generalize upd H4 p (.lst ((r.take i).map nI)) = H5 at *
    show if (inV (nI r[i]) ((r.take i).map nI)) = true then _ else _
    rw [inV_nat]
    by_cases hin : r[i] ∈ r.take i
    · rw [decide_eq_true hin]
      refine iteT ?_
      have hsp := ringD_split r i (by omega) hno
      rw [List.drop_eq_getElem_cons (by omega)] at hsp
      have hsp : ringD [] r = (match (r.take i).idxOf? r[i] with | some j => some (j, (r.take i).length) | none => ringD (r.take i ++ [r[i]]) (r.drop (i + 1))) := hsp
      cases e : (r.take i).idxOf? r[i] with
      | none =>
        have := List.findIdx?_eq_none_iff.mp (show List.findIdx? (· == r[i]) (r.take i) = none from e) _ hin
        simp at this
      | some j =>
        rw [e] at hsp
        obtain ⟨h1, h2, h3⟩ := List.findIdx?_eq_some_iff_getElem.mp (show List.findIdx? (· == r[i]) (r.take i) = some j from e)
        have hji : j < i := by rw [List.length_take] at h1; omega
        have h2 : r[j] = r[i] := by simpa using h2
        refine ⟨_, rfl, .inl ⟨rfl, _, s34.seq hs⟩, _, rfl, _, rfl, a, _, (i : Int), _, rfl, rfl, s34.seq hs, atIn hxm, a, _, nI r[i], j, nI r[i], rfl, rfl, s34.seq hs, rfl, flat_nats _, ?_, ?_, ?_, ?_⟩
        · rw [List.getElem?_map, List.getElem?_eq_getElem (by omega), h2]
          rfl
        · rw [eqV_nat]
          simp
        · intro m z hm hz
          rw [List.getElem?_map, List.getElem?_eq_getElem (by omega)] at hz
          cases hz
          rw [eqV_nat, decide_eq_false]
          have := h3 m hm
          simpa using this
        · refine ⟨_, rfl, (by show 2 ≤ sizeLine; decide), fun p6 np6 => ?_⟩
          refine q _ _ (s34.trans (same_new np6)) ?_
          rw [show ringD [] r = some (j, (r.take i).length) from hsp, List.length_take, Nat.min_eq_left (by omega)]
          exact .tup (SqT.of upd_same) (.cons (.int _) (.cons (.int _) .nil))
    · rw [decide_eq_false hin]
      refine iteF ⟨_, rfl, s34, fun j hj x hx' => ?_⟩
      by_cases e : j = i
      · subst e
        rw [hx] at hx'
        cases hx'
        exact hin
      · exact hno j (by omega) x hx'
  · rintro σ H3 ⟨y1, rfl, s3, hno⟩
    refine q _ H3 s3 ?_
    rw [ringD_split r r.length (Nat.le_refl _) hno, List.drop_length]
    exact .non
/-! ### _law_round -/
abbrev rounds : List Prog := [[(3, 2), (2, 3)], [(3, 2), (5, 3), (2, 5)], [(15, 2), (2, 15)], [(3, 2), (4, 3)], [(3, 4), (4, 3)]]
def okR (l : Prog) : Prop := isProg l = true ∧ l.length ≤ 12 ∧ ∀ f ∈ l, f.1 ≤ 100000 ∧ f.2 ≤ 100000 ∧ (∀ r, rm f.1 r ≤ 3) ∧ ∀ r, rm f.2 r ≤ 3
def spRound (K : PySem.W.Frag) : Sp := fun vs H Q _ => ∃ m : Nat, vs = [nI m] ∧ ∀ (l : Prog) (p : Addr) (xs : List V) H', isProg l = true → l.length ≤ 12 → H p = none → Same H H' → H' p = some (.lst xs) → DpAll K H' xs (l.map fracD) → Q (.ref p) H'
theorem rounds_ok : ∀ l ∈ rounds, l.length ≤ 3 ∧ ∀ f ∈ l, isFrac f = true := by decide +kernel
theorem ok__law_round (T : Txt K mg) : Cal P w K mg base L2.CX0 5 "_law_round" ["more"] (spRound K) := by
  have c__law_program := ok__law_program (P := P) (w := w) (base := base) T
  refine Cal.mk0 T.d__law_round T.m__law_round sc__law_round (fun _ _ _ _ _ _ us hl => match us, hl with | [_], _ => rfl) (fun vs H Q E h => ?_) (fun cdv A outer s H vs Q E hr h => ?_)
  · obtain ⟨m, rfl, _⟩ := h
    rfl
  obtain ⟨m, rfl, q⟩ := h
  refine ⟨_, (pss_cons (ps_set (i := 1) sc__law_round.nd rfl (.inl rfl) (pe_op opN_div (pv 0) pe_int))
      (pss_cons (ps_set (i := 2) sc__law_round.nd rfl (.inl rfl) (pe_lst (pa_cons (dl_lstN (K := K) (by decide) (dl_cons (dl_tup (K := K) (by decide) (dl_cons dl_int (dl_cons dl_int dl_nil))) (dl_cons (dl_tup (K := K) (by decide) (dl_cons dl_int (dl_cons dl_int dl_nil))) dl_nil))) (pa_cons (dl_lstN (K := K) (by decide) (dl_cons (dl_tup (K := K) (by decide) (dl_cons dl_int (dl_cons dl_int dl_nil))) (dl_cons (dl_tup (K := K) (by decide) (dl_cons dl_int (dl_cons dl_int dl_nil))) (dl_cons (dl_tup (K := K) (by decide) (dl_cons dl_int (dl_cons dl_int dl_nil))) dl_nil)))) (pa_cons (dl_lstN (K := K) (by decide) (dl_cons (dl_tup (K := K) (by decide) (dl_cons dl_int (dl_cons dl_int dl_nil))) (dl_cons (dl_tup (K := K) (by decide) (dl_cons dl_int (dl_cons dl_int dl_nil))) dl_nil))) (pa_cons (dl_lstN (K := K) (by decide) (dl_cons (dl_tup (K := K) (by decide) (dl_cons dl_int (dl_cons dl_int dl_nil))) (dl_cons (dl_tup (K := K) (by decide) (dl_cons dl_int (dl_cons dl_int dl_nil))) dl_nil))) (pa_cons (dl_lstN (K := K) (by decide) (dl_cons (dl_tup (K := K) (by decide) (dl_cons dl_int (dl_cons dl_int dl_nil))) (dl_cons (dl_tup (K := K) (by decide) (dl_cons dl_int (dl_cons dl_int dl_nil))) dl_nil))) pa_nil)))))))
      (pss_one (ps_ret (pe_op op_cat (pe_ix (ixL rfl) (pv 2) (pe_op opN_mod (pv 1) pe_int) (fun _ _ => rfl)) (pe_op op_rep (pe_cal c__law_program (hr.mono (by decide)) (by rfl) pass0 (pa_cons (pe_op opN_div (pv 1) pe_int) (pa_cons pe_int pa_nil))) (pe_op opN_mod (pv 0) pe_int))))))), ?_⟩
  refine ⟨_, rfl, m, 64, rfl, rfl, ⟨by decide, by decide⟩, ?_⟩
  intro p1 v1 H1 s1 hp1 hA1 p2 v2 H2 s2 hp2 hA2 p3 v3 H3 s3 hp3 hA3 p4 v4 H4 s4 hp4 hA4 p5 v5 H5 s5 hp5 hA5
  refine ⟨(by show 5 ≤ sizeLine; decide), fun pL npL => ?_⟩
  have sL := same_new (o := .lst [.ref p1, .ref p2, .ref p3, .ref p4, .ref p5]) npL
  have hL : (upd H5 pL (.lst [.ref p1, .ref p2, .ref p3, .ref p4, .ref p5])) pL = some (.lst [.ref p1, .ref p2, .ref p3, .ref p4, .ref p5]) := upd_same
  have t4 := s5.trans sL
  have t3 := s4.trans t4
  have t2 := s3.trans t3
  have t1 := s2.trans t2
  have sA := s1.trans t1
  have h5 : m / 64 % 5 < 5 := Nat.mod_lt _ (by decide)
  generalize upd H5 pL (.lst [.ref p1, .ref p2, .ref p3, .ref p4, .ref p5]) = H6 at *
  obtain ⟨pi, vi, li, hget, hpi, hAi, hok⟩ : ∃ pi vi li, [V.ref p1, .ref p2, .ref p3, .ref p4, .ref p5][m / 64 % 5]? = some (.ref pi) ∧ H6 pi = some (.lst vi) ∧ DpAll K H6 vi (li.map fracD) ∧ li ∈ rounds := by
    rcases (show m / 64 % 5 = 0 ∨ m / 64 % 5 = 1 ∨ m / 64 % 5 = 2 ∨ m / 64 % 5 = 3 ∨ m / 64 % 5 = 4 by omega) with e | e | e | e | e <;> rw [e]
    · exact ⟨p1, v1, [(3, 2), (2, 3)], rfl, t1 _ _ hp1, same_dps t1 hA1, by simp⟩
    · exact ⟨p2, v2, [(3, 2), (5, 3), (2, 5)], rfl, t2 _ _ hp2, same_dps t2 hA2, by simp⟩
    · exact ⟨p3, v3, [(15, 2), (2, 15)], rfl, t3 _ _ hp3, same_dps t3 hA3, by simp⟩
    · exact ⟨p4, v4, [(3, 2), (4, 3)], rfl, t4 _ _ hp4, same_dps t4 hA4, by simp⟩
    · exact ⟨p5, v5, [(3, 4), (4, 3)], rfl, sL _ _ hp5, same_dps sL hA5, by simp⟩
  obtain ⟨hl3, hfr⟩ := rounds_ok li hok
  have hvl : vi.length ≤ 3 := by rw [dps_len hAi, List.length_map]; exact hl3
  have hm2 : m % 2 < 2 := Nat.mod_lt _ (by decide)
  refine ⟨_, rfl, _, rfl, m / 64, 5, rfl, rfl, by omega, pL, _, ((m / 64 % 5 : Nat) : Int), .ref pi, rfl, rfl, SqL.of hL, atIn hget, ?_⟩
  refine ⟨_, rfl, m / 64, 8, rfl, rfl, ⟨by decide, by decide⟩, m / 64 / 8, 3, rfl, by decide, by decide, fun l p xs H7 hF hl6 np s7 hp hxs => ?_⟩
  have hxl : xs.length ≤ 6 := by rw [dps_len hxs, List.length_map]; exact hl6
  refine ⟨_, rfl, m, 2, rfl, rfl, by omega, p, ((m % 2 : Nat) : Int), xs, rfl, rfl, hp, by omega, by omega, Nat.le_trans (show xs.length * (((m % 2 : Nat) : Int)).toNat ≤ 6 * 2 from Nat.mul_le_mul hxl (by omega)) (by decide), fun p8 np8 => ?_⟩
  rw [Int.toNat_natCast]
  have s8 := same_new (o := .lst (List.replicate (m % 2) xs).flatten) np8
  have hA8 : DpAll K (upd H7 p8 (.lst (List.replicate (m % 2) xs).flatten)) (List.replicate (m % 2) xs).flatten ((List.replicate (m % 2) l).flatten.map fracD) := by
    have := dps_rep (same_dps s8 hxs) (m % 2)
    rw [List.map_flatten, List.map_replicate]
    exact this
  have hp8 : (upd H7 p8 (.lst (List.replicate (m % 2) xs).flatten)) p8 = some (.lst (List.replicate (m % 2) xs).flatten) := upd_same
  have hl8 : (List.replicate (m % 2) xs).flatten.length ≤ 6 := by
    rw [List.length_flatten, List.map_replicate, List.sum_replicate_nat]
    rcases (show m % 2 = 0 ∨ m % 2 = 1 by omega) with e | e <;> rw [e] <;> omega
  have hlr : (List.replicate (m % 2) l).flatten.length ≤ 6 := by
    rw [List.length_flatten, List.map_replicate, List.sum_replicate_nat]
    rcases (show m % 2 = 0 ∨ m % 2 = 1 by omega) with e | e <;> rw [e] <;> omega
  have hFr : ∀ f ∈ (List.replicate (m % 2) l).flatten, FracN 3 f := fun f hf => by
    obtain ⟨z, hz, hfz⟩ := List.mem_flatten.mp hf
    rw [List.eq_of_mem_replicate hz] at hfz
    exact hF f hfz
  generalize upd H7 p8 (.lst (List.replicate (m % 2) xs).flatten) = H8 at *
  generalize (List.replicate (m % 2) xs).flatten = x8 at *
  generalize (List.replicate (m % 2) l).flatten = l8 at *
  have s68 := s7.trans s8
  refine ⟨pi, p8, vi, x8, rfl, rfl, s68 _ _ hpi, hp8, Nat.le_trans (show vi.length + x8.length ≤ 9 by omega) (by decide), fun p9 np9 => ?_⟩
  have s9 := same_new (o := .lst (vi ++ x8)) np9
  have s19 := (sA.trans s68).trans s9
  refine q (li ++ l8) p9 (vi ++ x8) _ ?_ ?_ ((sA.trans s68).free np9) s19 upd_same ?_
  · refine isProg_iff.mpr ⟨by rw [List.length_append]; omega, fun f hf => ?_⟩
    rcases List.mem_append.mp hf with h | h
    · exact hfr f h
    · exact (hFr f h).frac
  · rw [List.length_append]; omega
  · rw [List.map_append]
    exact dps_app (same_dps (s68.trans s9) hAi) (same_dps s9 hA8)
end
end Fr
namespace Fr
open PySem PySem.Spec PyProof.Rows L2 LamX
/-- a comprehension whose items are new lists of numbers -/
theorem lc_lists {J : It} {n : Nat} {G : Hp → Prop} {Y : Nat → Hp → V → Hp → Prop} (w : Walk J n G Y) {g : TG} {tt : TT} {te : TE} {vs : List Nat} {σ : L2.St} {H1 : Hp} {D : Addr} {Qd : Hp → Prop}
    (hD : H1 D = none) (hn : n ≤ 100000) (hG : ∀ H', Same H1 H' → G H') (F : Nat → List Nat)
    (hs : ∀ i x H' H'' (A : V → Hp → Prop) (B : Hp → Prop), i < n → Same H1 H' → Y i H' x H'' → (∀ p H4, Same H' H4 → H' p = none → H4 p = some (.lst ((F i).map nI)) → A (.ref p) H4) →
      g x (wipe σ vs) H'' fun σ2 H2 => wipe σ2 vs = wipe σ vs ∧ tt σ2 H2 fun b H3 => if b = true then te σ2 H3 A else B H3)
    (hd : ∀ H' (ps : List Addr), Same H1 H' → H' D = some (.lst (ps.map V.ref)) → ps.length = n → (∀ j p, ps[j]? = some p → H' p = some (.lst ((F j).map nI))) → Qd H') :
    ∃ W : Nat → Nat → Hp → Prop, (∃ m, W 0 m (upd H1 D (.lst []))) ∧ ∀ i m H, W i m H →
      (J.stop i H ∧ Qd H) ∨ (J.go i H ∧ ∃ Nx : Hp → Prop, (∀ H', Nx H' → ∃ m', m' < m ∧ W (i + 1) m' H') ∧ ∀ x H', J.yld i H x H' → g x (wipe σ vs) H' fun σ2 H2 => wipe σ2 vs = wipe σ vs ∧ tt σ2 H2 fun b H3 =>
        if b = true then te σ2 H3 fun y H4 => ∃ acc, H4 D = some (.lst acc) ∧ acc.length < sizeLine ∧ Nx (upd H4 D (.lst (acc ++ [y]))) else Nx H3) := by
  refine lc_it w (fun i H' => Same H1 H' ∧ i ≤ n ∧ ∃ ps : List Addr, H' D = some (.lst (ps.map V.ref)) ∧ ps.length = i ∧ ∀ j p, ps[j]? = some p → p ≠ D ∧ H' p = some (.lst ((F j).map nI))) ⟨same_new hD, Nat.zero_le _, [], upd_same, rfl, fun j p h => by simp at h⟩ (fun i H' _ p => hG H' p.1) (fun i x H' H'' hi p hY => ?_) (fun H' p => ?_)
  · obtain ⟨sm, hin, ps, hy, hl, hA⟩ := p
    refine hs i x H' H'' _ _ hi sm hY (fun y H4 s4 ny hy4 => ?_)
    have hyD : y ≠ D := fun e => by rw [e, hy] at ny; cases ny
    refine ⟨ps.map V.ref, s4 _ _ hy, ?_, same_put (sm.trans s4) hD, by omega, ps ++ [y], ?_, by rw [List.length_append, hl]; rfl, ?_⟩
    · rw [List.length_map, hl]
      exact Nat.lt_of_lt_of_le (show i < 100000 by omega) (by decide)
    · rw [upd_same, List.map_append]
      rfl
    · intro j p hj
      by_cases e : j < ps.length
      · rw [List.getElem?_append_left e] at hj
        obtain ⟨h1, h2⟩ := hA j p hj
        exact ⟨h1, by rw [upd_ne h1]; exact s4 _ _ h2⟩
      · rw [List.getElem?_append_right (by omega)] at hj
        have e0 : j = i := by
          rcases Nat.lt_or_ge (j - ps.length) 1 with z | z
          · omega
          · rw [List.getElem?_eq_none (by simpa using z)] at hj; cases hj
        subst e0
        rw [hl, Nat.sub_self] at hj
        cases hj
        exact ⟨hyD, by rw [upd_ne hyD]; exact hy4⟩
  · obtain ⟨sm, _, ps, hy, hl, hA⟩ := p
    exact hd H' ps sm hy hl fun j p hj => (hA j p hj).2
section
variable {P : Program} {w : World} {K : PySem.W.Frag} {mg : Str → Option Value} {base : Heap}
abbrev S80 (sc : Addr) (k more : Nat) (a3 a4 a5 a6 a7 a8 a9 a10 a11 a12 a13 a14 a15 a16 a17 a18 a19 : Option V) : L2.St := [some (.ref sc), some (nI k), some (nI more), a3, a4, a5, a6, a7, a8, a9, a10, a11, a12, a13, a14, a15, a16, a17, a18, a19]
def spLaw (K : PySem.W.Frag) : Sp := fun vs H Q _ => ∃ (a : Addr) (ns : List Int), vs = [.ref a] ∧ SqL K H a (ns.map V.int) ∧ ns.length ≤ 63 ∧ Tabs (Tb K lams) H ∧ ∀ H', Q (.bl true) H'
theorem shp_pair' {k : Nat} (o : Option (Nat × Nat)) : Shp (k + 1) (pairO' o) := by
  cases o with
  | none => exact .non
  | some p => exact .tup (.cons .int (.cons .int .nil))
theorem rm_get (n c : Nat) (hc : c < 12) : ((rooms n).map nI)[c]? = some (nI (rm n c)) := by
  rw [List.getElem?_map, rooms_at' n c hc]
  rfl
theorem gath_all {G : Nat → PyData} {n : Nat} : gath (fun i => some (G i)) n = (List.range n).map G := gath_some fun _ _ => rfl
theorem ok_law (T : Txt K mg) (hB : TabX K mg base lams) : Cal P w K mg base L2.CX0 12 "law" ["script"] (spLaw K) := by
  have c__law_cell := ok__law_cell (P := P) (w := w) (base := base) T
  have c__law_drawn := ok__law_drawn (P := P) (w := w) (base := base) T
  have c__law_program := ok__law_program (P := P) (w := w) (base := base) T
  have c__law_some := ok__law_some (P := P) (w := w) (base := base) T
  have c__law_run := ok__law_run (P := P) (w := w) (base := base) T
  have c__law_rooms := ok__law_rooms (P := P) (w := w) (base := base) T
  have c__law_round := ok__law_round (P := P) (w := w) (base := base) T
  have c__law_order := ok__law_order (P := P) (w := w) (base := base) T
  have c__law_ring_due := ok__law_ring_due (P := P) (w := w) (base := base) T
  have c_ring := ok_ring (P := P) (w := w) (base := base) T
  have c_greatest_rooms := ok_greatest_rooms (P := P) (w := w) (base := base) T
  have c_used_rooms := ok_used_rooms (P := P) (w := w) (base := base) T
  have c_moved := ok_moved (P := P) (w := w) (base := base) T
  refine Cal.mkT T.d_law T.m_law sc_law (fun _ _ _ _ _ _ us hl => match us, hl with | [_], _ => rfl) (fun vs H Q E h => ?_) (fun A outer s H vs Q E hr h => ?_)
  · obtain ⟨a, ns, rfl, _⟩ := h
    rfl
  obtain ⟨sc, ns, rfl, hS, hlen, hTb, q⟩ := h
  refine ⟨_, (pss_cons (ps_for PassesOwn.never rfl (pi_range1 (by rfl) T.b_range (pa_cons (pe_callB (max2N rfl) (by rfl) T.b_max boot_max (pa_cons pe_int (pa_cons (pe_callB (min2N rfl) (by rfl) T.b_min boot_min (pa_cons pe_int (pa_cons (pe_callB (lenS rfl) (by rfl) T.b_len PySem.boot_len (pa_cons (pv 0) pa_nil)) pa_nil))) pa_nil))) pa_nil)) (pg_name (i := 1) sc_law.nd rfl (.inl rfl)) (pss_cons (ps_set (i := 2) sc_law.nd rfl (.inl rfl) (pe_cal c__law_drawn (hr.mono (by decide)) (by rfl) pass0 (pa_cons (pe_cal c__law_cell (hr.mono (by decide)) (by rfl) pass0 (pa_cons (pv 0) (pa_cons (pv 1) pa_nil))) (pa_cons (pv 1) pa_nil))))
      (pss_one (ps_for PassesOwn.never rfl (pi_range1 (by rfl) T.b_range (pa_cons pe_int pa_nil)) (pg_name (i := 3) sc_law.nd rfl (.inl rfl)) (pss_cons (ps_set (i := 4) sc_law.nd rfl (.inl rfl) (pe_cal c__law_drawn (hr.mono (by decide)) (by rfl) pass0 (pa_cons (pv 2) (pa_cons (pe_op opN_add pe_int (pv 3)) pa_nil))))
      (C8.pss_cut (ps_set (i := 5) sc_law.nd rfl (.inr rfl) (pe_ifExp (pt_cmpR opN_eq (pe_op opN_mod (pv 4) pe_int) pe_int (nomark _)) (pe_cal c__law_round (hr.mono (by decide)) (by rfl) pass0 (pa_cons (pv 4) pa_nil)) (pe_cal c__law_program (hr.mono (by decide)) (by rfl) pass0 (pa_cons (pe_op opN_div (pv 4) pe_int) (pa_cons (pe_op opN_add pe_int (pe_op opN_mod (pe_op opN_div (pv 4) (pe_op opN_pow pe_int pe_int)) pe_int)) pa_nil)))))
      (C8.pss_cut (ps_asg (pe_tup (pa_cons (pe_cal c__law_some (hr.mono (by decide)) (by rfl) pass0 (pa_cons (pe_op opN_div (pv 4) pe_int) (pa_cons pe_int (pa_cons pe_int pa_nil)))) (pa_cons (pe_op opN_mod (pe_op opN_div (pv 4) (pe_op opN_pow pe_int pe_int)) pe_int) pa_nil))) (pgT (n := 2) rfl rfl (pgs_cons (pg_name (i := 6) sc_law.nd rfl (.inr rfl)) (pgs_cons (pg_name (i := 7) sc_law.nd rfl (.inr rfl)) pgs_nil))))
      (pss_cons (ps_set (i := 8) sc_law.nd rfl (.inl rfl) (pe_ix (ixT rfl) (pe_cal c__law_run (hr.mono (by decide)) (by rfl) pass0 (pa_cons (pv 5) (pa_cons (pv 6) (pa_cons (pv 7) pa_nil)))) pe_int (fun _ _ => rfl)))
      (pss_cons (ps_if (pt_cmpR op_isN (pv 8) pe_non (nomark _)) (pss_one ps_continue) pss_nil)
      (pss_cons (ps_if (pt_cmpR (neS rfl hr.units) (told (x := "law") (k := 9) T (by simp) hB rfl rfl (by rfl) (hr.mono (by decide)) (lamS_by (sc := defScope s_law) (by decide +kernel)) rfl (fun _ _ _ _ _ => rfl) (fun A outer s H E f c' hr => (pe_cal c_ring (hr.mono (by decide)) (by rfl) (L2N.passes_call (L2N.takes_of rfl rfl rfl rfl) (fun _ _ _ _ h => h)) (pa_cons (pv 5) (pa_cons (pv 6) (pa_cons (pv 7) pa_nil)))))) (pe_cal c__law_ring_due (hr.mono (by decide)) (by rfl) pass0 (pa_cons (pv 8) pa_nil)) (nomark _)) (pss_one (ps_ret pe_bl)) pss_nil)
      (pss_cons (ps_set (i := 9) sc_law.nd rfl (.inr rfl) (pe_lc (own := [("one", 15)]) rfl sc_law.nd (piL rfl (pv 8)) (blkOk_by (own := [("one", 15)]) (N := ["script", "k", "more", "j", "here", "program", "number", "most", "row", "rooms", "due", "order", "gone", "used", "wide", "one", "room", "top", "under", "own"]) (sc := defScope s_law) (by decide +kernel)) (fun _ _ _ _ _ => (pg_name (i := 15) sc_law.nd rfl (.inl rfl))) (fun _ _ _ _ _ => pts_nil) (fun _ _ _ _ _ => (pe_cal c__law_rooms (hr.mono (by decide)) (by rfl) pass0 (pa_cons (pv 15) pa_nil)))))
      (pss_cons (ps_set (i := 10) sc_law.nd rfl (.inr rfl) (pe_callTy (tupleOf rfl) (by rfl) T.b_tuple boot_tuple (pa_cons (pe_lc (own := [("room", 16)]) rfl sc_law.nd (pi_range1 (by rfl) T.b_range (pa_cons pe_int pa_nil)) (blkOk_by (own := [("room", 16)]) (N := ["script", "k", "more", "j", "here", "program", "number", "most", "row", "rooms", "due", "order", "gone", "used", "wide", "one", "room", "top", "under", "own"]) (sc := defScope s_law) (by decide +kernel)) (fun _ _ _ _ _ => (pg_name (i := 16) sc_law.nd rfl (.inr rfl))) (fun _ _ _ _ _ => pts_nil) (fun _ _ _ _ _ => (pe_callB (crMax rfl rfl) (by rfl) T.b_max boot_max (pa_cons (pe_lc (own := [("own", 19)]) rfl sc_law.nd (piL rfl (pv 9)) (blkOk_by (own := [("own", 19)]) (by kernel_rfl)) (fun _ _ _ _ _ => (pg_name (i := 19) sc_law.nd rfl (.inl rfl))) (fun _ _ _ _ _ => pts_nil) (fun _ _ _ _ _ => (pe_ix (ixL rfl) (pv 19) (pv 16) (fun _ _ => rfl)))) pa_nil)))) pa_nil)))
      (pss_cons (ps_if (pt_cmpR (neS rfl hr.units) (told (x := "law") (k := 9) T (by simp) hB rfl rfl (by rfl) (hr.mono (by decide)) (lamS_by (sc := defScope s_law) (by decide +kernel)) rfl (fun _ _ _ _ _ => rfl) (fun A outer s H E f c' hr => (pe_cal c_greatest_rooms (hr.mono (by decide)) (by rfl) (L2N.passes_call (L2N.takes_of rfl rfl rfl rfl) (fun _ _ _ _ h => h)) (pa_cons (pv 5) (pa_cons (pv 6) (pa_cons (pv 7) pa_nil)))))) (pv 10) (nomark _)) (pss_one (ps_ret pe_bl)) pss_nil)
      (pss_cons (ps_set (i := 11) sc_law.nd rfl (.inr rfl) (pe_cal c__law_order (hr.mono (by decide)) (by rfl) pass0 (pa_cons (pv 4) pa_nil)))
      (pss_cons (ps_set (i := 12) sc_law.nd rfl (.inr rfl) (pe_cal c_moved (hr.mono (by decide)) (by rfl) passN (pa_cons (pv 6) (pa_cons (pv 11) pa_nil))))
      (pss_cons (ps_if (pt_cmpR (neS rfl hr.units) (pe_lc (own := [("room", 16)]) rfl sc_law.nd (pi_range1 (by rfl) T.b_range (pa_cons pe_int pa_nil)) (blkOk_by (own := [("room", 16)]) (N := ["script", "k", "more", "j", "here", "program", "number", "most", "row", "rooms", "due", "order", "gone", "used", "wide", "one", "room", "top", "under", "own"]) (sc := defScope s_law) (by decide +kernel)) (fun _ _ _ _ _ => (pg_name (i := 16) sc_law.nd rfl (.inl rfl))) (fun _ _ _ _ _ => pts_nil) (fun _ _ _ _ _ => (pe_ix (ixL rfl) (pe_cal c__law_rooms (hr.mono (by decide)) (by rfl) pass0 (pa_cons (pv 12) pa_nil)) (pe_ix (ixT rfl) (pv 11) (pv 16) (fun _ _ => rfl)) (fun _ _ => rfl)))) (pe_cal c__law_rooms (hr.mono (by decide)) (by rfl) pass0 (pa_cons (pv 6) pa_nil)) (nomark _)) (pss_one (ps_ret pe_bl)) pss_nil)
      (pss_cons (ps_if (pt_cmpR opN_ne (pe_cal c_moved (hr.mono (by decide)) (by rfl) passN (pa_cons (pv 12) (pa_cons (pe_callTy (tupleOf rfl) (by rfl) T.b_tuple boot_tuple (pa_cons (pe_lc (own := [("room", 16)]) rfl sc_law.nd (pi_range1 (by rfl) T.b_range (pa_cons pe_int pa_nil)) (blkOk_by (own := [("room", 16)]) (N := ["script", "k", "more", "j", "here", "program", "number", "most", "row", "rooms", "due", "order", "gone", "used", "wide", "one", "room", "top", "under", "own"]) (sc := defScope s_law) (by decide +kernel)) (fun _ _ _ _ _ => (pg_name (i := 16) sc_law.nd rfl (.inl rfl))) (fun _ _ _ _ _ => pts_nil) (fun _ _ _ _ _ => (pe_bmF PySem.F.plainAttrs_tuple PySem.F.slot_tuple_index PySem.F.type_tuple_index (mt_ixT rfl) (pv 11) (pa_cons (pv 16) pa_nil)))) pa_nil)) pa_nil))) (pv 6) (nomark _)) (pss_one (ps_ret pe_bl)) pss_nil)
      (pss_cons (ps_setLc (i := 13) (own := [("room", 16)]) rfl sc_law.nd rfl rfl (sw_true rfl rfl rfl (by decide +kernel)) (pi_range1 (by rfl) T.b_range (pa_cons pe_int pa_nil)) (blkOk_by (own := [("room", 16)]) (N := ["script", "k", "more", "j", "here", "program", "number", "most", "row", "rooms", "due", "order", "gone", "used", "wide", "one", "room", "top", "under", "own"]) (sc := defScope s_law) (by decide +kernel)) (fun _ _ _ _ _ => (pg_name (i := 16) sc_law.nd rfl (.inr rfl))) (fun _ _ _ _ _ => (pts_one (pt_cmpR (neE rfl hr.units) (pe_lc (own := [("one", 15)]) rfl sc_law.nd (piL rfl (pv 5)) (blkOk_by (own := [("one", 15)]) (by kernel_rfl)) (fun _ _ _ _ _ => (pg_name (i := 15) sc_law.nd rfl (.inl rfl))) (fun _ _ _ _ _ => (pts_one (pt_cmpR opN_gt (pe_ix (ixL rfl) (pe_cal c__law_rooms (hr.mono (by decide)) (by rfl) pass0 (pa_cons (pe_op opN_mul (pe_ix (ixT rfl) (pv 15) pe_int (fun _ _ => rfl)) (pe_ix (ixT rfl) (pv 15) pe_int (fun _ _ => rfl))) pa_nil)) (pv 16) (fun _ _ => rfl)) pe_int (nomark _)))) (fun _ _ _ _ _ => pe_int)) (pe_lst pa_nil) (nomark _)))) (fun _ _ _ _ _ => (pv 16)))
      (pss_cons (ps_if (pt_cmpR (neS rfl hr.units) (pe_cal c_used_rooms (hr.mono (by decide)) (by rfl) passN (pa_cons (pv 5) pa_nil)) (pv 13) (nomark _)) (pss_one (ps_ret pe_bl)) pss_nil)
      (pss_cons (ps_set (i := 10) sc_law.nd rfl (.inr rfl) (pe_callTy (tupleOf rfl) (by rfl) T.b_tuple boot_tuple (pa_cons (pe_lc (own := [("room", 16)]) rfl sc_law.nd (pi_range1 (by rfl) T.b_range (pa_cons pe_int pa_nil)) (blkOk_by (own := [("room", 16)]) (N := ["script", "k", "more", "j", "here", "program", "number", "most", "row", "rooms", "due", "order", "gone", "used", "wide", "one", "room", "top", "under", "own"]) (sc := defScope s_law) (by decide +kernel)) (fun _ _ _ _ _ => (pg_name (i := 16) sc_law.nd rfl (.inl rfl))) (fun _ _ _ _ _ => pts_nil) (fun _ _ _ _ _ => (pe_ix (ixT rfl) (pv 10) (pe_bmF PySem.F.plainAttrs_tuple PySem.F.slot_tuple_index PySem.F.type_tuple_index (mt_ixT rfl) (pv 11) (pa_cons (pv 16) pa_nil)) (fun _ _ => rfl)))) pa_nil)))
      (pss_cons (ps_setLc (i := 14) (own := [("top", 17), ("under", 18)]) rfl sc_law.nd rfl rfl (sw_true rfl rfl rfl (by decide +kernel)) (piL rfl (pv 5)) (blkOk_by (own := [("top", 17), ("under", 18)]) (N := ["script", "k", "more", "j", "here", "program", "number", "most", "row", "rooms", "due", "order", "gone", "used", "wide", "one", "room", "top", "under", "own"]) (sc := defScope s_law) (by decide +kernel)) (fun _ _ _ _ _ => (pgT (n := 2) rfl rfl (pgs_cons (pg_name (i := 17) sc_law.nd rfl (.inl rfl)) (pgs_cons (pg_name (i := 18) sc_law.nd rfl (.inl rfl)) pgs_nil)))) (fun _ _ _ _ _ => pts_nil) (fun _ _ _ _ _ => (pe_tup (pa_cons (pe_cal c_moved (hr.mono (by decide)) (by rfl) passN (pa_cons (pv 17) (pa_cons (pv 11) pa_nil))) (pa_cons (pe_cal c_moved (hr.mono (by decide)) (by rfl) passN (pa_cons (pv 18) (pa_cons (pv 11) pa_nil))) pa_nil)))))
      (pss_one (ps_if (PW.pt (pw_and (pt_cmpR opN_lt (pe_callB (crMax rfl rfl) (by rfl) T.b_max boot_max (pa_cons (pe_op op_cat (pe_lc (own := [("one", 15)]) rfl sc_law.nd (piL rfl (pv 14)) (blkOk_by (own := [("one", 15)]) (N := ["script", "k", "more", "j", "here", "program", "number", "most", "row", "rooms", "due", "order", "gone", "used", "wide", "one", "room", "top", "under", "own"]) (sc := defScope s_law) (by decide +kernel)) (fun _ _ _ _ _ => (pg_name (i := 15) sc_law.nd rfl (.inl rfl))) (fun _ _ _ _ _ => pts_nil) (fun _ _ _ _ _ => (pe_callB (crMaxT rfl rfl (hu_of hr)) (by rfl) T.b_max boot_max (pa_cons (pv 15) pa_nil)))) (pe_lst (pa_cons pe_int pa_nil))) pa_nil)) pe_int (nomark _)) (pw_and1 (pt_cmpR (neS rfl hr.units) (pe_cal c_greatest_rooms (hr.mono (by decide)) (by rfl) passN (pa_cons (pv 14) (pa_cons (pv 12) (pa_cons (pv 7) pa_nil)))) (pv 10) (nomark _))))) (pss_one (ps_ret pe_bl)) pss_nil)))))))))))))))))))))))
      (pss_one (ps_ret pe_bl))), ?_⟩
  refine ⟨_, rfl, sc, _, rfl, .inl hS, 3, _, rfl, 1, _, rfl, _, rfl, by omega, by omega, ?_⟩
  generalize hT : ((max 1 (min 3 (ns.map V.int).length) : Nat) : Int).toNat = turns
  have hturn : turns ≤ 3 := by omega
  refine for_it walk_nats (fun i σ H3 => (∃ r, σ = some (.ref sc) :: r ∧ r.length = 19) ∧ Stp (Tb K lams) H H3) ⟨⟨_, rfl, rfl⟩, Stp.refl hTb⟩ (fun _ _ _ _ _ => trivial) ?_ (fun σ H3 _ => q H3)
  rintro k x σ H0 H4 hk ⟨⟨r, rfl, hrl⟩, st0⟩ ⟨rfl, rfl⟩
  obtain ⟨y1, y2, y3, y4, y5, y6, y7, y8, y9, y10, y11, y12, y13, y14, y15, y16, y17, y18, y19, rfl⟩ : ∃ y1 y2 y3 y4 y5 y6 y7 y8 y9 y10 y11 y12 y13 y14 y15 y16 y17 y18 y19, r = [y1, y2, y3, y4, y5, y6, y7, y8, y9, y10, y11, y12, y13, y14, y15, y16, y17, y18, y19] := by
    match r, hrl with
    | [y1, y2, y3, y4, y5, y6, y7, y8, y9, y10, y11, y12, y13, y14, y15, y16, y17, y18, y19], _ => exact ⟨_, _, _, _, _, _, _, _, _, _, _, _, _, _, _, _, _, _, _, rfl⟩
  refine ⟨_, rfl, _, rfl, sc, k, ns, rfl, ext_l st0.e hS, hlen, by omega, fun c H1 s1 => ⟨_, rfl, c, k, rfl, by omega, fun more _ => ?_⟩⟩
  have st1 := st0.same s1
  refine ⟨4, rfl, by omega, by omega, ?_⟩
  refine for_it walk_nats (fun i σ H2 => ∃ a3 a4 a5 a6 a7 a8 a9 a10 a11 a12 a13 a14 a15 a16 a17 a18 a19, σ = S80 sc k more a3 a4 a5 a6 a7 a8 a9 a10 a11 a12 a13 a14 a15 a16 a17 a18 a19 ∧ Stp (Tb K lams) H H2) ⟨_, _, _, _, _, _, _, _, _, _, _, _, _, _, _, _, _, rfl, st1⟩ (fun _ _ _ _ _ => trivial) ?_ ?_
  rotate_left
  · rintro σ H2 ⟨a3, a4, a5, a6, a7, a8, a9, a10, a11, a12, a13, a14, a15, a16, a17, a18, a19, rfl, st2⟩
    exact ⟨⟨_, rfl, rfl⟩, st2⟩
  rintro j x σ H2 H2' hj ⟨a3, a4, a5, a6, a7, a8, a9, a10, a11, a12, a13, a14, a15, a16, a17, a18, a19, rfl, st2⟩ ⟨rfl, rfl⟩
  have hj4 : j < 4 := hj
  clear st1 st0
  refine ⟨_, rfl, _, rfl, 10, j, rfl, rfl, (more : Int), 10 + j, rfl, by omega, fun here _ => ?_⟩
  have h20 : ((2 : Nat) ^ 20).log2 < 9000 := Nat.lt_trans (pow_small (by decide)) (by decide)
  have h30 : ((2 : Nat) ^ 30).log2 < 9000 := Nat.lt_trans (pow_small (by decide)) (by decide)
  -- the program
  refine ⟨fun σ H6 => ∃ (p : Addr) (l : Prog), σ = S80 sc k more (some (nI j)) (some (nI here)) (some (.ref p)) a6 a7 a8 a9 a10 a11 a12 a13 a14 a15 a16 a17 a18 a19 ∧ Stp (Tb K lams) H H6 ∧ Dp K H6 (.ref p) (progD l) ∧ isProg l = true, ?_, ?_⟩
  · refine ⟨_, rfl, here, 2, rfl, rfl, by omega, _, 0, rfl, rfl, _, rfl, ite2 (fun _ => ?_) (fun _ => ?_)⟩
    · exact ⟨_, rfl, here, rfl, fun l p xs H6 hP _ _ s6 hp hxs => ⟨p, l, rfl, st2.same s6, .lst (SqL.of hp) hxs, hP⟩⟩
    · have hm3 : here / 2 ^ 20 % 3 < 3 := Nat.mod_lt _ (by decide)
      exact ⟨_, rfl, here, 4, rfl, rfl, ⟨by decide, by decide⟩, _, rfl, 2, 20, rfl, rfl, ⟨by decide, by decide⟩, here, 2 ^ 20, rfl, rfl, ⟨by decide, h20⟩, _, 3, rfl, rfl, by omega, 2, _, rfl, rfl, here / 4, 2 + here / 2 ^ 20 % 3, rfl, by omega, by omega, fun l p xs H5 hF hl6 _ s5 hp hxs => ⟨p, l, rfl, st2.same s5, .lst (SqL.of hp) hxs, fracs_prog hF (by omega)⟩⟩
  clear st2
  rintro σ H6 ⟨p, l, rfl, st6, hdp, hP⟩
  -- the number, and how many
  refine ⟨fun σ H7 => ∃ (n m : Nat), σ = S80 sc k more (some (nI j)) (some (nI here)) (some (.ref p)) (some (nI n)) (some (nI m)) a8 a9 a10 a11 a12 a13 a14 a15 a16 a17 a18 a19 ∧ Same H6 H7 ∧ isNum n = true ∧ m ≤ 40, ?_, ?_⟩
  · refine ⟨_, rfl, here, 64, rfl, rfl, ⟨by decide, by decide⟩, here / 64, 4, 9, rfl, by decide, by decide, by decide, fun n H7 hn s7 => ?_⟩
    refine ⟨_, rfl, 2, 30, rfl, rfl, ⟨by decide, by decide⟩, here, 2 ^ 30, rfl, rfl, ⟨by decide, h30⟩, _, 41, rfl, rfl, by omega, (by show 2 ≤ sizeLine; decide), fun t nt => ⟨t, _, rfl, SqT.of upd_same, rfl, _, _, rfl, _, _, rfl, rfl, n, here / 2 ^ 30 % 41, rfl, s7.trans (same_new nt), hn.num (by decide), ?_⟩⟩
    have := Nat.mod_lt (here / 2 ^ 30) (show 0 < 41 by decide)
    omega
  rintro σ H7 ⟨n, m, rfl, s7, hN, hm⟩
  have st7 := st6.same s7
  have hdp := same_dp s7 hdp
  clear st6
  have hGd := Gd.of hN
  -- the row
  refine ⟨_, rfl, _, rfl, _, rfl, .ref p, l, n, m, rfl, hdp, hP, hN, by omega, fun r hr t a b H8 s8 _ _ _ ht ha hb => ⟨t, _, 0, _, rfl, rfl, SqT.of ht, atI0, ?_⟩, fun hr t b H8 s8 _ ht hb => ⟨t, _, 0, _, rfl, rfl, SqT.of ht, atI0, ?_⟩⟩
  rotate_left
  · exact ⟨_, rfl, rfl, _, rfl, iteT ⟨_, _, _, _, _, _, _, _, _, _, _, _, _, _, _, _, _, rfl, st7.same s8⟩⟩
  refine ⟨_, rfl, rfl, _, rfl, iteF ?_⟩
  obtain ⟨hne, hrl, hnum⟩ := runF_num hP m n r hN hr
  have hr0 : 0 < r.length := List.length_pos_iff.mpr hne
  have hdp := same_dp s8 hdp
  have st8 := st7.same s8
  clear st7 hb ht
  have hrm : (r.map nI).length = r.length := List.length_map _
  -- the ring
  refine ⟨st8.t, fun H9 e9 t9 => ⟨_, rfl, _, rfl, _, rfl, ?_⟩⟩
  have st9 := st8.told e9 t9
  have hdp := ext_dp e9 hdp
  have ha := ext_lst e9 ha
  clear st8
  dsimp only [tCons, tC, tNil]
  have hring := ring_run m [] n r hr
  refine ring_good hdp hP (.int _) hN (.int _) (by omega) (fun r' hr' x H10 s10 hx => ?_) (fun z => by rw [hring] at z; cases z)
  rw [hring] at hr'
  cases hr'
  refine ⟨_, rfl, a, r, rfl, SqL.of (s10 _ _ ha), by omega, fun x2 H11 s11 hx2 => ⟨_, same_dp s11 hx, hx2, shp_pair' (k := 59) _, _, rfl, iteF ?_⟩⟩
  have s1011 := s10.trans s11
  have st11 := st9.same s1011
  have hdp := same_dp s1011 hdp
  have ha := s1011 _ _ ha
  clear st9 hx hx2 s1011
  -- rooms
  refine ⟨_, rfl, a, rfl, ⟨_, SqL.of ha⟩, fun D hD => ?_⟩
  refine lc_lists walk_list hD (by omega) (fun H' s' => SqL.of (s' _ _ ha)) (fun i => rooms (r.getD i 0)) ?_ ?_
  · rintro i x H' H'' A B hi s' ⟨rfl, hx⟩ hA
    rw [hrm] at hi
    rw [List.getElem?_map, List.getElem?_eq_getElem hi] at hx
    cases hx
    have e : r.getD i 0 = r[i] := by rw [List.getD_eq_getElem?_getD, List.getElem?_eq_getElem hi]; rfl
    refine ⟨rfl, _, rfl, r[i], rfl, isNum_pos (hnum _ (List.getElem_mem hi)), fun p1 H1 s1 np1 hp1 => hA p1 H1 s1 np1 ?_⟩
    rw [e]
    exact hp1
  intro H12 ps s12 hD12 hpl hps
  rw [hrm] at hpl
  have st12 := st11.same s12
  have hdp := same_dp s12 hdp
  have hpm : (ps.map V.ref).length = r.length := by rw [List.length_map, hpl]
  clear st11 ha
  -- due
  refine ⟨12, rfl, by omega, by omega, fun D2 hD2 => ?_⟩
  refine lc_dp (K := K) (n := 12) walk_nats hD2 (by decide) (fun _ _ => trivial) (fun c => some (nD (topR r c))) ?_ ?_ ?_
  · intro i d e
    cases e
    rfl
  · rintro c x H' H'' A B hc s' ⟨rfl, rfl⟩ hA _
    refine ⟨rfl, _, rfl, D, rfl, ⟨_, SqL.of (s' _ _ hD12)⟩, fun D3 hD3 => ?_⟩
    refine lc_dp (K := K) walk_list hD3 (by omega) (fun H2 s2 => SqL.of (s2 _ _ (s' _ _ hD12))) (fun i => r[i]?.map fun y => nD (rm y c)) ?_ ?_ ?_
    · intro i d e
      obtain ⟨y, _, rfl⟩ := Option.map_eq_some_iff.mp e
      rfl
    · rintro i x H2 H3 A2 B2 hi s2 ⟨rfl, hx⟩ hA2 _
      rw [hpm] at hi
      rw [List.getElem?_map, List.getElem?_eq_getElem (by omega)] at hx
      cases hx
      have hpi := s2 _ _ (s' _ _ (hps i _ (List.getElem?_eq_getElem (by omega))))
      have e : r.getD i 0 = r[i] := by rw [List.getD_eq_getElem?_getD, List.getElem?_eq_getElem hi]; rfl
      rw [e] at hpi
      exact ⟨rfl, _, rfl, _, rfl, _, _, (c : Int), _, rfl, rfl, SqL.of hpi, atIn (rm_get _ c hc), hA2 _ _ _ (by rw [List.getElem?_eq_getElem hi]; rfl) (Same.refl _) (.int _)⟩
    · intro H2 ys s2 hD3' hA3
      rw [hpm, gath_map] at hA3
      have ey : ys = (r.map fun y => rm y c).map nI := dps_nats (by rw [List.map_map]; exact hA3)
      rw [ey] at hD3'
      refine ⟨D3, (r.map fun y => rm y c).map fun (y : Nat) => (y : Int), rfl, (by rw [List.map_map]; exact SqL.of hD3'), (by rw [List.length_map, List.length_map]; exact hr0), fun mx hmx hle => ?_⟩
      obtain rfl := max_int hmx hle
      exact hA _ _ _ rfl s2 (.int _)
  intro H13 ys s13 hD13 hA13
  rw [gath_all] at hA13
  have ey : ys = ((List.range 12).map (topR r)).map nI := dps_nats (by rw [List.map_map]; exact hA13)
  subst ey
  refine ⟨D2, _, rfl, .inl ⟨SqL.of hD13, fun td ntd => ?_⟩⟩
  have s14 := same_new (o := .tup (((List.range 12).map (topR r)).map nI)) ntd
  have htd : Dp K (upd H13 td (.tup (((List.range 12).map (topR r)).map nI))) (.ref td) (.tuple (((List.range 12).map (topR r)).map nD)) := .tup (SqT.of upd_same) (dps_nats' _)
  generalize upd H13 td (.tup (((List.range 12).map (topR r)).map nI)) = H14 at *
  have st14 := st12.same (s13.trans s14)
  have hdp := same_dp (s13.trans s14) hdp
  clear st12 hA13 hD13 hD12 hps
  -- the greatest
  refine ⟨st14.t, fun H15 e15 t15 => ⟨_, rfl, _, rfl, _, rfl, ?_⟩⟩
  have st15 := st14.told e15 t15
  have hdp := ext_dp e15 hdp
  have htd := ext_dp e15 htd
  clear st14
  dsimp only [tCons, tC, tNil]
  have hgreat := great_top hr
  refine great_good hdp hP (.int _) hN (.int _) (by omega) (fun b hb p16 H16 s16 hp16 => ?_) (fun z => by rw [hgreat] at z; cases z)
  rw [hgreat] at hb
  cases hb
  refine ⟨_, rfl, _, .tup (SqT.of hp16) (dps_nats' _), same_dp s16 htd, .tup (k := 59) (.nats _), _, rfl, iteF ?_⟩
  have st16 := st15.same s16
  have hdp := same_dp s16 hdp
  have htd := same_dp s16 htd
  clear st15 hp16
  -- the order
  refine ⟨_, rfl, here, rfl, fun o po H17 hO s17 hF => ?_⟩
  have st17 := st16.same s17
  have hdp := same_dp s17 hdp
  have htd := same_dp s17 htd
  clear st16
  -- gone
  refine ⟨_, rfl, _, rfl, ?_⟩
  dsimp only [tCons, tC, tNil]
  refine moved_good (.int _) hN (.tup hF.sq (dps_nats' _)) hO fun H18 s18 => ?_
  have st18 := st17.same s18
  have hdp := same_dp s18 hdp
  have htd := same_dp s18 htd
  have hF := hF.same s18
  have hNg := map_num hO hN
  clear st17
  -- rooms moved
  refine ⟨12, rfl, by omega, by omega, fun D3 hD3 => ?_⟩
  refine lc_dp (K := K) (n := 12) walk_nats hD3 (by decide) (fun _ _ => trivial) (fun c => some (nD (rm n c))) ?_ ?_ ?_
  · intro i d e
    cases e
    rfl
  · rintro c x H' H'' A B hc s' ⟨rfl, rfl⟩ hA _
    refine ⟨rfl, _, rfl, mapN o n, rfl, map_pos o n, fun p1 H1 s1 np1 hp1 => ?_⟩
    have hoc : o[c]? = some (oAt o c) := oAt_get (by rw [hO.len]; exact hc)
    refine ⟨_, rfl, _, rfl, po, _, (c : Int), _, rfl, rfl, ((hF.same s').same s1).sq, at_nat hoc, p1, _, (oAt o c : Int), _, rfl, rfl, SqL.of hp1, atIn (rm_get _ _ (hO.at_lt hc)), ?_⟩
    rw [map_rm hO n hc]
    exact hA _ _ _ rfl s1 (.int _)
  intro H19 ys s19 hD19 hA19
  rw [gath_all] at hA19
  refine ⟨_, rfl, n, rfl, isNum_pos hN, fun p20 H20 s20 _ hp20 => ?_⟩
  have er : (List.range 12).map (fun c => nD (rm n c)) = (rooms n).map nD := by
    rw [show (fun c => nD (rm n c)) = nD ∘ (rm n) from rfl, ← List.map_map]
    congr 1
    exact (list12 (rooms_len n) fun c _ => rfl).symm
  rw [er] at hA19
  refine ⟨.list ((rooms n).map nD), .lst (SqL.of (s20 _ _ hD19)) (same_dps s20 hA19), .lst (SqL.of hp20) (dps_nats' _), .lst (k := 59) (.nats _), _, rfl, iteF ?_⟩
  have s1820 := s19.trans s20
  have st20 := st18.same s1820
  have hdp := same_dp s1820 hdp
  have htd := same_dp s1820 htd
  have hF := hF.same s1820
  clear st18 hA19 hD19 hp20
  -- there and back
  have hidx : ∀ c, c < 12 → o.idxOf? c = some (iAt o c) := fun c hc => (iAt_is hO hc).1
  refine ⟨_, rfl, 12, rfl, by omega, by omega, fun D4 hD4 => ?_⟩
  refine lc_dp (K := K) (n := 12) walk_nats hD4 (by decide) (fun _ _ => trivial) (fun c => some (nD (iAt o c))) ?_ ?_ ?_
  · intro i d e
    cases e
    rfl
  · rintro c x H' H'' A B hc s' ⟨rfl, rfl⟩ hA _
    exact ⟨rfl, _, rfl, ⟨po, _, rfl, hF.same s'⟩, _, rfl, po, o, c, iAt o c, rfl, rfl, (hF.same s').sq, hidx c hc, hA _ _ _ rfl (Same.refl _) (.int _)⟩
  intro H21 ys2 s21 hD21 hA21
  rw [gath_all] at hA21
  have ey : ys2 = (invO o).map nI := dps_nats (by unfold invO; rw [List.map_map]; exact hA21)
  subst ey
  refine ⟨D4, _, rfl, .inl ⟨SqL.of hD21, fun ti nti => ?_⟩⟩
  have s22 := same_new (o := .tup ((invO o).map nI)) nti
  have hti : Dp K (upd H21 ti (.tup ((invO o).map nI))) (.ref ti) (.tuple ((invO o).map nD)) := .tup (SqT.of upd_same) (dps_nats' _)
  generalize upd H21 ti (.tup ((invO o).map nI)) = H22 at *
  dsimp only [tCons, tC, tNil]
  refine moved_good (.int _) hNg hti (invO_order hO) fun H23 s23 => ?_
  rw [map_inv hO hGd]
  refine ⟨_, rfl, n, n, rfl, rfl, _, rfl, ite2 (fun z => absurd z (by simp)) (fun _ => ?_)⟩
  have s2023 := (s21.trans s22).trans s23
  have st23 := st20.same s2023
  have hdp := same_dp s2023 hdp
  have htd := same_dp s2023 htd
  have hF := hF.same s2023
  clear st20 hA21 hD21 hti
  -- used
  obtain ⟨p', xs, ep, hps, hpd⟩ := dp_lst hdp
  cases ep
  have hxl : xs.length = l.length := by rw [dps_len hpd, List.length_map]
  have hl16 := (isProg_iff.mp hP).1
  refine ⟨12, rfl, by omega, by omega, fun D5 hD5 => ?_⟩
  refine lc_dp (K := K) (n := 12) walk_nats hD5 (by decide) (fun _ _ => trivial) (fun c => if usedB l c = true then some (nD c) else none) ?_ ?_ ?_
  · intro i d e
    split at e
    · cases e
      rfl
    · cases e
  · rintro c x H' H'' A B hc s' ⟨rfl, rfl⟩ hA hB'
    refine ⟨rfl, _, rfl, p, rfl, ⟨_, s'.seq hps⟩, fun D6 hD6 => ?_⟩
    refine lc_dp (K := K) walk_list hD6 (by omega) (fun H2 s2 => (s'.trans s2).seq hps) (fun i => l[i]?.bind fun f => if 0 < rm (f.1 * f.2) c then some (PyData.int 1) else none) ?_ ?_ ?_
    · intro i d e
      obtain ⟨f, _, e2⟩ := Option.bind_eq_some_iff.mp e
      split at e2
      · cases e2
        rfl
      · cases e2
    · rintro i x H2 H3 A2 B2 hi s2 ⟨rfl, hx⟩ hA2 hB2
      obtain ⟨hi2, b, rfl, hb, _⟩ := prog_item (same_dps (s'.trans s2) hpd) hx
      have hf := isFrac_iff.mp ((isProg_iff.mp hP).2 _ (List.getElem_mem hi2))
      have hlog : (l[i]).1.log2 + (l[i]).2.log2 < 1000000 := by
        have h1 : (l[i]).1.log2 < 20 := lt_log2 (k := 20) (mil_lt hf.2.2.1) (by decide) (by decide)
        have h2 : (l[i]).2.log2 < 20 := lt_log2 (k := 20) (mil_lt hf.2.2.2.1) (by decide) (by decide)
        omega
      refine ⟨rfl, _, rfl, b, _, 0, _, rfl, rfl, hb, atI0, _, rfl, b, _, 1, _, rfl, rfl, hb, atI1, _, _, rfl, rfl, hlog, (l[i]).1 * (l[i]).2, rfl, Nat.mul_pos (isNum_pos hf.1) (isNum_pos hf.2.1), fun p1 H1 s1 np1 hp1 => ?_⟩
      refine ⟨_, rfl, p1, _, (c : Int), _, rfl, rfl, SqL.of hp1, atIn (rm_get _ c hc), _, 0, rfl, rfl, _, rfl, ?_⟩
      by_cases h0 : 0 < rm ((l[i]).1 * (l[i]).2) c
      · rw [decide_eq_true h0]
        exact iteT (hA2 _ _ _ (by rw [List.getElem?_eq_getElem hi2, Option.bind_some, if_pos h0]) s1 (.int _))
      · rw [decide_eq_false h0]
        exact iteF (hB2 (by rw [List.getElem?_eq_getElem hi2, Option.bind_some, if_neg h0]) _ s1)
    · intro H2 zs s2 hD6' hA6
      rw [hxl, gath_filter] at hA6
      refine ⟨Nat.zero_le _, fun pe npe => ?_⟩
      have se := same_new (o := .lst []) npe
      refine ⟨_, .lst (SqL.of (se _ _ hD6')) (same_dps se hA6), .lst (SqL.of upd_same) .nil, ?_, _, rfl, ?_⟩
      · intro d hd
        obtain ⟨f, _, e2⟩ := List.mem_filterMap.mp hd
        split at e2
        · cases e2
          exact .int
        · cases e2
      · have hu : (!(l.filterMap fun f => if 0 < rm (f.1 * f.2) c then some (PyData.int 1) else none).isEmpty) = usedB l c := by
          rw [Bool.eq_iff_iff]
          unfold usedB
          rw [List.any_eq_true]
          simp only [Bool.not_eq_true', List.isEmpty_eq_false_iff, ne_eq, List.filterMap_eq_nil_iff]
          constructor
          · intro z
            by_cases y : ∃ x, x ∈ l ∧ decide (0 < rm (x.1 * x.2) c) = true
            · exact y
            · exfalso
              refine z fun a ha => ?_
              rw [if_neg fun h => y ⟨a, ha, decide_eq_true h⟩]
          · rintro ⟨x, hx, h⟩ z
            have := z x hx
            rw [if_pos (of_decide_eq_true h)] at this
            cases this
        rw [hu]
        have s2e := s2.trans se
        cases hub : usedB l c with
        | true => exact iteT ⟨_, rfl, hA _ _ _ (by rw [if_pos hub]) s2e (.int _)⟩
        | false => exact iteF (hB' (by rw [if_neg (by rw [hub]; decide)]) _ s2e)
  intro H24 ys3 s24 hD24 hA24
  have eu : gath (fun c => if usedB l c = true then some (nD c) else none) 12 = (usedOf l).map nD := by
    rw [gath_range]
    unfold usedOf
    generalize List.range 12 = rg
    induction rg with
    | nil => rfl
    | cons c rg ih =>
      cases hub : usedB l c with
      | true => rw [List.filterMap_cons_some (b := nD c) (by rw [if_pos hub]), List.filter_cons_of_pos hub, List.map_cons, ih]
      | false => rw [List.filterMap_cons_none (by rw [if_neg (by rw [hub]; decide)]), List.filter_cons_of_neg (by rw [hub]; decide), ih]
  rw [eu] at hA24
  have hdp := same_dp s24 hdp
  refine ⟨_, rfl, ?_⟩
  dsimp only [tCons, tC, tNil]
  refine used_good hdp hP fun p25 H25 _ s25 hp25 => ⟨_, rfl, .list ((usedOf l).map nD), .lst (SqL.of hp25) (dps_nats' _), .lst (SqL.of (s25 _ _ hD24)) (same_dps s25 hA24), .lst (k := 59) (.nats _), _, rfl, iteF ?_⟩
  have s2325 := s24.trans s25
  have st25 := st23.same s2325
  have hdp := same_dp s25 hdp
  have htd := same_dp s2325 htd
  have hF := hF.same s2325
  have hps := s2325.seq hps
  have hpd := same_dps s2325 hpd
  clear st23 hA24 hD24 hp25
  -- due, moved
  obtain ⟨td', ts, etd, htd2, htds⟩ := dp_tup htd
  cases etd
  have ets : ts = ((List.range 12).map (topR r)).map nI := dps_nats htds
  subst ets
  refine ⟨12, rfl, by omega, by omega, fun D7 hD7 => ?_⟩
  refine lc_dp (K := K) (n := 12) walk_nats hD7 (by decide) (fun _ _ => trivial) (fun c => some (nD (topR r (iAt o c)))) ?_ ?_ ?_
  · intro i d e
    cases e
    rfl
  · rintro c x H' H'' A B hc s' ⟨rfl, rfl⟩ hA _
    have hi12 := (iAt_is hO hc).2.1
    refine ⟨rfl, _, rfl, _, rfl, ⟨po, _, rfl, hF.same s'⟩, _, rfl, po, o, c, iAt o c, rfl, rfl, (hF.same s').sq, hidx c hc, td, _, (iAt o c : Int), nI (topR r (iAt o c)), rfl, rfl, same_tup s' htd2, atIn ?_, hA _ _ _ rfl (Same.refl _) (.int _)⟩
    rw [List.getElem?_map, List.getElem?_map, List.getElem?_range hi12]
    rfl
  intro H26 ys4 s26 hD26 hA26
  rw [gath_all] at hA26
  have ey : ys4 = ((List.range 12).map fun c => topR r (iAt o c)).map nI := dps_nats (by rw [List.map_map]; exact hA26)
  subst ey
  refine ⟨D7, _, rfl, .inl ⟨SqL.of hD26, fun te nte => ?_⟩⟩
  have s27 := same_new (o := .tup (((List.range 12).map fun c => topR r (iAt o c)).map nI)) nte
  have hte : Dp K (upd H26 te (.tup (((List.range 12).map fun c => topR r (iAt o c)).map nI))) (.ref te) (.tuple (((List.range 12).map fun c => topR r (iAt o c)).map nD)) := .tup (SqT.of upd_same) (dps_nats' _)
  generalize upd H26 te (.tup (((List.range 12).map fun c => topR r (iAt o c)).map nI)) = H27 at *
  have s2527 := s26.trans s27
  have st27 := st25.same s2527
  have hF := hF.same s2527
  have hps := s2527.seq hps
  have hpd := same_dps s2527 hpd
  clear st25 hA26 hD26 htd htd2 htds hdp
  -- wide
  refine ⟨_, rfl, p, rfl, ⟨_, hps⟩, fun D8 hD8 => ?_⟩
  refine lc_dp (K := K) walk_list hD8 (by omega) (fun H2 s2 => s2.seq hps) (fun i => l[i]?.map fun f => fracD (mapF o f)) ?_ ?_ ?_
  · intro i d e
    obtain ⟨f, _, rfl⟩ := Option.map_eq_some_iff.mp e
    exact noL_frac _
  · rintro i x H2 H3 A2 B2 hi s2 ⟨rfl, hx⟩ hA2 hB2
    obtain ⟨hi2, b, rfl, hb, _⟩ := prog_item (same_dps s2 hpd) hx
    have hf := isFrac_iff.mp ((isProg_iff.mp hP).2 _ (List.getElem_mem hi2))
    refine ⟨b, _, rfl, hb, rfl, _, _, rfl, _, _, rfl, rfl, rfl, _, rfl, _, rfl, ?_⟩
    dsimp only [tCons, tC, tNil]
    refine moved_good (.int _) hf.1 (.tup (hF.same s2).sq (dps_nats' _)) hO fun H4 s4 => ⟨_, rfl, _, rfl, ?_⟩
    dsimp only [tCons, tC, tNil]
    refine moved_good (.int _) hf.2.1 (.tup ((hF.same s2).same s4).sq (dps_nats' _)) hO fun H5 s5 => ⟨(by show 2 ≤ sizeLine; decide), fun p6 np6 => ?_⟩
    refine hA2 _ _ _ (by rw [List.getElem?_eq_getElem hi2]; rfl) ((s4.trans s5).trans (same_new np6)) (.tup (SqT.of upd_same) (.cons (.int _) (.cons (.int _) .nil)))
  intro H28 ys5 s28 hD28 hA28
  rw [hxl, gath_map] at hA28
  have st28 := st27.same s28
  have hte := same_dp s28 hte
  have hys5 : ys5.length = l.length := by rw [dps_len hA28, List.length_map]
  have hwd : Dp K H28 (.ref D8) (progD (mapP o l)) := .lst (SqL.of hD28) (by unfold mapP; rw [List.map_map]; exact hA28)
  clear st27 hps hpd hF
  -- is it a program
  refine ⟨_, rfl, D8, rfl, ⟨_, SqL.of hD28⟩, fun D9 hD9 => ?_⟩
  refine lc_dp (K := K) walk_list hD9 (by omega) (fun H2 s2 => SqL.of (s2 _ _ hD28)) (fun i => l[i]?.map fun f => nD (max (mapN o f.1) (mapN o f.2))) ?_ ?_ ?_
  · intro i d e
    obtain ⟨f, _, rfl⟩ := Option.map_eq_some_iff.mp e
    rfl
  · rintro i x H2 H3 A2 B2 hi s2 ⟨rfl, hx⟩ hA2 hB2
    obtain ⟨d, hd', hdp'⟩ := dps_at2 (same_dps s2 hA28) hx
    rw [List.getElem?_map, List.getElem?_eq_getElem (by omega)] at hd'
    cases hd'
    obtain ⟨b, rfl, hb⟩ := frac_at hdp'
    refine ⟨rfl, _, rfl, b, [mapN o (l[i]'(by omega)).1, mapN o (l[i]'(by omega)).2], rfl, hb, by simp, hA2 _ _ _ ?_ (Same.refl _) (.int _)⟩
    rw [List.getElem?_eq_getElem (by omega)]
    show some (nD (max _ _)) = some (nD (max _ (max _ 0)))
    rw [Nat.max_eq_left (Nat.zero_le _)]
  intro H29 ys6 s29 hD29 hA29
  rw [hys5, gath_map] at hA29
  have ey : ys6 = (l.map fun (f : Nat × Nat) => max (mapN o f.1) (mapN o f.2)).map nI := dps_nats (by rw [List.map_map]; exact hA29)
  subst ey
  refine ⟨(by show 1 ≤ sizeLine; decide), fun p30 np30 => ?_⟩
  have s30 := same_new (o := .lst [nI 1]) np30
  have hp30 : (upd H29 p30 (.lst [nI 1])) p30 = some (.lst [nI 1]) := upd_same
  have hD30 := s30 _ _ hD29
  generalize upd H29 p30 (.lst [nI 1]) = H30 at *
  refine ⟨D9, p30, _, _, rfl, rfl, hD30, hp30, Nat.le_trans (show ((l.map fun (f : Nat × Nat) => max (mapN o f.1) (mapN o f.2)).map nI).length + 1 ≤ 20 by rw [List.length_map, List.length_map]; omega) (by decide), fun p31 np31 => ?_⟩
  have s31 := same_new (o := .lst ((l.map fun (f : Nat × Nat) => max (mapN o f.1) (mapN o f.2)).map nI ++ [nI 1])) np31
  have eL : (l.map fun (f : Nat × Nat) => max (mapN o f.1) (mapN o f.2)).map nI ++ [nI 1] = ((l.map (fun (f : Nat × Nat) => max (mapN o f.1) (mapN o f.2)) ++ [1]).map fun (y : Nat) => (y : Int)).map V.int := by
    rw [nI_map]
    simp
  have hp31 : SqL K (upd H30 p31 (.lst ((l.map fun (f : Nat × Nat) => max (mapN o f.1) (mapN o f.2)).map nI ++ [nI 1]))) p31 (((l.map (fun (f : Nat × Nat) => max (mapN o f.1) (mapN o f.2)) ++ [1]).map fun (y : Nat) => (y : Int)).map V.int) := by
    rw [← eL]
    exact SqL.of upd_same
  generalize upd H30 p31 (.lst ((l.map fun (f : Nat × Nat) => max (mapN o f.1) (mapN o f.2)).map nI ++ [nI 1])) = H31 at *
  refine ⟨p31, _, rfl, hp31, (by rw [List.length_map, List.length_append]; simp), fun mx hmx hle => ?_⟩
  obtain rfl := max_int hmx hle
  have s2831 := (s29.trans s30).trans s31
  have st31 := st28.same s2831
  refine ⟨_, 1000001, rfl, rfl, _, rfl, ite2 (fun hlt => ?_) (fun _ => ⟨_, _, _, _, _, _, _, _, _, _, _, _, _, _, _, _, _, rfl, st31⟩)⟩
  have hlt := of_decide_eq_true hlt
  have hPw : isProg (mapP o l) = true := prog_map hO hP fun f hf => by
    obtain ⟨g, hg, rfl⟩ := List.mem_map.mp hf
    have h1 := maxN_le (as := l.map (fun (f : Nat × Nat) => max (mapN o f.1) (mapN o f.2)) ++ [1]) (List.mem_append_left _ (List.mem_map.mpr ⟨g, hg, rfl⟩))
    show mapN o g.1 ≤ 1000000 ∧ mapN o g.2 ≤ 1000000
    omega
  refine ⟨_, rfl, _, rfl, _, rfl, ?_⟩
  dsimp only [tCons, tC, tNil]
  have hrunm : runF (mapP o l) m (mapN o n) = some (r.map (mapN o)) := by rw [run_map hO hP m n hGd, hr]; rfl
  have hgm := great_top hrunm
  refine great_good (same_dp s2831 hwd) hPw (.int _) hNg (.int _) (by omega) (fun b hb p32 H32 s32 hp32 => ?_) (fun z => by rw [hgm] at z; cases z)
  rw [hgm] at hb
  cases hb
  have et : (List.range 12).map (topR (r.map (mapN o))) = (List.range 12).map fun c => topR r (iAt o c) := List.map_congr_left fun c hc => top_map hO r (List.mem_range.mp hc)
  rw [et] at hp32
  exact ⟨_, rfl, _, .tup (SqT.of hp32) (dps_nats' _), same_dp (s2831.trans s32) hte, .tup (k := 59) (.nats _), _, rfl, iteF ⟨_, _, _, _, _, _, _, _, _, _, _, _, _, _, _, _, _, rfl, st31.same s32⟩⟩
end
end Fr
set_option maxHeartbeats 0
namespace Fr
open PySem PySem.Spec PyProof.Rows L2
def dd_is_count : He.DefD := ⟨("is_count", none), "is_count", "is_count", defArgs s_is_count, defBody s_is_count, defScope s_is_count, [], []⟩
def dd_need_count : He.DefD := ⟨("need_count", none), "need_count", "need_count", defArgs s_need_count, defBody s_need_count, defScope s_need_count, [], []⟩
def dd_parted : He.DefD := ⟨("parted", none), "parted", "parted", defArgs s_parted, defBody s_parted, defScope s_parted, [], []⟩
def dd_is_number : He.DefD := ⟨("is_number", none), "is_number", "is_number", defArgs s_is_number, defBody s_is_number, defScope s_is_number, [], []⟩
def dd_need_number : He.DefD := ⟨("need_number", none), "need_number", "need_number", defArgs s_need_number, defBody s_need_number, defScope s_need_number, [], []⟩
def dd_made : He.DefD := ⟨("made", none), "made", "made", defArgs s_made, defBody s_made, defScope s_made, [], []⟩
def dd_common : He.DefD := ⟨("common", none), "common", "common", defArgs s_common, defBody s_common, defScope s_common, [], []⟩
def dd_is_fraction : He.DefD := ⟨("is_fraction", none), "is_fraction", "is_fraction", defArgs s_is_fraction, defBody s_is_fraction, defScope s_is_fraction, [], []⟩
def dd_is_program : He.DefD := ⟨("is_program", none), "is_program", "is_program", defArgs s_is_program, defBody s_is_program, defScope s_is_program, [], []⟩
def dd_need_program : He.DefD := ⟨("need_program", none), "need_program", "need_program", defArgs s_need_program, defBody s_need_program, defScope s_need_program, [], []⟩
def dd_first_at : He.DefD := ⟨("first_at", none), "first_at", "first_at", defArgs s_first_at, defBody s_first_at, defScope s_first_at, [], []⟩
def dd_led : He.DefD := ⟨("led", none), "led", "led", defArgs s_led, defBody s_led, defScope s_led, [], []⟩
def dd_need_room : He.DefD := ⟨("need_room", none), "need_room", "need_room", defArgs s_need_room, defBody s_need_room, defScope s_need_room, [], []⟩
def dd_look : He.DefD := ⟨("look", none), "look", "look", defArgs s_look, defBody s_look, defScope s_look, [], []⟩
def dd_ring : He.DefD := ⟨("ring", none), "ring", "ring", defArgs s_ring, defBody s_ring, defScope s_ring, [], []⟩
def dd_need_order : He.DefD := ⟨("need_order", none), "need_order", "need_order", defArgs s_need_order, defBody s_need_order, defScope s_need_order, [], []⟩
def dd_moved_number : He.DefD := ⟨("moved_number", none), "moved_number", "moved_number", defArgs s_moved_number, defBody s_moved_number, defScope s_moved_number, [], []⟩
def dd_moved : He.DefD := ⟨("moved", none), "moved", "moved", defArgs s_moved, defBody s_moved, defScope s_moved, [], []⟩
def dd_greatest_rooms : He.DefD := ⟨("greatest_rooms", none), "greatest_rooms", "greatest_rooms", defArgs s_greatest_rooms, defBody s_greatest_rooms, defScope s_greatest_rooms, [], []⟩
def dd_used_rooms : He.DefD := ⟨("used_rooms", none), "used_rooms", "used_rooms", defArgs s_used_rooms, defBody s_used_rooms, defScope s_used_rooms, [], []⟩
def dd__law_cell : He.DefD := ⟨("_law_cell", none), "_law_cell", "_law_cell", defArgs s__law_cell, defBody s__law_cell, defScope s__law_cell, [], []⟩
def dd__law_drawn : He.DefD := ⟨("_law_drawn", none), "_law_drawn", "_law_drawn", defArgs s__law_drawn, defBody s__law_drawn, defScope s__law_drawn, [], []⟩
def dd__law_word : He.DefD := ⟨("_law_word", none), "_law_word", "_law_word", defArgs s__law_word, defBody s__law_word, defScope s__law_word, [], []⟩
def dd__law_told : He.DefD := ⟨("_law_told", none), "_law_told", "_law_told", defArgs s__law_told, defBody s__law_told, defScope s__law_told, [], []⟩
def dd__law_primes : He.DefD := ⟨("_law_primes", none), "_law_primes", "_law_primes", defArgs s__law_primes, defBody s__law_primes, defScope s__law_primes, [], []⟩
def dd__law_rooms : He.DefD := ⟨("_law_rooms", none), "_law_rooms", "_law_rooms", defArgs s__law_rooms, defBody s__law_rooms, defScope s__law_rooms, [], []⟩
def dd__law_some : He.DefD := ⟨("_law_some", none), "_law_some", "_law_some", defArgs s__law_some, defBody s__law_some, defScope s__law_some, [], []⟩
def dd__law_fraction : He.DefD := ⟨("_law_fraction", none), "_law_fraction", "_law_fraction", defArgs s__law_fraction, defBody s__law_fraction, defScope s__law_fraction, [], []⟩
def dd__law_program : He.DefD := ⟨("_law_program", none), "_law_program", "_law_program", defArgs s__law_program, defBody s__law_program, defScope s__law_program, [], []⟩
def dd__law_step : He.DefD := ⟨("_law_step", none), "_law_step", "_law_step", defArgs s__law_step, defBody s__law_step, defScope s__law_step, [], []⟩
def dd__law_run : He.DefD := ⟨("_law_run", none), "_law_run", "_law_run", defArgs s__law_run, defBody s__law_run, defScope s__law_run, [], []⟩
def dd__law_round : He.DefD := ⟨("_law_round", none), "_law_round", "_law_round", defArgs s__law_round, defBody s__law_round, defScope s__law_round, [], []⟩
def dd__law_order : He.DefD := ⟨("_law_order", none), "_law_order", "_law_order", defArgs s__law_order, defBody s__law_order, defScope s__law_order, [], []⟩
def dd__law_ring_due : He.DefD := ⟨("_law_ring_due", none), "_law_ring_due", "_law_ring_due", defArgs s__law_ring_due, defBody s__law_ring_due, defScope s__law_ring_due, [], []⟩
def dd_law : He.DefD := ⟨("law", none), "law", "law", defArgs s_law, defBody s_law, defScope s_law, [], []⟩
def fn : List He.DefD := [dd_is_count, dd_need_count, dd_parted, dd_is_number, dd_need_number, dd_made, dd_common, dd_is_fraction, dd_is_program, dd_need_program, dd_first_at, dd_led, dd_need_room, dd_look, dd_ring, dd_need_order, dd_moved_number, dd_moved, dd_greatest_rooms, dd_used_rooms, dd__law_cell, dd__law_drawn, dd__law_word, dd__law_told, dd__law_primes, dd__law_rooms, dd__law_some, dd__law_fraction, dd__law_program, dd__law_step, dd__law_run, dd__law_round, dd__law_order, dd__law_ring_due, dd_law]
def fa : List He.Fa := [.free "isinstance", .free "int", .free "bool", .free "list", .free "tuple", .free "len", .free "all", .free "max", .free "min", .free "sum", .free "range", .free "zip", .free "enumerate", .free "set", .free "sorted", .free "ValueError", .glo "is_count", .glo "need_count", .glo "parted", .glo "is_number", .glo "need_number", .glo "made", .glo "common", .glo "is_fraction", .glo "is_program", .glo "need_program", .glo "first_at", .glo "led", .glo "need_room", .glo "look", .glo "ring", .glo "need_order", .glo "moved_number", .glo "moved", .glo "greatest_rooms", .glo "used_rooms", .glo "_law_cell", .glo "_law_drawn", .glo "_law_word", .glo "_law_told", .glo "_law_primes", .glo "_law_rooms", .glo "_law_some", .glo "_law_fraction", .glo "_law_program", .glo "_law_step", .glo "_law_run", .glo "_law_round", .glo "_law_order", .glo "_law_ring_due", .glo "law", .glo "RowError", .exc "RowError", .glo "BadNumber", .exc "BadNumber", .glo "BadProgram", .exc "BadProgram", .glo "BadMachine", .exc "BadMachine", .glo "TooGreat", .exc "TooGreat", .glo "BadText", .exc "BadText", .glo "Nothing", .exc "Nothing", .glo "PRIMES", .int "MOST_ROOM" 400, .int "MOST_FRACTIONS" 16, .int "MOST_PART" 1000000, .int "MOST_LOOKED" 500]
def ex (K : PySem.W.Frag) : Bool := He.tupB K "PRIMES" [.int 2, .int 3, .int 5, .int 7, .int 11, .int 13, .int 17, .int 19, .int 23, .int 29, .int 31, .int 37] && (excB K ["BadMachine", "BadNumber", "BadProgram", "BadText", "TooGreat", "Nothing"] && (tabsD K ["law"] && (true)))
theorem ex_0 {K : PySem.W.Frag} (h : ex K = true) : He.tupB K "PRIMES" [.int 2, .int 3, .int 5, .int 7, .int 11, .int 13, .int 17, .int 19, .int 23, .int 29, .int 31, .int 37] = true := (He.ba h).1
theorem ex_1 {K : PySem.W.Frag} (h : ex K = true) : excB K ["BadMachine", "BadNumber", "BadProgram", "BadText", "TooGreat", "Nothing"] = true := (He.ba (He.ba h).2).1
theorem ex_2 {K : PySem.W.Frag} (h : ex K = true) : tabsD K ["law"] = true := (He.ba (He.ba (He.ba h).2).2).1
def tf : List He.Defn := (["law"] : List Str).map fun x => (x, none)
def ts : List He.Tab := []
abbrev R : PySem.W.OpenRow := PySem.W.OpenLaw.row PySem.Challenge.rw_fractrows_k80_whole_turns
abbrev hk : PySem.W.Hook := He.hookX 5 fa fn ts tf ex
def ob (s : PySem.W.SharedT) : He.AlX := He.obsX 5 fa fn ts tf ex (HandSHeadRun.getT s)
theorem ob_eq (s : PySem.W.SharedT) : ob s = hk.obs s.abs := He.obsX_eq (HandSHeadRun.getT_eq s)
def loose0 : List Str := ["RowError", "BadNumber", "BadProgram", "BadMachine", "TooGreat", "BadText", "Nothing", "PRIMES", "MOST_ROOM", "is_count", "need_count", "parted", "is_number", "need_number", "made", "MOST_FRACTIONS", "MOST_PART", "common", "is_fraction", "is_program", "need_program", "first_at", "led", "need_room", "look", "MOST_LOOKED", "ring", "need_order", "moved_number", "moved"]
def loose1 : List Str := ["greatest_rooms", "used_rooms", "_law_cell", "_law_drawn", "_law_word", "_law_told", "_law_primes", "_law_rooms", "_law_some", "_law_fraction", "_law_program", "_law_step", "_law_run", "_law_round", "_law_order", "_law_ring_due"]
def loose : List Str := loose0 ++ loose1
theorem run (w : World) : HandSHeadRun.RunEq R (PySem.W.view R.prog [51]) hk ob 6640 loose w := by
  intro os
  kernel_rfl
theorem fnp_of {K : PySem.W.Frag} {x : Str} {st : Stmt} (h : ∃ fd, FunD K x x (defArgs st) (defBody st) (defScope st) [] [] (He.fAd K (x, none)) fd) : FnP K x st := by
  obtain ⟨fd, F⟩ := h
  obtain ⟨oc, od, dV, kV, doc, pm, an, cdv, ct, osl, e, lk, h1, h2, h3⟩ := F.ex
  have e2 : fdOf K (x, none) = fd := by
    unfold fdOf
    rw [lk]
  unfold FnP
  rw [e2]
  exact F
theorem txt_of {K : PySem.W.Frag} {h : Heap} {w : World} {mg : Str → Option Value} (X : K.In h) (G : h.Ns mainGlobals mg) (c : He.SaysX fa fn ts tf ex w h K) : Txt K mg :=
  ⟨He.free_ok X G (c.t.d.fact 0 (f := .free "isinstance") rfl),
    He.free_ok X G (c.t.d.fact 1 (f := .free "int") rfl),
    He.free_ok X G (c.t.d.fact 2 (f := .free "bool") rfl),
    He.free_ok X G (c.t.d.fact 3 (f := .free "list") rfl),
    He.free_ok X G (c.t.d.fact 4 (f := .free "tuple") rfl),
    He.free_ok X G (c.t.d.fact 5 (f := .free "len") rfl),
    He.free_ok X G (c.t.d.fact 6 (f := .free "all") rfl),
    He.free_ok X G (c.t.d.fact 7 (f := .free "max") rfl),
    He.free_ok X G (c.t.d.fact 8 (f := .free "min") rfl),
    He.free_ok X G (c.t.d.fact 9 (f := .free "sum") rfl),
    He.free_ok X G (c.t.d.fact 10 (f := .free "range") rfl),
    He.free_ok X G (c.t.d.fact 11 (f := .free "zip") rfl),
    He.free_ok X G (c.t.d.fact 12 (f := .free "enumerate") rfl),
    He.free_ok X G (c.t.d.fact 13 (f := .free "set") rfl),
    He.free_ok X G (c.t.d.fact 14 (f := .free "sorted") rfl),
    He.free_ok X G (c.t.d.fact 15 (f := .free "ValueError") rfl),
    fnp_of (c.t.d.def_ 0 (d := dd_is_count) rfl),
    He.glo_ok X G (c.t.d.fact 16 (f := .glo "is_count") rfl),
    fnp_of (c.t.d.def_ 1 (d := dd_need_count) rfl),
    He.glo_ok X G (c.t.d.fact 17 (f := .glo "need_count") rfl),
    fnp_of (c.t.d.def_ 2 (d := dd_parted) rfl),
    He.glo_ok X G (c.t.d.fact 18 (f := .glo "parted") rfl),
    fnp_of (c.t.d.def_ 3 (d := dd_is_number) rfl),
    He.glo_ok X G (c.t.d.fact 19 (f := .glo "is_number") rfl),
    fnp_of (c.t.d.def_ 4 (d := dd_need_number) rfl),
    He.glo_ok X G (c.t.d.fact 20 (f := .glo "need_number") rfl),
    fnp_of (c.t.d.def_ 5 (d := dd_made) rfl),
    He.glo_ok X G (c.t.d.fact 21 (f := .glo "made") rfl),
    fnp_of (c.t.d.def_ 6 (d := dd_common) rfl),
    He.glo_ok X G (c.t.d.fact 22 (f := .glo "common") rfl),
    fnp_of (c.t.d.def_ 7 (d := dd_is_fraction) rfl),
    He.glo_ok X G (c.t.d.fact 23 (f := .glo "is_fraction") rfl),
    fnp_of (c.t.d.def_ 8 (d := dd_is_program) rfl),
    He.glo_ok X G (c.t.d.fact 24 (f := .glo "is_program") rfl),
    fnp_of (c.t.d.def_ 9 (d := dd_need_program) rfl),
    He.glo_ok X G (c.t.d.fact 25 (f := .glo "need_program") rfl),
    fnp_of (c.t.d.def_ 10 (d := dd_first_at) rfl),
    He.glo_ok X G (c.t.d.fact 26 (f := .glo "first_at") rfl),
    fnp_of (c.t.d.def_ 11 (d := dd_led) rfl),
    He.glo_ok X G (c.t.d.fact 27 (f := .glo "led") rfl),
    fnp_of (c.t.d.def_ 12 (d := dd_need_room) rfl),
    He.glo_ok X G (c.t.d.fact 28 (f := .glo "need_room") rfl),
    fnp_of (c.t.d.def_ 13 (d := dd_look) rfl),
    He.glo_ok X G (c.t.d.fact 29 (f := .glo "look") rfl),
    fnp_of (c.t.d.def_ 14 (d := dd_ring) rfl),
    He.glo_ok X G (c.t.d.fact 30 (f := .glo "ring") rfl),
    fnp_of (c.t.d.def_ 15 (d := dd_need_order) rfl),
    He.glo_ok X G (c.t.d.fact 31 (f := .glo "need_order") rfl),
    fnp_of (c.t.d.def_ 16 (d := dd_moved_number) rfl),
    He.glo_ok X G (c.t.d.fact 32 (f := .glo "moved_number") rfl),
    fnp_of (c.t.d.def_ 17 (d := dd_moved) rfl),
    He.glo_ok X G (c.t.d.fact 33 (f := .glo "moved") rfl),
    fnp_of (c.t.d.def_ 18 (d := dd_greatest_rooms) rfl),
    He.glo_ok X G (c.t.d.fact 34 (f := .glo "greatest_rooms") rfl),
    fnp_of (c.t.d.def_ 19 (d := dd_used_rooms) rfl),
    He.glo_ok X G (c.t.d.fact 35 (f := .glo "used_rooms") rfl),
    fnp_of (c.t.d.def_ 20 (d := dd__law_cell) rfl),
    He.glo_ok X G (c.t.d.fact 36 (f := .glo "_law_cell") rfl),
    fnp_of (c.t.d.def_ 21 (d := dd__law_drawn) rfl),
    He.glo_ok X G (c.t.d.fact 37 (f := .glo "_law_drawn") rfl),
    fnp_of (c.t.d.def_ 22 (d := dd__law_word) rfl),
    He.glo_ok X G (c.t.d.fact 38 (f := .glo "_law_word") rfl),
    fnp_of (c.t.d.def_ 23 (d := dd__law_told) rfl),
    He.glo_ok X G (c.t.d.fact 39 (f := .glo "_law_told") rfl),
    fnp_of (c.t.d.def_ 24 (d := dd__law_primes) rfl),
    He.glo_ok X G (c.t.d.fact 40 (f := .glo "_law_primes") rfl),
    fnp_of (c.t.d.def_ 25 (d := dd__law_rooms) rfl),
    He.glo_ok X G (c.t.d.fact 41 (f := .glo "_law_rooms") rfl),
    fnp_of (c.t.d.def_ 26 (d := dd__law_some) rfl),
    He.glo_ok X G (c.t.d.fact 42 (f := .glo "_law_some") rfl),
    fnp_of (c.t.d.def_ 27 (d := dd__law_fraction) rfl),
    He.glo_ok X G (c.t.d.fact 43 (f := .glo "_law_fraction") rfl),
    fnp_of (c.t.d.def_ 28 (d := dd__law_program) rfl),
    He.glo_ok X G (c.t.d.fact 44 (f := .glo "_law_program") rfl),
    fnp_of (c.t.d.def_ 29 (d := dd__law_step) rfl),
    He.glo_ok X G (c.t.d.fact 45 (f := .glo "_law_step") rfl),
    fnp_of (c.t.d.def_ 30 (d := dd__law_run) rfl),
    He.glo_ok X G (c.t.d.fact 46 (f := .glo "_law_run") rfl),
    fnp_of (c.t.d.def_ 31 (d := dd__law_round) rfl),
    He.glo_ok X G (c.t.d.fact 47 (f := .glo "_law_round") rfl),
    fnp_of (c.t.d.def_ 32 (d := dd__law_order) rfl),
    He.glo_ok X G (c.t.d.fact 48 (f := .glo "_law_order") rfl),
    fnp_of (c.t.d.def_ 33 (d := dd__law_ring_due) rfl),
    He.glo_ok X G (c.t.d.fact 49 (f := .glo "_law_ring_due") rfl),
    fnp_of (c.t.d.def_ 34 (d := dd_law) rfl),
    He.glo_ok X G (c.t.d.fact 50 (f := .glo "law") rfl),
    He.glo_ok X G (c.t.d.fact 51 (f := .glo "RowError") rfl),
    He.exc_ok (c.t.d.fact 52 (f := .exc "RowError") rfl),
    He.glo_ok X G (c.t.d.fact 53 (f := .glo "BadNumber") rfl),
    He.exc_ok (c.t.d.fact 54 (f := .exc "BadNumber") rfl),
    He.glo_ok X G (c.t.d.fact 55 (f := .glo "BadProgram") rfl),
    He.exc_ok (c.t.d.fact 56 (f := .exc "BadProgram") rfl),
    He.glo_ok X G (c.t.d.fact 57 (f := .glo "BadMachine") rfl),
    He.exc_ok (c.t.d.fact 58 (f := .exc "BadMachine") rfl),
    He.glo_ok X G (c.t.d.fact 59 (f := .glo "TooGreat") rfl),
    He.exc_ok (c.t.d.fact 60 (f := .exc "TooGreat") rfl),
    He.glo_ok X G (c.t.d.fact 61 (f := .glo "BadText") rfl),
    He.exc_ok (c.t.d.fact 62 (f := .exc "BadText") rfl),
    He.glo_ok X G (c.t.d.fact 63 (f := .glo "Nothing") rfl),
    He.exc_ok (c.t.d.fact 64 (f := .exc "Nothing") rfl),
    He.glo_ok X G (c.t.d.fact 65 (f := .glo "PRIMES") rfl),
    fun H => He.tupB_ok (ex_0 c.more) H,
    He.int_ok X G (c.t.d.fact 66 (f := .int "MOST_ROOM" 400) rfl),
    He.int_ok X G (c.t.d.fact 67 (f := .int "MOST_FRACTIONS" 16) rfl),
    He.int_ok X G (c.t.d.fact 68 (f := .int "MOST_PART" 1000000) rfl),
    He.int_ok X G (c.t.d.fact 69 (f := .int "MOST_LOOKED" 500) rfl),
    ex_1 c.more,
    ex_2 c.more⟩
theorem law_at {K : PySem.W.Frag} {h : Heap} {w : World} {mg : Str → Option Value} {f : Addr} (X : K.In h) (G : h.Ns mainGlobals mg) (hmg : mg "law" = some (.ref f)) (c : He.SaysX fa fn ts tf ex w h K) :
    LamX.LawAtS PySem.Challenge.rw_fractrows_k80_whole_turns w K L2.CX0 12 63 "script" mg f h := by
  have T : Txt K mg := txt_of X G c
  have e := hmg.symm.trans T.m_law
  cases e
  refine ⟨fdOf K ("law", none), tf.map (He.cT K), spLaw K, fun p hp => ?_, fun p hp => ?_, fun p hp => ?_, fun s u => FunD.bindsA (ps := ["script"]) T.d_law (fun _ _ _ _ _ _ us hl => match us, hl with | [_], _ => rfl) s [u] rfl, fun H a ns hl _ hT hS => ⟨a, ns, rfl, hS, hl, tabs0 (xs := ["law"]) (fun x hx => hT _ (List.mem_map.mpr ⟨(x, none), List.mem_map.mpr ⟨x, hx, rfl⟩, rfl⟩)), fun _ => rfl⟩, fun base _ _ hB => (ok_law T (fun x hx => hB _ (List.mem_map.mpr ⟨(x, none), List.mem_map.mpr ⟨x, hx, rfl⟩, rfl⟩))).fn⟩
  · obtain ⟨z, hz, rfl⟩ := List.mem_map.mp hp
    exact c.empty z hz
  · obtain ⟨z, hz, rfl⟩ := List.mem_map.mp hp
    exact c.out z hz
  · obtain ⟨z, hz, rfl⟩ := List.mem_map.mp hp
    exact PySem.W.codeHd_of_K X (c.hd z hz)
end Fr
open PySem PySem.W PySem.Calls PyProof.Rows
set_option maxRecDepth 100000 in
set_option maxHeartbeats 0 in
theorem PySem.Challenge.cw_fractrows_k80_whole_turns_holds : PySem.Challenge.rw_fractrows_k80_whole_turns.Holds := by
  w_on; o_law
  refine HandSHeadRun.head_any (r := OpenLaw.row PySem.Challenge.rw_fractrows_k80_whole_turns) (q := view (OpenLaw.row PySem.Challenge.rw_fractrows_k80_whole_turns).prog [51]) (H := Fr.hk) (ob := Fr.ob) (M := 6640) (loose := Fr.loose) (d := HandSHeadRun.topDef (OpenLaw.row PySem.Challenge.rw_fractrows_k80_whole_turns).prog 51) (kwd := []) Fr.ob_eq
    (by kernel_rfl) (fun s => by kernel_rfl) Fr.run (by kernel_rfl) (by kernel_rfl) (by kernel_rfl) (by rfl) (by first | assumption | decide +kernel) (by decide +kernel) ⟨rfl, rfl, rfl, rfl, rfl, by decide +kernel⟩ ?hw ?hc
  case hw => w_witness2
  case hc =>
    refine LamX.walk_ofTsE (l := PySem.Challenge.rw_fractrows_k80_whole_turns) (n := 63) (k := 12) (x := "script") (CX := fun _ => L2.CX0) rfl (by decide) (by kernel_rfl) ⟨rfl, by decide, by decide⟩ ?F (fun _ _ _ _ _ z => z)
    intro w mg fa h Y G hmg0
    obtain ⟨K, KX, c⟩ := Y
    have hmg : mg ("law" : PySem.Str) = some (.ref fa) := by
      have e : (HandSHeadRun.topDef (OpenLaw.row PySem.Challenge.rw_fractrows_k80_whole_turns).prog 51).name = ("law" : PySem.Str) := by kernel_rfl
      rw [← e]
      exact hmg0
    exact ⟨K, KX, Fr.law_at KX G hmg c⟩
