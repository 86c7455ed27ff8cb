import PyProof.Rows.All
import Wide.All
import OpenK.AllK
import Wide.FinOn
import KE.KStateDown
import KE.DataMinMax
import HandS.ForMost
import HandS.ForExc
import HandS.ExcCtx
import HandS.HotCalls
import HandS.IsInst
import HandS.Wide
import HandS.Zip
import HandS.TupMul
import HandS.TupAny
import HandS.Deep
import HandS.Flow
import HandS.Walk
import HandS.Defaults
import HandS.Head0
import HandS.Head1
import HandS.Head2
import HandS.HeadEnd
import HandS.HeadHook1
import HandS.HeadHook2
import HandS.HeadHook3
import HandS.HeadHook4
import HandS.EndTab
import HandS.HeadWalk
import HandS.ExcIs
import HandS.Lambda
import PyProof.SumWalkG
import PyProof.ZipIter
import HandS.Zip0
import PyProof.WalksMore
import HandS.Style
import HandS.More
import HandS.Strs
import HandS.SetKeys
import HandS.Sort
import HandS.Conv
import HandS.TupLe
import KE.GoesMore
import KE.GoesEnum
import HandS.SetFor
import KE.GoesComp
import KE.GoesRaise
import PySem.Challenge.RW_fractrows_k70_whole_texts
set_option Elab.async false
set_option linter.all false
set_option maxRecDepth 100000
set_option maxHeartbeats 4000000
namespace Fr

def primes : List Nat := [2, 3, 5, 7, 11, 13, 17, 19, 23, 29, 31, 37]

def stripF (p : Nat) : Nat → Nat → Nat × Nat
  | 0, n => (0, n)
  | f + 1, n => if n % p = 0 then ((stripF p f (n / p)).1 + 1, (stripF p f (n / p)).2) else (0, n)
/-- how often p divides n, and what is left -/
def strip (p n : Nat) : Nat × Nat := stripF p n n

theorem stripF_spec {p : Nat} (hp : 2 ≤ p) : ∀ (a f m : Nat), m % p ≠ 0 → a ≤ f → stripF p f (p ^ a * m) = (a, m)
  | 0, 0, m, _, _ => by simp [stripF]
  | 0, f + 1, m, hm, _ => by simp [stripF, hm]
  | a + 1, 0, m, _, h => absurd h (by omega)
  | a + 1, f + 1, m, hm, h => by
    have e1 : (p ^ (a + 1) * m) % p = 0 := by
      rw [Nat.pow_succ, Nat.mul_comm (p ^ a) p, Nat.mul_assoc]
      exact Nat.mul_mod_right p _
    have e2 : p ^ (a + 1) * m / p = p ^ a * m := by
      rw [Nat.pow_succ, Nat.mul_comm (p ^ a) p, Nat.mul_assoc]
      exact Nat.mul_div_cancel_left _ (by omega)
    have ih := stripF_spec hp a f m hm (by omega)
    unfold stripF
    rw [if_pos e1, e2, ih]
theorem pow_gt {p : Nat} (hp : 2 ≤ p) : ∀ a : Nat, a < p ^ a
  | 0 => by simp
  | a + 1 => by
    have ih := pow_gt hp a
    rw [Nat.pow_succ]
    have : p ^ a * 2 ≤ p ^ a * p := Nat.mul_le_mul_left _ hp
    omega
theorem strip_spec {p : Nat} (hp : 2 ≤ p) {a m : Nat} (hm : m % p ≠ 0) : strip p (p ^ a * m) = (a, m) := by
  have h0 : 0 < m := by
    rcases Nat.eq_zero_or_pos m with e | e
    · rw [e] at hm; simp at hm
    · exact e
  refine stripF_spec hp a _ m hm ?_
  have h1 := pow_gt hp a
  have h2 : p ^ a * 1 ≤ p ^ a * m := Nat.mul_le_mul_left _ h0
  omega
/-- every number has its form -/
theorem strip_form {p : Nat} (hp : 2 ≤ p) : ∀ (n : Nat), 0 < n → ∃ a m, n = p ^ a * m ∧ m % p ≠ 0 := by
  intro n
  induction n using Nat.strongRecOn with
  | ind n ih =>
    intro hn
    by_cases h : n % p = 0
    · have hlt : n / p < n := Nat.div_lt_self hn hp
      have hpos : 0 < n / p := Nat.div_pos (Nat.le_of_dvd hn (Nat.dvd_of_mod_eq_zero h)) (by omega)
      obtain ⟨a, m, e, hm⟩ := ih (n / p) hlt hpos
      refine ⟨a + 1, m, ?_, hm⟩
      have e1 : p * (n / p) = n := Nat.mul_div_cancel' (Nat.dvd_of_mod_eq_zero h)
      rw [Nat.pow_succ, Nat.mul_comm (p ^ a) p, Nat.mul_assoc, ← e, e1]
    · exact ⟨0, n, by simp, h⟩
theorem strip_eq {p : Nat} (hp : 2 ≤ p) {n : Nat} (hn : 0 < n) : n = p ^ (strip p n).1 * (strip p n).2 ∧ (strip p n).2 % p ≠ 0 := by
  obtain ⟨a, m, e, hm⟩ := strip_form hp n hn
  have h := strip_spec hp (a := a) hm
  rw [← e] at h
  rw [h]
  exact ⟨e, hm⟩

def partL : List Nat → Nat → List Nat × Nat
  | [], n => ([], n)
  | p :: ps, n => ((strip p n).1 :: (partL ps (strip p n).2).1, (partL ps (strip p n).2).2)
def makeL : List Nat → List Nat → Nat
  | p :: ps, a :: as => p ^ a * makeL ps as
  | _, _ => 1

theorem partL_len : ∀ (ps : List Nat) (n : Nat), (partL ps n).1.length = ps.length
  | [], _ => rfl
  | p :: ps, n => by
    show (partL ps _).1.length + 1 = ps.length + 1
    rw [partL_len ps]

/-- pairwise coprime, each at least 2 -/
def Cop : List Nat → Prop
  | [] => True
  | p :: ps => 2 ≤ p ∧ (∀ q ∈ ps, Nat.Coprime p q) ∧ Cop ps
theorem cop_make {p : Nat} : ∀ (ps as : List Nat), (∀ q ∈ ps, Nat.Coprime p q) → Nat.Coprime p (makeL ps as)
  | [], [], _ => by simp [makeL]
  | [], _ :: _, _ => by simp [makeL]
  | _ :: _, [], _ => by simp [makeL]
  | q :: ps, a :: as, h => by
    show Nat.Coprime p (q ^ a * makeL ps as)
    have h1 : Nat.Coprime p (q ^ a) := Nat.Coprime.pow_right a (h q List.mem_cons_self)
    have h2 := cop_make ps as fun r hr => h r (List.mem_cons_of_mem _ hr)
    exact Nat.Coprime.mul_right h1 h2
theorem cop_mod {p m : Nat} (hp : 2 ≤ p) (h : Nat.Coprime p m) : m % p ≠ 0 := by
  intro e
  have d : p ∣ m := Nat.dvd_of_mod_eq_zero e
  have g : Nat.gcd p m = p := Nat.gcd_eq_left d
  rw [Nat.Coprime] at h
  omega
theorem make_pos : ∀ (ps as : List Nat), (∀ q ∈ ps, 2 ≤ q) → 0 < makeL ps as
  | [], [], _ => by simp [makeL]
  | [], _ :: _, _ => by simp [makeL]
  | _ :: _, [], _ => by simp [makeL]
  | q :: ps, a :: as, h => by
    show 0 < q ^ a * makeL ps as
    have h1 : 0 < q := by have := h q List.mem_cons_self; omega
    exact Nat.mul_pos (Nat.pow_pos h1) (make_pos ps as fun r hr => h r (List.mem_cons_of_mem _ hr))
theorem Cop.two : ∀ {ps : List Nat}, Cop ps → ∀ q ∈ ps, 2 ≤ q
  | p :: ps, ⟨h1, _, h3⟩, q, hq => by
    rcases List.mem_cons.mp hq with e | e
    · rw [e]; exact h1
    · exact Cop.two h3 q e
/-- the rooms of a made number -/
theorem part_make : ∀ (ps as : List Nat) (r : Nat), Cop ps → as.length = ps.length → (∀ q ∈ ps, Nat.Coprime q r) → partL ps (makeL ps as * r) = (as, r)
  | [], [], r, _, _, _ => by simp [partL, makeL]
  | [], _ :: _, _, _, h, _ => by simp at h
  | _ :: _, [], _, _, h, _ => by simp at h
  | p :: ps, a :: as, r, ⟨h1, h2, h3⟩, hl, hr => by
    have hm : (makeL ps as * r) % p ≠ 0 := cop_mod h1 (Nat.Coprime.mul_right (cop_make ps as h2) (hr p List.mem_cons_self))
    have e : strip p (makeL (p :: ps) (a :: as) * r) = (a, makeL ps as * r) := by
      show strip p (p ^ a * makeL ps as * r) = _
      rw [Nat.mul_assoc]
      exact strip_spec h1 hm
    have ih := part_make ps as r h3 (by simpa using hl) fun q hq => hr q (List.mem_cons_of_mem _ hq)
    unfold partL
    rw [e, ih]
/-- a number is what its rooms make, times what is left -/
theorem make_part : ∀ (ps : List Nat) (n : Nat), Cop ps → 0 < n → n = makeL ps (partL ps n).1 * (partL ps n).2 ∧ 0 < (partL ps n).2
  | [], n, _, h => by simp [partL, makeL, h]
  | p :: ps, n, ⟨h1, h2, h3⟩, h => by
    obtain ⟨e, hm⟩ := strip_eq h1 h
    have hpos : 0 < (strip p n).2 := by
      rcases Nat.eq_zero_or_pos (strip p n).2 with z | z
      · rw [z] at hm; simp at hm
      · exact z
    obtain ⟨e2, h4⟩ := make_part ps (strip p n).2 h3 hpos
    refine ⟨?_, h4⟩
    show n = p ^ (strip p n).1 * makeL ps (partL ps (strip p n).2).1 * (partL ps (strip p n).2).2
    rw [Nat.mul_assoc, ← e2]
    exact e

theorem cop_primes : Cop primes := ⟨by decide, by decide, by decide, by decide, by decide, by decide, by decide, by decide, by decide, by decide, by decide, by decide, by decide, by decide, by decide, by decide, by decide, by decide, by decide, by decide, by decide, by decide, by decide, by decide, trivial⟩
@[irreducible] def rooms (n : Nat) : List Nat := (partL primes n).1
@[irreducible] def left (n : Nat) : Nat := (partL primes n).2
@[irreducible] def make (as : List Nat) : Nat := makeL primes as
theorem rooms_def (n : Nat) : rooms n = (partL primes n).1 := by unfold rooms; rfl
theorem left_def (n : Nat) : left n = (partL primes n).2 := by unfold left; rfl
theorem make_def (as : List Nat) : make as = makeL primes as := by unfold make; rfl
theorem rooms_len (n : Nat) : (rooms n).length = 12 := by rw [rooms_def]; exact partL_len primes n
theorem make_pos' (as : List Nat) : 0 < make as := by rw [make_def]; exact make_pos primes as cop_primes.two
theorem rooms_make {as : List Nat} (h : as.length = 12) : rooms (make as) = as := by
  have e := part_make primes as 1 cop_primes h fun q _ => Nat.coprime_one_right q
  rw [Nat.mul_one] at e
  rw [rooms_def, make_def, e]
theorem left_make {as : List Nat} (h : as.length = 12) : left (make as) = 1 := by
  have e := part_make primes as 1 cop_primes h fun q _ => Nat.coprime_one_right q
  rw [Nat.mul_one] at e
  rw [left_def, make_def, e]
theorem make_rooms {n : Nat} (h : 0 < n) : n = make (rooms n) * left n ∧ 0 < left n := by rw [make_def, left_def, rooms_def]; exact make_part primes n cop_primes h
/-- a number of the twelve primes alone -/
theorem make_rooms1 {n : Nat} (h : 0 < n) (hl : left n = 1) : make (rooms n) = n := by
  have e := (make_rooms h).1
  rw [hl, Nat.mul_one] at e
  exact e.symm
theorem left_one {n : Nat} (h : 0 < n) : left n = 1 ↔ make (rooms n) = n := by
  refine ⟨make_rooms1 h, fun e => ?_⟩
  have e2 := (make_rooms h).1
  rw [e] at e2
  have : n * left n = n * 1 := by omega
  exact Nat.eq_of_mul_eq_mul_left h this
/-- whether it is a number -/
@[irreducible] def isNum (n : Nat) : Bool := decide (1 ≤ n) && (decide (left n = 1) && (rooms n).all fun a => decide (a ≤ 400))
theorem isNum_make {as : List Nat} (h : as.length = 12) (hb : ∀ a ∈ as, a ≤ 400) : isNum (make as) = true := by
  unfold isNum
  rw [left_make h, rooms_make h]
  have h1 : 1 ≤ make as := make_pos' as
  simp only [h1, decide_true, Bool.true_and, List.all_eq_true, decide_eq_true_eq]
  exact hb
theorem isNum_iff {n : Nat} : isNum n = true ↔ 0 < n ∧ left n = 1 ∧ ∀ a ∈ rooms n, a ≤ 400 := by
  unfold isNum
  simp only [Bool.and_eq_true, decide_eq_true_eq, List.all_eq_true]
  exact Iff.rfl
end Fr
namespace Fr
theorem strip_no {p x : Nat} (h : x % p ≠ 0) (hp : 2 ≤ p) : strip p x = (0, x) := by
  have e := strip_spec hp (a := 0) h
  simpa using e
theorem strip_yes {p x : Nat} (h : x % p = 0) (hp : 2 ≤ p) (hx : 0 < x) : strip p x = ((strip p (x / p)).1 + 1, (strip p (x / p)).2) ∧ 0 < x / p ∧ x / p < x := by
  have d : p ∣ x := Nat.dvd_of_mod_eq_zero h
  have hpos : 0 < x / p := Nat.div_pos (Nat.le_of_dvd hx d) (by omega)
  refine ⟨?_, hpos, Nat.div_lt_self hx hp⟩
  obtain ⟨a, m, e, hm⟩ := strip_form hp (x / p) hpos
  have e1 : x = p ^ (a + 1) * m := by
    have e2 : p * (x / p) = x := Nat.mul_div_cancel' d
    rw [Nat.pow_succ, Nat.mul_comm (p ^ a) p, Nat.mul_assoc, ← e, e2]
  have s1 := strip_spec hp (a := a + 1) hm
  have s2 := strip_spec hp (a := a) hm
  rw [← e1] at s1
  rw [← e] at s2
  rw [s1, s2]
theorem partL_snoc (p : Nat) : ∀ (ps : List Nat) (n : Nat), partL (ps ++ [p]) n = ((partL ps n).1 ++ [(strip p (partL ps n).2).1], (strip p (partL ps n).2).2)
  | [], n => rfl
  | q :: ps, n => by
    show ((strip q n).1 :: (partL (ps ++ [p]) (strip q n).2).1, (partL (ps ++ [p]) (strip q n).2).2) = _
    rw [partL_snoc p ps]
    rfl
theorem partL_pos (ps : List Nat) (h2 : ∀ p ∈ ps, 2 ≤ p) : ∀ n : Nat, 0 < n → 0 < (partL ps n).2 := by
  induction ps with
  | nil => intro n h; exact h
  | cons p ps ih =>
    intro n h
    have e := (strip_eq (h2 p List.mem_cons_self) h).2
    have : 0 < (strip p n).2 := by
      rcases Nat.eq_zero_or_pos (strip p n).2 with z | z
      · rw [z] at e; simp at e
      · exact z
    exact ih (fun q hq => h2 q (List.mem_cons_of_mem _ hq)) _ this
theorem primes_two : ∀ p ∈ primes, 2 ≤ p := cop_primes.two
theorem primes_small : ∀ p ∈ primes, p < 64 := by decide
theorem take_at {α : Type} {l : List α} {i : Nat} {x : α} (h : l[i]? = some x) : l.take (i + 1) = l.take i ++ [x] := by
  rw [List.take_add_one, h]
  rfl
end Fr
namespace Fr
/-! ### sizes -/
theorem log2_lt' {n k : Nat} (hk : 0 < k) (h : n < 2 ^ k) : n.log2 < k := by
  rcases Nat.eq_zero_or_pos n with z | z
  · rw [z]
    simpa using hk
  · exact (Nat.log2_lt (by omega)).mpr h
theorem makeL_lt : ∀ (ps as : List Nat), (∀ p ∈ ps, p < 64) → makeL ps as ≤ 2 ^ (6 * as.sum)
  | [], [], _ => by simp [makeL]
  | [], a :: as, _ => by
    simp only [makeL]
    exact Nat.one_le_two_pow
  | _ :: _, [], _ => by simp [makeL]
  | p :: ps, a :: as, h => by
    have ih := makeL_lt ps as fun q hq => h q (List.mem_cons_of_mem _ hq)
    have hp : p ≤ 2 ^ 6 := by have := h p List.mem_cons_self; omega
    have h1 : p ^ a ≤ 2 ^ (6 * a) := by
      rw [Nat.pow_mul]
      exact Nat.pow_le_pow_left hp a
    show p ^ a * makeL ps as ≤ 2 ^ (6 * (a :: as).sum)
    rw [List.sum_cons, Nat.mul_add, Nat.pow_add]
    exact Nat.mul_le_mul h1 ih
theorem make_le (as : List Nat) : make as ≤ 2 ^ (6 * as.sum) := by
  rw [make_def]
  exact makeL_lt primes as primes_small
theorem sum_le {b : Nat} : ∀ {as : List Nat}, (∀ a ∈ as, a ≤ b) → as.sum ≤ b * as.length
  | [], _ => by simp
  | a :: as, h => by
    have ih := sum_le (as := as) fun x hx => h x (List.mem_cons_of_mem _ hx)
    have := h a List.mem_cons_self
    rw [List.sum_cons, List.length_cons, Nat.mul_add]
    omega
theorem isNum_lt {n : Nat} (h : isNum n = true) : n < 2 ^ 28801 := by
  obtain ⟨h0, h1, h2⟩ := isNum_iff.mp h
  have e := make_rooms1 h0 h1
  have h3 := sum_le h2
  rw [rooms_len] at h3
  have h4 := make_le (rooms n)
  rw [e] at h4
  have h5 : 2 ^ (6 * (rooms n).sum) ≤ 2 ^ 28800 := Nat.pow_le_pow_right (by decide) (by omega)
  have h6 : 2 ^ 28800 < 2 ^ 28801 := Nat.pow_lt_pow_right (by decide) (by decide)
  omega
/-! ### one more in a room -/
/-- makeL by places -/
theorem makeL_set : ∀ (ps as : List Nat) (i p a : Nat), ps[i]? = some p → as[i]? = some a → makeL ps (as.set i (a + 1)) = makeL ps as * p
  | [], _, i, _, _, h, _ => by simp at h
  | _ :: _, [], i, _, _, _, h => by simp at h
  | q :: ps, b :: as, 0, p, a, h, h' => by
    have e1 : q = p := Option.some.inj h
    have e2 : b = a := Option.some.inj h'
    subst e1 e2
    show q ^ (b + 1) * makeL ps as = q ^ b * makeL ps as * q
    rw [Nat.pow_succ, Nat.mul_assoc, Nat.mul_comm q, ← Nat.mul_assoc]
  | q :: ps, b :: as, i + 1, p, a, h, h' => by
    show q ^ b * makeL ps (as.set i (a + 1)) = q ^ b * makeL ps as * p
    rw [makeL_set ps as i p a h h', Nat.mul_assoc]
theorem make_set {as : List Nat} {i p a : Nat} (hp : primes[i]? = some p) (ha : as[i]? = some a) : make (as.set i (a + 1)) = make as * p := by
  rw [make_def, make_def]
  exact makeL_set primes as i p a hp ha
theorem makeL_zero : ∀ (ps : List Nat) (n : Nat), makeL ps (List.replicate n 0) = 1
  | [], 0 => rfl
  | [], n + 1 => rfl
  | _ :: _, 0 => rfl
  | p :: ps, n + 1 => by
    show p ^ 0 * makeL ps (List.replicate n 0) = 1
    rw [makeL_zero ps n]
    simp
theorem make_zero : make (List.replicate 12 0) = 1 := by
  rw [make_def]
  exact makeL_zero primes 12
theorem sum_set1 : ∀ {as : List Nat} {i a : Nat}, as[i]? = some a → (as.set i (a + 1)).sum = as.sum + 1
  | [], i, a, h => by simp at h
  | b :: as, 0, a, h => by
    have e : b = a := Option.some.inj h
    subst e
    show (b + 1) + as.sum = b + as.sum + 1
    omega
  | b :: as, i + 1, a, h => by
    have ih := sum_set1 (as := as) (i := i) (a := a) h
    show b + (as.set i (a + 1)).sum = b + as.sum + 1
    omega
/-- the prime at i divides what is made just if it has something in room i -/
theorem make_mod {as : List Nat} {i p a : Nat} (hl : as.length = 12) (hp : primes[i]? = some p) (ha : as[i]? = some a) : make as % p = 0 ↔ 0 < a := by
  have hi : i < as.length := (List.getElem?_eq_some_iff.mp ha).1
  constructor
  · intro h
    rcases Nat.eq_zero_or_pos a with z | z
    · exfalso
      have hp2 : 2 ≤ p := primes_two p (List.mem_of_getElem? hp)
      have hc : Nat.Coprime p (make as) := by
        rw [make_def]
        have key : ∀ (ps bs : List Nat) (j q : Nat), Cop ps → ps[j]? = some q → bs[j]? = some 0 → Nat.Coprime q (makeL ps bs) := by
          intro ps
          induction ps with
          | nil => intro bs j q _ h; simp at h
          | cons r ps ih =>
            intro bs j q hc h h'
            cases bs with
            | nil => simp at h'
            | cons b bs =>
              obtain ⟨c1, c2, c3⟩ := hc
              cases j with
              | zero =>
                have e1 : r = q := Option.some.inj h
                have e2 : b = 0 := Option.some.inj h'
                subst e1 e2
                show Nat.Coprime r (r ^ 0 * makeL ps bs)
                rw [Nat.pow_zero, Nat.one_mul]
                exact cop_make ps bs c2
              | succ j =>
                have hq : q ∈ ps := List.mem_of_getElem? (i := j) h
                show Nat.Coprime q (r ^ b * makeL ps bs)
                exact Nat.Coprime.mul_right (Nat.Coprime.pow_right b (Nat.Coprime.symm (c2 q hq))) (ih bs j q c3 h h')
        exact key primes as i p cop_primes hp (by rw [ha, z])
      exact cop_mod hp2 hc h
    · exact z
  · intro h
    obtain ⟨b, rfl⟩ : ∃ b, a = b + 1 := ⟨a - 1, by omega⟩
    have e : make as = make (as.set i b) * p := by
      have h1 : (as.set i b)[i]? = some b := by rw [List.getElem?_set_self hi]
      have h2 := make_set (as := as.set i b) hp h1
      rw [List.set_set] at h2
      rw [← h2]
      congr 1
      refine (List.ext_getElem? fun k => ?_)
      by_cases hk : k = i
      · subst hk; rw [ha, List.getElem?_set_self hi]
      · rw [List.getElem?_set_ne (Ne.symm hk)]
    rw [e]
    exact Nat.mul_mod_left _ _
theorem make_div {as : List Nat} {i p a : Nat} (hp : primes[i]? = some p) (ha : as[i]? = some (a + 1)) : make as / p = make (as.set i a) := by
  have hi : i < as.length := (List.getElem?_eq_some_iff.mp ha).1
  have hp2 : 2 ≤ p := primes_two p (List.mem_of_getElem? hp)
  have h1 : (as.set i a)[i]? = some a := by rw [List.getElem?_set_self hi]
  have h2 := make_set (as := as.set i a) hp h1
  rw [List.set_set] at h2
  have e : as.set i (a + 1) = as := by
    refine (List.ext_getElem? fun k => ?_)
    by_cases hk : k = i
    · subst hk; rw [ha, List.getElem?_set_self hi]
    · rw [List.getElem?_set_ne (Ne.symm hk)]
  rw [e] at h2
  rw [h2]
  exact Nat.mul_div_cancel _ (by omega)
/-- coprime, if in no room both have something -/
theorem make_cop {as bs : List Nat} (h : ∀ i : Nat, as[i]? = some 0 ∨ bs[i]? = some 0 ∨ 12 ≤ i) : Nat.gcd (make as) (make bs) = 1 := by
  rw [make_def, make_def]
  have key : ∀ (ps as bs : List Nat), Cop ps → (∀ i : Nat, as[i]? = some 0 ∨ bs[i]? = some 0 ∨ ps.length ≤ i) → Nat.Coprime (makeL ps as) (makeL ps bs) := by
    intro ps
    induction ps with
    | nil => intro as bs _ _; cases as <;> simp [makeL]
    | cons p ps ih =>
      intro as bs hc h
      obtain ⟨c1, c2, c3⟩ := hc
      cases as with
      | nil => simp [makeL]
      | cons a as =>
        cases bs with
        | nil => simp [makeL]
        | cons b bs =>
          have ih' := ih as bs c3 fun i => by
            have := h (i + 1)
            simpa using this
          have h0 := h 0
          have ha : Nat.Coprime p (makeL ps as) := cop_make ps as c2
          have hb : Nat.Coprime p (makeL ps bs) := cop_make ps bs c2
          show Nat.Coprime (p ^ a * makeL ps as) (p ^ b * makeL ps bs)
          have g1 : Nat.Coprime (makeL ps as) (p ^ b * makeL ps bs) := Nat.Coprime.mul_right (Nat.Coprime.symm (Nat.Coprime.pow_left b ha)) ih'
          have g2 : Nat.Coprime (p ^ a) (p ^ b * makeL ps bs) := by
            rcases h0 with z | z | z
            · have e : a = 0 := by simpa using z
              subst e
              simp
            · have e : b = 0 := by simpa using z
              subst e
              rw [Nat.pow_zero, Nat.one_mul]
              exact Nat.Coprime.pow_left a hb
            · simp at z
          exact Nat.Coprime.mul_left g2 g1
  exact key primes as bs cop_primes h
end Fr
namespace Fr
/-! ### programs -/
abbrev Prog := List (Nat × Nat)
/-- whether it is a fraction -/
def isFrac (p : Nat × Nat) : Bool := (isNum p.1 && isNum p.2) && (decide (max p.1 p.2 ≤ 1000000) && decide (Nat.gcd p.1 p.2 = 1))
def isProg (l : Prog) : Bool := decide (l.length ≤ 16) && l.all isFrac
/-- the place of the first that fits -/
def firstAt (l : Prog) (n : Nat) : Option Nat := l.findIdx? fun p => decide (n % p.2 = 0)
def upAt (l : Prog) (i : Nat) : Nat := (l.getD i (1, 1)).1
def unAt (l : Prog) (i : Nat) : Nat := (l.getD i (1, 1)).2
/-- the number behind a step -/
def led (l : Prog) (n : Nat) : Option Nat := (firstAt l n).map fun i => n / unAt l i * upAt l i
theorem firstAt_some {l : Prog} {n i : Nat} (hi : i < l.length) (h : n % (l[i]).2 = 0) (hb : ∀ (j : Nat) (hj : j < l.length), j < i → n % (l[j]).2 ≠ 0) : firstAt l n = some i := by
  unfold firstAt
  rw [List.findIdx?_eq_some_iff_getElem]
  refine ⟨hi, by simpa using h, fun j hj => ?_⟩
  have := hb j (by omega) hj
  simpa using this
theorem firstAt_none {l : Prog} {n : Nat} (h : ∀ (j : Nat) (hj : j < l.length), n % (l[j]).2 ≠ 0) : firstAt l n = none := by
  unfold firstAt
  rw [List.findIdx?_eq_none_iff]
  intro p hp
  obtain ⟨j, hj, e⟩ := List.mem_iff_getElem.mp hp
  have := h j hj
  rw [e] at this
  simpa using this
theorem firstAt_is {l : Prog} {n i : Nat} (h : firstAt l n = some i) : ∃ hi : i < l.length, n % (l[i]).2 = 0 ∧ ∀ (j : Nat) (hj : j < l.length), j < i → n % (l[j]).2 ≠ 0 := by
  unfold firstAt at h
  rw [List.findIdx?_eq_some_iff_getElem] at h
  obtain ⟨hi, h1, h2⟩ := h
  refine ⟨hi, by simpa using h1, fun j hj hji => ?_⟩
  have := h2 j hji
  simpa using this
theorem firstAt_lt {l : Prog} {n i : Nat} (h : firstAt l n = some i) : i < l.length := (firstAt_is h).1
theorem unAt_eq {l : Prog} {i : Nat} (h : i < l.length) : unAt l i = (l[i]).2 := by
  unfold unAt
  rw [List.getD_eq_getElem?_getD, List.getElem?_eq_getElem h]
  rfl
theorem upAt_eq {l : Prog} {i : Nat} (h : i < l.length) : upAt l i = (l[i]).1 := by
  unfold upAt
  rw [List.getD_eq_getElem?_getD, List.getElem?_eq_getElem h]
  rfl
theorem isFrac_iff {p : Nat × Nat} : isFrac p = true ↔ isNum p.1 = true ∧ isNum p.2 = true ∧ p.1 ≤ 1000000 ∧ p.2 ≤ 1000000 ∧ Nat.gcd p.1 p.2 = 1 := by
  unfold isFrac
  simp only [Bool.and_eq_true, decide_eq_true_eq]
  constructor
  · rintro ⟨⟨h1, h2⟩, h3, h4⟩
    exact ⟨h1, h2, by omega, by omega, h4⟩
  · rintro ⟨h1, h2, h3, h4, h5⟩
    exact ⟨⟨h1, h2⟩, by omega, h5⟩
theorem isProg_iff {l : Prog} : isProg l = true ↔ l.length ≤ 16 ∧ ∀ p ∈ l, isFrac p = true := by
  unfold isProg
  simp only [Bool.and_eq_true, decide_eq_true_eq, List.all_eq_true]
theorem isNum_pos {n : Nat} (h : isNum n = true) : 0 < n := (isNum_iff.mp h).1
theorem isProg_pos {l : Prog} (h : isProg l = true) : ∀ p ∈ l, 0 < p.2 := fun p hp => isNum_pos (isFrac_iff.mp ((isProg_iff.mp h).2 p hp)).2.1
/-! ### too great -/
theorem two_pow_le_make {as : List Nat} {a : Nat} (hl : as.length = 12) (ha : a ∈ as) : 2 ^ a ≤ make as := by
  rw [make_def]
  have key : ∀ (ps bs : List Nat), (∀ p ∈ ps, 2 ≤ p) → bs.length = ps.length → a ∈ bs → 2 ^ a ≤ makeL ps bs := by
    intro ps
    induction ps with
    | nil =>
      intro bs _ hl h
      cases bs with
      | nil => cases h
      | cons b bs => simp at hl
    | cons p ps ih =>
      intro bs h2 hl h
      cases bs with
      | nil => simp at hl
      | cons b bs =>
        have hp := h2 p List.mem_cons_self
        have hpos : 0 < makeL ps bs := make_pos ps bs fun q hq => h2 q (List.mem_cons_of_mem _ hq)
        show 2 ^ a ≤ p ^ b * makeL ps bs
        rcases List.mem_cons.mp h with e | e
        · subst e
          have h3 : 2 ^ a ≤ p ^ a := Nat.pow_le_pow_left hp a
          have h4 : p ^ a * 1 ≤ p ^ a * makeL ps bs := Nat.mul_le_mul_left _ hpos
          omega
        · have h3 := ih bs (fun q hq => h2 q (List.mem_cons_of_mem _ hq)) (by simpa using hl) e
          have h4 : 0 < p ^ b := Nat.pow_pos (by omega)
          have h5 : 1 * makeL ps bs ≤ p ^ b * makeL ps bs := Nat.mul_le_mul_right _ h4
          omega
  exact key primes as primes_two hl ha
theorem great {n a : Nat} (h : 0 < n) (ha : a ∈ rooms n) (hb : 400 < a) : 0 < n / 10 ^ 60 / 10 ^ 60 := by
  have h1 := two_pow_le_make (rooms_len n) ha
  have h2 := make_rooms h
  have h3 : make (rooms n) * 1 ≤ make (rooms n) * left n := Nat.mul_le_mul_left _ h2.2
  have h4 : (2 : Nat) ^ 401 ≤ 2 ^ a := Nat.pow_le_pow_right (by decide) hb
  have h5 : (10 : Nat) ^ 60 * 10 ^ 60 ≤ 2 ^ 401 := by decide +kernel
  have h6 : 10 ^ 60 * 10 ^ 60 ≤ n := by omega
  rw [Nat.div_div_eq_div_mul]
  exact Nat.div_pos h6 (by decide +kernel)
/-! ### idle ones -/
def isIdle (l : Prog) (i : Nat) : Bool := !decide (firstAt l (unAt l i) = some i)
def idleOf (l : Prog) : List Nat := (List.range l.length).filter (isIdle l)
def leanOf (l : Prog) : Prog := l.zipIdx.filterMap fun p => if p.2 ∈ idleOf l then none else some p.1
end Fr
namespace Fr
/-! ### what the law draws -/
/-- a product of at most b of the first k primes -/
def SomeN (k b n : Nat) : Prop := ∃ as : List Nat, as.length = 12 ∧ n = make as ∧ as.sum ≤ b ∧ ∀ j, k ≤ j → j < 12 → as[j]? = some 0
def FracN (k : Nat) (p : Nat × Nat) : Prop := SomeN k 2 p.1 ∧ SomeN k 3 p.2 ∧ Nat.gcd p.1 p.2 = 1
theorem sum_dec : ∀ {as : List Nat} {i a : Nat}, as[i]? = some (a + 1) → (as.set i a).sum + 1 = as.sum
  | [], i, a, h => by simp at h
  | b :: as, 0, a, h => by
    have e : b = a + 1 := Option.some.inj h
    subst e
    show a + as.sum + 1 = a + 1 + as.sum
    omega
  | b :: as, i + 1, a, h => by
    have ih := sum_dec (as := as) (i := i) (a := a) h
    show b + (as.set i a).sum + 1 = b + as.sum
    omega
theorem mem_le_sum : ∀ {as : List Nat} {a : Nat}, a ∈ as → a ≤ as.sum
  | b :: as, a, h => by
    rw [List.sum_cons]
    rcases List.mem_cons.mp h with e | e
    · omega
    · have := mem_le_sum e
      omega
theorem SomeN.num {k b n : Nat} (h : SomeN k b n) (hb : b ≤ 400) : isNum n = true := by
  obtain ⟨as, h1, rfl, h2, _⟩ := h
  exact isNum_make h1 fun a ha => by
    have := mem_le_sum ha
    omega
theorem SomeN.le {k b n : Nat} (h : SomeN k b n) : n ≤ 2 ^ (6 * b) := by
  obtain ⟨as, _, rfl, h2, _⟩ := h
  exact Nat.le_trans (make_le as) (Nat.pow_le_pow_right (by decide) (by omega))
theorem FracN.frac {k : Nat} {p : Nat × Nat} (h : FracN k p) : isFrac p = true := by
  obtain ⟨h1, h2, h3⟩ := h
  have l1 := h1.le
  have l2 := h2.le
  refine isFrac_iff.mpr ⟨h1.num (by decide), h2.num (by decide), ?_, ?_, h3⟩
  · exact Nat.le_trans l1 (by decide)
  · exact Nat.le_trans l2 (by decide)
theorem fracs_prog {k : Nat} {l : Prog} (h : ∀ p ∈ l, FracN k p) (hl : l.length ≤ 16) : isProg l = true := isProg_iff.mpr ⟨hl, fun p hp => (h p hp).frac⟩
/-- the law's own step -/
def lawStep (l : Prog) (n : Nat) : Option (Nat × Nat) := (l.findIdx? fun p => decide (n * p.1 % p.2 = 0)).map fun i => (i, n * upAt l i / unAt l i)
theorem cop_fit {n t u : Nat} (h : Nat.gcd t u = 1) : n * t % u = 0 ↔ n % u = 0 := by
  constructor
  · intro e
    have d : u ∣ n * t := Nat.dvd_of_mod_eq_zero e
    exact Nat.mod_eq_zero_of_dvd (Nat.Coprime.dvd_of_dvd_mul_right (Nat.Coprime.symm h) d)
  · intro e
    exact Nat.mod_eq_zero_of_dvd (Nat.dvd_mul_right_of_dvd (Nat.dvd_of_mod_eq_zero e) t)
theorem fit_div {n t u : Nat} (h : n % u = 0) : n * t / u = n / u * t := by
  obtain ⟨c, rfl⟩ := Nat.dvd_of_mod_eq_zero h
  rcases Nat.eq_zero_or_pos u with z | z
  · subst z
    simp
  · rw [Nat.mul_div_cancel_left _ z, Nat.mul_assoc, Nat.mul_div_cancel_left _ z]
theorem lawStep_eq {l : Prog} (hP : isProg l = true) (n : Nat) : lawStep l n = (firstAt l n).map fun i => (i, n / unAt l i * upAt l i) := by
  have hc : ∀ p ∈ l, Nat.gcd p.1 p.2 = 1 := fun p hp => (isFrac_iff.mp ((isProg_iff.mp hP).2 p hp)).2.2.2.2
  have e1 : (l.findIdx? fun p => decide (n * p.1 % p.2 = 0)) = firstAt l n := by
    unfold firstAt
    have key : ∀ m : Prog, (∀ p ∈ m, Nat.gcd p.1 p.2 = 1) → (m.findIdx? fun p => decide (n * p.1 % p.2 = 0)) = m.findIdx? fun p => decide (n % p.2 = 0) := by
      intro m
      induction m with
      | nil => intro _; rfl
      | cons p m ih =>
        intro h
        rw [List.findIdx?_cons, List.findIdx?_cons, ih fun q hq => h q (List.mem_cons_of_mem _ hq)]
        have e : decide (n * p.1 % p.2 = 0) = decide (n % p.2 = 0) := by
          rw [Bool.eq_iff_iff, decide_eq_true_eq, decide_eq_true_eq]
          exact cop_fit (h p List.mem_cons_self)
        rw [e]
    exact key l hc
  unfold lawStep
  rw [e1]
  cases h : firstAt l n with
  | none => rfl
  | some i =>
    obtain ⟨hi, h0, _⟩ := firstAt_is h
    rw [Option.map_some, Option.map_some, unAt_eq hi, fit_div h0]
end Fr
namespace Fr
/-! ### idle ones, and the lean program -/
/-- an earlier one's under divides this one's -/
def dueAt (l : Prog) (i : Nat) : Bool := (l.take i).any fun p => decide (unAt l i % p.2 = 0)
theorem dueAt_iff {l : Prog} {i : Nat} (hi : i ≤ l.length) : dueAt l i = true ↔ ∃ (j : Nat) (hj : j < l.length), j < i ∧ unAt l i % (l[j]).2 = 0 := by
  unfold dueAt
  simp only [List.any_eq_true, decide_eq_true_eq]
  constructor
  · rintro ⟨p, hp, h⟩
    obtain ⟨j, hj, e⟩ := List.mem_iff_getElem.mp hp
    rw [List.length_take] at hj
    rw [List.getElem_take] at e
    exact ⟨j, by omega, by omega, by rw [e]; exact h⟩
  · rintro ⟨j, hj, hji, h⟩
    refine ⟨l[j], ?_, h⟩
    rw [List.mem_iff_getElem]
    exact ⟨j, by rw [List.length_take]; omega, by rw [List.getElem_take]⟩
theorem firstAt_self {l : Prog} {i : Nat} (hi : i < l.length) : ∃ j, firstAt l (unAt l i) = some j ∧ j ≤ i := by
  cases h : firstAt l (unAt l i) with
  | none =>
    unfold firstAt at h
    rw [List.findIdx?_eq_none_iff] at h
    have := h _ (List.getElem_mem hi)
    rw [unAt_eq hi] at this
    simp at this
  | some j =>
    refine ⟨j, rfl, ?_⟩
    obtain ⟨hj, _, hb⟩ := firstAt_is h
    rcases Nat.lt_or_ge i j with z | z
    · have := hb i hi z
      rw [unAt_eq hi] at this
      simp at this
    · exact z
theorem isIdle_due {l : Prog} {i : Nat} (hi : i < l.length) : isIdle l i = dueAt l i := by
  obtain ⟨j, hj, hji⟩ := firstAt_self hi
  obtain ⟨hjl, h0, hb⟩ := firstAt_is hj
  rw [Bool.eq_iff_iff, dueAt_iff (Nat.le_of_lt hi)]
  unfold isIdle
  rw [hj]
  simp only [Option.some.injEq, Bool.not_eq_true', decide_eq_false_iff_not]
  constructor
  · intro h
    exact ⟨j, hjl, by omega, h0⟩
  · rintro ⟨k, hk, hki, h⟩ e
    subst e
    exact hb k hk hki h
theorem idle_mem {l : Prog} {i : Nat} : i ∈ idleOf l ↔ i < l.length ∧ dueAt l i = true := by
  unfold idleOf
  rw [List.mem_filter, List.mem_range]
  constructor
  · rintro ⟨h1, h2⟩
    exact ⟨h1, by rw [← isIdle_due h1]; exact h2⟩
  · rintro ⟨h1, h2⟩
    exact ⟨h1, by rw [isIdle_due h1]; exact h2⟩
theorem idle_due (l : Prog) : idleOf l = (List.range l.length).filter (dueAt l) := by
  unfold idleOf
  refine List.filter_congr fun i hi => isIdle_due (List.mem_range.mp hi)
theorem lean_sub (l : Prog) : ∀ p ∈ leanOf l, p ∈ l := by
  intro p hp
  unfold leanOf at hp
  obtain ⟨⟨q, i⟩, hq, e⟩ := List.mem_filterMap.mp hp
  split at e
  · cases e
  · cases e
    exact (List.mem_zipIdx' hq).2 ▸ List.getElem_mem _
theorem lean_len (l : Prog) : (leanOf l).length ≤ l.length := by
  unfold leanOf
  have h := List.length_filterMap_le (fun p : (Nat × Nat) × Nat => if p.2 ∈ idleOf l then none else some p.1) l.zipIdx
  rw [List.length_zipIdx] at h
  exact h
theorem lean_prog {l : Prog} (h : isProg l = true) : isProg (leanOf l) = true := by
  obtain ⟨h1, h2⟩ := isProg_iff.mp h
  exact isProg_iff.mpr ⟨Nat.le_trans (lean_len l) h1, fun p hp => h2 p (lean_sub l p hp)⟩
/-- led by the fraction itself -/
theorem led_find (l : Prog) (n : Nat) : led l n = (l.find? fun p => decide (n % p.2 = 0)).map fun p => n / p.2 * p.1 := by
  unfold led
  cases h : firstAt l n with
  | none =>
    have : l.find? (fun p => decide (n % p.2 = 0)) = none := by
      unfold firstAt at h
      rw [List.findIdx?_eq_none_iff] at h
      rw [List.find?_eq_none]
      intro p hp
      have := h p hp
      simpa using this
    rw [this]
    rfl
  | some i =>
    obtain ⟨hi, h0, hb⟩ := firstAt_is h
    have : l.find? (fun p => decide (n % p.2 = 0)) = some l[i] := by
      rw [List.find?_eq_some_iff_getElem]
      refine ⟨by simpa using h0, i, hi, rfl, fun j hj => ?_⟩
      have := hb j (by omega) hj
      simpa using this
    rw [this, Option.map_some, Option.map_some, unAt_eq hi, upAt_eq hi]
/-- what is first to fit is kept, and stays the first -/
theorem lean_find (l : Prog) (n : Nat) : (leanOf l).find? (fun p => decide (n % p.2 = 0)) = l.find? fun p => decide (n % p.2 = 0) := by
  cases h : l.find? (fun p => decide (n % p.2 = 0)) with
  | none =>
    rw [List.find?_eq_none] at h ⊢
    exact fun p hp => h p (lean_sub l p hp)
  | some q =>
    rw [List.find?_eq_some_iff_append] at h
    obtain ⟨hq, l1, l2, e, hb⟩ := h
    have hq : n % q.2 = 0 := by simpa using hq
    have hlen : l1.length < l.length := by rw [e]; simp
    have hget : l[l1.length]'hlen = q := by
      simp only [e]
      rw [List.getElem_append_right (Nat.le_refl _)]
      simp
    have hni : l1.length ∉ idleOf l := by
      intro hm
      obtain ⟨_, hd⟩ := idle_mem.mp hm
      obtain ⟨j, hj, hji, h0⟩ := (dueAt_iff (Nat.le_of_lt hlen)).mp hd
      rw [unAt_eq hlen, hget] at h0
      have hjm : l[j] ∈ l1 := by
        simp only [e]
        rw [List.getElem_append_left hji]
        exact List.getElem_mem _
      have := hb _ hjm
      have h1 : l[j].2 ∣ q.2 := Nat.dvd_of_mod_eq_zero h0
      have h2 : q.2 ∣ n := Nat.dvd_of_mod_eq_zero hq
      have h3 : n % l[j].2 = 0 := Nat.mod_eq_zero_of_dvd (Nat.dvd_trans h1 h2)
      simp [h3] at this
    have e2 : leanOf l = (l1.zipIdx.filterMap fun p => if p.2 ∈ idleOf l then none else some p.1) ++ q :: ((l2.zipIdx (l1.length + 1)).filterMap fun p => if p.2 ∈ idleOf l then none else some p.1) := by
      unfold leanOf
      have e3 : l.zipIdx = l1.zipIdx ++ (q, l1.length) :: l2.zipIdx (l1.length + 1) := by
        have : (l1 ++ q :: l2).zipIdx = l1.zipIdx ++ (q, l1.length) :: l2.zipIdx (l1.length + 1) := by
          rw [List.zipIdx_append, List.zipIdx_cons]
          simp
        rw [← e] at this
        exact this
      rw [e3, List.filterMap_append, List.filterMap_cons]
      rw [if_neg hni]
    rw [List.find?_eq_some_iff_append]
    refine ⟨by simpa using hq, _, _, e2, ?_⟩
    intro p hp
    obtain ⟨⟨r, i⟩, hr, e4⟩ := List.mem_filterMap.mp hp
    split at e4
    · cases e4
    · cases e4
      have hrm : r ∈ l1 := (List.mem_zipIdx' hr).2 ▸ List.getElem_mem _
      exact hb r hrm
theorem lean_led (l : Prog) (n : Nat) : led (leanOf l) n = led l n := by
  rw [led_find, led_find, lean_find]
theorem lawStep_led {l : Prog} (hP : isProg l = true) (n : Nat) : (lawStep l n).map Prod.snd = led l n := by
  rw [lawStep_eq hP, Option.map_map]
  rfl
/-- the lean program has none idle -/
theorem lean_idle (l : Prog) : idleOf (leanOf l) = [] := by
  rw [idle_due, List.filter_eq_nil_iff]
  intro i hi
  rw [List.mem_range] at hi
  rw [Bool.not_eq_true]
  cases h : dueAt (leanOf l) i with
  | false => rfl
  | true =>
    exfalso
    obtain ⟨j, hj, hji, h0⟩ := (dueAt_iff (Nat.le_of_lt hi)).mp h
    rw [unAt_eq hi] at h0
    -- both stand in l, in their order
    have key : ∀ (m : Prog) (s : Nat) (i j : Nat) (hi : i < ((m.zipIdx s).filterMap fun p => if p.2 ∈ idleOf l then none else some p.1).length) (hji : j < i), ∃ (a b : Nat) (ha : a < m.length) (hb : b < m.length), b < a ∧ s + a ∉ idleOf l ∧ ((m.zipIdx s).filterMap fun p => if p.2 ∈ idleOf l then none else some p.1)[i] = m[a] ∧ ((m.zipIdx s).filterMap fun p => if p.2 ∈ idleOf l then none else some p.1)[j]'(by omega) = m[b] := by
      intro m
      induction m with
      | nil => intro s i j hi; simp at hi
      | cons p m ih =>
        intro s i j hi hji
        by_cases hp : s ∈ idleOf l
        · have e : (((p :: m).zipIdx s).filterMap fun p => if p.2 ∈ idleOf l then none else some p.1) = ((m.zipIdx (s + 1)).filterMap fun p => if p.2 ∈ idleOf l then none else some p.1) := by
            rw [List.zipIdx_cons, List.filterMap_cons, if_pos hp]
          obtain ⟨a, b, ha, hb, h1, h2, h3, h4⟩ := ih (s + 1) i j (by rw [← e]; exact hi) hji
          refine ⟨a + 1, b + 1, by simpa using ha, by simpa using hb, by omega, by rw [show s + (a + 1) = s + 1 + a by omega]; exact h2, ?_, ?_⟩
          · simp only [e]; rw [h3]; rfl
          · simp only [e]; rw [h4]; rfl
        · have e : (((p :: m).zipIdx s).filterMap fun p => if p.2 ∈ idleOf l then none else some p.1) = p :: ((m.zipIdx (s + 1)).filterMap fun p => if p.2 ∈ idleOf l then none else some p.1) := by
            rw [List.zipIdx_cons, List.filterMap_cons, if_neg hp]
          obtain ⟨i', rfl⟩ : ∃ i', i = i' + 1 := ⟨i - 1, by omega⟩
          have hi' : i' < ((m.zipIdx (s + 1)).filterMap fun p => if p.2 ∈ idleOf l then none else some p.1).length := by
            rw [e] at hi
            simpa using hi
          cases j with
          | zero =>
            have one : ∀ (m : Prog) (s i : Nat) (hi : i < ((m.zipIdx s).filterMap fun p => if p.2 ∈ idleOf l then none else some p.1).length), ∃ (a : Nat) (ha : a < m.length), s + a ∉ idleOf l ∧ ((m.zipIdx s).filterMap fun p => if p.2 ∈ idleOf l then none else some p.1)[i] = m[a] := by
              intro m
              induction m with
              | nil => intro s i hi; simp at hi
              | cons q m ih2 =>
                intro s i hi
                by_cases hq : s ∈ idleOf l
                · have e : (((q :: m).zipIdx s).filterMap fun p => if p.2 ∈ idleOf l then none else some p.1) = ((m.zipIdx (s + 1)).filterMap fun p => if p.2 ∈ idleOf l then none else some p.1) := by
                    rw [List.zipIdx_cons, List.filterMap_cons, if_pos hq]
                  obtain ⟨a, ha, h1, h2⟩ := ih2 (s + 1) i (by rw [← e]; exact hi)
                  refine ⟨a + 1, by simpa using ha, by rw [show s + (a + 1) = s + 1 + a by omega]; exact h1, ?_⟩
                  simp only [e]; rw [h2]; rfl
                · have e : (((q :: m).zipIdx s).filterMap fun p => if p.2 ∈ idleOf l then none else some p.1) = q :: ((m.zipIdx (s + 1)).filterMap fun p => if p.2 ∈ idleOf l then none else some p.1) := by
                    rw [List.zipIdx_cons, List.filterMap_cons, if_neg hq]
                  cases i with
                  | zero => exact ⟨0, by simp, by simpa using hq, by simp only [e]; rfl⟩
                  | succ i =>
                    obtain ⟨a, ha, h1, h2⟩ := ih2 (s + 1) i (by rw [e] at hi; simpa using hi)
                    refine ⟨a + 1, by simpa using ha, by rw [show s + (a + 1) = s + 1 + a by omega]; exact h1, ?_⟩
                    simp only [e]
                    rw [List.getElem_cons_succ, h2]; rfl
            obtain ⟨a, ha, h1, h2⟩ := one m (s + 1) i' hi'
            refine ⟨a + 1, 0, by simpa using ha, by simp, by omega, by rw [show s + (a + 1) = s + 1 + a by omega]; exact h1, ?_, ?_⟩
            · simp only [e]; rw [List.getElem_cons_succ, h2]; rfl
            · simp only [e]; rfl
          | succ j' =>
            obtain ⟨a, b, ha, hb, h1, h2, h3, h4⟩ := ih (s + 1) i' j' hi' (by omega)
            refine ⟨a + 1, b + 1, by simpa using ha, by simpa using hb, by omega, by rw [show s + (a + 1) = s + 1 + a by omega]; exact h2, ?_, ?_⟩
            · simp only [e]; rw [List.getElem_cons_succ, h3]; rfl
            · simp only [e]; rw [List.getElem_cons_succ, h4]; rfl
    obtain ⟨a, b, ha, hb, h1, h2, h3, h4⟩ := key l 0 i j (by unfold leanOf at hi; exact hi) hji
    have h3' : (leanOf l)[i] = l[a] := h3
    have h4' : (leanOf l)[j] = l[b] := h4
    rw [h3', h4'] at h0
    refine h2 ?_
    rw [Nat.zero_add]
    exact idle_mem.mpr ⟨ha, (dueAt_iff (Nat.le_of_lt ha)).mpr ⟨b, hb, h1, by rw [unAt_eq ha]; exact h0⟩⟩
/-! ### small numbers have small rooms -/
theorem room_lt {m k a : Nat} (h : 0 < m) (hk : m < 2 ^ k) (ha : a ∈ rooms m) : a < k := by
  have h1 := two_pow_le_make (rooms_len m) ha
  have h2 := make_rooms h
  have h3 : make (rooms m) * 1 ≤ make (rooms m) * left m := Nat.mul_le_mul_left _ h2.2
  rcases Nat.lt_or_ge a k with z | z
  · exact z
  · have : 2 ^ k ≤ 2 ^ a := Nat.pow_le_pow_right (by decide) z
    omega
theorem lt_log2 {n k j : Nat} (h : n < 2 ^ k) (hk : 0 < k) (hj : k ≤ j) : n.log2 < j := Nat.lt_of_lt_of_le (log2_lt' hk h) hj
theorem mil_lt {n : Nat} (h : n ≤ 1000000) : n < 2 ^ 20 := by omega
end Fr
namespace Fr
theorem makeL_snoc : ∀ (ps as : List Nat) (i p a : Nat), ps[i]? = some p → as[i]? = some a → makeL (ps.take (i + 1)) (as.take (i + 1)) = makeL (ps.take i) (as.take i) * p ^ a := by
  intro ps
  induction ps with
  | nil => intro as i p a h; simp at h
  | cons q ps ih =>
    intro as i p a h1 h2
    cases as with
    | nil => simp at h2
    | cons b as =>
      cases i with
      | zero =>
        simp only [List.getElem?_cons_zero, Option.some.injEq] at h1 h2
        subst h1 h2
        simp [makeL]
      | succ i =>
        simp only [List.getElem?_cons_succ] at h1 h2
        simp only [List.take_succ_cons, makeL]
        rw [ih as i p a h1 h2, Nat.mul_assoc]
theorem makeL_all : ∀ (ps as : List Nat), makeL (ps.take as.length) (as.take as.length) = makeL ps as := by
  intro ps
  induction ps with
  | nil => intro as; cases as <;> rfl
  | cons q ps ih =>
    intro as
    cases as with
    | nil => rfl
    | cons b as =>
      simp only [List.length_cons, List.take_succ_cons, makeL]
      rw [ih]
theorem makeL_pad : ∀ (ps as : List Nat) (k : Nat), makeL ps (as ++ List.replicate k 0) = makeL ps as := by
  intro ps
  induction ps with
  | nil => intro as k; cases as <;> cases k <;> simp [makeL, List.replicate_succ]
  | cons q ps ih =>
    intro as k
    cases as with
    | nil => rw [List.nil_append, makeL_zero]; rfl
    | cons b as => simp only [List.cons_append, makeL]; rw [ih]
theorem make_pad (as : List Nat) (k : Nat) : make (as ++ List.replicate k 0) = make as := by rw [make_def, make_def, makeL_pad]
theorem make_take (as : List Nat) : make as = makeL (primes.take as.length) (as.take as.length) := by rw [makeL_all, make_def]
theorem make_part_lt {as : List Nat} (h : ∀ a ∈ as, a ≤ 401) (hl : as.length ≤ 12) (i p j : Nat) (hp : p < 64) (hj : j ≤ 401) : makeL (primes.take i) (as.take i) * p ^ j < 2 ^ 40000 := by
  have h1 : makeL (primes.take i) (as.take i) ≤ 2 ^ (6 * (as.take i).sum) := makeL_lt _ _ fun p hp => primes_small p (List.mem_of_mem_take hp)
  have h2 : (as.take i).sum ≤ 401 * (as.take i).length := sum_le fun a ha => h a (List.mem_of_mem_take ha)
  have h3 : (as.take i).length ≤ 12 := Nat.le_trans (List.length_take_le' _ _) hl
  have h4 : p ^ j ≤ 2 ^ (6 * j) := by
    rw [Nat.pow_mul]
    exact Nat.pow_le_pow_left (by omega) j
  have h5 : makeL (primes.take i) (as.take i) * p ^ j ≤ 2 ^ (6 * (as.take i).sum + 6 * j) := by
    rw [Nat.pow_add]
    exact Nat.mul_le_mul h1 h4
  refine Nat.lt_of_le_of_lt h5 (Nat.pow_lt_pow_right (by decide) ?_)
  have : 401 * (as.take i).length ≤ 401 * 12 := Nat.mul_le_mul_left _ h3
  omega
theorem isNum_pad_false {as : List Nat} {k : Nat} (hl : as.length + k = 12) (h : ∃ a ∈ as, 400 < a) : isNum (make as) = false := by
  cases e : isNum (make as) with
  | false => rfl
  | true =>
    rw [← make_pad as k] at e
    have h2 := (isNum_iff.mp e).2.2
    rw [rooms_make (by simpa using hl)] at h2
    obtain ⟨a, ha, hb⟩ := h
    have := h2 a (List.mem_append_left _ ha)
    omega
/-! the law's own rooms of small numbers -/
theorem rooms_small {n : Nat} (h1 : 0 < n) (h : n < 2 ^ 400) : ∀ a ∈ rooms n, a ≤ 400 := by
  intro a ha
  obtain ⟨e, hl⟩ := make_rooms h1
  have hle : 2 ^ a ≤ make (rooms n) := two_pow_le_make (rooms_len n) ha
  have h3 : make (rooms n) ≤ n := by
    conv => rhs; rw [e]
    exact Nat.le_mul_of_pos_right _ hl
  have h4 : 2 ^ a < 2 ^ 400 := Nat.lt_of_le_of_lt (Nat.le_trans hle h3) h
  have := (Nat.pow_lt_pow_iff_right (by decide : 1 < 2)).mp h4
  omega
end Fr
namespace Fr
/-! ### rooms of a product -/
theorem cop_of_mod : ∀ p ∈ primes, ∀ m : Nat, m % p ≠ 0 → Nat.Coprime p m := by
  intro p hp m hm
  have key : ∀ p ∈ primes, ∀ r, r < p → r ≠ 0 → Nat.gcd r p = 1 := by decide +kernel
  have h2 : 0 < p := Nat.lt_of_lt_of_le (by decide) (primes_two p hp)
  show Nat.gcd p m = 1
  rw [Nat.gcd_rec]
  exact key p hp (m % p) (Nat.mod_lt _ h2) hm
theorem partL_dvd : ∀ (ps : List Nat) (n : Nat), (∀ p ∈ ps, 2 ≤ p) → 0 < n → (partL ps n).2 ∣ n ∧ 0 < (partL ps n).2 := by
  intro ps
  induction ps with
  | nil => intro n _ h; exact ⟨Nat.dvd_refl _, h⟩
  | cons p ps ih =>
    intro n h2 h
    have e := strip_eq (h2 p List.mem_cons_self) h
    have hp : 0 < (strip p n).2 := Nat.pos_of_ne_zero fun z => e.2 (by rw [z]; exact Nat.zero_mod _)
    obtain ⟨a, b⟩ := ih (strip p n).2 (fun q hq => h2 q (List.mem_cons_of_mem _ hq)) hp
    refine ⟨Nat.dvd_trans a ?_, b⟩
    exact ⟨p ^ (strip p n).1, by rw [Nat.mul_comm]; exact e.1⟩
theorem partL_mod : ∀ (ps : List Nat) (n : Nat), (∀ p ∈ ps, 2 ≤ p) → 0 < n → ∀ p ∈ ps, (partL ps n).2 % p ≠ 0 := by
  intro ps
  induction ps with
  | nil => intro n _ _ p hp; cases hp
  | cons q ps ih =>
    intro n h2 h p hp
    have e := strip_eq (h2 q List.mem_cons_self) h
    have hs : 0 < (strip q n).2 := Nat.pos_of_ne_zero fun z => e.2 (by rw [z]; exact Nat.zero_mod _)
    rcases List.mem_cons.mp hp with rfl | hp
    · intro z
      obtain ⟨d, _⟩ := partL_dvd ps (strip p n).2 (fun q hq => h2 q (List.mem_cons_of_mem _ hq)) hs
      exact e.2 (Nat.mod_eq_zero_of_dvd (Nat.dvd_trans (Nat.dvd_of_mod_eq_zero z) d))
    · exact ih (strip q n).2 (fun q hq => h2 q (List.mem_cons_of_mem _ hq)) hs p hp
theorem left_cop {n : Nat} (h : 0 < n) : ∀ p ∈ primes, Nat.Coprime p (left n) := fun p hp => cop_of_mod p hp _ (by rw [left_def]; exact partL_mod primes n primes_two h p hp)
theorem makeL_mul : ∀ (ps as bs : List Nat), as.length = bs.length → makeL ps as * makeL ps bs = makeL ps (List.zipWith (· + ·) as bs) := by
  intro ps
  induction ps with
  | nil => intro as bs _; cases as <;> cases bs <;> simp [makeL]
  | cons p ps ih =>
    intro as bs hl
    cases as with
    | nil => cases bs with
      | nil => simp [makeL]
      | cons => cases hl
    | cons a as =>
      cases bs with
      | nil => cases hl
      | cons b bs =>
        simp only [makeL, List.zipWith_cons_cons]
        rw [← ih as bs (by simpa using hl), Nat.pow_add]
        ac_rfl
theorem parts_mul {a b : Nat} (ha : 0 < a) (hb : 0 < b) : rooms (a * b) = List.zipWith (· + ·) (rooms a) (rooms b) ∧ left (a * b) = left a * left b := by
  have e1 := (make_rooms ha).1
  have e2 := (make_rooms hb).1
  have e3 : a * b = makeL primes (List.zipWith (· + ·) (rooms a) (rooms b)) * (left a * left b) := by
    rw [← makeL_mul primes _ _ (by rw [rooms_len, rooms_len]), ← make_def, ← make_def]
    conv => lhs; rw [e1, e2]
    ac_rfl
  have h := part_make primes (List.zipWith (· + ·) (rooms a) (rooms b)) (left a * left b) cop_primes (by rw [List.length_zipWith, rooms_len, rooms_len]; rfl) (fun q hq => Nat.Coprime.mul_right (left_cop ha q hq) (left_cop hb q hq))
  rw [← e3] at h
  constructor
  · rw [rooms_def, h]
  · rw [left_def (a * b), h]
theorem rooms_mul {a b : Nat} (ha : 0 < a) (hb : 0 < b) : rooms (a * b) = List.zipWith (· + ·) (rooms a) (rooms b) := (parts_mul ha hb).1
theorem left_mul {a b : Nat} (ha : 0 < a) (hb : 0 < b) : left (a * b) = left a * left b := (parts_mul ha hb).2
/-! ### a step keeps to the twelve primes -/
theorem led_left {l : Prog} {n x : Nat} (hP : isProg l = true) (hn : 0 < n) (hl : left n = 1) (h : led l n = some x) : 0 < x ∧ left x = 1 := by
  unfold led at h
  obtain ⟨i, hi, rfl⟩ := Option.map_eq_some_iff.mp h
  obtain ⟨hlt, h0, _⟩ := firstAt_is hi
  obtain ⟨f1, f2, f3, f4, f5⟩ := isFrac_iff.mp ((isProg_iff.mp hP).2 _ (List.getElem_mem hlt))
  rw [unAt_eq hlt, upAt_eq hlt]
  have hu := isNum_iff.mp f2
  have ht := isNum_iff.mp f1
  have e : n = (l[i]).2 * (n / (l[i]).2) := (Nat.mul_div_cancel' (Nat.dvd_of_mod_eq_zero h0)).symm
  have hq : 0 < n / (l[i]).2 := Nat.div_pos (Nat.le_of_dvd hn (Nat.dvd_of_mod_eq_zero h0)) hu.1
  have e2 : left (n / (l[i]).2) = 1 := by
    have := left_mul hu.1 hq
    rw [← e, hl, hu.2.1, Nat.one_mul] at this
    exact this.symm
  exact ⟨Nat.mul_pos hq ht.1, by rw [left_mul hq ht.1, e2, ht.2.1]⟩
theorem led_le {l : Prog} {n x : Nat} (hP : isProg l = true) (h : led l n = some x) : x ≤ n * 1000000 := by
  unfold led at h
  obtain ⟨i, hi, rfl⟩ := Option.map_eq_some_iff.mp h
  obtain ⟨hlt, h0, _⟩ := firstAt_is hi
  obtain ⟨f1, f2, f3, f4, f5⟩ := isFrac_iff.mp ((isProg_iff.mp hP).2 _ (List.getElem_mem hlt))
  rw [unAt_eq hlt, upAt_eq hlt]
  exact Nat.mul_le_mul (Nat.div_le_self _ _) f3
end Fr
namespace Fr
/-! ### rooms one by one -/
def rm (n r : Nat) : Nat := (rooms n).getD r 0
theorem rm_mul {a b : Nat} (ha : 0 < a) (hb : 0 < b) (r : Nat) : rm (a * b) r = rm a r + rm b r := by
  unfold rm
  rw [rooms_mul ha hb, List.getD_eq_getElem?_getD, List.getD_eq_getElem?_getD, List.getD_eq_getElem?_getD, List.getElem?_zipWith]
  by_cases h : r < 12
  · rw [List.getElem?_eq_getElem (by rw [rooms_len]; exact h), List.getElem?_eq_getElem (by rw [rooms_len]; exact h)]
    rfl
  · rw [List.getElem?_eq_none (by rw [rooms_len]; omega), List.getElem?_eq_none (by rw [rooms_len]; omega)]
    rfl
theorem rm_big {n r : Nat} (h : 12 ≤ r) : rm n r = 0 := by
  unfold rm
  rw [List.getD_eq_getElem?_getD, List.getElem?_eq_none (by rw [rooms_len]; exact h)]
  rfl
theorem rooms_rm (n : Nat) : rooms n = (List.range 12).map (rm n) := by
  apply List.ext_getElem?
  intro i
  rw [List.getElem?_map]
  by_cases h : i < 12
  · rw [List.getElem?_eq_getElem (by rw [rooms_len]; exact h), List.getElem?_range h]
    show _ = some ((rooms n).getD i 0)
    rw [List.getD_eq_getElem?_getD, List.getElem?_eq_getElem (by rw [rooms_len]; exact h)]
    rfl
  · rw [List.getElem?_eq_none (by rw [rooms_len]; omega), List.getElem?_eq_none (by simp; omega)]
    rfl
theorem num_ext {a b : Nat} (ha : 0 < a) (hb : 0 < b) (la : left a = 1) (lb : left b = 1) (h : ∀ r, r < 12 → rm a r = rm b r) : a = b := by
  rw [← make_rooms1 ha la, ← make_rooms1 hb lb, rooms_rm a, rooms_rm b]
  congr 1
  apply List.map_congr_left
  intro r hr
  exact h r (List.mem_range.mp hr)
theorem rm_make {f : Nat → Nat} {r : Nat} (h : r < 12) : rm (make ((List.range 12).map f)) r = f r := by
  unfold rm
  rw [rooms_make (by simp), List.getD_eq_getElem?_getD, List.getElem?_map, List.getElem?_range h]
  rfl
theorem left_mk {f : Nat → Nat} : left (make ((List.range 12).map f)) = 1 := left_make (by simp)
/-- which divides which, room by room -/
theorem dvd_rm {u n : Nat} (hu : 0 < u) (hn : 0 < n) (lu : left u = 1) (ln : left n = 1) : n % u = 0 ↔ ∀ r, r < 12 → rm u r ≤ rm n r := by
  constructor
  · intro h r _
    have e : n = u * (n / u) := (Nat.mul_div_cancel' (Nat.dvd_of_mod_eq_zero h)).symm
    have hq : 0 < n / u := Nat.div_pos (Nat.le_of_dvd hn (Nat.dvd_of_mod_eq_zero h)) hu
    have := rm_mul hu hq r
    rw [← e] at this
    omega
  · intro h
    have hq := make_pos' ((List.range 12).map fun r => rm n r - rm u r)
    have e : u * make ((List.range 12).map fun r => rm n r - rm u r) = n := by
      refine num_ext (Nat.mul_pos hu hq) hn (by rw [left_mul hu hq, lu, left_mk]) ln fun r hr => ?_
      rw [rm_mul hu hq, rm_make hr]
      have := h r hr
      omega
    rw [← e]
    exact Nat.mul_mod_right _ _
theorem div_rm {u n r : Nat} (hu : 0 < u) (hn : 0 < n) (h : n % u = 0) : rm (n / u) r = rm n r - rm u r := by
  have e : n = u * (n / u) := (Nat.mul_div_cancel' (Nat.dvd_of_mod_eq_zero h)).symm
  have hq : 0 < n / u := Nat.div_pos (Nat.le_of_dvd hn (Nat.dvd_of_mod_eq_zero h)) hu
  have := rm_mul hu hq r
  rw [← e] at this
  omega
theorem rm_pow {a : Nat} (ha : 0 < a) (r : Nat) : ∀ t, rm (a ^ t) r = t * rm a r
  | 0 => by
    rw [Nat.pow_zero, Nat.zero_mul]
    have := rm_mul (a := 1) (b := 1) (by decide) (by decide) r
    rw [Nat.one_mul] at this
    omega
  | t + 1 => by rw [Nat.pow_succ, rm_mul (Nat.pow_pos ha) ha, rm_pow ha r t, Nat.succ_mul]
theorem left_pow {a : Nat} (ha : 0 < a) (la : left a = 1) : ∀ t, left (a ^ t) = 1
  | 0 => by
    rw [Nat.pow_zero]
    have := left_mul (a := 1) (b := 1) (by decide) (by decide)
    rw [Nat.one_mul] at this
    have h1 : 0 < left 1 := (make_rooms (n := 1) (by decide)).2
    exact (Nat.mul_right_cancel h1 (by rw [Nat.one_mul]; exact this.symm))
  | t + 1 => by rw [Nat.pow_succ, left_mul (Nat.pow_pos ha) ha, left_pow ha la t, la]
end Fr
namespace Fr
/-! ### from which turn on something fits -/
structure Row4 where
  h : Nat
  o : Nat
  i : Nat
  d : Nat
def ffUp : List Row4 → Nat → Option Nat
  | [], f => some f
  | q :: r, f => if q.h < q.d then (if q.i ≤ q.o then none else ffUp r (max f ((q.d - q.h + q.i - q.o - 1) / (q.i - q.o)))) else ffUp r f
def okAt (q : Row4) (t : Nat) : Prop := (q.d : Int) ≤ q.h + t * ((q.i : Int) - q.o)
instance (q : Row4) (t : Nat) : Decidable (okAt q t) := by unfold okAt; exact inferInstance
def ffOf (rows : List Row4) : Option Nat := match ffUp rows 0 with
  | none => none
  | some f => if ∀ q ∈ rows, okAt q f then some f else none
/-- the least turn of one row -/
theorem ceil_least {h d k t : Nat} (hd : h < d) (hk : 0 < k) : (d - h + k - 1) / k ≤ t ↔ d ≤ h + t * k := by
  rw [Nat.div_le_iff_le_mul_add_pred hk]
  rw [Nat.mul_comm]
  omega
theorem okAt_up {q : Row4} (hi : q.o < q.i) (t : Nat) : okAt q t ↔ q.d ≤ q.h + t * (q.i - q.o) := by
  unfold okAt
  have e : ((q.i : Int) - q.o) = ((q.i - q.o : Nat) : Int) := by omega
  rw [e]
  constructor
  · intro h
    have : ((q.d : Nat) : Int) ≤ ((q.h + t * (q.i - q.o) : Nat) : Int) := by push_cast; exact h
    omega
  · intro h
    have : ((q.d : Nat) : Int) ≤ ((q.h + t * (q.i - q.o) : Nat) : Int) := by omega
    push_cast at this
    exact this
theorem okAt_no {q : Row4} (hi : q.i ≤ q.o) (hd : q.h < q.d) (t : Nat) : ¬ okAt q t := by
  unfold okAt
  intro h
  have h1 : (t : Int) * ((q.i : Int) - q.o) ≤ 0 := Int.mul_nonpos_of_nonneg_of_nonpos (by omega) (by omega)
  omega
/-- a row that does not grow only gets worse -/
theorem okAt_down {q : Row4} (hi : q.i ≤ q.o) {s t : Nat} (hst : s ≤ t) (h : okAt q t) : okAt q s := by
  unfold okAt at *
  have h1 : (t : Int) * ((q.i : Int) - q.o) ≤ (s : Int) * ((q.i : Int) - q.o) := Int.mul_le_mul_of_nonpos_right (by omega) (by omega)
  omega
theorem okAt_grow {q : Row4} (hi : q.o ≤ q.i) {s t : Nat} (hst : s ≤ t) (h : okAt q s) : okAt q t := by
  unfold okAt at *
  have h1 : (s : Int) * ((q.i : Int) - q.o) ≤ (t : Int) * ((q.i : Int) - q.o) := Int.mul_le_mul_of_nonneg_right (by omega) (by omega)
  omega
theorem ffUp_spec : ∀ (rows : List Row4) (f : Nat), match ffUp rows f with
    | none => ∃ q ∈ rows, ∀ t, ¬ okAt q t
    | some g => f ≤ g ∧ ∀ t, (g ≤ t ↔ f ≤ t ∧ ∀ q ∈ rows, q.h < q.d → okAt q t) := by
  intro rows
  induction rows with
  | nil =>
    intro f
    exact ⟨Nat.le_refl _, fun t => ⟨fun h => ⟨h, fun q hq => nomatch hq⟩, fun h => h.1⟩⟩
  | cons q rows ih =>
    intro f
    unfold ffUp
    by_cases hd : q.h < q.d
    · rw [if_pos hd]
      by_cases hi : q.i ≤ q.o
      · rw [if_pos hi]
        exact ⟨q, List.mem_cons_self, okAt_no hi hd⟩
      · rw [if_neg hi]
        have := ih (max f ((q.d - q.h + q.i - q.o - 1) / (q.i - q.o)))
        have hc : ∀ t, (q.d - q.h + q.i - q.o - 1) / (q.i - q.o) ≤ t ↔ okAt q t := fun t => by
          rw [okAt_up (by omega)]
          have e : q.d - q.h + q.i - q.o - 1 = q.d - q.h + (q.i - q.o) - 1 := by omega
          rw [e]
          exact ceil_least hd (by omega)
        cases e : ffUp rows (max f ((q.d - q.h + q.i - q.o - 1) / (q.i - q.o))) with
        | none =>
          rw [e] at this
          obtain ⟨p, hp, h⟩ := this
          exact ⟨p, List.mem_cons_of_mem _ hp, h⟩
        | some g =>
          rw [e] at this
          obtain ⟨h1, h2⟩ := this
          refine ⟨by omega, fun t => ?_⟩
          rw [h2 t]
          constructor
          · rintro ⟨a, b⟩
            refine ⟨by omega, fun p hp hpd => ?_⟩
            rcases List.mem_cons.mp hp with rfl | hp
            · exact (hc t).mp (by omega)
            · exact b p hp hpd
          · rintro ⟨a, b⟩
            have := (hc t).mpr (b q List.mem_cons_self hd)
            exact ⟨by omega, fun p hp hpd => b p (List.mem_cons_of_mem _ hp) hpd⟩
    · rw [if_neg hd]
      have := ih f
      cases e : ffUp rows f with
      | none =>
        rw [e] at this
        obtain ⟨p, hp, h⟩ := this
        exact ⟨p, List.mem_cons_of_mem _ hp, h⟩
      | some g =>
        rw [e] at this
        obtain ⟨h1, h2⟩ := this
        refine ⟨h1, fun t => ?_⟩
        rw [h2 t]
        constructor
        · rintro ⟨a, b⟩
          refine ⟨a, fun p hp hpd => ?_⟩
          rcases List.mem_cons.mp hp with rfl | hp
          · exact absurd hpd hd
          · exact b p hp hpd
        · rintro ⟨a, b⟩
          exact ⟨a, fun p hp hpd => b p (List.mem_cons_of_mem _ hp) hpd⟩
/-- what fits_from tells: the first turn at which all rows are met -/
theorem ffOf_spec (rows : List Row4) : match ffOf rows with
    | none => ∀ t, ¬ ∀ q ∈ rows, okAt q t
    | some g => (∀ q ∈ rows, okAt q g) ∧ ∀ t, t < g → ¬ ∀ q ∈ rows, okAt q t := by
  have h := ffUp_spec rows 0
  unfold ffOf
  cases e : ffUp rows 0 with
  | none =>
    rw [e] at h
    obtain ⟨q, hq, hn⟩ := h
    exact fun t z => hn t (z q hq)
  | some g =>
    rw [e] at h
    obtain ⟨_, h2⟩ := h
    have low : ∀ t, (∀ q ∈ rows, okAt q t) → g ≤ t := fun t z => (h2 t).mpr ⟨Nat.zero_le _, fun q hq _ => z q hq⟩
    dsimp only
    by_cases hall : ∀ q ∈ rows, okAt q g
    · rw [if_pos hall]
      exact ⟨hall, fun t ht z => absurd (low t z) (by omega)⟩
    · rw [if_neg hall]
      intro t z
      apply hall
      intro q hq
      have hgt := low t z
      by_cases hi : q.i ≤ q.o
      · exact okAt_down hi hgt (z q hq)
      · by_cases hd : q.h < q.d
        · exact ((h2 g).mp (Nat.le_refl _)).2 q hq hd
        · refine okAt_grow (s := 0) (by omega) (Nat.zero_le _) ?_
          unfold okAt
          omega
end Fr
namespace Fr
/-! ### turns by one fraction -/
def rowsOf (n u v w : Nat) : List Row4 := (List.range 12).map fun r => ⟨rm n r, rm u r, rm v r, rm w r⟩
/-- the number behind t turns -/
def turnN (n u v t : Nat) : Nat := n / u ^ t * v ^ t
structure Fr1 (u v : Nat) : Prop where
  u0 : 0 < u
  v0 : 0 < v
  lu : left u = 1
  lv : left v = 1
  cop : ∀ r, r < 12 → rm u r = 0 ∨ rm v r = 0
theorem turn_rm {n u v t : Nat} (F : Fr1 u v) (hn : 0 < n) (hl : left n = 1) (h : ∀ r, r < 12 → t * rm u r ≤ rm n r) :
    0 < turnN n u v t ∧ left (turnN n u v t) = 1 ∧ n % u ^ t = 0 ∧ ∀ r, r < 12 → rm (turnN n u v t) r = rm n r - t * rm u r + t * rm v r := by
  have hu := Nat.pow_pos (n := t) F.u0
  have hv := Nat.pow_pos (n := t) F.v0
  have hd : n % u ^ t = 0 := (dvd_rm hu hn (left_pow F.u0 F.lu t) hl).mpr fun r hr => by rw [rm_pow F.u0]; exact h r hr
  have hq : 0 < n / u ^ t := Nat.div_pos (Nat.le_of_dvd hn (Nat.dvd_of_mod_eq_zero hd)) hu
  have hlq : left (n / u ^ t) = 1 := by
    have e : n = u ^ t * (n / u ^ t) := (Nat.mul_div_cancel' (Nat.dvd_of_mod_eq_zero hd)).symm
    have := left_mul hu hq
    rw [← e, hl, left_pow F.u0 F.lu t, Nat.one_mul] at this
    exact this.symm
  refine ⟨Nat.mul_pos hq hv, ?_, hd, fun r hr => ?_⟩
  · unfold turnN
    rw [left_mul hq hv, hlq, left_pow F.v0 F.lv t]
  · unfold turnN
    rw [rm_mul hq hv, div_rm hu hn hd, rm_pow F.u0, rm_pow F.v0]
/-- w divides the number behind t turns, by rows -/
theorem turn_fit {n u v t w : Nat} (F : Fr1 u v) (hn : 0 < n) (hl : left n = 1) (h : ∀ r, r < 12 → t * rm u r ≤ rm n r) (hw : 0 < w) (lw : left w = 1) :
    turnN n u v t % w = 0 ↔ ∀ q ∈ rowsOf n u v w, okAt q t := by
  obtain ⟨a, b, _, c⟩ := turn_rm F hn hl h
  rw [dvd_rm hw a lw b]
  have key : ∀ r, r < 12 → (rm w r ≤ rm (turnN n u v t) r ↔ okAt ⟨rm n r, rm u r, rm v r, rm w r⟩ t) := fun r hr => by
    rw [c r hr]
    unfold okAt
    have hle := h r hr
    have e : ((t : Int) * ((rm v r : Int) - (rm u r : Int))) = ((t * rm v r : Nat) : Int) - ((t * rm u r : Nat) : Int) := by
      push_cast
      rw [Int.mul_sub]
    dsimp only
    rw [e]
    omega
  constructor
  · intro z q hq
    obtain ⟨r, hr, rfl⟩ := List.mem_map.mp hq
    exact (key r (List.mem_range.mp hr)).mp (z r (List.mem_range.mp hr))
  · intro z r hr
    exact (key r hr).mpr (z _ (List.mem_map.mpr ⟨r, List.mem_range.mpr hr, rfl⟩))
theorem turn_succ {n u v t : Nat} (F : Fr1 u v) (hn : 0 < n) (hl : left n = 1) (h : ∀ r, r < 12 → (t + 1) * rm u r ≤ rm n r) : turnN n u v t / u * v = turnN n u v (t + 1) := by
  have h' : ∀ r, r < 12 → t * rm u r ≤ rm n r := fun r hr => by
    have := h r hr
    rw [Nat.succ_mul] at this
    omega
  obtain ⟨a, b, _, c⟩ := turn_rm F hn hl h'
  obtain ⟨a', b', _, c'⟩ := turn_rm F hn hl h
  have hd : turnN n u v t % u = 0 := (dvd_rm F.u0 a F.lu b).mpr fun r hr => by
    rw [c r hr]
    have := h r hr
    rw [Nat.succ_mul] at this
    omega
  have hq : 0 < turnN n u v t / u := Nat.div_pos (Nat.le_of_dvd a (Nat.dvd_of_mod_eq_zero hd)) F.u0
  have hlq : left (turnN n u v t / u) = 1 := by
    have e : turnN n u v t = u * (turnN n u v t / u) := (Nat.mul_div_cancel' (Nat.dvd_of_mod_eq_zero hd)).symm
    have := left_mul F.u0 hq
    rw [← e, b, F.lu, Nat.one_mul] at this
    exact this.symm
  refine num_ext (Nat.mul_pos hq F.v0) a' (by rw [left_mul hq F.v0, hlq, F.lv]) b' fun r hr => ?_
  rw [rm_mul hq F.v0, div_rm F.u0 a hd, c r hr, c' r hr]
  have := h r hr
  rw [Nat.succ_mul] at this
  rw [Nat.succ_mul, Nat.succ_mul]
  omega
/-- how often u can be taken: by the rooms that it takes from -/
def outsOf (n u : Nat) : List Nat := (List.range 12).filterMap fun r => if 0 < rm u r then some (rm n r / rm u r) else none
theorem fits_out {n u v t : Nat} (F : Fr1 u v) : (∀ q ∈ rowsOf n u v u, okAt q t) ↔ ∀ a ∈ outsOf n u, t < a := by
  have key : ∀ r, r < 12 → (okAt ⟨rm n r, rm u r, rm v r, rm u r⟩ t ↔ (0 < rm u r → t < rm n r / rm u r)) := fun r hr => by
    unfold okAt
    dsimp only
    rcases F.cop r hr with e | e
    · rw [e]
      constructor
      · intro _ z
        omega
      · intro _
        have : (0 : Int) ≤ (t : Int) * ((rm v r : Int) - ((0 : Nat) : Int)) := Int.mul_nonneg (by omega) (by omega)
        omega
    · rw [e]
      by_cases h0 : 0 < rm u r
      · have e2 : (t : Int) * (((0 : Nat) : Int) - (rm u r : Int)) = -((t * rm u r : Nat) : Int) := by
          push_cast
          rw [Int.zero_sub, Int.mul_neg]
        rw [e2]
        have e3 : (t < rm n r / rm u r) ↔ (t + 1) * rm u r ≤ rm n r := by
          rw [← Nat.le_div_iff_mul_le h0]
          exact Iff.rfl
        rw [Nat.succ_mul] at e3
        constructor
        · intro z _
          exact e3.mpr (by omega)
        · intro z
          have := e3.mp (z h0)
          omega
      · have : rm u r = 0 := by omega
        rw [this]
        constructor
        · intro _ z
          omega
        · intro _
          simp
  constructor
  · intro z a ha
    obtain ⟨r, hr, e⟩ := List.mem_filterMap.mp ha
    split at e
    · rename_i h0
      cases e
      exact (key r (List.mem_range.mp hr)).mp (z _ (List.mem_map.mpr ⟨r, hr, rfl⟩)) h0
    · cases e
  · intro z q hq
    obtain ⟨r, hr, rfl⟩ := List.mem_map.mp hq
    refine (key r (List.mem_range.mp hr)).mpr fun h0 => z _ (List.mem_filterMap.mpr ⟨r, hr, ?_⟩)
    rw [if_pos h0]
theorem out_le {n u m : Nat} (h : ∀ a ∈ outsOf n u, m ≤ a) : ∀ r, r < 12 → m * rm u r ≤ rm n r := fun r hr => by
  by_cases h0 : 0 < rm u r
  · have := h (rm n r / rm u r) (List.mem_filterMap.mpr ⟨r, List.mem_range.mpr hr, by rw [if_pos h0]⟩)
    exact (Nat.le_div_iff_mul_le h0).mp this
  · have : rm u r = 0 := by omega
    rw [this, Nat.mul_zero]
    exact Nat.zero_le _
end Fr
namespace Fr
/-! ### how many turns a fraction has -/
def someOf (l : Prog) (n i : Nat) : List Nat := outsOf n (unAt l i) ++ (l.take i).filterMap fun p => ffOf (rowsOf n (unAt l i) (upAt l i) p.2)
theorem frac1 {l : Prog} {i : Nat} (hP : isProg l = true) (hi : i < l.length) : Fr1 (unAt l i) (upAt l i) := by
  obtain ⟨f1, f2, f3, f4, f5⟩ := isFrac_iff.mp ((isProg_iff.mp hP).2 _ (List.getElem_mem hi))
  rw [unAt_eq hi, upAt_eq hi]
  have hu := isNum_iff.mp f2
  have hv := isNum_iff.mp f1
  refine ⟨hu.1, hv.1, hu.2.1, hv.2.1, fun r hr => ?_⟩
  by_cases h1 : rm (l[i]).2 r = 0
  · exact .inl h1
  by_cases h2 : rm (l[i]).1 r = 0
  · exact .inr h2
  exfalso
  -- the r-th prime divides both
  have hp := make_pos' ((List.range 12).map fun j => if j = r then 1 else 0)
  have lp := left_mk (f := fun j => if j = r then 1 else 0)
  have d1 : (l[i]).1 % make ((List.range 12).map fun j => if j = r then 1 else 0) = 0 := (dvd_rm hp hv.1 lp hv.2.1).mpr fun j hj => by
    rw [rm_make hj]
    split
    · rename_i e
      rw [e]
      omega
    · exact Nat.zero_le _
  have d2 : (l[i]).2 % make ((List.range 12).map fun j => if j = r then 1 else 0) = 0 := (dvd_rm hp hu.1 lp hu.2.1).mpr fun j hj => by
    rw [rm_make hj]
    split
    · rename_i e
      rw [e]
      omega
    · exact Nat.zero_le _
  have d3 := Nat.dvd_gcd (Nat.dvd_of_mod_eq_zero d1) (Nat.dvd_of_mod_eq_zero d2)
  rw [f5] at d3
  have e1 : make ((List.range 12).map fun j => if j = r then 1 else 0) = 1 := Nat.dvd_one.mp d3
  have e2 := rm_make (f := fun j => if j = r then 1 else 0) hr
  rw [e1, if_pos rfl] at e2
  have e3 := rm_mul (a := 1) (b := 1) (by decide) (by decide) r
  rw [Nat.one_mul] at e3
  omega
theorem times_spec {l : Prog} {n i m : Nat} (hP : isProg l = true) (hn : 0 < n) (hl : left n = 1) (hi : firstAt l n = some i) (hm : m ∈ someOf l n i) (hle : ∀ a ∈ someOf l n i, m ≤ a) :
    0 < m ∧ (∀ t, t < m → firstAt l (turnN n (unAt l i) (upAt l i) t) = some i ∧ led l (turnN n (unAt l i) (upAt l i) t) = some (turnN n (unAt l i) (upAt l i) (t + 1))) ∧ firstAt l (turnN n (unAt l i) (upAt l i) m) ≠ some i ∧
      ∀ t, t ≤ m → ∀ r, r < 12 → t * rm (unAt l i) r ≤ rm n r := by
  have hlt := firstAt_lt hi
  have F := frac1 hP hlt
  have hou : ∀ a ∈ outsOf n (unAt l i), m ≤ a := fun a ha => hle a (List.mem_append_left _ ha)
  have room : ∀ t, t ≤ m → ∀ r, r < 12 → t * rm (unAt l i) r ≤ rm n r := fun t ht r hr => Nat.le_trans (Nat.mul_le_mul_right _ ht) (out_le hou r hr)
  have hnum : ∀ (j : Nat) (hj : j < l.length), 0 < (l[j]).2 ∧ left (l[j]).2 = 1 := fun j hj => by
    obtain ⟨f1, f2, _⟩ := isFrac_iff.mp ((isProg_iff.mp hP).2 _ (List.getElem_mem hj))
    have := isNum_iff.mp f2
    exact ⟨this.1, this.2.1⟩
  have before : ∀ t, t < m → firstAt l (turnN n (unAt l i) (upAt l i) t) = some i := fun t ht => by
    refine firstAt_some hlt ?_ fun j hj hji => ?_
    · rw [← unAt_eq hlt]
      refine (turn_fit F hn hl (room t (by omega)) F.u0 F.lu).mpr ((fits_out F).mpr fun a ha => ?_)
      have := hou a ha
      omega
    · intro z
      have fit := (turn_fit F hn hl (room t (by omega)) (hnum j hj).1 (hnum j hj).2).mp z
      have sp := ffOf_spec (rowsOf n (unAt l i) (upAt l i) (l[j]).2)
      cases e : ffOf (rowsOf n (unAt l i) (upAt l i) (l[j]).2) with
      | none =>
        rw [e] at sp
        exact sp t fit
      | some g =>
        rw [e] at sp
        have hg : g ∈ someOf l n i := by
          refine List.mem_append_right _ (List.mem_filterMap.mpr ⟨l[j], ?_, e⟩)
          rw [List.mem_take_iff_getElem]
          exact ⟨j, by omega, rfl⟩
        have := hle g hg
        exact sp.2 t (by omega) fit
  have behind : firstAt l (turnN n (unAt l i) (upAt l i) m) ≠ some i := fun z => by
    obtain ⟨h1, h2, h3⟩ := firstAt_is z
    rcases List.mem_append.mp hm with hm | hm
    · rw [← unAt_eq hlt] at h2
      have := (fits_out F).mp ((turn_fit F hn hl (room m (Nat.le_refl _)) F.u0 F.lu).mp h2) m hm
      omega
    · obtain ⟨p, hp, e⟩ := List.mem_filterMap.mp hm
      rw [List.mem_take_iff_getElem] at hp
      obtain ⟨j, hj, rfl⟩ := hp
      have hj2 : j < l.length := by omega
      have sp := ffOf_spec (rowsOf n (unAt l i) (upAt l i) (l[j]).2)
      rw [e] at sp
      exact h3 j hj2 (by omega) ((turn_fit F hn hl (room m (Nat.le_refl _)) (hnum j hj2).1 (hnum j hj2).2).mpr sp.1)
  refine ⟨?_, fun t ht => ⟨before t ht, ?_⟩, behind, room⟩
  · rcases Nat.eq_zero_or_pos m with z | z
    · exfalso
      apply behind
      rw [z]
      have : turnN n (unAt l i) (upAt l i) 0 = n := by unfold turnN; rw [Nat.pow_zero, Nat.pow_zero, Nat.div_one, Nat.mul_one]
      rw [this]
      exact hi
    · exact z
  · unfold led
    rw [before t ht]
    show some (turnN n (unAt l i) (upAt l i) t / unAt l i * upAt l i) = _
    rw [turn_succ F hn hl (room (t + 1) ht)]
/-- a room that grows above the bound stays above it -/
theorem great_later {n u v s t : Nat} (F : Fr1 u v) (hn : 0 < n) (hl : left n = 1) (h : ∀ k, k ≤ t → ∀ r, r < 12 → k * rm u r ≤ rm n r) (hb : ∀ r, r < 12 → rm n r ≤ 400) (hst : s ≤ t) {r : Nat} (hr : r < 12) (hg : 400 < rm (turnN n u v s) r) : 400 < rm (turnN n u v t) r := by
  obtain ⟨_, _, _, c1⟩ := turn_rm F hn hl (h s hst)
  obtain ⟨_, _, _, c2⟩ := turn_rm F hn hl (h t (Nat.le_refl _))
  rw [c1 r hr] at hg
  rw [c2 r hr]
  have h0 := hb r hr
  rcases F.cop r hr with e | e
  · rw [e] at hg ⊢
    have := Nat.mul_le_mul_right (rm v r) hst
    omega
  · rw [e] at hg
    omega
/-- no end, by the law's own -/
theorem outs_nil {n u : Nat} (hu : 0 < u) (lu : left u = 1) : outsOf n u = [] ↔ u = 1 := by
  constructor
  · intro h
    refine num_ext hu (by decide) lu ?_ fun r hr => ?_
    · have := left_pow hu lu 0
      rw [Nat.pow_zero] at this
      exact this
    · have e1 : rm 1 r = 0 := by
        have := rm_mul (a := 1) (b := 1) (by decide) (by decide) r
        rw [Nat.one_mul] at this
        omega
      rw [e1]
      rcases Nat.eq_zero_or_pos (rm u r) with z | z
      · exact z
      · have : rm n r / rm u r ∈ outsOf n u := List.mem_filterMap.mpr ⟨r, List.mem_range.mpr hr, by rw [if_pos z]⟩
        rw [h] at this
        cases this
  · rintro rfl
    unfold outsOf
    rw [List.filterMap_eq_nil_iff]
    intro r _
    have e1 : rm 1 r = 0 := by
      have := rm_mul (a := 1) (b := 1) (by decide) (by decide) r
      rw [Nat.one_mul] at this
      omega
    rw [e1]
    rfl
end Fr
namespace Fr
open PySem PySem.Spec PyProof.Rows L2

/-! ### heaps -/
theorem same_new {H : Hp} {p : Addr} {o : HO} (h : H p = none) : Same H (upd H p o) := fun b x e => by
  rw [upd_ne (ne_of_none e h)]
  exact e
/-- what H does not know may change -/
theorem same_put {H H' : Hp} {p : Addr} {o : HO} (s : Same H H') (h : H p = none) : Same H (upd H' p o) := fun b x e => by
  rw [upd_ne (ne_of_none e h)]
  exact s _ _ e
theorem same_tup {K : PySem.W.Frag} {H H' : Hp} {a : Addr} {xs : List V} (e : Same H H') (h : SqT K H a xs) : SqT K H' a xs := by
  rcases h with (h | ⟨o, h⟩) | h
  · exact .inl (.inl (e _ _ h))
  · exact .inl (.inr ⟨o, e _ _ h⟩)
  · exact .inr h
mutual
theorem same_dp {K : PySem.W.Frag} {H H' : Hp} (e : Same H H') : ∀ {d : PyData} {v : V}, Dp K H v d → Dp K H' v d
  | .none, _, .non => .non
  | .bool _, _, .bl b => .bl b
  | .int _, _, .int i => .int i
  | .str _, _, .str x => .str x
  | .list _, _, .lst h a => .lst (e.seq h) (same_dps e a)
  | .tuple _, _, .tup h a => .tup (same_tup e h) (same_dps e a)
theorem same_dps {K : PySem.W.Frag} {H H' : Hp} (e : Same H H') : ∀ {ds : List PyData} {vs : List V}, DpAll K H vs ds → DpAll K H' vs ds
  | [], _, .nil => .nil
  | _ :: _, _, .cons a b => .cons (same_dp e a) (same_dps e b)
end
theorem dps_len {K : PySem.W.Frag} {H : Hp} : ∀ {ds : List PyData} {vs : List V}, DpAll K H vs ds → vs.length = ds.length
  | [], _, .nil => rfl
  | _ :: _, _, .cons _ b => congrArg Nat.succ (dps_len b)
theorem dps_at {K : PySem.W.Frag} {H : Hp} : ∀ {ds : List PyData} {vs : List V} {i : Nat} {d : PyData}, DpAll K H vs ds → ds[i]? = some d → ∃ v, vs[i]? = some v ∧ Dp K H v d
  | [], _, _, _, .nil, h => by simp at h
  | e :: _, _, 0, d, .cons a _, h => by
    have z : e = d := Option.some.inj h
    subst z
    exact ⟨_, rfl, a⟩
  | _ :: _, _, i + 1, d, .cons _ b, h => dps_at (i := i) b h
theorem dps_at2 {K : PySem.W.Frag} {H : Hp} : ∀ {ds : List PyData} {vs : List V} {i : Nat} {v : V}, DpAll K H vs ds → vs[i]? = some v → ∃ d, ds[i]? = some d ∧ Dp K H v d
  | [], _, _, _, .nil, h => by simp at h
  | e :: _, _, 0, d, .cons a _, h => by
    have z := Option.some.inj h
    subst z
    exact ⟨_, rfl, a⟩
  | _ :: _, _, i + 1, d, .cons _ b, h => dps_at2 (i := i) b h
theorem dps_app {K : PySem.W.Frag} {H : Hp} : ∀ {ds es : List PyData} {vs ws : List V}, DpAll K H vs ds → DpAll K H ws es → DpAll K H (vs ++ ws) (ds ++ es)
  | [], _, _, _, .nil, h => h
  | _ :: _, _, _, _, .cons a b, h => .cons a (dps_app b h)
theorem dps_take {K : PySem.W.Frag} {H : Hp} : ∀ {ds : List PyData} {vs : List V} (n : Nat), DpAll K H vs ds → DpAll K H (vs.take n) (ds.take n)
  | _, _, 0, _ => .nil
  | [], _, _ + 1, .nil => .nil
  | _ :: _, _, n + 1, .cons a b => .cons a (dps_take n b)
theorem dps_drop {K : PySem.W.Frag} {H : Hp} : ∀ {ds : List PyData} {vs : List V} (n : Nat), DpAll K H vs ds → DpAll K H (vs.drop n) (ds.drop n)
  | _, _, 0, h => h
  | [], _, _ + 1, .nil => .nil
  | _ :: _, _, n + 1, .cons _ b => dps_drop n b
theorem dps_ints {K : PySem.W.Frag} {H : Hp} : ∀ (ns : List Int), DpAll K H (ns.map V.int) (ns.map PyData.int)
  | [] => .nil
  | n :: ns => .cons (.int n) (dps_ints ns)
theorem dps_of_ints {K : PySem.W.Frag} {H : Hp} : ∀ {ns : List Int} {vs : List V}, DpAll K H vs (ns.map PyData.int) → vs = ns.map V.int
  | [], _, .nil => rfl
  | n :: ns, _, .cons (.int _) b => congrArg (V.int n :: ·) (dps_of_ints b)

/-! ### a def that may be called by its name -/
abbrev ga := He.ga
/-- a def's own datum behind the top -/
def fdOf (K : PySem.W.Frag) (p : Str × Option Str) : FuncData := match K.lookup (He.fAd K p) with
  | some ⟨_, _, .func fd, _⟩ => fd
  | _ => default
abbrev FnP (K : PySem.W.Frag) (x : Str) (st : Stmt) : Prop := FunD K x x (defArgs st) (defBody st) (defScope st) [] [] (ga K x) (fdOf K (x, none))
structure Cal (P : Program) (w : World) (K : PySem.W.Frag) (mg : Str → Option Value) (base : Heap) (CX : CXT) (k : Nat) (x : Str) (ps : List Str) (sp : Sp) : Prop where
  fn : FnOk P w K mg base CX k (ga K x) (fdOf K (x, none)) ps sp
  m : mg x = some (.ref (ga K x))
  kp : PySem.W.keepIn K (.ref (ga K x)) = true
  b : Binds K (fdOf K (x, none)) ps []
def tCal (sp : Sp) (E : XK) (t : TA) : TE := fun σ H Q => t σ H fun vs H1 => sp vs H1 Q E
section
variable {X : Cx} {CX : CXT} {k : Nat} {x : Str} {ps : List Str} {sp : Sp} {E : XK} {p pos : Pos} {e : Expr} {es : List Expr} {t : TA}
theorem pe_cal (C : Cal X.prog X.w X.K X.mg X.base CX k x ps sp) (hr : Room k X.A) (hg : Gl X x) (hx : Passes CX X E) (ha : PA X (e :: es) t) (hdb : (x == ("__debug__" : Str)) = false := by decide)
    (he : starEach (e :: es) X.env = (false, eval e X.env) :: starEach es X.env := by rfl) (hpl : (backTo pos (starEach es X.env)).any (·.1) = false := by rfl) :
    PE X (.Call (.Name x p) (e :: es) [] pos) (tCal sp E t) := by
  have h := pe_call (p := p) (pos := pos) C.fn hr hg C.m C.kp C.b .nil hx ha hdb he hpl
  refine ⟨fun pins s σ H Q I q => h.run pins s σ H Q I ?_⟩
  show t σ H fun vs H1 => sp (vs ++ []) H1 Q E
  simp only [List.append_nil]
  exact q
theorem pe_cal0 (C : Cal X.prog X.w X.K X.mg X.base CX k x ps sp) (hr : Room k X.A) (hg : Gl X x) (hx : Passes CX X E) (hdb : (x == ("__debug__" : Str)) = false := by decide) :
    PE X (.Call (.Name x p) [] [] pos) (tCal sp E tNil) := by
  exact pe_call0 (p := p) (pos := pos) C.fn hr hg C.m C.kp C.b .nil hx hdb
end

/-! ### whole numbers that are not below nought -/
section
variable {X : Cx}
def rN (C : Nat → Nat → Prop) (g : Nat → Nat → V) : R2 := fun x y H Q => ∃ a b : Nat, x = .int a ∧ y = .int b ∧ C a b ∧ Q (g a b) H
def rN0 (g : Nat → Nat → V) : R2 := fun x y H Q => ∃ a b : Nat, x = .int a ∧ y = .int b ∧ Q (g a b) H
theorem opN_mod : OpR X (binaryOp .Mod) (rN (fun _ b => 0 < b) fun a b => .int ((a % b : Nat) : Int)) := by
  intro pins s σ H x y v u Q I rx ry h
  obtain ⟨a, b, rfl, rfl, hb, q⟩ := h
  exact op_mod pins s σ H _ _ v u Q I rx ry ⟨a, b, rfl, rfl, by omega, q⟩
theorem opN_div : OpR X (binaryOp .FloorDiv) (rN (fun _ b => 0 < b ∧ b.log2 < 9000) fun a b => .int ((a / b : Nat) : Int)) := by
  intro pins s σ H x y v u Q I rx ry h
  obtain ⟨a, b, rfl, rfl, ⟨h1, h2⟩, q⟩ := h
  exact op_fdivW pins s σ H _ _ v u Q I rx ry ⟨a, b, rfl, rfl, ⟨by omega, by simpa using h2⟩, q⟩
theorem opN_mul : OpR X (binaryOp .Mult) (rN (fun a b => a.log2 + b.log2 < 1000000) fun a b => .int ((a * b : Nat) : Int)) := by
  intro pins s σ H x y v u Q I rx ry h
  obtain ⟨a, b, rfl, rfl, h1, q⟩ := h
  exact op_mulW pins s σ H _ _ v u Q I rx ry ⟨a, b, rfl, rfl, by simpa [CMulW] using h1, q⟩
theorem opN_add : OpR X (binaryOp .Add) (rN0 fun a b => .int ((a + b : Nat) : Int)) := by
  intro pins s σ H x y v u Q I rx ry h
  obtain ⟨a, b, rfl, rfl, q⟩ := h
  exact op_add pins s σ H _ _ v u Q I rx ry ⟨a, b, rfl, rfl, q⟩
theorem opN_sub : OpR X (binaryOp .Sub) (rN (fun a b => b ≤ a) fun a b => .int ((a - b : Nat) : Int)) := by
  intro pins s σ H x y v u Q I rx ry h
  obtain ⟨a, b, rfl, rfl, h1, q⟩ := h
  refine op_sub pins s σ H _ _ v u Q I rx ry ⟨a, b, rfl, rfl, ?_⟩
  show Q (V.int ((a : Int) - (b : Int))) H
  rw [← Int.ofNat_sub h1]
  exact q
theorem opN_pow : OpR X (binaryOp .Pow) (rN (fun a b => b ≤ 1000000 ∧ a < 2 ^ 64) fun a b => .int ((a ^ b : Nat) : Int)) := by
  intro pins s σ H x y v u Q I rx ry h
  obtain ⟨a, b, rfl, rfl, ⟨h1, h2⟩, q⟩ := h
  refine op_pow pins s σ H _ _ v u Q I rx ry ⟨a, b, rfl, rfl, ⟨by omega, by omega, by simpa using h2⟩, ?_⟩
  show Q (V.int ((a : Int) ^ (b : Int).toNat)) H
  rw [Int.toNat_natCast, ← Int.natCast_pow]
  exact q
theorem opN_eq : OpR X (compareOp .Eq) (rN0 fun a b => .bl (decide (a = b))) := by
  intro pins s σ H x y v u Q I rx ry h
  obtain ⟨a, b, rfl, rfl, q⟩ := h
  refine op_eq pins s σ H _ _ v u Q I rx ry ⟨rfl, ?_⟩
  have e : decide (V.int (a : Int) = V.int (b : Int)) = decide (a = b) := by
    rw [Bool.eq_iff_iff]
    simp
    omega
  rw [e]
  exact q
theorem opN_ne : OpR X (compareOp .NotEq) (rN0 fun a b => .bl (!decide (a = b))) := by
  intro pins s σ H x y v u Q I rx ry h
  obtain ⟨a, b, rfl, rfl, q⟩ := h
  refine op_ne pins s σ H _ _ v u Q I rx ry ⟨rfl, ?_⟩
  have e : decide (V.int (a : Int) = V.int (b : Int)) = decide (a = b) := by
    rw [Bool.eq_iff_iff]
    simp
    omega
  rw [e]
  exact q
theorem opN_lt : OpR X (compareOp .Lt) (rN0 fun a b => .bl (decide (a < b))) := by
  intro pins s σ H x y v u Q I rx ry h
  obtain ⟨a, b, rfl, rfl, q⟩ := h
  refine op_lt pins s σ H _ _ v u Q I rx ry ⟨a, b, rfl, rfl, ?_⟩
  simpa using q
theorem opN_le : OpR X (compareOp .LtE) (rN0 fun a b => .bl (decide (a ≤ b))) := by
  intro pins s σ H x y v u Q I rx ry h
  obtain ⟨a, b, rfl, rfl, q⟩ := h
  refine op_le pins s σ H _ _ v u Q I rx ry ⟨a, b, rfl, rfl, ?_⟩
  simpa using q
theorem opN_gt : OpR X (compareOp .Gt) (rN0 fun a b => .bl (decide (b < a))) := by
  intro pins s σ H x y v u Q I rx ry h
  obtain ⟨a, b, rfl, rfl, q⟩ := h
  refine op_gt pins s σ H _ _ v u Q I rx ry ⟨a, b, rfl, rfl, ?_⟩
  simpa using q
theorem opN_ge : OpR X (compareOp .GtE) (rN0 fun a b => .bl (decide (b ≤ a))) := by
  intro pins s σ H x y v u Q I rx ry h
  obtain ⟨a, b, rfl, rfl, q⟩ := h
  refine op_ge pins s σ H _ _ v u Q I rx ry ⟨a, b, rfl, rfl, ?_⟩
  simpa using q
end

/-! ### isinstance of data -/
def tyD : PyData → String
  | .none => "NoneType"
  | .bool _ => "bool"
  | .int _ => "int"
  | .str _ => "str"
  | .list _ => "list"
  | .tuple _ => "tuple"
  | .dict _ => "dict"
def isD (n : String) (d : PyData) : Bool := (kitB (tyD d) n).getD false
theorem ty_of {K : PySem.W.Frag} {H : Hp} {v : V} {d : PyData} (h : Dp K H v d) : TyX K H v (.type (tyD d)) := by
  cases h with
  | non => exact .base .non
  | bl b => exact .base (.bl b)
  | int i => exact .base (.int i)
  | str x => exact .base (.str x)
  | lst h _ =>
    rcases h with (h | ⟨o, h⟩) | ⟨o, its, n, h, hc, _⟩
    · exact .base (.lst h)
    · exact .base (.frz h)
    · exact .kList h hc
  | tup h _ =>
    rcases h with (h | ⟨o, h⟩) | ⟨o, its, n, h, hc, _⟩
    · exact .base (.tup h)
    · exact .fTuple h
    · exact .kTuple h hc
def rIsD (K : PySem.W.Frag) (n : String) : List V → Hp → VK → Prop := fun xs H Q => ∃ (v : V) (d : PyData), xs = [v, .ty n] ∧ Dp K H v d ∧ Q (.bl (isD n d)) H
theorem kit_isD {n : String} (hk : (["NoneType", "bool", "int", "str", "list", "tuple"].all fun t => (kitB t n).isSome) = true) (d : PyData) (hd : ∀ z, d ≠ .dict z) : kitB (tyD d) n = some (isD n d) := by
  simp only [List.all_cons, List.all_nil, Bool.and_true, Bool.and_eq_true] at hk
  obtain ⟨h1, h2, h3, h4, h5, h6⟩ := hk
  have key : ∀ t : String, (kitB t n).isSome = true → kitB t n = some ((kitB t n).getD false) := fun t h => by
    cases e : kitB t n with
    | none =>
      rw [e] at h
      cases h
    | some b => rfl
  cases d with
  | none => exact key _ h1
  | bool _ => exact key _ h2
  | int _ => exact key _ h3
  | str _ => exact key _ h4
  | list _ => exact key _ h5
  | tuple _ => exact key _ h6
  | dict z => exact absurd rfl (hd z)
theorem call_isD {X : Cx} (n : String) (hk : (["NoneType", "bool", "int", "str", "list", "tuple"].all fun t => (kitB t n).isSome) = true) : CallR X (.builtin "isinstance") (rIsD X.K n) := by
  intro pins s σ H xs us Q I r h
  obtain ⟨v, d, rfl, hd, q⟩ := h
  exact call_isi pins s σ H _ us Q I r ⟨v, .ty n, _, _, isD n d, rfl, .ty n, ty_of hd, kit_ty (kit_isD hk d fun z e => by rw [e] at hd; cases hd), q⟩
theorem isK_int : (["NoneType", "bool", "int", "str", "list", "tuple"].all fun t => (kitB t "int").isSome) = true := by decide +kernel
theorem isK_bool : (["NoneType", "bool", "int", "str", "list", "tuple"].all fun t => (kitB t "bool").isSome) = true := by decide +kernel
theorem isK_str : (["NoneType", "bool", "int", "str", "list", "tuple"].all fun t => (kitB t "str").isSome) = true := by decide +kernel
theorem isK_list : (["NoneType", "bool", "int", "str", "list", "tuple"].all fun t => (kitB t "list").isSome) = true := by decide +kernel
theorem isK_tuple : (["NoneType", "bool", "int", "str", "list", "tuple"].all fun t => (kitB t "tuple").isSome) = true := by decide +kernel
def isIntD : PyData → Bool
  | .bool _ => true
  | .int _ => true
  | _ => false
def isBoolD : PyData → Bool
  | .bool _ => true
  | _ => false
def isStrD : PyData → Bool
  | .str _ => true
  | _ => false
def isListD : PyData → Bool
  | .list _ => true
  | _ => false
def isTupleD : PyData → Bool
  | .tuple _ => true
  | _ => false
theorem isD_int {K : PySem.W.Frag} {H : Hp} {v : V} {d : PyData} (h : Dp K H v d) : isD "int" d = isIntD d := by
  cases h <;> (simp only [isD, tyD, isIntD]; decide +kernel)
theorem isD_bool {K : PySem.W.Frag} {H : Hp} {v : V} {d : PyData} (h : Dp K H v d) : isD "bool" d = isBoolD d := by
  cases h <;> (simp only [isD, tyD, isBoolD]; decide +kernel)
theorem isD_str {K : PySem.W.Frag} {H : Hp} {v : V} {d : PyData} (h : Dp K H v d) : isD "str" d = isStrD d := by
  cases h <;> (simp only [isD, tyD, isStrD]; decide +kernel)
theorem isD_list {K : PySem.W.Frag} {H : Hp} {v : V} {d : PyData} (h : Dp K H v d) : isD "list" d = isListD d := by
  cases h <;> (simp only [isD, tyD, isListD]; decide +kernel)
theorem isD_tuple {K : PySem.W.Frag} {H : Hp} {v : V} {d : PyData} (h : Dp K H v d) : isD "tuple" d = isTupleD d := by
  cases h <;> (simp only [isD, tyD, isTupleD]; decide +kernel)
def rIs (K : PySem.W.Frag) (n : String) (f : PyData → Bool) : List V → Hp → VK → Prop := fun xs H Q => ∃ (v : V) (d : PyData), xs = [v, .ty n] ∧ Dp K H v d ∧ Q (.bl (f d)) H
section
variable {X : Cx}
theorem call_is {n : String} {f : PyData → Bool} (hk : (["NoneType", "bool", "int", "str", "list", "tuple"].all fun t => (kitB t n).isSome) = true) (he : ∀ {H : Hp} {v : V} {d : PyData}, Dp X.K H v d → isD n d = f d) :
    CallR X (.builtin "isinstance") (rIs X.K n f) := by
  intro pins s σ H xs us Q I r h
  obtain ⟨v, d, rfl, hd, q⟩ := h
  rw [← he hd] at q
  exact call_isD n hk pins s σ H _ us Q I r ⟨v, d, rfl, hd, q⟩
theorem is_int : CallR X (.builtin "isinstance") (rIs X.K "int" isIntD) := call_is isK_int isD_int
theorem is_bool : CallR X (.builtin "isinstance") (rIs X.K "bool" isBoolD) := call_is isK_bool isD_bool
theorem is_str : CallR X (.builtin "isinstance") (rIs X.K "str" isStrD) := call_is isK_str isD_str
theorem is_list : CallR X (.builtin "isinstance") (rIs X.K "list" isListD) := call_is isK_list isD_list
theorem is_tuple : CallR X (.builtin "isinstance") (rIs X.K "tuple" isTupleD) := call_is isK_tuple isD_tuple
end
end Fr
namespace Fr
open PySem PySem.Spec PyProof.Rows L2
abbrev nI (a : Nat) : V := .int (a : Int)
abbrev nD (a : Nat) : PyData := .int (a : Int)
/-! ### data without lists stand, though a list changes -/
mutual
def noL : PyData → Bool
  | .list _ => false
  | .dict _ => false
  | .tuple ds => noLs ds
  | _ => true
def noLs : List PyData → Bool
  | [] => true
  | d :: ds => noL d && noLs ds
end
theorem sqt_upd {K : PySem.W.Frag} {H : Hp} {D b : Addr} {ys zs xs : List V} (hD : H D = some (.lst ys)) (h : SqT K H b xs) : SqT K (upd H D (.lst zs)) b xs := by
  rcases h with (h | ⟨o, h⟩) | h
  · have n : b ≠ D := ne_of h hD (by intro z; cases z)
    exact .inl (.inl (by rw [upd_ne n]; exact h))
  · have n : b ≠ D := ne_of h hD (by intro z; cases z)
    exact .inl (.inr ⟨o, by rw [upd_ne n]; exact h⟩)
  · exact .inr h
mutual
theorem dp_upd {K : PySem.W.Frag} {H : Hp} {D : Addr} {ys zs : List V} (hD : H D = some (.lst ys)) : ∀ {d : PyData} {v : V}, noL d = true → Dp K H v d → Dp K (upd H D (.lst zs)) v d
  | .none, _, _, .non => .non
  | .bool _, _, _, .bl b => .bl b
  | .int _, _, _, .int i => .int i
  | .str _, _, _, .str x => .str x
  | .list _, _, h, _ => by simp [noL] at h
  | .tuple ds, _, h, .tup t a => .tup (sqt_upd hD t) (dps_upd hD (by simpa [noL] using h) a)
theorem dps_upd {K : PySem.W.Frag} {H : Hp} {D : Addr} {ys zs : List V} (hD : H D = some (.lst ys)) : ∀ {ds : List PyData} {vs : List V}, noLs ds = true → DpAll K H vs ds → DpAll K (upd H D (.lst zs)) vs ds
  | [], _, _, .nil => .nil
  | d :: ds, _, h, .cons a b => by
    have h2 : noL d = true ∧ noLs ds = true := by simpa [noLs] using h
    exact .cons (dp_upd hD h2.1 a) (dps_upd hD h2.2 b)
end
theorem noLs_app : ∀ (ds es : List PyData), noLs (ds ++ es) = (noLs ds && noLs es)
  | [], es => by simp [noLs]
  | d :: ds, es => by
    show (noL d && noLs (ds ++ es)) = (noL d && noLs ds && noLs es)
    rw [noLs_app ds es, Bool.and_assoc]
theorem noLs_of : ∀ {ds : List PyData}, (∀ d ∈ ds, noL d = true) → noLs ds = true
  | [], _ => by simp [noLs]
  | d :: ds, h => by
    simp only [noLs, Bool.and_eq_true]
    exact ⟨h d List.mem_cons_self, noLs_of fun e he => h e (List.mem_cons_of_mem _ he)⟩
/-! ### comprehensions -/
/-- what turns below i gave -/
def gath (F : Nat → Option PyData) (i : Nat) : List PyData := (List.range i).filterMap F
theorem gath_zero (F : Nat → Option PyData) : gath F 0 = [] := rfl
theorem gath_yes {F : Nat → Option PyData} {i : Nat} {d : PyData} (h : F i = some d) : gath F (i + 1) = gath F i ++ [d] := by
  unfold gath
  rw [List.range_succ, List.filterMap_append]
  simp [h]
theorem gath_no {F : Nat → Option PyData} {i : Nat} (h : F i = none) : gath F (i + 1) = gath F i := by
  unfold gath
  rw [List.range_succ, List.filterMap_append]
  simp [h]
theorem gath_len (F : Nat → Option PyData) (i : Nat) : (gath F i).length ≤ i := by
  unfold gath
  have h := List.length_filterMap_le F (List.range i)
  rw [List.length_range] at h
  exact h
theorem gath_noL {F : Nat → Option PyData} (hF : ∀ i d, F i = some d → noL d = true) (i : Nat) : noLs (gath F i) = true := by
  refine noLs_of fun d hd => ?_
  obtain ⟨j, _, e⟩ := List.mem_filterMap.mp hd
  exact hF j d e
theorem gath_mapI {α : Type} (l : List α) (g : Nat → α → Option PyData) : gath (fun i => l[i]?.bind (g i)) l.length = l.zipIdx.filterMap fun p => g p.2 p.1 := by
  unfold gath
  have e : l.zipIdx = (List.range l.length).filterMap fun i => l[i]?.map fun x => (x, i) := by
    refine List.ext_getElem? fun k => ?_
    have key : ∀ n, n ≤ l.length → ((List.range n).filterMap fun i => l[i]?.map fun x => (x, i)) = (l.zipIdx).take n := by
      intro n
      induction n with
      | zero => intro _; rfl
      | succ n ih =>
        intro hn
        have hlt : n < l.length := by omega
        rw [List.range_succ, List.filterMap_append, ih (by omega), List.take_add_one]
        congr 1
        simp [hlt]
    rw [key l.length (Nat.le_refl _), List.take_of_length_le (by simp)]
  rw [e, List.filterMap_filterMap]
  congr 1
  funext i
  cases l[i]? <;> rfl
theorem gath_map {α : Type} (l : List α) (g : α → PyData) : gath (fun i => l[i]?.map g) l.length = l.map g := by
  have h := gath_mapI l fun _ x => some (g x)
  have e1 : (fun (i : Nat) => l[i]?.bind fun x => some (g x)) = fun (i : Nat) => l[i]?.map g := by
    funext i
    cases l[i]? <;> rfl
  rw [e1] at h
  rw [h]
  have e3 : l.zipIdx.filterMap (fun p => some (g p.1)) = l.zipIdx.map (fun p => g p.1) := congrFun List.filterMap_eq_map' _
  rw [e3]
  have e2 : (l.zipIdx.map fun p => g p.1) = (l.zipIdx.map Prod.fst).map g := by rw [List.map_map]; rfl
  exact e2.trans (by rw [List.zipIdx_map_fst])
theorem gath_filter {α : Type} (l : List α) (g : α → Option PyData) : gath (fun i => l[i]?.bind g) l.length = l.filterMap g := by
  have h := gath_mapI l fun _ x => g x
  rw [h]
  have e2 : (l.zipIdx.filterMap fun p => g p.1) = (l.zipIdx.map Prod.fst).filterMap g := by rw [List.filterMap_map]; rfl
  exact e2.trans (by rw [List.zipIdx_map_fst])
theorem gath_range {n : Nat} (g : Nat → Option PyData) : gath g n = (List.range n).filterMap g := rfl
/-- a comprehension whose items are data without lists -/
theorem lc_dp {K : PySem.W.Frag} {J : It} {n : Nat} {G : Hp → Prop} {Y : Nat → Hp → V → Hp → Prop} (w : Walk J n G Y) {g : TG} {tt : TT} {te : TE} {vs : List Nat} {σ : L2.St} {H1 : Hp} {D : Addr} {Qd : Hp → Prop}
    (hD : H1 D = none) (hn : n ≤ 100000) (hG : ∀ H', Same H1 H' → G H') (F : Nat → Option PyData) (hF : ∀ i d, F i = some d → noL d = true)
    (hs : ∀ i x H' H'' (A : V → Hp → Prop) (B : Hp → Prop), i < n → Same H1 H' → Y i H' x H'' → (∀ y d H4, F i = some d → Same H' H4 → Dp K H4 y d → A y H4) → (F i = none → ∀ H3, Same H' H3 → B H3) →
      g x (wipe σ vs) H'' fun σ2 H2 => wipe σ2 vs = wipe σ vs ∧ tt σ2 H2 fun b H3 => if b = true then te σ2 H3 A else B H3)
    (hd : ∀ H' ys, Same H1 H' → H' D = some (.lst ys) → DpAll K H' ys (gath F n) → Qd H') :
    ∃ W : Nat → Nat → Hp → Prop, (∃ m, W 0 m (upd H1 D (.lst []))) ∧ ∀ i m H, W i m H →
      (J.stop i H ∧ Qd H) ∨ (J.go i H ∧ ∃ Nx : Hp → Prop, (∀ H', Nx H' → ∃ m', m' < m ∧ W (i + 1) m' H') ∧ ∀ x H', J.yld i H x H' → g x (wipe σ vs) H' fun σ2 H2 => wipe σ2 vs = wipe σ vs ∧ tt σ2 H2 fun b H3 =>
        if b = true then te σ2 H3 fun y H4 => ∃ acc, H4 D = some (.lst acc) ∧ acc.length < sizeLine ∧ Nx (upd H4 D (.lst (acc ++ [y]))) else Nx H3) := by
  refine lc_it w (fun i H' => Same H1 H' ∧ ∃ ys, H' D = some (.lst ys) ∧ DpAll K H' ys (gath F i)) ⟨same_new hD, [], upd_same, .nil⟩ (fun i H' _ p => hG H' p.1) (fun i x H' H'' hi p hY => ?_) (fun H' p => ?_)
  · obtain ⟨sm, ys, hy, hA⟩ := p
    refine hs i x H' H'' _ _ hi sm hY (fun y d H4 hFi s4 hdp => ?_) (fun hFi H3 s3 => ?_)
    · refine ⟨ys, s4 _ _ hy, ?_, ?_, ys ++ [y], upd_same, ?_⟩
      · have h1 := gath_len F i
        have h2 := dps_len hA
        exact Nat.lt_of_lt_of_le (show ys.length < 100000 by omega) (by decide)
      · exact same_put (sm.trans s4) hD
      · rw [gath_yes hFi]
        exact dps_app (dps_upd (s4 _ _ hy) (gath_noL hF i) (same_dps s4 hA)) (.cons (dp_upd (s4 _ _ hy) (hF i d hFi) hdp) .nil)
    · exact ⟨sm.trans s3, ys, s3 _ _ hy, by rw [gath_no hFi]; exact same_dps s3 hA⟩
  · obtain ⟨sm, ys, hy, hA⟩ := p
    exact hd H' ys sm hy hA
/-! ### the data of bools, of ints -/
theorem dps_bools {K : PySem.W.Frag} {H : Hp} : ∀ {bs : List Bool} {vs : List V}, DpAll K H vs (bs.map PyData.bool) → vs = bs.map V.bl
  | [], _, .nil => rfl
  | b :: bs, _, .cons (.bl _) t => congrArg (V.bl b :: ·) (dps_bools t)
theorem dps_nats {K : PySem.W.Frag} {H : Hp} : ∀ {ns : List Nat} {vs : List V}, DpAll K H vs (ns.map nD) → vs = ns.map nI
  | [], _, .nil => rfl
  | n :: ns, _, .cons (.int _) t => congrArg (nI n :: ·) (dps_nats t)
theorem dps_nats' {K : PySem.W.Frag} {H : Hp} : ∀ (ns : List Nat), DpAll K H (ns.map nI) (ns.map nD)
  | [] => .nil
  | n :: ns => .cons (.int _) (dps_nats' ns)
theorem nI_map (ns : List Nat) : ns.map nI = (ns.map fun (a : Nat) => (a : Int)).map V.int := by
  rw [List.map_map]
  rfl
/-! ### max of a tuple of whole numbers -/
def maxN : List Nat → Nat
  | [] => 0
  | a :: as => max a (maxN as)
theorem maxN_mem : ∀ {as : List Nat}, as ≠ [] → maxN as ∈ as
  | [], h => absurd rfl h
  | [a], _ => by simp [maxN]
  | a :: b :: as, _ => by
    have ih := maxN_mem (as := b :: as) (by simp)
    show max a (maxN (b :: as)) ∈ a :: b :: as
    rcases Nat.le_total a (maxN (b :: as)) with h | h
    · rw [Nat.max_eq_right h]
      exact List.mem_cons_of_mem _ ih
    · rw [Nat.max_eq_left h]
      exact List.mem_cons_self
theorem maxN_le : ∀ {as : List Nat} {a : Nat}, a ∈ as → a ≤ maxN as
  | b :: as, a, h => by
    rcases List.mem_cons.mp h with e | e
    · rw [e]
      exact Nat.le_max_left _ _
    · exact Nat.le_trans (maxN_le e) (Nat.le_max_right _ _)
theorem maxN_uniq {as : List Nat} {m : Nat} (h : m ∈ as) (hm : ∀ a ∈ as, a ≤ m) : m = maxN as :=
  Nat.le_antisymm (maxN_le h) (hm _ (maxN_mem (List.ne_nil_of_mem h)))
def rMaxT (K : PySem.W.Frag) : List V → Hp → VK → Prop := fun vs H Q => ∃ (a : Addr) (ns : List Nat), vs = [V.ref a] ∧ SqT K H a (ns.map nI) ∧ ns ≠ [] ∧ Q (nI (maxN ns)) H
theorem reads_int {h : Heap} {v : Value} {i : Int} {as : List Addr} (r : Reads h v (.int i) as) : ∃ t, v = .int i t := by
  cases r
  exact ⟨_, rfl⟩
theorem foldl_max : ∀ (ns : List Nat) (n : Nat), (ns.map fun (a : Nat) => (a : Int)).foldl max (n : Int) = ((max n (maxN ns) : Nat) : Int)
  | [], n => by simp [maxN]
  | a :: as, n => by
    show (as.map fun (a : Nat) => (a : Int)).foldl max (max (n : Int) (a : Int)) = _
    have e : max (n : Int) (a : Int) = ((max n a : Nat) : Int) := by omega
    rw [e, foldl_max as]
    show ((max (max n a) (maxN as) : Nat) : Int) = ((max n (max a (maxN as)) : Nat) : Int)
    rw [Nat.max_assoc]
theorem depth_ints : ∀ ns : List Int, PyData.depthAll (ns.map PyData.int) = 0
  | [] => by simp [PyData.depthAll]
  | n :: ns => by simp [PyData.depthAll, PyData.depth, depth_ints ns]
theorem alike_ints (ns : List Int) : PySem.W.AlikeAll (ns.map PyData.int) := by
  refine ⟨fun x hx y hy => ?_, fun x hx => ?_⟩
  · obtain ⟨i, _, rfl⟩ := List.mem_map.mp hx
    obtain ⟨j, _, rfl⟩ := List.mem_map.mp hy
    simp only [PySem.W.alike]
  · obtain ⟨i, _, rfl⟩ := List.mem_map.mp hx
    intro z
    cases z
theorem cr_maxT {X : Cx} (hc : X.calm = true) (hu : X.A.units + 1 < cLine) : CallR X (.builtin "max") (rMaxT X.K) := by
  intro pins s σ H vs us Q I r h
  obtain ⟨a, ns, rfl, hs, hne, q⟩ := h
  obtain ⟨its, rv, hl, _⟩ := I.tuple hs
  rw [Vals.ref1 r]
  cases ns with
  | nil => exact absurd rfl hne
  | cons n ns =>
    have hdp : DpAll X.K H ((n :: ns).map nI) (PyData.int (n : Int) :: (ns.map fun (a : Nat) => (a : Int)).map PyData.int) := by
      have h := dps_nats' (K := X.K) (H := H) (n :: ns)
      have e : (n :: ns).map nD = PyData.int (n : Int) :: (ns.map fun (a : Nat) => (a : Int)).map PyData.int := by
        rw [List.map_map]
        rfl
      rw [e] at h
      exact h
    obtain ⟨as, hr⟩ := Dp.readsAll I _ _ its hdp rv
    have ha := alike_ints ((n : Int) :: ns.map fun (a : Nat) => (a : Int))
    have hdep := depth_ints ((n : Int) :: ns.map fun (a : Nat) => (a : Int))
    refine PySem.W.max_tuple_data (I.ok.hd hc) (show s.heap.IsTuple a its.toArray from hl) (x := .int (n : Int)) (xs := (ns.map fun (a : Nat) => (a : Int)).map PyData.int) (by simpa using hr) ha (by rw [show PyData.depthAll (PyData.int (n : Int) :: (ns.map fun (a : Nat) => (a : Int)).map PyData.int) = 0 from hdep]; omega) fun i v h' tk bs hi r hk => ?_
    rw [PySem.W.maxD_ints, foldl_max] at r
    obtain ⟨t, rfl⟩ := reads_int r
    exact ⟨nI (maxN (n :: ns)), H, I.kept hk, ⟨t, rfl⟩, q⟩
/-! ### the rules over a named K (within a comprehension the context's own is told by its letter) -/
section
variable {X : Cx} {K : PySem.W.Frag}
theorem ixL (e : X.K = K)  : IxR X (rIxL K) := by
  subst e
  exact ix_list
theorem ixT (e : X.K = K)  : IxR X (rIxT K) := by
  subst e
  exact ix_tup
theorem ixA (e : X.K = K)  : IxR X (rIx K) := by
  subst e
  exact ix_seq
theorem slL (e : X.K = K)  : SlR X (rSlL K) := by
  subst e
  exact sl_list
theorem slT (e : X.K = K)  : SlR X (rSlA K) := by
  subst e
  exact sl_tupA
theorem inS (e : X.K = K)  : OpR X (compareOp .In) (rIn K false) := by
  subst e
  exact op_in_seq
theorem ninS (e : X.K = K)  : OpR X (compareOp .NotIn) (rIn K true) := by
  subst e
  exact op_notIn_seq
theorem eqD (e : X.K = K) (hu : X.A.units + 64 < cLine) : OpR X (compareOp .Eq) (rEqD K) := by
  subst e
  exact op_eqD hu
theorem neD (e : X.K = K) (hu : X.A.units + 64 < cLine) : OpR X (compareOp .NotEq) (rNeD K) := by
  subst e
  exact op_neD hu
theorem inD (e : X.K = K) (hu : X.A.units + 65 < cLine) : OpR X (compareOp .In) (rInD K) := by
  subst e
  exact op_inD hu
theorem catT (e : X.K = K)  : OpR X (binaryOp .Add) (rCatA K) := by
  subst e
  exact op_catA
theorem repT (e : X.K = K)  : OpR X (binaryOp .Mult) (rRepT K) := by
  subst e
  exact op_repT
theorem lenS (e : X.K = K)  : CallR X (.builtin "len") (fun xs H Q => ∃ p ys, xs = [.ref p] ∧ (SqL K H p ys ∨ SqT K H p ys) ∧ Q (.int ys.length) H) := by
  subst e
  exact call_len_seq
theorem listOf (e : X.K = K)  : CallR X (.type "list") (fun xs H Q => ∃ p ys, xs = [.ref p] ∧ (SqL K H p ys ∨ SqT K H p ys) ∧ ∀ l, H l = none → Q (.ref l) (upd H l (.lst ys))) := by
  subst e
  exact call_list_of
theorem tupleOf (e : X.K = K)  : CallR X (.type "tuple") (fun xs H Q => ∃ p ys, xs = [.ref p] ∧ ((SqL K H p ys ∧ ∀ l, H l = none → Q (.ref l) (upd H l (.tup ys))) ∨ (SqT K H p ys ∧ Q (.ref p) H))) := by
  subst e
  exact call_tuple_of
theorem isInt (e : X.K = K)  : CallR X (.builtin "isinstance") (rIs K "int" isIntD) := by
  subst e
  exact is_int
theorem isBool (e : X.K = K)  : CallR X (.builtin "isinstance") (rIs K "bool" isBoolD) := by
  subst e
  exact is_bool
theorem isStr (e : X.K = K)  : CallR X (.builtin "isinstance") (rIs K "str" isStrD) := by
  subst e
  exact is_str
theorem isList (e : X.K = K)  : CallR X (.builtin "isinstance") (rIs K "list" isListD) := by
  subst e
  exact is_list
theorem isTuple (e : X.K = K)  : CallR X (.builtin "isinstance") (rIs K "tuple" isTupleD) := by
  subst e
  exact is_tuple
theorem crAll (e : X.K = K) (hc : X.calm = true) : CallR X (.builtin "all") (rAll K) := by
  subst e
  exact cr_all hc
theorem crAny (e : X.K = K) (hc : X.calm = true) : CallR X (.builtin "any") (rAny K) := by
  subst e
  exact cr_any hc
theorem crSum (e : X.K = K) (hc : X.calm = true) : CallR X (.builtin "sum") (rSum K) := by
  subst e
  exact cr_sum hc
theorem crMax (e : X.K = K) (hc : X.calm = true) : CallR X (.builtin "max") (rMax K) := by
  subst e
  exact cr_max hc
theorem crMin (e : X.K = K) (hc : X.calm = true) : CallR X (.builtin "min") (rMin K) := by
  subst e
  exact cr_min hc
theorem crMaxT (e : X.K = K) (hc : X.calm = true) (hu : X.A.units + 1 < cLine) : CallR X (.builtin "max") (rMaxT K) := by
  subst e
  exact cr_maxT hc hu
theorem pgT {es : List Expr} {k n : Nat} {t : TGs} {pos : Pos} (e : X.K = K) (hc : X.calm = true) (h : PGs X es t) (hn : (assignEach es X.env).length = n := by rfl) (hst : (assignEach es X.env).findIdx? (·.1) = none := by rfl) : PG X (.Tuple es k pos) (gTup K n t) := by
  subst e
  exact pg_tup hc h hn hst
theorem piL {tg a : Expr} {ta : TE} (e : X.K = K) (ha : PE X a ta) : PI X tg a (iList K ta) := by
  subst e
  exact pi_list ha
theorem piT {tg a : Expr} {ta : TE} (e : X.K = K) (ha : PE X a ta) : PI X tg a (iTup K ta) := by
  subst e
  exact pi_tup ha
theorem piE {a : Expr} {ta : TA} {p pos tpos : Pos} {elts : List Expr} {kk : Nat} (e : X.K = K) (hg : Gl X "enumerate") (hm : X.mg "enumerate" = none) (ha : PA X [a] ta) (hs : starEach [a] X.env = [(false, eval a X.env)] := by rfl) :
    PI X (.Tuple elts kk tpos) (.Call (.Name "enumerate" p) [a] [] pos) (iEnum K ta) := by
  subst e
  exact pi_enum hg hm ha hs
theorem bm {o a : Expr} {es : List Expr} {to : TE} {t : TA} {name : Str} {apos cpos : Pos} {T id : String} {r : V → List V → Hp → VK → Prop} (e : X.K = K) (pa : PlainAttrs T) (slot : Slot T name id) (hty : typeOf (.builtin id) = pure (.type "method_descriptor")) (hm : MtR X id r) (ho : PE X o to) (ha : PA X (a :: es) t)
    (hbase : attributeBase o name X.env (eval o X.env) = eval o X.env := by rfl)
    (hfew : ((backTo cpos (starEach (a :: es) X.env)).all (fun x => !x.1) && (backToKw cpos (keywordEach [] X.env)).all (fun x => x.1.isSome)
      && decide ((a :: es).length + ([] : List Keyword).length + (if ([] : List Keyword).isEmpty then 0 else 1) < 30)) = true := by rfl)
    (hline : (apos.endLine == cpos.line) = true := by rfl) (h1 : starEach (a :: es) X.env = (false, eval a X.env) :: starEach es X.env := by rfl) (h2 : (backTo cpos (starEach es X.env)).any (·.1) = false := by rfl) : PE X (.Call (.Attribute o name apos) (a :: es) [] cpos) (tBM K T r to t) := by
  subst e
  exact pe_bm pa slot hty hm ho ha hbase hfew hline h1 h2
theorem bm0 {o : Expr} {to : TE} {name : Str} {apos cpos : Pos} {T id : String} {r : V → List V → Hp → VK → Prop} (e : X.K = K) (pa : PlainAttrs T) (slot : Slot T name id) (hty : typeOf (.builtin id) = pure (.type "method_descriptor")) (hm : MtR X id r) (ho : PE X o to)
    (hbase : attributeBase o name X.env (eval o X.env) = eval o X.env := by rfl) (hline : (apos.endLine == cpos.line) = true := by rfl) : PE X (.Call (.Attribute o name apos) [] [] cpos) (tBM0 K T r to) := by
  subst e
  exact pe_bm0 pa slot hty hm ho hbase hline
end
theorem walk_nats {n : Nat} : Walk (Itr 0 n) n (fun _ => True) (YFn nI) := walk_range.mono (fun _ h => h) fun i H x H' _ _ y => ⟨y.1, y.2.trans (congrArg V.int (Int.zero_add _))⟩
end Fr
namespace Fr
open PySem PySem.Spec PyProof.Rows L2
/-- a comprehension whose items are some data of a kind, without lists -/
theorem lc_ex {K : PySem.W.Frag} {J : It} {n : Nat} {G : Hp → Prop} {Y : Nat → Hp → V → Hp → Prop} (w : Walk J n G Y) {g : TG} {tt : TT} {te : TE} {vs : List Nat} {σ : L2.St} {H1 : Hp} {D : Addr} {Qd : Hp → Prop}
    (hD : H1 D = none) (hn : n ≤ 100000) (hG : ∀ H', Same H1 H' → G H') (S : PyData → Prop) (hS : ∀ d, S d → noL d = true)
    (hs : ∀ i x H' H'' (A : V → Hp → Prop) (B : Hp → Prop), i < n → Same H1 H' → Y i H' x H'' → (∀ y d H4, S d → Same H' H4 → Dp K H4 y d → A y H4) → (∀ H3, Same H' H3 → B H3) →
      g x (wipe σ vs) H'' fun σ2 H2 => wipe σ2 vs = wipe σ vs ∧ tt σ2 H2 fun b H3 => if b = true then te σ2 H3 A else B H3)
    (hd : ∀ H' ys ds, Same H1 H' → H' D = some (.lst ys) → DpAll K H' ys ds → (∀ d ∈ ds, S d) → ds.length ≤ n → Qd H') :
    ∃ W : Nat → Nat → Hp → Prop, (∃ m, W 0 m (upd H1 D (.lst []))) ∧ ∀ i m H, W i m H →
      (J.stop i H ∧ Qd H) ∨ (J.go i H ∧ ∃ Nx : Hp → Prop, (∀ H', Nx H' → ∃ m', m' < m ∧ W (i + 1) m' H') ∧ ∀ x H', J.yld i H x H' → g x (wipe σ vs) H' fun σ2 H2 => wipe σ2 vs = wipe σ vs ∧ tt σ2 H2 fun b H3 =>
        if b = true then te σ2 H3 fun y H4 => ∃ acc, H4 D = some (.lst acc) ∧ acc.length < sizeLine ∧ Nx (upd H4 D (.lst (acc ++ [y]))) else Nx H3) := by
  refine lc_it w (fun i H' => Same H1 H' ∧ i ≤ n ∧ ∃ ys ds, H' D = some (.lst ys) ∧ DpAll K H' ys ds ∧ (∀ d ∈ ds, S d) ∧ ds.length ≤ i) ⟨same_new hD, Nat.zero_le _, [], [], upd_same, .nil, fun d h => (nomatch h), Nat.le_refl _⟩ (fun i H' _ p => hG H' p.1) (fun i x H' H'' hi p hY => ?_) (fun H' p => ?_)
  · obtain ⟨sm, hin, ys, ds, hy, hA, hAS, hl⟩ := p
    refine hs i x H' H'' _ _ hi sm hY (fun y d H4 hSd s4 hdp => ?_) (fun H3 s3 => ?_)
    · refine ⟨ys, s4 _ _ hy, ?_, ?_, by omega, ys ++ [y], ds ++ [d], upd_same, ?_, ?_, ?_⟩
      · have h2 := dps_len hA
        exact Nat.lt_of_lt_of_le (show ys.length < 100000 by omega) (by decide)
      · exact same_put (sm.trans s4) hD
      · exact dps_app (dps_upd (s4 _ _ hy) (noLs_of fun e he => hS e (hAS e he)) (same_dps s4 hA)) (.cons (dp_upd (s4 _ _ hy) (hS d hSd) hdp) .nil)
      · intro e he
        rcases List.mem_append.mp he with z | z
        · exact hAS e z
        · have : e = d := by simpa using z
          rw [this]
          exact hSd
      · rw [List.length_append]
        show ds.length + 1 ≤ i + 1
        omega
    · exact ⟨sm.trans s3, by omega, ys, ds, s3 _ _ hy, same_dps s3 hA, hAS, by omega⟩
  · obtain ⟨sm, hin, ys, ds, hy, hA, hAS, hl⟩ := p
    exact hd H' ys ds sm hy hA hAS hl
end Fr
namespace Fr
open PySem PySem.Spec PyProof.Rows L2
section
variable {X : Cx}
def rN2 (g : Nat → Nat → Nat) : List V → Hp → VK → Prop := fun xs H Q => ∃ a b : Nat, xs = [nI a, nI b] ∧ Q (nI (g a b)) H
theorem max2N (hc : X.calm = true) : CallR X (.builtin "max") (rN2 max) := by
  intro pins s σ H xs us Q I r h
  obtain ⟨a, b, rfl, q⟩ := h
  refine call_max2 hc pins s σ H _ us Q I r ⟨a, b, rfl, ?_⟩
  have e : (if (b : Int) > (a : Int) then (b : Int) else (a : Int)) = ((max a b : Nat) : Int) := by
    split <;> omega
  rw [e]
  exact q
theorem min2N (hc : X.calm = true) : CallR X (.builtin "min") (rN2 min) := by
  intro pins s σ H xs us Q I r h
  obtain ⟨a, b, rfl, q⟩ := h
  refine call_min2 hc pins s σ H _ us Q I r ⟨a, b, rfl, ?_⟩
  have e : (if (b : Int) < (a : Int) then (b : Int) else (a : Int)) = ((min a b : Nat) : Int) := by
    split <;> omega
  rw [e]
  exact q
/-- what a def that may raise lets out is nothing here -/
theorem passN : Passes (L2N.CX X.prog X.w) X L2.E0 := fun _ _ _ _ _ _ _ h => by
  obtain ⟨_, _, _, _, _, _, _, _, _, _, _, _, z⟩ := h
  exact z.elim
end
end Fr
namespace Fr
open PySem PySem.Spec PyProof.Rows L2
/-! ### numbers, fractions, programs as data -/
def isNumD : PyData → Bool
  | .int i => decide (1 ≤ i) && isNum i.toNat
  | _ => false
def natO : PyData → Nat
  | .int i => i.toNat
  | _ => 0
def isFracD : PyData → Bool
  | .tuple [a, b] => (isNumD a && isNumD b) && (decide (max (natO a) (natO b) ≤ 1000000) && decide (Nat.gcd (natO a) (natO b) = 1))
  | _ => false
def isProgD : PyData → Bool
  | .list ds => decide (ds.length ≤ 16) && ds.all isFracD
  | _ => false
def fracD (p : Nat × Nat) : PyData := .tuple [nD p.1, nD p.2]
def progD (l : Prog) : PyData := .list (l.map fracD)
theorem isNumD_nat (n : Nat) : isNumD (nD n) = isNum n := by
  show (decide (1 ≤ (n : Int)) && isNum (n : Int).toNat) = isNum n
  rw [Int.toNat_natCast]
  by_cases h : 1 ≤ n
  · rw [decide_eq_true (by omega), Bool.true_and]
  · rw [decide_eq_false (by omega), Bool.false_and]
    cases e : isNum n with
    | false => rfl
    | true => exact absurd (isNum_pos e) (by omega)
theorem isNumD_is {d : PyData} (h : isNumD d = true) : ∃ n : Nat, d = nD n ∧ isNum n = true := by
  cases d with
  | int i =>
    obtain ⟨h1, h2⟩ := Bool.and_eq_true_iff.mp (show (decide (1 ≤ i) && isNum i.toNat) = true from h)
    have h1 := of_decide_eq_true h1
    exact ⟨i.toNat, by rw [show nD i.toNat = PyData.int (i.toNat : Int) from rfl, Int.toNat_of_nonneg (by omega)], h2⟩
  | _ => cases h
theorem isFracD_frac (p : Nat × Nat) : isFracD (fracD p) = isFrac p := by
  show ((isNumD (nD p.1) && isNumD (nD p.2)) && (decide (max (p.1 : Int).toNat (p.2 : Int).toNat ≤ 1000000) && decide (Nat.gcd (p.1 : Int).toNat (p.2 : Int).toNat = 1))) = isFrac p
  rw [isNumD_nat, isNumD_nat, Int.toNat_natCast, Int.toNat_natCast]
  rfl
theorem isFracD_is {d : PyData} (h : isFracD d = true) : ∃ p : Nat × Nat, d = fracD p ∧ isFrac p = true := by
  cases d with
  | tuple ds =>
    match ds, h with
    | [a, b], h =>
      obtain ⟨h1, h2⟩ := Bool.and_eq_true_iff.mp (show ((isNumD a && isNumD b) && (decide (max (natO a) (natO b) ≤ 1000000) && decide (Nat.gcd (natO a) (natO b) = 1))) = true from h)
      obtain ⟨ha, hb⟩ := Bool.and_eq_true_iff.mp h1
      obtain ⟨n, rfl, _⟩ := isNumD_is ha
      obtain ⟨m, rfl, _⟩ := isNumD_is hb
      exact ⟨(n, m), rfl, by rw [← isFracD_frac]; exact h⟩
  | _ => cases h
theorem all_frac : ∀ (l : Prog), (l.map fracD).all isFracD = l.all isFrac
  | [] => rfl
  | p :: l => by
    show (isFracD (fracD p) && (l.map fracD).all isFracD) = (isFrac p && l.all isFrac)
    rw [isFracD_frac, all_frac l]
theorem isProgD_prog (l : Prog) : isProgD (progD l) = isProg l := by
  show (decide ((l.map fracD).length ≤ 16) && (l.map fracD).all isFracD) = isProg l
  rw [all_frac, List.length_map]
  rfl
theorem isProgD_is {d : PyData} (h : isProgD d = true) : ∃ l : Prog, d = progD l ∧ isProg l = true := by
  cases d with
  | list ds =>
    obtain ⟨h1, h2⟩ := Bool.and_eq_true_iff.mp (show (decide (ds.length ≤ 16) && ds.all isFracD) = true from h)
    have key : ∀ es : List PyData, es.all isFracD = true → ∃ l : Prog, es = l.map fracD := by
      intro es
      induction es with
      | nil => intro _; exact ⟨[], rfl⟩
      | cons e es ih =>
        intro h
        obtain ⟨a, b⟩ := Bool.and_eq_true_iff.mp (show (isFracD e && es.all isFracD) = true from h)
        obtain ⟨p, rfl, _⟩ := isFracD_is a
        obtain ⟨l, rfl⟩ := ih b
        exact ⟨p :: l, rfl⟩
    obtain ⟨l, rfl⟩ := key ds h2
    exact ⟨l, rfl, by rw [← isProgD_prog]; exact h⟩
  | _ => cases h
theorem noL_frac (p : Nat × Nat) : noL (fracD p) = true := by
  simp [fracD, noL, noLs]
/-- a fraction at its place -/
theorem frac_at {K : PySem.W.Frag} {H : Hp} {v : V} {p : Nat × Nat} (h : Dp K H v (fracD p)) : ∃ b, v = .ref b ∧ SqT K H b [nI p.1, nI p.2] := by
  cases h with
  | tup hs ha =>
    cases ha with
    | cons h1 h2 =>
      cases h2 with
      | cons h2 h3 =>
        cases h3
        cases h1
        cases h2
        exact ⟨_, rfl, hs⟩
theorem prog_at {K : PySem.W.Frag} {H : Hp} {v : V} {l : Prog} (h : Dp K H v (progD l)) : ∃ (a : Addr) (xs : List V), v = .ref a ∧ SqL K H a xs ∧ DpAll K H xs (l.map fracD) ∧ xs.length = l.length := by
  cases h with
  | lst hs ha => exact ⟨_, _, rfl, hs, ha, by rw [dps_len ha, List.length_map]⟩
theorem prog_item {K : PySem.W.Frag} {H : Hp} {l : Prog} {xs : List V} {i : Nat} {x : V} (h : DpAll K H xs (l.map fracD)) (hx : xs[i]? = some x) : ∃ (hi : i < l.length) (b : Addr), x = .ref b ∧ SqT K H b [nI (l[i]).1, nI (l[i]).2] ∧ Dp K H x (fracD l[i]) := by
  obtain ⟨d, hd, hp⟩ := dps_at2 h hx
  rw [List.getElem?_map] at hd
  obtain ⟨p, hp2, rfl⟩ := Option.map_eq_some_iff.mp hd
  obtain ⟨hi, e⟩ := List.getElem?_eq_some_iff.mp hp2
  obtain ⟨b, e2, hs⟩ := frac_at hp
  rw [← e] at hs hp
  exact ⟨hi, b, e2, hs, hp⟩
theorem prog_get {K : PySem.W.Frag} {H : Hp} {l : Prog} {xs : List V} {i : Nat} (h : DpAll K H xs (l.map fracD)) (hi : i < l.length) : ∃ b, xs[i]? = some (.ref b) ∧ SqT K H b [nI (l[i]).1, nI (l[i]).2] := by
  have hl : xs.length = l.length := by rw [dps_len h, List.length_map]
  have hx : xs[i]? = some (xs[i]'(by omega)) := List.getElem?_eq_getElem (by omega)
  obtain ⟨_, b, e, hs, _⟩ := prog_item h hx
  exact ⟨b, by rw [hx, e], hs⟩
theorem atI0 {x : V} {xs : List V} : atI (x :: xs) 0 = some x := atI_nat (j := 0) rfl
theorem atI1 {x y : V} {xs : List V} : atI (x :: y :: xs) 1 = some y := atI_nat (j := 1) rfl
theorem atIn {xs : List V} {i : Nat} {x : V} (h : xs[i]? = some x) : atI xs (i : Int) = some x := atI_nat h
def optV : Option Nat → V
  | none => .non
  | some a => nI a
def optD : Option Nat → PyData
  | none => .none
  | some a => nD a
theorem dp_opt {K : PySem.W.Frag} {H : Hp} (o : Option Nat) : Dp K H (optV o) (optD o) := by
  cases o with
  | none => exact .non
  | some a => exact .int _
/-- a def that refuses by C what is none -/
def spNeed (K : PySem.W.Frag) (C : Addr) (f : PyData → Bool) : Sp := fun vs H Q E => ∃ (v : V) (d : PyData), vs = [v] ∧ Dp K H v d ∧ (f d = true → ∀ H', Same H H' → Q .non H') ∧ (f d = false → ∀ H', Same H H' → E (.ref C) none H')
end Fr
/-! ### lists walked while an exception is handled -/
namespace Hl
open PySem PySem.Spec PyProof.Rows L2 HotX L2H
section
variable {prog : Program} {w : World} {A : Around} {E : Value → Shared → Prop} {s : Shared}
theorem list_end {it l x1 : Addr} {i : Nat} {items : Array Value} {Q : Option Value → Shared → Prop} (hot : HotAt A x1 s.heap) (hx1 : x1 ≠ it)
    (hit : s.heap.IsListIter it l i) (hl : s.heap.IsList l items) (hx : items[i]? = none)
    (hQ : ∀ h', (∀ b o, b ≠ it → s.heap.get? b = some o → h'.get? b = some o) → Q none { s with heap := h' }) : wpAny (model prog w) A (pyNext (.ref it)) Q E s := by
  obtain ⟨hh, o1, vs1, h1, d1, c1⟩ := hot
  obtain ⟨o, ho, hc, hd⟩ := id hit
  obtain ⟨ol, hol, _, nl, hdl⟩ := hl
  have hu : ∀ f, (s.heap.update it f).get? x1 = some o1 := fun f => (Heap.get?_update_other _ _ (Ne.symm hx1)).trans h1
  unfold pyNext
  refine wpAny_bind (wpAny_attempt (wpAny_callSpecial?_slot (name := Str.ofString "__next__") hit.typeIs slot_listiter_next
    (wpAny_call_entry slot_listiter_next hit.typeIs entry_listiter_next ?_ (args_listiter_next _))))
  show wpAny _ _ (field (.ref it) 0 >>= _) _ _ s
  refine wpAny_bind (wpAny_field ho hd (x := .ref l) rfl ?_)
  show wpAny _ _ (if (Value.ref l == Value.none) = true then _ else _) _ _ s
  rw [if_neg (by intro z; cases z)]
  show wpAny _ _ (field (.ref it) 1 >>= _) _ _ s
  refine wpAny_bind (wpAny_field ho hd (x := .int i 0) rfl ?_)
  show wpAny _ _ (seqItems? (.ref l) >>= _) _ _ s
  refine wpAny_bind (wpAny_seqItems hol hdl ?_)
  simp only [Int.toNat_natCast, hx]
  refine wpAny_bind (wpAny_rule ?_)
  refine wpAny_bind (wpAny_setField ho hd (by simp) ?_)
  refine wpAny_bind ?_
  show wpAny _ _ (newExc (.type "StopIteration") []) _ _ _
  simp only [newExc, newTuple]
  refine wpAny_bind (wpAny_newObj_type ?_ (by size_fits))
  refine wpAny_bind (m := firstArgMember _ _) (wpAny_of_eq (a := Value.none) (by first | rfl | (simp only [firstArgMember]; rfl)) ?_)
  refine wpAny_newObj_type ?_ (by size_fits)
  refine raiseNew_hot ⟨hh, o1, vs1, Heap.get?_push_of_some _ (Heap.get?_push_of_some _ (hu _)), d1, c1⟩ (Nat.ne_of_lt (Heap.lt_size (Heap.get?_push_of_some _ (hu _)))) (Heap.get?_push_size _ rfl) rfl (by first | (simp; done) | (simp; omega)) ?_
  refine wpAny_bind (wpAny_isInstance (T := "StopIteration") (b := true) ⟨_, Heap.get?_update_self _ (Heap.get?_push_size _ rfl) rfl, rfl⟩ isSubtype_stop ?_)
  refine wpAny_pure (hQ _ fun b o hb e => ?_)
  have e2 : (s.heap.update it (Obj.mapFields (·.setIfInBounds 0 Value.none))).get? b = some o := (Heap.get?_update_other _ _ (Ne.symm hb)).trans e
  rw [Heap.get?_update_other _ _ (Nat.ne_of_gt (Heap.lt_size (Heap.get?_push_of_some _ e2)))]
  exact Heap.get?_push_of_some _ (Heap.get?_push_of_some _ e2)
theorem walksH {x1 : Addr} {o1 : Obj} {vs1 : Array Value} (hh : A.handled = some (.ref x1)) (d1 : o1.data = .fields vs1) (c1 : vs1[2]? = some .none) (I ax : Addr) (hne : ax ≠ I) (hx : x1 ≠ I) (items : Array Value) :
    Walks prog w A I [I, ax, x1] [I] items.size (fun i v => items[i]? = some v) (fun i h => h.IsListIter I ax i ∧ h.IsList ax items ∧ h.get? x1 = some o1) where
  sub := fun b hb => by simp at hb; simp [hb]
  frame := fun _ _ _ st hk => ⟨st.1.at fun o e => hk I (by simp) o e, st.2.1.at fun o e => hk ax (by simp) o e, hk x1 (by simp) _ st.2.2⟩
  item := fun i s Q E hi st hQ => by
    refine wpAny_pyNext_list_item st.1 st.2.1 (x := items[i]) (by simp [hi]) fun h' hit' hs' => ?_
    exact hQ _ h' s.toks (by simp [hi]) ⟨hit', st.2.1.extBut hs'.extBut hne, hs'.extBut x1 _ hx st.2.2⟩ fun b o hb e => hs'.extBut b o (fun h => hb (by simp [h])) e
  done := fun s Q E st hQ => list_end ⟨hh, o1, vs1, st.2.2, d1, c1⟩ hx st.1 st.2.1 (by simp) fun h' he' => hQ h' s.toks fun b o hb e => he' b o (fun h => hb (by simp [h])) e
  self := fun _ _ _ _ st hQ => wpAny_pyIter_listiter st.1 hQ

/-! ### sum([int(flag) for flag in flags]) -/
def ones (bs : List Bool) : List Int := bs.map fun b => if b then 1 else 0
theorem preSum_take (l : List Int) : ∀ n, n ≤ l.length → preSum (fun i => l.getD i 0) n = (l.take n).sum
  | 0, _ => by simp [preSum]
  | n + 1, h => by
    rw [preSum, preSum_take l n (by omega), List.take_succ, List.sum_append, List.getD_eq_getElem?_getD]
    congr 1
    rw [List.getElem?_eq_getElem (by omega)]
    simp
theorem vals_bl : ∀ {bs : List Bool} {us : List Value}, Vals (bs.map V.bl) us → us = bs.map Value.bool
  | [], _, .nil => rfl
  | b :: bs, _, .cons h t => by
    have e : _ = Value.bool b := h
    rw [e, vals_bl t]
    rfl
theorem paired_ones : ∀ {bs : List Bool} {ys : List Value}, Paired (fun v y => ∃ (b : Bool) (t : Tok), v = Value.bool b ∧ y = .int (if b then 1 else 0) t) (bs.map Value.bool) ys → ∀ (j : Nat) (y : Value), ys[j]? = some y → ∃ t, y = .int ((ones bs).getD j 0) t
  | [], _, .nil, j, y, h => by simp at h
  | b :: bs, _, .cons h t, j, y, e => by
    cases j with
    | zero =>
      obtain ⟨b', t', e1, e2⟩ := h
      cases e1
      rw [List.getElem?_cons_zero] at e
      cases e
      exact ⟨t', e2⟩
    | succ j =>
      rw [List.getElem?_cons_succ] at e
      exact paired_ones t j y e
theorem len_paired {F : Value → Value → Prop} : ∀ {a b : List Value}, Paired F a b → a.length = b.length
  | _, _, .nil => rfl
  | _, _, .cons _ t => congrArg (· + 1) (len_paired t)
end
def tSumB (i : Nat) (K : PySem.W.Frag) : TE := fun σ H Q => ∃ (a : Addr) (bs : List Bool), σ[i]? = some (some (.ref a)) ∧ SqL K H a (bs.map V.bl) ∧ Q (.int (ones bs).sum) H
theorem pe_sumB {X : Cx} {i : Nat} {x y : Str} {scope : Scope} {p1 p2 p3 px py pos pf pc : Pos} (hc : HotC X) (hgs : Gl X "sum") (hms : X.mg "sum" = none) (hmi : X.mg "int" = none)
    (hN : X.N[i]? = some y) (hv : Vis X.env.scope y) (hd : (y == ("__debug__" : Str)) = false) (hcd : (y == ("__classdict__" : Str)) = false) (hdx : (x == ("__debug__" : Str)) = false)
    (hfree : ∀ y ∈ scope.names, y.2 ≠ .free) (hcell : ∀ y ∈ scope.names, y.2 ≠ .cell) (hkind : scope.kind = .function)
    (hnames : ∀ y ∈ scope.names, y.2 = .local → scope.names.lookup y.1 = some .local) (hx : scope.names.lookup x = some .local) (hi : scope.names.lookup ("int" : Str) = some .globalImplicit) :
    PE X (.Call (.Name "sum" pf) [.ListComp (.Call (.Name "int" p1) [.Name x p2] [] p3) [⟨.Name x px, .Name y py, [], 0⟩] scope pos] [] pc) (tSumB i X.K) := by
  refine ⟨fun pins s σ H Q I h => ?_⟩
  obtain ⟨a, bs, e1, hl, q⟩ := h
  obtain ⟨p, ⟨hh, v1, d1, c1⟩, hp⟩ := hc
  have hx1 := (I.pin p (List.mem_append_left _ hp)).1
  obtain ⟨its, rv, hpl, hz⟩ := I.list hl
  have eits := vals_bl rv
  refine wpAny_Call_Name_kw (ld_blt I hgs hms (by rfl) ?_)
  refine PyProof.Rows.callWith_builtin1 ?_ (by rfl) (by rfl)
  refine Calls.spliced_cons ?_
  refine wpAny_ListComp_walk (fun _ => true) (fun v y => ∃ (b : Bool) (t : Tok), v = Value.bool b ∧ y = .int (if b then 1 else 0) t) hfree hcell hkind hnames hx ?_
  refine thn ((pe_var (X := X) (pos := py) hN hv hd hcd).run pins s σ H (fun v H' => v = .ref a ∧ H' = H) I ⟨.ref a, e1, rfl, rfl⟩) fun u s1 ⟨v, H1, I1, r1, ev, eH⟩ => ?_
  subst ev
  obtain rfl : u = Value.ref a := r1
  subst eH
  obtain ⟨its', rv', hpl', _⟩ := I1.list hl
  have eits' := vals_bl rv'
  have hx1' := (I1.pin p (List.mem_append_left _ hp)).1
  have hli := hpl'.isList
  refine wpAny_pyIter_list hli ?_
  have aL : a ≠ s1.heap.objs.size := by
    obtain ⟨o, ho, _⟩ := hli
    exact Nat.ne_of_lt (Heap.lt_size ho)
  have xL : p.1 ≠ s1.heap.objs.size := Nat.ne_of_lt (Heap.lt_size hx1')
  have ps : ∀ {o : Obj} (b : Addr) (u : Obj), s1.heap.get? b = some u → (s1.heap.push o).get? b = some u := fun b u e => Heap.get?_push_of_some _ e
  refine ⟨_, _, _, _, _, _, rfl, walksH hh d1 c1 s1.heap.objs.size a aL xL its'.toArray, ?_, ⟨⟨_, Heap.get?_push_size _ rfl, rfl, rfl⟩, hli.at fun o e => ps _ o e, ps _ _ hx1'⟩, ?_, ?_, ?_⟩
  · rw [eits']
    rw [List.length_map] at hz
    simpa using hz
  · intro b hb
    have e : (s1.heap.push { cls := .type "list_iterator", data := .fields #[.ref a, .int 0 0] }).objs.size = s1.heap.objs.size + 1 := Heap.size_push ..
    show b < (s1.heap.push { cls := .type "list_iterator", data := .fields #[.ref a, .int 0 0] }).objs.size
    rw [e]
    have hlt1 := Heap.lt_size hx1'
    have hlt2 : a < s1.heap.objs.size := by
      obtain ⟨o, ho, _⟩ := hli
      exact Heap.lt_size ho
    have hb' : b = s1.heap.objs.size ∨ b = a ∨ b = p.1 := by simpa using hb
    rcases hb' with rfl | rfl | rfl
    · exact Nat.lt_succ_self _
    · exact Nat.lt_succ_of_lt hlt2
    · exact Nat.lt_succ_of_lt hlt1
  · refine ⟨fun C j v s3 m3 E' hP hn hm hk ht => ?_, fun C j v s3 m3 E' hP hpv hn hm hk ht => ?_⟩
    · rw [List.forIn_nil]
      exact wpAny_pure ⟨rfl, s3.heap, s3.toks, rfl, fun _ _ e => e⟩
    · have old : ∀ b o, X.base.get? b = some o → s3.heap.get? b = some o := fun b o e => hk b o (fun z => by
        have z : b = s1.heap.objs.size := by simpa using z
        exact Nat.ne_of_lt (Heap.lt_size (I1.bk b o e)) z) (ps b o (I1.bk b o e))
      have hvb : ∃ b : Bool, v = .bool b := by
        have hm : v ∈ its' := by
          have := Array.mem_of_getElem? hP
          simpa using this
        rw [eits'] at hm
        obtain ⟨b, _, e⟩ := List.mem_map.mp hm
        exact ⟨b, e.symm⟩
      obtain ⟨b, rfl⟩ := hvb
      obtain ⟨mb, h1, h2⟩ := I1.mod.blt
      refine wpAny_Call_Name_kw (Calls.Name_function_global hkind hi (Calls.loadGlobal_builtin (mg := X.mg) (mb := mb) ?_ hmi ?_ ((h2 "int" (by decide)).trans (by rfl)) ?_))
      · show s3.heap.Ns X.env.globals X.mg
        rw [I1.ok.glob]
        exact I1.mod.glob.keeps old
      · show s3.heap.Ns X.env.builtins mb
        rw [I1.ok.blt]
        exact h1.keeps old
      · refine PyProof.Rows.callWith_type1 ?_ (by rfl) (by rfl)
        refine Calls.spliced_cons (wpAny_Name (wpAny_loadName_local hkind hx hn hm ?_) hdx)
        refine Calls.spliced_nil ?_
        refine call_int_bool ⟨⟨b, _, rfl, rfl⟩, s3.heap, s3.toks + 1, rfl, fun _ _ e => e⟩
  · intro D h' tk ys vs hD hlD hpD hlen hP hF hk
    have evs : vs.filter (fun _ => true) = bs.map Value.bool := by
      rw [List.filter_eq_self.mpr (fun _ _ => rfl), ← eits']
      apply List.ext_getElem?
      intro j
      by_cases hj : j < vs.length
      · have e := hP j vs[j] (List.getElem?_eq_getElem hj)
        rw [List.getElem?_eq_getElem hj, ← e]
        simp
      · rw [List.getElem?_eq_none (by omega), List.getElem?_eq_none]
        have : its'.toArray.size = its'.length := by simp
        omega
    rw [evs] at hF
    have kp : ∀ b o, s1.heap.get? b = some o → h'.get? b = some o := fun b o e => hk b o (fun z => by
        have z : b = s1.heap.objs.size := by simpa using z
        exact Nat.ne_of_lt (Heap.lt_size e) z) (ps b o e)
    refine Calls.spliced_nil ?_
    have hx2 := kp _ _ hx1'
    refine call_sum_walkG (wpAny_pyIter_list hlD ?_)
    have DL : D ≠ h'.objs.size := by
      obtain ⟨o, ho, _⟩ := hlD
      exact Nat.ne_of_lt (Heap.lt_size ho)
    have ps2 : ∀ {o : Obj} (b : Addr) (u : Obj), h'.get? b = some u → (h'.push o).get? b = some u := fun b u e => Heap.get?_push_of_some _ e
    refine ⟨_, _, _, _, _, _, fun i => (ones bs).getD i 0, rfl, walksH (A := X.A.in1) hh d1 c1 h'.objs.size D DL (Nat.ne_of_lt (Heap.lt_size hx2)) ys, ⟨⟨_, Heap.get?_push_size _ rfl, rfl, rfl⟩, hlD.at fun o e => ps2 _ o e, ps2 _ _ hx2⟩, ?_, ?_, ?_⟩
    · intro b hb
      have e : (h'.push { cls := .type "list_iterator", data := .fields #[.ref D, .int 0 0] }).objs.size = h'.objs.size + 1 := Heap.size_push ..
      show b < (h'.push { cls := .type "list_iterator", data := .fields #[.ref D, .int 0 0] }).objs.size
      rw [e]
      have hlt1 := Heap.lt_size hx2
      have hlt2 : D < h'.objs.size := by
        obtain ⟨o, ho, _⟩ := hlD
        exact Heap.lt_size ho
      have hb' : b = h'.objs.size ∨ b = D ∨ b = p.1 := by simpa using hb
      rcases hb' with rfl | rfl | rfl
      · exact Nat.lt_succ_self _
      · exact Nat.lt_succ_of_lt hlt2
      · exact Nat.lt_succ_of_lt hlt1
    · intro j y e
      exact paired_ones hF j y (by simpa using e)
    · intro h2 tk2 t2 hk2
      have eL : ys.size = (ones bs).length := by
        have := len_paired hF
        simp only [List.length_map, Array.length_toList] at this
        unfold ones
        rw [List.length_map]
        exact this.symm
      rw [eL, preSum_take _ _ (Nat.le_refl _), List.take_length]
      refine ⟨.int _, H1, I1.kept fun b o e => hk2 b o (fun z => ?_) (ps2 b o (kp b o e)), ⟨_, rfl⟩, q⟩
      have z : b = h'.objs.size := by simpa using z
      exact Nat.ne_of_lt (Heap.lt_size (kp b o e)) z
end Hl
namespace Hl
open PySem PySem.Spec PyProof.Rows L2 HotX L2H LamX
/-! ### a def called while an exception is handled, told of that very exception -/
theorem run_hot {CX : CXT} {P : Program} {w : World} {K : PySem.W.Frag} {mg : Str → Option Value} {base : Heap} {k : Nat} {x : Str} {params : Arguments} {body : List Stmt} {scope : Scope} {f : Addr} {fd : FuncData} {N ps : List Str}
    (D : FunD K x x params body scope [] [] f fd) (S : FnScope N ps scope) {A : Around} {outer : List Env} {s : Shared} {H : Hp} {args : Args} {us : List Value} {vs : List V} {Q : VK} {E : XK} {p : Addr × Obj}
    (hr : RoomH (k + 1) A) (hpin : PinOk outer H s p) (e0 : Env0 P w K mg base A outer s H) (hb : BindsTo s fd args (ps.zip us)) (r : Vals vs us) (hl : vs.length = ps.length)
    (hbody : ∀ cdv, RoomH k (A.deeper (envOfC x scope s.heap.objs.size f cdv)) → ∃ t, PSs (cxH CX P w K mg base N x scope f cdv A outer s H E p) body t ∧ t { nx := fun _ H' => Q .non H', rt := Q } (L2.start N vs) H) :
    codeAny (model P w) A (.call (.ref f) args) (CR CX outer P w H s Q E) s := by
  obtain ⟨oc, od, dV, kV, doc, pm, an, cdv, ct, osl, rfl, lk, hcd, _, _⟩ := D.ex
  have old : ∀ b o, base.get? b = some o → s.heap.get? b = some o := fun b o e => (e0.bs b o e).1
  refine codeAny_call_function hr.depth (e0.mod.kin.keeps old _ _ lk) rfl S.co S.gen rfl (PySem.W.codeRec_of (e0.mod.kin.keeps old) hcd) (hb _ _ _ _ (wpAny_newFunctionEnv_cells S.kind (fun y hy => ?_) fun env he s1 y1 => ?_))
  · rcases S.par y.1 (List.of_mem_zip (a := y.1) (b := y.2) hy).1 with q | q
    · exact Or.inl q
    · exact Or.inr ⟨q, PySem.W.cellsFrom_some _ _ _ (Or.inl q)⟩
  · subst he
    obtain ⟨t, ht, hq⟩ := hbody cdv (hr.deeper _)
    have I : Inv (cxH CX P w K mg base N x scope f cdv A outer s H E p) [] (L2.start N vs) H s1 := inv_startH S hpin e0 hl r y1
    refine ⟨(e0.mod.nolimit.keeps old).keeps y1.toInCall.keep, codeAny_func (wpAny_mono (ht.run [] s1 _ H _ I hq) (fun fl s' hs => ?_) fun _ _ z => z)⟩
    match fl, hs with
    | .ret u, ⟨v, σ', H', J, rv, z⟩ => exact ⟨v, H', J.os, J.bare, J.base, J.hok, rv, z⟩
    | .next, ⟨σ', H', J, z⟩ => exact ⟨.non, H', J.os, J.bare, J.base, J.hok, rfl, z⟩
    | .brk, ⟨_, _, _, z⟩ => exact z.elim
    | .cont, ⟨_, _, _, z⟩ => exact z.elim
/-- isinstance of the exception that is handled -/
theorem call_isH {X : Cx} {D : Addr} {p : Addr × Obj} (C : ExcC X.K D) (hp : p ∈ X.pn) (h1 : p.2.cls = .ref D) (h2 : p.2.dict = none) (hf : ∃ vs, p.2.data = .fields vs) : CallR X (.builtin "isinstance") (rIsE X.K D p.1) := by
  intro pins s σ H xs us Q I r h
  obtain ⟨c, cv, b, rfl, hcv, e, q⟩ := h
  match r with
  | .cons rx (.cons rt .nil) =>
    cases rx
    have ec := hcv _ rt
    subst ec
    have hget := (I.pin p (List.mem_append_left _ hp)).1
    obtain ⟨a, oc, od, oda, osl⟩ := p
    obtain ⟨vs, hv⟩ := hf
    dsimp only at h1 h2 hv hget
    subst h1 h2 hv
    exact PySem.W.kia_one (PySem.W.handS_kitx_exc C.hg C.hk C.hs C.hd C.ha C.hn C.ht C.hm) I.kIn (x := .ref a) (show PySem.W.InstAt s.heap a _ D none from ⟨hget, rfl, rfl, trivial⟩) e (fun z => nomatch z) fun tk => ⟨.bl b, H, I.kept (t' := tk) fun _ _ z => z, rfl, q⟩
/-! ### the lambda's body, told by the contexts without a context -/
def lamN (X : Cx) (A : Around) (outer : List Env) (s : Shared) (H : Hp) (E : XK) (scope : Scope) (f c' : Addr) : Cx :=
  (lamCx X A outer s H E scope f c').wish fun e s' => wpAny (model X.prog X.w) (A.deeper (lamEnv X scope s.heap.objs.size f c')) (leaving (lamEnv X scope s.heap.objs.size f c') e) (fun _ s'' => L2N.CX X.prog X.w outer H s E e s'') (fun e' s'' => L2N.CX X.prog X.w outer H s E e' s'') s'
section
variable {X : Cx} {pins : List (Addr × Obj)} {σ : L2.St} {H HZ : Hp} {s s1 : Shared}
/-- the lambda called in the context Z, entered at s -/
theorem actN {AZ : Around} {SZ : List Env} {f c' : Addr} {pm ctv : Value} {params : Arguments} {body : Expr} {scope : Scope} {k : Nat} {E : XK} {tb : TE} {Q : VK}
    (I : Inv X pins σ H s) (L : LamS X.env.scope scope) (hf : s.heap.get? f = some (PySem.W.kla_obj "<lambda>" (X.env.qual ++ "<lambda>") params body scope (cloFrom X.env.cells scope.names []) pm c' ctv)) (hfn : H f = none) (hfr : f ∉ frs X.stack)
    (hbind : bindArgs (PySem.W.kla_fn "<lambda>" (X.env.qual ++ "<lambda>") params body scope (cloFrom X.env.cells scope.names []) pm (.ref c') ctv) ⟨[], []⟩ = pure [])
    (e0 : Env0 X.prog X.w X.K X.mg X.base AZ SZ s1 HZ) (un : Un (frs X.stack) [] H HZ s.heap s1.heap) (nl : s1.heap.NoLimit) (hr : Room (k + 1) AZ)
    (hc : HZ c' = some (CodeO c' (X.env.qual ++ "<lambda>"))) (hbody : ∀ (A : Around) (outer : List Env) (s : Shared) (H : Hp), Room k (A.deeper (lamEnv X scope s.heap.objs.size f c')) → PE (lamN X A outer s H E scope f c') body tb) (ht : tb σ HZ Q) :
    codeAny (model X.prog X.w) AZ (.call (.ref f) ⟨[], []⟩) (CR (L2N.CX X.prog X.w) SZ X.prog X.w HZ s1 Q E) s1 := by
  have of1 := un.keep f _ hf hfn hfr (fun z => nomatch (show f ∈ ([] : List Addr) from z))
  obtain ⟨⟨oc, vs, t, hoc, hdc, hvc⟩, _, _⟩ := e0.hok c' _ hc
  refine PySem.W.kla_callFunE hr.depth of1 rfl L.co L.gen rfl ⟨c', oc, vs, t, rfl, hoc, hdc, hvc⟩ (hbind ▸ wpAny_pure ?_)
  refine wpAny_newFunctionEnv (fun y hy => (L.own y hy).2) (fun y hy => absurd hy (by simp)) (fun h₁ hns hsb => ⟨nl.fresh _ hsb, ?_⟩) L.kind
  have kp : ∀ b o, s1.heap.get? b = some o → h₁.get? b = some o := fun b o e => hsb.extBut b o (Nat.ne_of_lt (Heap.lt_size e)) (Heap.get?_push_of_some _ e)
  have J := (lam_start2 (A := AZ) (outer := SZ) (E := E) (f := f) (c' := c') (tk := s1.toks + ([] : List (Str × Value)).length) I L e0 hr.hd un hns kp).wish (fun e s' => wpAny (model X.prog X.w) (AZ.deeper (lamEnv X scope s1.heap.objs.size f c')) (leaving (lamEnv X scope s1.heap.objs.size f c') e) (fun _ s'' => L2N.CX X.prog X.w SZ HZ s1 E e s'') (fun e' s'' => L2N.CX X.prog X.w SZ HZ s1 E e' s'') s')
  show codeAny _ _ (.expr body (lamEnv X scope s1.heap.objs.size f c')) _ _
  refine PySem.W.kla_codeExpr (wpAny_mono ((hbody AZ SZ s1 HZ (hr.deeper _)).run [] _ _ HZ Q J ht) (fun v s' hq => ?_) fun _ _ z => z)
  obtain ⟨w', H', J', rv, q⟩ := hq
  exact ⟨w', H', J'.os, J'.bare, J'.base, J'.hok, rv, q⟩
end
theorem takesN {X : Cx} : L2N.Takes X (fun _ _ _ _ => False) := fun _ _ x => by
  obtain ⟨_, _, _, _, _, _, _, _, _, _, _, _, _, _, _, _, z⟩ := x
  exact z.elim
/-- the def that names the exception: nm D is its word -/
def WordP (P : Program) (w : World) (K : PySem.W.Frag) (mg : Str → Option Value) (base : Heap) (k : Nat) (f : Addr) (fd : FuncData) (nm : Addr → Str → Prop) : Prop :=
  ∀ (A : Around) (outer : List Env) (s : Shared) (H : Hp) (args : Args) (p : Addr × Obj) (D : Addr) (n : Str) (Q : VK), RoomH k A → Hot1 A p → PinOk outer H s p → p.2.cls = .ref D → p.2.dict = none → nm D n →
    Env0 P w K mg base A outer s H → BindsTo s fd args [("e", .ref p.1)] → (∀ H', Same H H' → Q (.str n) H') → codeAny (model P w) A (.call (.ref f) args) (CR L2.CX0 outer P w H s Q C8.E0) s
/-! ### told(lambda: body) -/
abbrev XTold (nm : Addr → Str → Prop) (Q : VK) : XK := fun cls d H' => ∃ D n, cls = .ref D ∧ d = none ∧ nm D n ∧ ∀ H'', Same H' H'' → Q (.str n) H''
def tTold (T : List (Addr × Str)) (nm : Addr → Str → Prop) (t : XK → TE) : TE := fun σ H Q => Tabs T H ∧ ∀ H1, ExtN H H1 → Tabs T H1 → t (XTold nm Q) σ H1 Q
theorem pe_told {X : Cx} {T : List (Addr × Str)} {nm : Addr → Str → Prop} {k kw : Nat} {g gw CS c P : Addr} {fdT fdW : FuncData} {aT : Arguments} {bT : List Stmt} {sT : Scope} {params : Arguments} {body : Expr} {scope : Scope} {t : XK → TE} {p lpos pos p1 p2 p3 p4 p5 p6 p7 p8 p9 p10 : Pos}
    (D : FunD X.K "_law_told" "_law_told" aT bT sT [] [] g fdT) (hbT : bT = [.Try [.Return (some (.Call (.Name "deed" p1) [] [] p2)) p3] [.ExceptHandler (some (.Name "RowError" p4)) (some "e") [.Return (some (.Call (.Name "_law_word" p5) [.Name "e" p6] [] p7)) p8] p9] [] [] p10])
    (Sg : FnScope ["deed", "e"] ["deed"] sT) (hlE : sT.names.lookup ("e" : Str) = some .local) (hlD : sT.names.lookup ("deed" : Str) = some .local) (hgT : Gl X "_law_told") (hmT : X.mg "_law_told" = some (.ref g)) (bdT : L2.Binds X.K fdT ["deed"] [])
    (hRE : X.mg "RowError" = some (.ref CS)) (hgRE : sT.names.lookup ("RowError" : Str) = some .globalImplicit) (hmW : X.mg "_law_word" = some (.ref gw)) (hgW : sT.names.lookup ("_law_word" : Str) = some .globalImplicit) (hkW : PySem.W.keepIn X.K (.ref gw) = true)
    (bdW : L2.Binds X.K fdW ["e"] []) (Wd : WordP X.prog X.w X.K X.mg X.base kw gw fdW nm) (hex : ∀ D n, nm D n → PySem.W.exmOne X.K (.ref D) (.ref CS) = some true)
    (TB : TabB X.base X.mg c P) (hcode : X.env.code = .ref c) (hmem : (P, X.env.qual ++ "<lambda>") ∈ T) (hu : ∀ p ∈ T, p.1 = P → p.2 = X.env.qual ++ "<lambda>") (hr : Room (k + 2) X.A) (hkw : kw ≤ k + 1) (L : LamS X.env.scope scope) (hdef : defaultsOf params X.env = ([], []))
    (hbind : ∀ (q : Str) (cl : List (Str × Addr)) (pm cv ctv : Value), bindArgs (PySem.W.kla_fn "<lambda>" q params body scope cl pm cv ctv) ⟨[], []⟩ = pure [])
    (hbody : ∀ (A : Around) (outer : List Env) (s : Shared) (H : Hp) (E : XK) (f c' : Addr), Room k (A.deeper (lamEnv X scope s.heap.objs.size f c')) → PE (lamN X A outer s H E scope f c') body (t E)) :
    PE X (.Call (.Name "_law_told" p) [.Lambda params body scope lpos] [] pos) (tTold T nm t) := by
  refine ⟨fun pins s σ H Q I h => ?_⟩
  obtain ⟨hT, h⟩ := h
  obtain ⟨oc, od, dV, kV, doc, pmT, an, cdT, ct, osl, rfl, lk, hcd, _, _⟩ := D.ex
  refine wpAny_Call_Name_kw (ld_glob I hgT hmT ?_ (by decide))
  refine PySem.W.callWith_K (h₀ := X.base) I.ok.mod.kin D.kp ?_ (by rfl) (by rfl)
  show wpAny _ _ (spliced ((false, eval (.Lambda params body scope lpos) X.env) :: backTo pos (starEach [] X.env))) _ _ s
  refine Calls.spliced_cons (lam_make2 I TB hcode hmem hu hT hdef (L.has I.ok) fun f c' pm' ctv H1 s' I1 eN T1 hf hfn hfr hco => ?_)
  refine Calls.spliced_nil ⟨I1.kIn, ?_⟩
  have hq := h H1 eN T1
  have rc : codeAny (model X.prog X.w) X.A (.call (.ref g) ⟨[.ref f], []⟩) (CR L2.CX0 X.stack X.prog X.w H1 s' Q C8.E0) s' := by
    refine run_ofS (N := ["deed", "e"]) (ps := ["deed"]) (us := [.ref f]) (vs := [.ref f]) lk hcd Sg hr I1.env0 (bdT s' [.ref f] I1.kIn rfl) (.cons rfl .nil) rfl fun hr' => ?_
    rw [hbT]
    generalize hZ : cxOf L2.CX0 X.prog X.w X.K X.mg X.base ["deed", "e"] "_law_told" sT g cdT X.A X.stack s' H1 C8.E0 = Z0
    have hps : PSs Z0.nox [.Try [.Return (some (.Call (.Name "deed" p1) [] [] p2)) p3] [.ExceptHandler (some (.Name "RowError" p4)) (some "e") [.Return (some (.Call (.Name "_law_word" p5) [.Name "e" p6] [] p7)) p8] p9] [] [] p10] _ :=
      pss_one (L2N.ps_try_as (X := Z0.nox) (c := .ref CS) (i := 1)
        (tb := fun W D σZ HZ => ∃ E : XK, (∀ cls d H'', E cls d H'' → W cls d σZ H'') ∧ σZ[0]? = some (some (.ref f)) ∧ HZ c' = some (CodeO c' (X.env.qual ++ "<lambda>")) ∧ t E σ HZ D.rt)
        (ts := fun a cls d D σZ HZ => ∃ DD n, cls = .ref DD ∧ d = none ∧ nm DD n ∧ σZ[1]? = some (some (.ref a)) ∧ ∀ H'', Same HZ H'' → D.rt (.str n) H'')
        (by rw [← hZ]; rfl) (by rw [← hZ]; rfl) (by rw [← hZ]; exact Sg.nd) (by rw [← hZ]; rfl) (by rw [← hZ]; exact hlE) (by rw [← hZ]; exact ⟨hgRE, by decide, .inl hRE⟩) takesN (fun W pn xe tk _ => ?_) (fun a oe cls d pn hz hdat => ?_))
    · refine ⟨_, hps.nox, XTold nm Q, fun cls d H'' e => ?_, by rfl, hco, hq⟩
      obtain ⟨DD, n, rfl, rfl, hn, q⟩ := e
      have hK : Z0.nox.K = X.K := by rw [← hZ]; rfl
      refine ⟨true, by rw [hK]; exact hex DD n hn, fun _ a na => ⟨DD, n, rfl, rfl, hn, by rfl, q⟩, fun z => nomatch z⟩
    · refine ⟨fun pinsZ sZ σZ HZ DZ IZ hh => ?_⟩
      obtain ⟨E, hW, h0, hc, ht⟩ := hh
      have pe : PE (Z0.nox.tr pn xe) (.Call (.Name "deed" p1) [] [] p2) (fun σZ HZ Q => (∀ cls d H'', E cls d H'' → W cls d σZ H'') ∧ σZ[0]? = some (some (.ref f)) ∧ HZ c' = some (CodeO c' (X.env.qual ++ "<lambda>")) ∧ t E σ HZ Q) := by
        subst hZ
        refine ⟨fun pinsZ sZ σZ HZ QZ IZ h => ?_⟩
        obtain ⟨hW, h0, hc, ht⟩ := h
        refine wpAny_Call_Name_kw (thn ((pe_var (pos := p1) (i := 0) rfl (.inl hlD)).run pinsZ sZ σZ HZ (fun v H2 => v = .ref f ∧ H2 = HZ) IZ ⟨.ref f, h0, rfl, rfl⟩) fun u s1 ⟨v, H2, I2, r2, ev, eH⟩ => ?_)
        subst ev
        subst eH
        obtain rfl : u = Value.ref f := r2
        have un : Un (frs X.stack) [] H1 H2 s'.heap s1.heap := I2.base
        have of1 := un.keep f _ hf hfn hfr (fun z => nomatch (show f ∈ ([] : List Addr) from z))
        refine PySem.W.callWith_F0 ⟨_, _, _, _, of1⟩ ?_
        have rc2 : codeAny (model X.prog X.w) (X.A.deeper (envOfC "_law_told" sT s'.heap.objs.size g cdT)) (.call (.ref f) ⟨[], []⟩) (CR (L2N.CX X.prog X.w) (envOfC "_law_told" sT s'.heap.objs.size g cdT :: X.stack) X.prog X.w H2 s1 QZ E) s1 :=
          actN (X := X) (pm := pm') (ctv := ctv) I1 L hf hfn hfr (hbind _ _ _ _ _) I2.env0 un I2.nolimit hr' hc (fun A outer s H hr2 => hbody A outer s H E f c' hr2) ht
        refine wpAny_call (codeAny_mono rc2 fun r s2 hq2 => ?_)
        match r, hq2 with
        | .error e, hq2 => exact tk e s2 (L2N.XE.of_call I2 (fun cls d H' h => hW cls d H' h) hq2)
        | .ok (.ret u), hq2 => exact I2.after hq2
      exact (pss_one (ps_ret (pos := p3) pe)).run pinsZ sZ σZ HZ DZ IZ ⟨hW, h0, hc, ht⟩
    · refine ⟨fun pinsZ sZ σZ HZ DZ IZ hh => ?_⟩
      have pe : PE (Z0.nox.suite a ((a, oe) :: pn)) (.Call (.Name "_law_word" p5) [.Name "e" p6] [] p7) (fun σZ HZ Q => ∃ DD n, cls = .ref DD ∧ d = none ∧ nm DD n ∧ σZ[1]? = some (some (.ref a)) ∧ ∀ H'', Same HZ H'' → Q (.str n) H'') := by
        subst hZ
        refine ⟨fun pinsZ sZ σZ HZ QZ IZ h => ?_⟩
        obtain ⟨DD, n, rfl, rfl, hn, h1, q⟩ := h
        refine wpAny_Call_Name_kw (ld_glob IZ hgW hmW ?_ (by decide))
        refine PySem.W.callWith_K (h₀ := X.base) IZ.ok.mod.kin hkW ?_ (by rfl) (by rfl)
        refine Calls.spliced_cons (thn ((pe_var (pos := p6) (i := 1) rfl (.inl hlE)).run pinsZ sZ σZ HZ (fun v H2 => v = .ref a ∧ H2 = HZ) IZ ⟨.ref a, h1, rfl, rfl⟩) fun u s1 ⟨v, H2, I2, r2, ev, eH⟩ => ?_)
        subst ev
        subst eH
        obtain rfl : u = Value.ref a := r2
        refine Calls.spliced_nil ⟨I2.kIn, ?_⟩
        have P1 := I2.pin (a, oe) (List.mem_append_left _ List.mem_cons_self)
        have b := bdW s1 [.ref a] I2.kIn rfl
        obtain ⟨vs, hv⟩ := hdat
        refine wpAny_call (codeAny_mono (Wd _ _ s1 H2 ⟨[.ref a], []⟩ (a, oe) DD n QZ (RoomH.mono (k := k + 1) ⟨hr'.dp, hr'.un⟩ hkw) ⟨rfl, vs, hv, hz.2.2 vs hv⟩ ⟨P1.1, P1.2.1, fun hm => (List.mem_cons.mp (I2.stkSub a hm)).elim P1.2.2.1 P1.2.2.2.1, P1.2.2.2.2⟩ hz.1 hz.2.1 hn I2.env0 b q) fun r s2 hq2 => ?_)
        match r, hq2 with
        | .error e, hq2 => exact (show False from hq2).elim
        | .ok (.ret u), hq2 => exact I2.after hq2
      exact (pss_one (ps_ret (pos := p8) pe)).run pinsZ sZ σZ HZ DZ IZ hh
  refine wpAny_call (codeAny_mono rc fun r s2 hq2 => ?_)
  match r, hq2 with
  | .error e, hq2 => exact (show False from hq2).elim
  | .ok (.ret u), hq2 => exact I1.after hq2
end Hl
namespace Fr
open PySem PySem.Spec PyProof.Rows L2 LamX
/-! ### the classes of the refusals -/
def excOne (K : PySem.W.Frag) (names : List Str) (n : Str) : Bool :=
  ((PySem.W.findIn K (.ref (ga K n)) "__getattribute__" == some (some (.builtin "BaseException.__getattribute__"))) && ((PySem.W.findIn K (.ref (ga K n)) "__getattr__" == some none) && ((PySem.W.subIn K (.ref (ga K n)) (.type "BaseException") == some true) && (PySem.W.hasDictIn K (ga K n)
    && ((PySem.W.findIn K (.ref (ga K n)) "__class__" == some (some (.builtin "object.__class__"))) && ((PySem.W.specialIn K (.builtin "object.__class__") "__get__" == some (some (.builtin "getset_descriptor.__get__"))) && ((PySem.W.takesIn K (.builtin "object.__class__") == some true) && ((PySem.W.mroIn K (ga K n) (.type "object") == some true)
    && ((names.all fun m => PySem.W.kitOne K (.ref (ga K n)) (.ref (ga K m)) == some (n == m)) && ((PySem.W.kitOne K (.ref (ga K n)) (.type "ValueError") == some true) && (PySem.W.exmOne K (.ref (ga K n)) (.ref (ga K "RowError")) == some true)))))))))))
def excB (K : PySem.W.Frag) (names : List Str) : Bool := names.all (excOne K names)
theorem exc_of {K : PySem.W.Frag} {names : List Str} {n : Str} (h : excB K names = true) (hn : n ∈ names) :
    ExcC K (ga K n) ∧ (∀ m ∈ names, PySem.W.kitOne K (.ref (ga K n)) (.ref (ga K m)) = some (n == m)) ∧ PySem.W.kitOne K (.ref (ga K n)) (.type "ValueError") = some true ∧ PySem.W.exmOne K (.ref (ga K n)) (.ref (ga K "RowError")) = some true := by
  have h1 := List.all_eq_true.mp h n hn
  unfold excOne at h1
  simp only [Bool.and_eq_true, beq_iff_eq, List.all_eq_true] at h1
  obtain ⟨a1, a2, a3, a4, a5, a6, a7, a8, a9, a10, a11⟩ := h1
  exact ⟨⟨a1, a2, a3, a4, a5, a6, a7, a8⟩, a9, a10, a11⟩
def Nm (K : PySem.W.Frag) (names : List Str) (D : Addr) (n : Str) : Prop := n ∈ names ∧ D = ga K n
/-! ### all but tables stays -/
theorem ext_l {K : PySem.W.Frag} {H H' : Hp} {a : Addr} {xs : List V} (e : ExtN H H') (h : SqL K H a xs) : SqL K H' a xs := by
  rcases h with (h | ⟨o, h⟩) | h
  · exact .inl (.inl (e _ _ h (fun _ z => by cases z)))
  · exact .inl (.inr ⟨o, e _ _ h (fun _ z => by cases z)⟩)
  · exact .inr h
theorem ext_t {K : PySem.W.Frag} {H H' : Hp} {a : Addr} {xs : List V} (e : ExtN H H') (h : SqT K H a xs) : SqT K H' a xs := by
  rcases h with (h | ⟨o, h⟩) | h
  · exact .inl (.inl (e _ _ h (fun _ z => by cases z)))
  · exact .inl (.inr ⟨o, e _ _ h (fun _ z => by cases z)⟩)
  · exact .inr h
mutual
theorem ext_dp {K : PySem.W.Frag} {H H' : Hp} (e : ExtN H H') : ∀ {v : V} {d : PyData}, Dp K H v d → Dp K H' v d
  | _, _, .non => .non
  | _, _, .bl b => .bl b
  | _, _, .int i => .int i
  | _, _, .str x => .str x
  | _, _, .lst h t => .lst (ext_l e h) (ext_dps e t)
  | _, _, .tup h t => .tup (ext_t e h) (ext_dps e t)
theorem ext_dps {K : PySem.W.Frag} {H H' : Hp} (e : ExtN H H') : ∀ {vs : List V} {ds : List PyData}, DpAll K H vs ds → DpAll K H' vs ds
  | _, _, .nil => .nil
  | _, _, .cons h t => .cons (ext_dp e h) (ext_dps e t)
end
theorem ext_same {H H' : Hp} (s : Same H H') : ExtN H H' := ExtN.of s
theorem ext_tabs {T : List (Addr × Str)} {H H' : Hp} (t : Tabs T H) (s : Same H H') : Tabs T H' := t.ext s
/-! ### defs that make lambdas -/
abbrev lamQ (x : Str) : Str := (x ++ ".<locals>.") ++ "<lambda>"
def Tb (K : PySem.W.Frag) (xs : List Str) : List (Addr × Str) := xs.map fun x => ((He.cT K (x, none)).2, lamQ x)
def tabsD (K : PySem.W.Frag) (xs : List Str) : Bool := decide ((xs.map fun x => (He.cT K (x, none)).2).Nodup)
theorem tb_mem {K : PySem.W.Frag} {xs : List Str} {x : Str} (h : x ∈ xs) : ((He.cT K (x, none)).2, lamQ x) ∈ Tb K xs := List.mem_map.mpr ⟨x, h, rfl⟩
theorem nodup_inj {α β : Type} {f : α → β} : ∀ {xs : List α} {x y : α}, (xs.map f).Nodup → x ∈ xs → y ∈ xs → f x = f y → x = y
  | a :: r, x, y, h, hx, hy, e => by
    rw [List.map_cons, List.nodup_cons] at h
    rcases List.mem_cons.mp hx with z1 | z1 <;> rcases List.mem_cons.mp hy with z2 | z2
    · rw [z1, z2]
    · exact absurd (List.mem_map.mpr ⟨y, z2, by rw [← e, z1]⟩) h.1
    · exact absurd (List.mem_map.mpr ⟨x, z1, by rw [e, z2]⟩) h.1
    · exact nodup_inj h.2 z1 z2 e
theorem tb_u {K : PySem.W.Frag} {xs : List Str} {x : Str} (hd : tabsD K xs = true) (h : x ∈ xs) : ∀ p ∈ Tb K xs, p.1 = (He.cT K (x, none)).2 → p.2 = lamQ x := fun p hp e => by
  obtain ⟨y, hy, rfl⟩ := List.mem_map.mp hp
  have e2 : y = x := nodup_inj (of_decide_eq_true hd) hy h e
  rw [e2]
theorem tabs0 {K : PySem.W.Frag} {H : Hp} {xs : List Str} (h : ∀ x ∈ xs, H (He.cT K (x, none)).2 = some (.tbl #[])) : Tabs (Tb K xs) H := fun p hp => by
  obtain ⟨y, hy, rfl⟩ := List.mem_map.mp hp
  exact TabS.nil (h y hy)
/-- what a def that makes lambdas is told of its table -/
abbrev TabX (K : PySem.W.Frag) (mg : Str → Option Value) (base : Heap) (xs : List Str) : Prop := ∀ x ∈ xs, TabB base mg (He.cT K (x, none)).1 (He.cT K (x, none)).2
section
variable {P : Program} {w : World} {K : PySem.W.Frag} {mg : Str → Option Value} {base : Heap}
theorem Cal.mkT {x : Str} {st : Stmt} {N ps : List Str} {k : Nat} {sp : Sp} (D : FnP K x st) (m : mg x = some (.ref (ga K x))) (S : FnScope N ps (defScope st))
    (hb : ∀ (kV doc pm : Value) (an : Option Addr) (cdv ct : Value) (us : List Value), us.length = ps.length → bindArgs (PySem.W.fnOf x x (defArgs st) (defBody st) (defScope st) .none kV doc pm an cdv ct) ⟨us, []⟩ = pure (ps.zip us))
    (len : ∀ vs H Q E, sp vs H Q E → vs.length = ps.length)
    (hbody : ∀ (A : Around) (outer : List Env) (s : Shared) (H : Hp) (vs : List V) (Q : VK) (E : XK), Room k (A.deeper (envOfC x (defScope st) s.heap.objs.size (ga K x) (.ref (He.codeOf K (x, none))))) → sp vs H Q E →
      ∃ t, PSs (cxOf L2.CX0 P w K mg base N x (defScope st) (ga K x) (.ref (He.codeOf K (x, none))) A outer s H E).nox (defBody st) t ∧ t { nx := fun _ H' => Q .non H', rt := Q } (start N vs) H) : Cal P w K mg base L2.CX0 (k + 1) x ps sp := by
  refine ⟨?_, m, D.kp, D.bindsN hb⟩
  have F : FunD K x x (defArgs st) (defBody st) (defScope st) [] [] (ga K x) (fdOf K (x, none)) := D
  obtain ⟨oc, od, dV, kV, doc, pm, an, cdv, ct, osl, e, lk, hcd, _, _⟩ := F.ex
  obtain ⟨c, rfl⟩ := He.codeIn_ref hcd
  rw [e] at lk ⊢
  have ec : He.codeOf K (x, none) = c := He.codeOf_eq lk rfl
  rw [ec] at hbody
  refine fn_of lk hcd S len fun A outer s H vs Q E hr hsp => ?_
  obtain ⟨t, h1, h2⟩ := hbody A outer s H vs Q E hr hsp
  exact ⟨t, h1.nox, h2⟩
end
end Fr
/-! ### zip of any number of lists and tuples -/
namespace Zn
open PySem PySem.Spec PyProof.Rows L2
/-- is it a list, the iterator, what it walks -/
abbrev K3 := Bool × Addr × Addr
def ItAt (h : Heap) (q : K3) (i : Nat) : Prop := match q with
  | (true, it, l) => h.IsListIter it l i
  | (false, it, l) => h.IsTupleIter it l i
def SqAt (h : Heap) (q : K3) (items : Array Value) : Prop := match q with
  | (true, _, l) => h.IsList l items
  | (false, _, l) => h.IsTuple l items
theorem ItAt.at' {h h' : Heap} {q : K3} {i : Nat} (x : ItAt h q i) (e : ∀ o, h.get? q.2.1 = some o → h'.get? q.2.1 = some o) : ItAt h' q i := by
  obtain ⟨b, it, l⟩ := q
  cases b
  · exact Heap.IsTupleIter.at x e
  · exact Heap.IsListIter.at x e
theorem SqAt.at' {h h' : Heap} {q : K3} {a : Array Value} (x : SqAt h q a) (e : ∀ o, h.get? q.2.2 = some o → h'.get? q.2.2 = some o) : SqAt h' q a := by
  obtain ⟨b, it, l⟩ := q
  cases b
  · obtain ⟨o, ho, r⟩ := x
    exact ⟨o, e o ho, r⟩
  · exact Heap.IsList.at x e
theorem ItAt.some {h : Heap} {q : K3} {i : Nat} (x : ItAt h q i) : ∃ o, h.get? q.2.1 = Option.some o ∧ ∃ vs, o.data = .fields vs := by
  obtain ⟨b, it, l⟩ := q
  cases b
  · obtain ⟨o, e, _, d⟩ := x
    exact ⟨o, e, _, d⟩
  · obtain ⟨o, e, _, d⟩ := x
    exact ⟨o, e, _, d⟩
section
variable {prog : Program} {w : World} {A : Around} {E : Value → Shared → Prop} {s : Shared}
theorem nx_item {q : K3} {i : Nat} {items : Array Value} {x : Value} {Q : Value → Shared → Prop} (hit : ItAt s.heap q i) (hl : SqAt s.heap q items) (hx : items[i]? = some x)
    (hQ : ∀ h', ItAt h' q (i + 1) → Heap.SameBut q.2.1 s.heap h' → Q x { s with heap := h' }) : wpAny (model prog w) A (Builtin.SmallTypes.nextOf (.ref q.2.1)) Q E s := by
  obtain ⟨b, it, l⟩ := q
  cases b
  · exact RZ.nextOf_tuple_item hit hl hx hQ
  · exact wpAny_nextOf_list_item hit hl hx hQ
theorem nx_end {q : K3} {i : Nat} {items : Array Value} {Q : Value → Shared → Prop} (hh : A.handled = none) (hit : ItAt s.heap q i) (hl : SqAt s.heap q items) (hx : items[i]? = none)
    (hE : ∀ h' e, Heap.ExtBut q.2.1 s.heap h' → (∃ o, h'.get? e = some o ∧ o.cls = .type "StopIteration") → E (.ref e) { s with heap := h' }) : wpAny (model prog w) A (Builtin.SmallTypes.nextOf (.ref q.2.1)) Q E s := by
  obtain ⟨b, it, l⟩ := q
  cases b
  · exact RZ.nextOf_tuple_end hh hit hl hx hE
  · exact wpAny_nextOf_list_end hh hit hl hx hE
end
abbrev tupO (os : Array Value) : Obj := { cls := .type "tuple", data := .seq os }
abbrev recO (vs : Array Value) : Obj := { cls := .type "zip", data := .fields vs }
def Ready (h : Heap) (i : Nat) : List K3 → List Value → Prop
  | [], [] => True
  | q :: r, x :: xs => ItAt h q i ∧ (∃ items, SqAt h q items ∧ items[i]? = some x) ∧ Ready h i r xs
  | _, _ => False
def Short (h : Heap) (i : Nat) : List K3 → Prop
  | [] => False
  | q :: r => ItAt h q i ∧ ∃ items, SqAt h q items ∧ (items[i]? = none ∨ (∃ x, items[i]? = some x) ∧ Short h i r)
theorem Ready.at' {h h' : Heap} {i : Nat} : ∀ {r : List K3} {xs : List Value}, Ready h i r xs → (∀ q ∈ r, ∀ o, h.get? q.2.1 = some o → h'.get? q.2.1 = some o) → (∀ q ∈ r, ∀ o, h.get? q.2.2 = some o → h'.get? q.2.2 = some o) → Ready h' i r xs
  | [], [], _, _, _ => True.intro
  | q :: r, x :: xs, ⟨a, ⟨items, b, c⟩, d⟩, e1, e2 => ⟨a.at' (e1 q List.mem_cons_self), ⟨items, b.at' (e2 q List.mem_cons_self), c⟩, Ready.at' d (fun p hp => e1 p (List.mem_cons_of_mem _ hp)) fun p hp => e2 p (List.mem_cons_of_mem _ hp)⟩
theorem Short.at' {h h' : Heap} {i : Nat} : ∀ {r : List K3}, Short h i r → (∀ q ∈ r, ∀ o, h.get? q.2.1 = some o → h'.get? q.2.1 = some o) → (∀ q ∈ r, ∀ o, h.get? q.2.2 = some o → h'.get? q.2.2 = some o) → Short h' i r
  | q :: r, ⟨a, items, b, c⟩, e1, e2 => ⟨a.at' (e1 q List.mem_cons_self), items, b.at' (e2 q List.mem_cons_self), c.imp id fun ⟨x, y⟩ => ⟨x, Short.at' y (fun p hp => e1 p (List.mem_cons_of_mem _ hp)) fun p hp => e2 p (List.mem_cons_of_mem _ hp)⟩⟩
abbrev FR := Option PySem.Fin × Unit
/-- a turn of zip's own loop -/
def StepF (prog : Program) (w : World) (A : Around) (f : Value × Nat → FR → Sem (ForInStep FR)) (z TO : Addr) : Prop :=
  ∀ (it : Value) (k : Nat) (c : FR) (Q : ForInStep FR → Shared → Prop) (E : Value → Shared → Prop) (s : Shared),
    wpAny (model prog w) A (Builtin.SmallTypes.nextOf it) (fun x s1 => ∃ os : Array Value, os.size ≤ 100 ∧ s1.heap.get? TO = some (tupO os) ∧ ∀ h', h'.get? TO = some (tupO (os.setIfInBounds k x)) → Heap.SameBut TO s1.heap h' → Q (.yield (none, ())) { s1 with heap := h' })
      (fun e s1 => ∃ vs, s1.heap.get? z = some (recO vs) ∧ 0 < vs.size ∧ ∀ h', Heap.SameBut z s1.heap h' → E e { s1 with heap := h' }) s → wpAny (model prog w) A (f (it, k) c) Q E s
/-- the cells lie apart -/
structure Apart (z TI TO : Addr) (r : List K3) : Prop where
  TIz : TI ≠ z
  TOz : TO ≠ z
  TITO : TI ≠ TO
  nd : (r.map (·.2.1)).Nodup
  iz : ∀ q ∈ r, q.2.1 ≠ z
  iTI : ∀ q ∈ r, q.2.1 ≠ TI
  iTO : ∀ q ∈ r, q.2.1 ≠ TO
  lz : ∀ q ∈ r, q.2.2 ≠ z
  lTO : ∀ q ∈ r, q.2.2 ≠ TO
  li : ∀ q ∈ r, ∀ p ∈ r, q.2.2 ≠ p.2.1
theorem Apart.tail {z TI TO : Addr} {q : K3} {r : List K3} (a : Apart z TI TO (q :: r)) : Apart z TI TO r :=
  ⟨a.TIz, a.TOz, a.TITO, (List.nodup_cons.mp a.nd).2, fun p hp => a.iz p (List.mem_cons_of_mem _ hp), fun p hp => a.iTI p (List.mem_cons_of_mem _ hp), fun p hp => a.iTO p (List.mem_cons_of_mem _ hp), fun p hp => a.lz p (List.mem_cons_of_mem _ hp),
    fun p hp => a.lTO p (List.mem_cons_of_mem _ hp), fun p hp p' hp' => a.li p (List.mem_cons_of_mem _ hp) p' (List.mem_cons_of_mem _ hp')⟩
theorem Apart.other {z TI TO : Addr} {q p : K3} {r : List K3} (a : Apart z TI TO (q :: r)) (hp : p ∈ r) : p.2.1 ≠ q.2.1 := fun e => (List.nodup_cons.mp a.nd).1 (List.mem_map.mpr ⟨p, hp, e⟩)
section
variable {prog : Program} {w : World} {A : Around} {f : Value × Nat → FR → Sem (ForInStep FR)} {z TI TO : Addr} {i : Nat}
theorem loop_item (hf : StepF prog w A f z TO) : ∀ (r : List K3) (xs : List Value) (k : Nat) (s : Shared) (os : Array Value) (Q : FR → Shared → Prop) (E : Value → Shared → Prop), Apart z TI TO r → Ready s.heap i r xs → s.heap.get? TO = some (tupO os) → os.size = k + r.length → os.size ≤ 100 →
    (∀ h' (os' : Array Value), h'.get? TO = some (tupO os') → os'.toList = os.toList.take k ++ xs → (∀ q ∈ r, ItAt h' q (i + 1)) → h'.objs.size = s.heap.objs.size → (∀ c o, c ≠ TO → (∀ q ∈ r, c ≠ q.2.1) → s.heap.get? c = some o → h'.get? c = some o) → Q (none, ()) { s with heap := h' }) →
    wpAny (model prog w) A (forIn ((r.map fun q => Value.ref q.2.1).zipIdx k) ((none, ()) : FR) f) Q E s := by
  intro r
  induction r with
  | nil =>
    intro xs k s os Q E D hr hT hk _ h
    cases xs with
    | cons x xs => exact hr.elim
    | nil =>
    rw [List.map_nil, List.zipIdx_nil, List.forIn_nil]
    refine wpAny_pure (h s.heap os hT ?_ (fun q hq => nomatch hq) rfl fun _ _ _ _ e => e)
    rw [List.append_nil, List.take_of_length_le (by simp at hk; simp [hk])]
  | cons q r ih =>
    intro xs k s os Q E D hr hT hk h100 h
    cases xs with
    | nil => exact hr.elim
    | cons x xs =>
    obtain ⟨h1, ⟨items, h2, h3⟩, h4⟩ := hr
    rw [List.map_cons, List.zipIdx_cons, List.forIn_cons]
    refine wpAny_bind (hf _ _ _ _ _ _ (nx_item h1 h2 h3 fun ha hia sa => ?_))
    have hTa : ha.get? TO = some (tupO os) := sa.extBut _ _ (D.iTO q List.mem_cons_self).symm hT
    refine ⟨os, h100, hTa, fun hb hTb sb => ?_⟩
    have kp : ∀ c o, c ≠ TO → c ≠ q.2.1 → s.heap.get? c = some o → hb.get? c = some o := fun c o c1 c2 e => sb.extBut c o c1 (sa.extBut c o c2 e)
    have hk' : k < os.size := by rw [hk, List.length_cons]; omega
    refine ih xs (k + 1) { s with heap := hb } (os.setIfInBounds k x) Q E D.tail ?_ hTb (by rw [Array.size_setIfInBounds, hk, List.length_cons]; omega) (by rw [Array.size_setIfInBounds]; exact h100) fun h' os' g1 g2 g3 g4 g5 => ?_
    · exact h4.at' (fun p hp o e => kp _ o (D.tail.iTO p hp) (D.other hp) e) fun p hp o e => kp _ o (D.tail.lTO p hp) (D.li p (List.mem_cons_of_mem _ hp) q List.mem_cons_self) e
    · refine h h' os' g1 ?_ (fun p hp => ?_) (by rw [g4]; show hb.objs.size = _; rw [sb.1, sa.1]) fun c o c1 c2 e => g5 c o c1 (fun p hp => c2 p (List.mem_cons_of_mem _ hp)) (kp c o c1 (c2 q List.mem_cons_self) e)
      · rw [g2]
        have hl : k < os.toList.length := by simpa using hk'
        rw [Array.toList_setIfInBounds, List.take_succ, List.take_set_of_le (Nat.le_refl _), List.getElem?_set_self hl]
        simp
      · rcases List.mem_cons.mp hp with rfl | hp
        · refine ItAt.at' hia fun o e => g5 _ o (D.iTO p List.mem_cons_self) (fun p' hp' z => D.other hp' z.symm) (sb.extBut _ o (D.iTO p List.mem_cons_self) e)
        · exact g3 p hp
theorem loop_end (hh : A.handled = none) (hf : StepF prog w A f z TO) : ∀ (r : List K3) (k : Nat) (s : Shared) (os : Array Value) (Q : FR → Shared → Prop) (E : Value → Shared → Prop) (f0 : Value), Apart z TI TO r → Short s.heap i r → IsZip s.heap z TI TO f0 → s.heap.get? TO = some (tupO os) → os.size ≤ 100 →
    (∀ h' e, (∀ c o, c ≠ z → c ≠ TO → (∀ q ∈ r, c ≠ q.2.1) → s.heap.get? c = some o → h'.get? c = some o) → (∃ o, h'.get? e = some o ∧ o.cls = .type "StopIteration") → E (.ref e) { s with heap := h' }) →
    wpAny (model prog w) A (forIn ((r.map fun q => Value.ref q.2.1).zipIdx k) ((none, ()) : FR) f) Q E s := by
  intro r
  induction r with
  | nil =>
    intro k s os Q E f0 D hs
    exact hs.elim
  | cons q r ih =>
    intro k s os Q E f0 D hs hz hT h100 h
    obtain ⟨h1, items, h2, h3⟩ := hs
    rw [List.map_cons, List.zipIdx_cons, List.forIn_cons]
    rcases h3 with h3 | ⟨⟨x, h3⟩, h4⟩
    · refine wpAny_bind (hf _ _ _ _ _ _ (nx_end hh h1 h2 h3 fun ha e sa he => ?_))
      have hz' : IsZip ha z TI TO f0 := sa _ _ (D.iz q List.mem_cons_self).symm hz
      refine ⟨_, hz', by simp, fun hb sb => h hb e (fun c o c1 c2 c3 g => sb.extBut _ _ c1 (sa _ _ (c3 q List.mem_cons_self) g)) ?_⟩
      obtain ⟨o, ho, hc⟩ := he
      refine ⟨o, sb.extBut _ _ (fun y => ?_) ho, hc⟩
      subst y
      rw [hz'] at ho
      cases ho
      simp at hc
    · refine wpAny_bind (hf _ _ _ _ _ _ (nx_item h1 h2 h3 fun ha hia sa => ?_))
      have hTa : ha.get? TO = some (tupO os) := sa.extBut _ _ (D.iTO q List.mem_cons_self).symm hT
      refine ⟨os, h100, hTa, fun hb hTb sb => ?_⟩
      have kp : ∀ c o, c ≠ TO → c ≠ q.2.1 → s.heap.get? c = some o → hb.get? c = some o := fun c o c1 c2 e => sb.extBut c o c1 (sa.extBut c o c2 e)
      refine ih (k + 1) { s with heap := hb } (os.setIfInBounds k x) Q E f0 D.tail ?_ (kp _ _ D.TOz.symm (D.iz q List.mem_cons_self).symm hz) hTb (by rw [Array.size_setIfInBounds]; exact h100) fun h' e g1 g2 => ?_
      · exact h4.at' (fun p hp o e => kp _ o (D.tail.iTO p hp) (D.other hp) e) fun p hp o e => kp _ o (D.tail.lTO p hp) (D.li p (List.mem_cons_of_mem _ hp) q List.mem_cons_self) e
      · exact h h' e (fun c o c1 c2 c3 g => g1 c o c1 c2 (fun p hp => c3 p (List.mem_cons_of_mem _ hp)) (kp c o c2 (c3 q List.mem_cons_self) g)) g2

end
section
variable {prog : Program} {w : World} {A : Around} {E : Value → Shared → Prop} {s : Shared} {z TI TO : Addr} {i : Nat}
theorem next_item {r : List K3} {xs : List Value} {os : Array Value} {Q : Value → Shared → Prop} (D : Apart z TI TO r) (hne : r ≠ []) (h100 : os.size ≤ 100) (hos : os.size = r.length)
    (hz : IsZip s.heap z TI TO .none) (hTI : s.heap.get? TI = some (tupO (r.map fun q => Value.ref q.2.1).toArray)) (hTO : s.heap.get? TO = some (tupO os)) (hr : Ready s.heap i r xs)
    (hQ : ∀ h', IsZip h' z TI TO (rawInt s.heap.objs.size) → h'.get? TI = some (tupO (r.map fun q => Value.ref q.2.1).toArray) → h'.get? TO = some (tupO xs.toArray) → (∀ q ∈ r, ItAt h' q (i + 1)) → h'.get? s.heap.objs.size = some (tupO xs.toArray) → h'.objs.size = s.heap.objs.size + 1 →
      (∀ c o, c ≠ z → c ≠ TO → (∀ q ∈ r, c ≠ q.2.1) → s.heap.get? c = some o → h'.get? c = some o) → Q (.ref s.heap.objs.size) { s with heap := h' }) :
    wpAny (model prog w) A (Builtin.«zip.__next__» ⟨[.ref z], []⟩) (fun fin s' => ∃ v, fin = .done (.ret v) ∧ Q v s') E s := by
  show wpAny _ _ (field (.ref z) 2 >>= _) _ _ _
  refine wpAny_bind (wpAny_field hz rfl (x := .bool false) rfl ?_)
  show wpAny _ _ (field (.ref z) 3 >>= _) _ _ _
  refine wpAny_bind (wpAny_field hz rfl (x := .ref TI) rfl ?_)
  refine wpAny_bind (wpAny_seqItems hTI rfl ?_)
  show wpAny _ _ (if (r.map fun q => Value.ref q.2.1).toArray.isEmpty = true then _ else _) _ _ _
  rw [if_neg (by cases r with | nil => exact absurd rfl hne | cons => simp)]
  show wpAny _ _ (Builtin.SmallTypes.ownedTupleIsFree (.ref z) >>= _) _ _ _
  refine wpAny_bind ?_
  unfold Builtin.SmallTypes.ownedTupleIsFree
  refine wpAny_bind (wpAny_field hz rfl (x := .none) rfl (wpAny_pure ?_))
  simp only [if_true]
  refine wpAny_bind (wpAny_rule ?_)
  refine wpAny_bind (wpAny_field hz rfl (x := .ref TO) rfl ?_)
  refine wpAny_bind (wpAny_setField_rec hz (by simp) fun h₁ hz₁ hs₁ => ?_)
  replace hz₁ : IsZip h₁ z TI TO .ellipsis := hz₁
  refine wpAny_bind ?_
  refine loop_item (i := i) (fun it k c Q E s h => by
    refine wpAny_bind (wpAny_onRaise ?_)
    show wpAny _ _ (Builtin.SmallTypes.nextOf it >>= _) _ _ _
    refine wpAny_bind (wpAny_mono h (fun x s1 hx => wpAny_pure ?_) fun e s1 he => ?_)
    · obtain ⟨os, h100, hT, hq⟩ := hx
      refine wpAny_bind (wpAny_seqItems hT rfl ?_)
      refine wpAny_bind (wpAny_updateSeq hT rfl ?_ (Nat.le_trans h100 (by decide)) (by rw [Array.size_setIfInBounds]; exact Nat.le_trans h100 (by decide)))
      refine wpAny_bind (wpAny_letGo (wpAny_pure (hq _ ?_ (Heap.SameBut.update ..))))
      rw [Heap.get?_update_self _ hT rfl]
      simp [Obj.mapSeq]
    · obtain ⟨vs, hz, h0, hq⟩ := he
      exact wpAny_setField_rec hz h0 fun h' _ sb => hq h' sb) r xs 0 { s with heap := h₁ } os _ _ D ?_ (hs₁.extBut _ _ D.TOz hTO) (by rw [hos, Nat.zero_add]) h100 fun h₂ os' g1 g2 g3 g4 g5 => ?_
  · exact hr.at' (fun q hq o e => hs₁.extBut _ o (D.iz q hq) e) fun q hq o e => hs₁.extBut _ o (D.lz q hq) e
  have eos : os' = xs.toArray := by
    rw [List.take_zero, List.nil_append] at g2
    rw [← g2]
  subst eos
  refine wpAny_bind (wpAny_seqItems g1 rfl ?_)
  have hxl : xs.length ≤ 100 := by
    have e1 : ∀ {h : Heap} {r : List K3} {xs : List Value}, Ready h i r xs → xs.length = r.length := by
      intro h r
      induction r with
      | nil =>
        intro xs hr
        cases xs with
        | nil => rfl
        | cons => exact hr.elim
      | cons q r ih =>
        intro xs hr
        cases xs with
        | nil => exact hr.elim
        | cons x xs => exact congrArg (· + 1) (ih hr.2.2)
    rw [e1 hr, ← hos]
    exact h100
  refine wpAny_bind (wpAny_newTuple ?_ (by show xs.length ≤ sizeLine; exact Nat.le_trans hxl (by decide)))
  have hsz : h₂.objs.size = s.heap.objs.size := by rw [g4]; exact hs₁.1
  have hz₂ : IsZip h₂ z TI TO .ellipsis := g5 _ _ D.TOz.symm (fun q hq => (D.iz q hq).symm) hz₁
  have kp : ∀ c o, c ≠ z → c ≠ TO → (∀ q ∈ r, c ≠ q.2.1) → s.heap.get? c = some o → h₂.get? c = some o := fun c o c1 c2 c3 e => g5 c o c2 c3 (hs₁.extBut _ _ c1 e)
  have hzlt : z < h₂.objs.size := Heap.lt_size hz₂
  show wpAny _ _ (Builtin.SmallTypes.ownedTupleHandOut (.ref z) (.ref h₂.objs.size) >>= _) _ _ _
  refine wpAny_bind ?_
  unfold Builtin.SmallTypes.ownedTupleHandOut
  have hz₆ : IsZip (h₂.push (tupO xs.toArray)) z TI TO .ellipsis := Heap.get?_push_of_some _ hz₂
  refine wpAny_bind (wpAny_setField_rec hz₆ (by simp) fun h₇ hz₇ hs₇ => ?_)
  replace hz₇ : IsZip h₇ z TI TO (rawInt h₂.objs.size) := hz₇
  refine wpAny_setField_rec hz₇ (by simp) fun h₈ hz₈ hs₈ => ?_
  replace hz₈ : IsZip h₈ z TI TO (rawInt h₂.objs.size) := hz₈
  have up : ∀ c o, c ≠ z → h₂.get? c = some o → h₈.get? c = some o := fun c o c1 e => hs₈.extBut _ _ c1 (hs₇.extBut _ _ c1 (Heap.get?_push_of_some _ e))
  have hT₈ : h₈.get? h₂.objs.size = some (tupO xs.toArray) := hs₈.extBut _ _ (Nat.ne_of_gt hzlt) (hs₇.extBut _ _ (Nat.ne_of_gt hzlt) (Heap.get?_push_size _ rfl))
  have hz8 : h₈.objs.size = h₂.objs.size + 1 := by rw [hs₈.1, hs₇.1, Heap.size_push]
  rw [hsz] at hz₈ hT₈ hz8
  refine wpAny_pure ⟨_, rfl, ?_⟩
  show Q (.ref h₂.objs.size) _
  rw [hsz]
  exact hQ h₈ hz₈ (up _ _ D.TIz (kp _ _ D.TIz D.TITO (fun q hq => (D.iTI q hq).symm) hTI)) (up _ _ D.TOz g1) (fun q hq => (g3 q hq).at' fun o e => up _ o (D.iz q hq) e) hT₈ hz8 fun c o c1 c2 c3 e => up c o c1 (kp c o c1 c2 c3 e)
theorem next_end {r : List K3} {os : Array Value} {Q : PySem.Fin → Shared → Prop} (hh : A.handled = none) (D : Apart z TI TO r) (hne : r ≠ []) (h100 : os.size ≤ 100)
    (hz : IsZip s.heap z TI TO .none) (hTI : s.heap.get? TI = some (tupO (r.map fun q => Value.ref q.2.1).toArray)) (hTO : s.heap.get? TO = some (tupO os)) (hr : Short s.heap i r)
    (hE : ∀ h' e, (∀ c o, c ≠ z → c ≠ TO → (∀ q ∈ r, c ≠ q.2.1) → s.heap.get? c = some o → h'.get? c = some o) → (∃ o, h'.get? e = some o ∧ o.cls = .type "StopIteration") → E (.ref e) { s with heap := h' }) :
    wpAny (model prog w) A (Builtin.«zip.__next__» ⟨[.ref z], []⟩) Q E s := by
  show wpAny _ _ (field (.ref z) 2 >>= _) _ _ _
  refine wpAny_bind (wpAny_field hz rfl (x := .bool false) rfl ?_)
  show wpAny _ _ (field (.ref z) 3 >>= _) _ _ _
  refine wpAny_bind (wpAny_field hz rfl (x := .ref TI) rfl ?_)
  refine wpAny_bind (wpAny_seqItems hTI rfl ?_)
  show wpAny _ _ (if (r.map fun q => Value.ref q.2.1).toArray.isEmpty = true then _ else _) _ _ _
  rw [if_neg (by cases r with | nil => exact absurd rfl hne | cons => simp)]
  show wpAny _ _ (Builtin.SmallTypes.ownedTupleIsFree (.ref z) >>= _) _ _ _
  refine wpAny_bind ?_
  unfold Builtin.SmallTypes.ownedTupleIsFree
  refine wpAny_bind (wpAny_field hz rfl (x := .none) rfl (wpAny_pure ?_))
  simp only [if_true]
  refine wpAny_bind (wpAny_rule ?_)
  refine wpAny_bind (wpAny_field hz rfl (x := .ref TO) rfl ?_)
  refine wpAny_bind (wpAny_setField_rec hz (by simp) fun h₁ hz₁ hs₁ => ?_)
  replace hz₁ : IsZip h₁ z TI TO .ellipsis := hz₁
  refine wpAny_bind ?_
  refine loop_end (i := i) hh (fun it k c Q E s h => by
    refine wpAny_bind (wpAny_onRaise ?_)
    show wpAny _ _ (Builtin.SmallTypes.nextOf it >>= _) _ _ _
    refine wpAny_bind (wpAny_mono h (fun x s1 hx => wpAny_pure ?_) fun e s1 he => ?_)
    · obtain ⟨os, h100, hT, hq⟩ := hx
      refine wpAny_bind (wpAny_seqItems hT rfl ?_)
      refine wpAny_bind (wpAny_updateSeq hT rfl ?_ (Nat.le_trans h100 (by decide)) (by rw [Array.size_setIfInBounds]; exact Nat.le_trans h100 (by decide)))
      refine wpAny_bind (wpAny_letGo (wpAny_pure (hq _ ?_ (Heap.SameBut.update ..))))
      rw [Heap.get?_update_self _ hT rfl]
      simp [Obj.mapSeq]
    · obtain ⟨vs, hz, h0, hq⟩ := he
      exact wpAny_setField_rec hz h0 fun h' _ sb => hq h' sb) r 0 { s with heap := h₁ } os _ _ .ellipsis D ?_ hz₁ (hs₁.extBut _ _ D.TOz hTO) h100 fun h₂ e g1 g2 => ?_
  · exact hr.at' (fun q hq o e => hs₁.extBut _ o (D.iz q hq) e) fun q hq o e => hs₁.extBut _ o (D.lz q hq) e
  · exact hE h₂ e (fun c o c1 c2 c3 x => g1 c o c1 c2 c3 (hs₁.extBut _ _ c1 x)) g2
end
end Zn
namespace Zn
open PySem PySem.Spec PyProof.Rows L2
/-! ### a zip made -/
abbrev K2 := Bool × Addr
def made : Nat → List K2 → List K3
  | _, [] => []
  | n, (b, l) :: r => (b, n, l) :: made (n + 1) r
theorem made_len : ∀ (ks : List K2) (n : Nat), (made n ks).length = ks.length
  | [], _ => rfl
  | _ :: r, n => congrArg (· + 1) (made_len r (n + 1))
theorem made_ge : ∀ (ks : List K2) (n : Nat) (q : K3), q ∈ made n ks → n ≤ q.2.1 ∧ @LT.lt Nat _ q.2.1 (n + ks.length)
  | (b, l) :: r, n, q, h => by
    rcases List.mem_cons.mp h with rfl | h
    · exact ⟨Nat.le_refl _, by simp⟩
    · have := made_ge r (n + 1) q h
      simp only [List.length_cons]
      omega
theorem made_src : ∀ (ks : List K2) (n : Nat) (q : K3), q ∈ made n ks → (q.1, q.2.2) ∈ ks
  | (b, l) :: r, n, q, h => by
    rcases List.mem_cons.mp h with rfl | h
    · exact List.mem_cons_self
    · exact List.mem_cons_of_mem _ (made_src r (n + 1) q h)
theorem made_nodup : ∀ (ks : List K2) (n : Nat), ((made n ks).map (·.2.1)).Nodup
  | [], _ => List.nodup_nil
  | (b, l) :: r, n => by
    refine List.nodup_cons.mpr ⟨fun h => ?_, made_nodup r (n + 1)⟩
    obtain ⟨q, hq, e⟩ := List.mem_map.mp h
    have := (made_ge r (n + 1) q hq).1
    have e : @Eq Nat q.2.1 n := e
    omega
def Sq0 (h : Heap) (q : K2) : Prop := ∃ items, SqAt h (q.1, 0, q.2) items
theorem Sq0.lt {h : Heap} {q : K2} (x : Sq0 h q) : q.2 < h.objs.size := by
  obtain ⟨b, l⟩ := q
  obtain ⟨items, x⟩ := x
  cases b
  · obtain ⟨o, e, _⟩ := x
    exact Heap.lt_size e
  · obtain ⟨o, e, _⟩ := x
    exact Heap.lt_size e
theorem Sq0.keep {h h' : Heap} {q : K2} (x : Sq0 h q) (k : ∀ b o, h.get? b = some o → h'.get? b = some o) : Sq0 h' q := by
  obtain ⟨items, x⟩ := x
  exact ⟨items, x.at' fun o e => k _ o e⟩
section
variable {prog : Program} {w : World} {A : Around} {E : Value → Shared → Prop}
theorem iter_one {q : K2} {s : Shared} {Q : Value → Shared → Prop} (hq : Sq0 s.heap q) (h : ∀ h', (∀ b o, s.heap.get? b = some o → h'.get? b = some o) → h'.objs.size = s.heap.objs.size + 1 → ItAt h' (q.1, s.heap.objs.size, q.2) 0 → Q (.ref s.heap.objs.size) { s with heap := h' }) :
    wpAny (model prog w) A (pyIter (.ref q.2)) Q E s := by
  obtain ⟨b, l⟩ := q
  obtain ⟨items, hq⟩ := hq
  cases b
  · exact wpAny_pyIter_tuple hq (h _ (fun b o e => Heap.get?_push_of_some _ e) (Heap.size_push ..) ⟨_, Heap.get?_push_size _ rfl, rfl, rfl⟩)
  · exact wpAny_pyIter_list hq (h _ (fun b o e => Heap.get?_push_of_some _ e) (Heap.size_push ..) ⟨_, Heap.get?_push_size _ rfl, rfl, rfl⟩)
theorem iter_all : ∀ (ks : List K2) (acc : Array Value) (s : Shared) (Q : Array Value → Shared → Prop), (∀ q ∈ ks, Sq0 s.heap q) →
    (∀ h', (∀ b o, s.heap.get? b = some o → h'.get? b = some o) → h'.objs.size = s.heap.objs.size + ks.length → (∀ q ∈ made s.heap.objs.size ks, ItAt h' q 0) → Q (acc ++ ((made s.heap.objs.size ks).map fun q => Value.ref q.2.1).toArray) { s with heap := h' }) →
    wpAny (model prog w) A (forIn (ks.map fun q => Value.ref q.2) acc fun x r => do
      let v ← holding r.toList (pyIter x)
      pure (ForInStep.yield (r.push v))) Q E s := by
  intro ks
  induction ks with
  | nil =>
    intro acc s Q _ h
    rw [List.map_nil, List.forIn_nil]
    have := h s.heap (fun _ _ e => e) rfl (fun q hq => nomatch hq)
    refine wpAny_pure ?_
    simpa [made] using this
  | cons q ks ih =>
    intro acc s Q hq h
    rw [List.map_cons, List.forIn_cons]
    refine wpAny_bind (wpAny_bind (wpAny_holding (iter_one (hq q List.mem_cons_self) fun h1 k1 z1 i1 => wpAny_pure ?_)))
    refine ih _ { s with heap := h1 } Q (fun p hp => (hq p (List.mem_cons_of_mem _ hp)).keep k1) fun h2 k2 z2 i2 => ?_
    have e := h h2 (fun b o e => k2 b o (k1 b o e)) (by rw [z2]; show h1.objs.size + _ = _; rw [z1, List.length_cons]; omega) (fun p hp => ?_)
    · have e2 : acc ++ ((made s.heap.objs.size (q :: ks)).map fun q => Value.ref q.2.1).toArray = acc.push (.ref s.heap.objs.size) ++ ((made h1.objs.size ks).map fun q => Value.ref q.2.1).toArray := by
        rw [z1]
        obtain ⟨b, l⟩ := q
        simp [made]
      rw [e2] at e
      exact e
    · obtain ⟨b, l⟩ := q
      rcases List.mem_cons.mp hp with rfl | hp
      · exact i1.at' fun o e => k2 _ o e
      · have z1 : h1.objs.size = s.heap.objs.size + 1 := z1
        refine i2 p ?_
        show p ∈ made h1.objs.size ks
        rw [z1]
        exact hp
/-- what zip leaves -/
structure Zip0 (n : Nat) (ks : List K2) (h h' : Heap) : Prop where
  z : IsZip h' (n + ks.length + 2) (n + ks.length) (n + ks.length + 1) .none
  ti : h'.get? (n + ks.length) = some (tupO ((made n ks).map fun q => Value.ref q.2.1).toArray)
  to : h'.get? (n + ks.length + 1) = some (tupO (Array.replicate ks.length Value.none))
  its : ∀ q ∈ made n ks, ItAt h' q 0
  keep : ∀ b o, h.get? b = some o → h'.get? b = some o
theorem meets_new (ks : List K2) (h100 : ks.length ≤ 100) : Meets (Builtin.«zip.__new__» ⟨.type "zip" :: ks.map (fun q => Value.ref q.2), []⟩) (fun _ R s => (∀ q ∈ ks, Sq0 s.heap q) ∧ ∀ h', Zip0 s.heap.objs.size ks s.heap h' → R (.ok (.ret (.ref (s.heap.objs.size + ks.length + 2)))) { s with heap := h' }) :=
  .of_wp fun prog w A R s h => by
    obtain ⟨hq, h⟩ := h
    unfold Builtin.«zip.__new__»
    refine wpAny_bind (m := Builtin.SmallTypes.newClass _ _) ?_
    unfold Builtin.SmallTypes.newClass
    refine wpAny_bind (wpAny_of_eq (a := true) (by first | rfl | kernel_rfl) ?_)
    refine wpAny_bind (wpAny_of_eq (a := true) sub_zip ?_)
    refine wpAny_pure ?_
    show wpAny _ _ (Builtin.SmallTypes.iterAll (ks.map fun q => Value.ref q.2) >>= _) _ _ _
    unfold Builtin.SmallTypes.iterAll
    refine wpAny_bind (wpAny_bind (iter_all ks #[] s _ hq fun h1 k1 z1 i1 => wpAny_pure ?_))
    have el : ((#[] : Array Value) ++ ((made s.heap.objs.size ks).map fun (q : K3) => Value.ref q.2.1).toArray).toList = (made s.heap.objs.size ks).map fun (q : K3) => Value.ref q.2.1 := by simp
    rw [el]
    have hl := made_len ks s.heap.objs.size
    refine wpAny_bind (wpAny_newTuple ?_ (by rw [List.length_map, hl]; exact Nat.le_trans h100 (by decide)))
    refine wpAny_bind (wpAny_newTuple ?_ (by rw [List.length_map, List.length_map, hl]; exact Nat.le_trans h100 (by decide)))
    refine wpAny_bind ?_
    unfold Builtin.SmallTypes.newRecord
    refine wpAny_newObj_type ?_ (by show 5 ≤ sizeLine + 2; decide)
    refine wpAny_pure ⟨_, rfl, ?_⟩
    have z1 : h1.objs.size = s.heap.objs.size + ks.length := z1
    have en : ((made s.heap.objs.size ks).map fun q => Value.ref q.2.1).map (fun _ => Value.none) = List.replicate ks.length Value.none := by
      rw [List.map_map]
      have e9 : ∀ l : List K3, l.map ((fun _ => Value.none) ∘ fun (q : K3) => Value.ref q.2.1) = List.replicate l.length Value.none := by
        intro l
        induction l with
        | nil => rfl
        | cons a l ih => rw [List.map_cons, ih]; rfl
      rw [e9, hl]
    rw [en]
    generalize hm : (made s.heap.objs.size ks).map (fun q => Value.ref q.2.1) = ms at *
    have zz1 : (h1.push (tupO ms.toArray)).objs.size = s.heap.objs.size + ks.length + 1 := by rw [Heap.size_push, z1]
    have zz2 : ((h1.push (tupO ms.toArray)).push (tupO (List.replicate ks.length Value.none).toArray)).objs.size = s.heap.objs.size + ks.length + 2 := by rw [Heap.size_push, zz1]
    have g1 : (h1.push (tupO ms.toArray)).get? (s.heap.objs.size + ks.length) = some (tupO ms.toArray) := by rw [← z1]; exact Heap.get?_push_size _ rfl
    have g2 : ((h1.push (tupO ms.toArray)).push (tupO (List.replicate ks.length Value.none).toArray)).get? (s.heap.objs.size + ks.length + 1) = some (tupO (List.replicate ks.length Value.none).toArray) := by rw [← zz1]; exact Heap.get?_push_size _ rfl
    show R (.ok (.ret (.ref ((h1.push (tupO ms.toArray)).push (tupO (List.replicate ks.length Value.none).toArray)).objs.size))) _
    rw [zz2]
    refine h _ ⟨?_, ?_, ?_, fun q hq => (i1 q hq).at' fun o e => Heap.get?_push_of_some _ (Heap.get?_push_of_some _ (Heap.get?_push_of_some _ e)), fun b o e => Heap.get?_push_of_some _ (Heap.get?_push_of_some _ (Heap.get?_push_of_some _ (k1 b o e)))⟩
    · rw [← zz2, ← zz1, ← z1]
      exact Heap.get?_push_size _ rfl
    · rw [hm]
      exact Heap.get?_push_of_some _ (Heap.get?_push_of_some _ g1)
    · have e3 : Array.replicate ks.length Value.none = (List.replicate ks.length Value.none).toArray := by simp
      rw [e3]
      exact Heap.get?_push_of_some _ g2

theorem call_zipN {ks : List K2} {s : Shared} {Q : Value → Shared → Prop} (h100 : ks.length ≤ 100) (h1 : checkTypeCall "zip" ⟨ks.map (fun q => Value.ref q.2), []⟩ = pure ()) (h2 : checkBuiltinCall "zip.__new__" ⟨.type "zip" :: ks.map (fun q => Value.ref q.2), []⟩ = pure ())
    (h3 : ∀ obj, argsOk "object.__init__" ⟨obj :: ks.map (fun q => Value.ref q.2), []⟩) (hq : ∀ q ∈ ks, Sq0 s.heap q) (h : ∀ h', Zip0 s.heap.objs.size ks s.heap h' → Q (.ref (s.heap.objs.size + ks.length + 2)) { s with heap := h' }) :
    wpAny (model prog w) A (call (.type "zip") (ks.map fun q => Value.ref q.2)) Q E s := by
  refine callType_new F.called_zip (by decide) h1 h2 h3 F.entry_zip_new (meets_new ks h100) ⟨hq, fun h' z => ?_⟩
  exact ⟨⟨_, z.z, rfl⟩, h h' z⟩
theorem apart_made {n : Nat} {ks : List K2} (hl : ∀ q ∈ ks, @LT.lt Nat _ q.2 n) : Apart (n + ks.length + 2) (n + ks.length) (n + ks.length + 1) (made n ks) := by
  have lt : ∀ q ∈ made n ks, @LT.lt Nat _ q.2.2 n := fun q hq => hl _ (made_src ks n q hq)
  have ge : ∀ q ∈ made n ks, n ≤ q.2.1 ∧ @LT.lt Nat _ q.2.1 (n + ks.length) := made_ge ks n
  refine ⟨?_, ?_, ?_, made_nodup ks n, fun q hq e => ?_, fun q hq e => ?_, fun q hq e => ?_, fun q hq e => ?_, fun q hq e => ?_, fun q hq p hp e => ?_⟩
  · exact Nat.ne_of_lt (by omega)
  · exact Nat.ne_of_lt (by omega)
  · exact Nat.ne_of_lt (by omega)
  · have e : @Eq Nat q.2.1 _ := e
    have := ge q hq
    omega
  · have e : @Eq Nat q.2.1 _ := e
    have := ge q hq
    omega
  · have e : @Eq Nat q.2.1 _ := e
    have := ge q hq
    omega
  · have e : @Eq Nat q.2.2 _ := e
    have := lt q hq
    omega
  · have e : @Eq Nat q.2.2 _ := e
    have := lt q hq
    omega
  · have e : @Eq Nat q.2.2 _ := e
    have := lt q hq
    have := ge p hp
    omega
end
/-! ### the walk -/
def Sq (K : PySem.W.Frag) (H : Hp) (q : K2) (xs : List V) : Prop := match q with
  | (true, a) => SqL K H a xs
  | (false, a) => SqT K H a xs
/-- row i: an item of each -/
def Row (K : PySem.W.Frag) (H : Hp) (i : Nat) : List K2 → List V → Prop
  | [], [] => True
  | q :: r, x :: xs => (∃ ys, Sq K H q ys ∧ ys[i]? = some x) ∧ Row K H i r xs
  | _, _ => False
def Out (K : PySem.W.Frag) (H : Hp) (i : Nat) : List K2 → Prop
  | [] => False
  | q :: r => ∃ ys, Sq K H q ys ∧ (ys.length ≤ i ∨ i < ys.length ∧ Out K H i r)
def Itn (K : PySem.W.Frag) (ks : List K2) : It :=
  ⟨fun i H => ∃ xs, Row K H i ks xs, fun i H v H' => ∃ T xs, v = .ref T ∧ H T = none ∧ H' = upd H T (.tup xs) ∧ ∀ xs', Row K H i ks xs' → xs' = xs, fun i H => Out K H i ks⟩
section
variable {X : Cx} {pins : List (Addr × Obj)} {σ : L2.St} {H : Hp} {s : Shared}
theorem sq_at (I : Inv X pins σ H s) {q : K2} {xs : List V} (h : Sq X.K H q xs) : ∃ its : List Value, Vals xs its ∧ ∀ n, SqAt s.heap (q.1, n, q.2) its.toArray := by
  obtain ⟨b, a⟩ := q
  cases b
  · obtain ⟨its, r, p, _⟩ := I.tuple h
    exact ⟨its, r, fun _ => p⟩
  · obtain ⟨its, r, p, _⟩ := I.list h
    exact ⟨its, r, fun _ => p.isList⟩
theorem sq_inj (I : Inv X pins σ H s) {q : K2} {xs ys : List V} (h : Sq X.K H q xs) (h' : Sq X.K H q ys) : xs = ys := by
  obtain ⟨b, a⟩ := q
  cases b
  · exact I.tuple_inj h h'
  · exact I.list_inj h h'
theorem row_inj (I : Inv X pins σ H s) {i : Nat} : ∀ {ks : List K2} {xs ys : List V}, Row X.K H i ks xs → Row X.K H i ks ys → xs = ys := by
  intro ks
  induction ks with
  | nil =>
    intro xs ys h1 h2
    cases xs with
    | cons => exact h1.elim
    | nil =>
      cases ys with
      | cons => exact h2.elim
      | nil => rfl
  | cons q ks ih =>
    intro xs ys h1 h2
    cases xs with
    | nil => exact h1.elim
    | cons x xs =>
      cases ys with
      | nil => exact h2.elim
      | cons y ys =>
        obtain ⟨⟨u, a1, a2⟩, a3⟩ := h1
        obtain ⟨⟨v, b1, b2⟩, b3⟩ := h2
        rw [sq_inj I a1 b1, b2] at a2
        rw [Option.some.inj a2, ih a3 b3]
theorem ready_of (I : Inv X pins σ H s) {i : Nat} : ∀ {ks : List K2} {n : Nat} {xs : List V}, (∀ q ∈ made n ks, ItAt s.heap q i) → Row X.K H i ks xs → ∃ us, Vals xs us ∧ Ready s.heap i (made n ks) us := by
  intro ks
  induction ks with
  | nil =>
    intro n xs _ h
    cases xs with
    | cons => exact h.elim
    | nil => exact ⟨[], .nil, True.intro⟩
  | cons q ks ih =>
    intro n xs hi h
    cases xs with
    | nil => exact h.elim
    | cons x xs =>
      obtain ⟨b, l⟩ := q
      obtain ⟨⟨u, a1, a2⟩, a3⟩ := h
      obtain ⟨its, r, p⟩ := sq_at I a1
      obtain ⟨v, hv, rv⟩ := r.get a2
      obtain ⟨us, h1, h2⟩ := ih (n := n + 1) (fun q hq => hi q (List.mem_cons_of_mem _ hq)) a3
      exact ⟨v :: us, .cons rv h1, hi _ List.mem_cons_self, ⟨_, p n, by simpa using hv⟩, h2⟩
theorem short_of (I : Inv X pins σ H s) {i : Nat} : ∀ {ks : List K2} {n : Nat}, (∀ q ∈ made n ks, ItAt s.heap q i) → Out X.K H i ks → Short s.heap i (made n ks) := by
  intro ks
  induction ks with
  | nil =>
    intro n _ h
    exact h.elim
  | cons q ks ih =>
    intro n hi h
    obtain ⟨b, l⟩ := q
    obtain ⟨ys, a1, a2⟩ := h
    obtain ⟨its, r, p⟩ := sq_at I a1
    have hl := r.length
    refine ⟨hi _ List.mem_cons_self, _, p n, ?_⟩
    rcases a2 with a2 | ⟨a2, a3⟩
    · exact .inl (by simp; omega)
    · refine .inr ⟨⟨its[i]'(by omega), by simp⟩, ih (n := n + 1) (fun q hq => hi q (List.mem_cons_of_mem _ hq)) a3⟩
theorem row_len {K : PySem.W.Frag} {i : Nat} : ∀ {ks : List K2} {xs : List V}, Row K H i ks xs → xs.length = ks.length := by
  intro ks
  induction ks with
  | nil =>
    intro xs h
    cases xs with
    | nil => rfl
    | cons => exact h.elim
  | cons q ks ih =>
    intro xs h
    cases xs with
    | nil => exact h.elim
    | cons x xs => exact congrArg (· + 1) (ih h.2)
end
end Zn
namespace Zn
open PySem PySem.Spec PyProof.Rows L2
abbrev fpZ (n : Nat) (ks : List K2) : List Addr := (n + ks.length + 2) :: (n + ks.length) :: (n + ks.length + 1) :: (made n ks).map (·.2.1)
def tnZ (n : Nat) (ks : List K2) (i : Nat) (h : Heap) : Prop :=
  IsZip h (n + ks.length + 2) (n + ks.length) (n + ks.length + 1) .none ∧ h.get? (n + ks.length) = some (tupO ((made n ks).map fun q => Value.ref q.2.1).toArray) ∧ (∃ os : Array Value, os.size = ks.length ∧ h.get? (n + ks.length + 1) = some (tupO os)) ∧ ∀ q ∈ made n ks, ItAt h q i
theorem fpz_cases {n : Nat} {ks : List K2} {c : Addr} (h : c ∈ fpZ n ks) : c = n + ks.length + 2 ∨ c = n + ks.length ∨ c = n + ks.length + 1 ∨ ∃ q ∈ made n ks, c = q.2.1 := by
  rcases List.mem_cons.mp h with h | h
  · exact .inl h
  · rcases List.mem_cons.mp h with h | h
    · exact .inr (.inl h)
    · rcases List.mem_cons.mp h with h | h
      · exact .inr (.inr (.inl h))
      · obtain ⟨q, hq, e⟩ := List.mem_map.mp h
        exact .inr (.inr (.inr ⟨q, hq, e.symm⟩))
theorem fpz_it {n : Nat} {ks : List K2} {q : K3} (h : q ∈ made n ks) : q.2.1 ∈ fpZ n ks := List.mem_cons_of_mem _ (List.mem_cons_of_mem _ (List.mem_cons_of_mem _ (List.mem_map.mpr ⟨q, h, rfl⟩)))
theorem turnN {P : Program} {w : World} {K : PySem.W.Frag} {elts : List Expr} {kk : Nat} {tpos : Pos} {n : Nat} {ks : List K2} (hne : ks ≠ []) (h100 : ks.length ≤ 100) (hl : ∀ q ∈ ks, @LT.lt Nat _ q.2 n) :
    Turn P w K (.Tuple elts kk tpos) (Itn K ks) (fpZ n ks) (n + ks.length + 2) (tnZ n ks) := by
  have D := apart_made (n := n) (ks := ks) hl
  have hne' : made n ks ≠ [] := fun e => hne (List.eq_nil_of_length_eq_zero (by rw [← made_len ks n, e]; rfl))
  have pyn : ∀ {A : Around} {s : Shared} {E : Value → Shared → Prop} {Q : Option Value → Shared → Prop}, IsZip s.heap (n + ks.length + 2) (n + ks.length) (n + ks.length + 1) .none →
      wpAny (model P w) A.in1 (Builtin.«zip.__next__» ⟨[.ref (n + ks.length + 2)], []⟩) (fun fin s' => ∃ v, fin = .done (.ret v) ∧ Q (some v) s') (fun e s' => wpAny (model P w) A (isInstance e (.type "StopIteration") >>= fun b => if b = true then pure none else throw e) Q E s') s → wpAny (model P w) A (pyNext (.ref (n + ks.length + 2))) Q E s := by
    intro A s E Q hz h
    have hT : s.TypeIs (.ref (n + ks.length + 2)) "zip" := ⟨_, hz, rfl⟩
    unfold pyNext
    refine wpAny_bind (wpAny_attempt (wpAny_callSpecial?_slot (name := Str.ofString "__next__") hT F.slot_zip_next
      (wpAny_call_entry F.slot_zip_next hT F.entry_zip_next (wpAny_mono h (fun fin s' hf => ?_) fun e s' he => he) (F.args_zip_next_1 _))))
    obtain ⟨v, e, q⟩ := hf
    exact ⟨v, e, wpAny_pure q⟩
  refine ⟨List.mem_cons_self, ?_, ?_, ?_, ?_, ?_⟩
  · rintro i h ⟨hz, hTI, ⟨os, ho, hTO⟩, hi⟩ c hc
    rcases fpz_cases hc with rfl | rfl | rfl | ⟨q, hq, rfl⟩
    · exact ⟨_, hz, fun v z => nomatch z⟩
    · exact ⟨_, hTI, fun v z => nomatch z⟩
    · exact ⟨_, hTO, fun v z => nomatch z⟩
    · obtain ⟨o, e, vs, d⟩ := (hi q hq).some
      exact ⟨o, e, fun v z => by rw [d] at z; cases z⟩
  · rintro i h h' ⟨hz, hTI, ⟨os, ho, hTO⟩, hi⟩ k
    exact ⟨k _ List.mem_cons_self _ hz, k _ (List.mem_cons_of_mem _ List.mem_cons_self) _ hTI, ⟨os, ho, k _ (List.mem_cons_of_mem _ (List.mem_cons_of_mem _ List.mem_cons_self)) _ hTO⟩, fun q hq => (hi q hq).at' fun o e => k _ (fpz_it hq) o e⟩
  · intro X hP hw hK hc i pins s σ H E I hf st hg
    subst hP hw hK
    obtain ⟨hz, hTI, ⟨os, ho, hTO⟩, hi⟩ := st
    obtain ⟨xs, hrow⟩ := hg
    obtain ⟨us, rv, rd⟩ := ready_of I (n := n) hi hrow
    have hlx := row_len hrow
    have hlu : us.length = ks.length := by rw [← hlx]; exact rv.length.symm
    have hzl : @LT.lt Nat _ (n + ks.length + 2) s.heap.objs.size := Heap.lt_size hz
    refine pyn hz (next_item D hne' (by rw [ho]; exact h100) (by rw [ho, made_len]) hz hTI hTO rd fun h' z' TI' TO' i' T' sz' k' => ?_)
    refine ⟨_, rfl, wpAny_letOwnedTupleGo_zip (s := { s with heap := h' }) z' fun h2 z2 sb => ?_⟩
    have neZ : s.heap.objs.size ≠ n + ks.length + 2 := Nat.ne_of_gt hzl
    have hT2 : h2.get? s.heap.objs.size = some (tupO us.toArray) := (sb.2 _ neZ).trans T'
    have new : ObjOk X.prog X.w (upd H s.heap.objs.size (.tup xs)) h2 s.heap.objs.size (.tup xs) :=
      ⟨by rw [hlx]; exact Nat.le_trans h100 (by decide), us, rv, ⟨_, hT2, rfl, _, rfl⟩⟩
    have I1 : Inv X pins σ (upd H s.heap.objs.size (.tup xs)) { s with heap := h2 } :=
      I.turnedNew (t' := s.toks) (ch := fpZ n ks) (fun c o hb q => (sb.2 c (fun q' => hb (by rw [q']; exact List.mem_cons_self))).trans (k' c o (fun q' => hb (by rw [q']; exact List.mem_cons_self)) (fun q' => hb (by rw [q']; exact List.mem_cons_of_mem _ (List.mem_cons_of_mem _ List.mem_cons_self))) (fun p hp q' => hb (by rw [q']; exact fpz_it hp)) q)) hf (Nat.le_refl _) new
    refine ⟨.ref s.heap.objs.size, _, I1, rfl, ⟨_, xs, rfl, I.hok.fresh (Nat.le_refl _), rfl, fun xs' hx' => row_inj I hx' hrow⟩, ⟨z2, (sb.2 _ D.TIz).trans TI', ⟨us.toArray, by simpa using hlu, (sb.2 _ D.TOz).trans TO'⟩, fun q hq => (i' q hq).at' fun o e => (sb.2 _ (D.iz q hq)).trans e⟩, fun c hcm => ?_⟩
    have hlt : @LT.lt Nat _ c s.heap.objs.size := by
      rcases fpz_cases hcm with rfl | rfl | rfl | ⟨q, hq, rfl⟩
      · exact hzl
      · exact Heap.lt_size hTI
      · exact Heap.lt_size hTO
      · obtain ⟨o, e, _⟩ := (hi q hq).some
        exact Heap.lt_size e
    show upd H s.heap.objs.size (.tup xs) c = none
    rw [upd_ne (Nat.ne_of_lt hlt)]
    exact (hf c hcm).1
  · intro X hP hw hK hc i pins s σ H E I hf st hg
    subst hP hw hK
    obtain ⟨hz, hTI, ⟨os, ho, hTO⟩, hi⟩ := st
    refine pyn hz (next_end (I.ok.hd hc) D hne' (by rw [ho]; exact h100) hz hTI hTO (short_of I hi hg) fun h' e k he => ?_)
    obtain ⟨o, heo, hce⟩ := he
    refine wpAny_bind (wpAny_isInstance (T := "StopIteration") (b := true) ⟨o, heo, hce⟩ isSubtype_stop (wpAny_pure ⟨rfl, ?_⟩))
    exact I.turnedL (t' := s.toks) (ch := fpZ n ks) (fun c o hb q => k c o (fun q' => hb (by rw [q']; exact List.mem_cons_self)) (fun q' => hb (by rw [q']; exact List.mem_cons_of_mem _ (List.mem_cons_of_mem _ List.mem_cons_self))) (fun p hp q' => hb (by rw [q']; exact fpz_it hp)) q) hf
  · intro A i s Q E st h
    exact wpAny_pyIter_zip st.1 h

/-! ### zip(a, b, ..) as what is walked -/
def iZipN (K : PySem.W.Frag) (N : Nat) (ta : TA) : TI := fun σ H R => ta σ H fun vs H1 => ∃ ks : List K2, ks.length = N ∧ vs = ks.map (fun q => V.ref q.2) ∧ (∀ q ∈ ks, ∃ xs, Sq K H1 q xs) ∧ R (Itn K ks) H1
theorem vals_refs : ∀ {ks : List K2} {us : List Value}, Vals (ks.map fun q => V.ref q.2) us → us = ks.map fun q => Value.ref q.2 := by
  intro ks
  induction ks with
  | nil =>
    intro us h
    cases h
    rfl
  | cons q ks ih =>
    intro us h
    cases h with
    | cons a b =>
      cases a
      rw [ih b]
      rfl
section
variable {X : Cx} {pins : List (Addr × Obj)} {σ : L2.St} {H : Hp} {s : Shared}
theorem sq0_of (I : Inv X pins σ H s) {q : K2} {xs : List V} (h : Sq X.K H q xs) : Sq0 s.heap q := by
  obtain ⟨its, _, p⟩ := sq_at I h
  exact ⟨_, p 0⟩
theorem zip_it {ks : List K2} {R : It → Hp → Prop} {elts : List Expr} {kk : Nat} {tpos : Pos} {E : Value → Shared → Prop} (I : Inv X pins σ H s) (hne : ks ≠ []) (h100 : ks.length ≤ 100) (h1 : checkTypeCall "zip" ⟨ks.map (fun q => Value.ref q.2), []⟩ = pure ()) (h2 : checkBuiltinCall "zip.__new__" ⟨.type "zip" :: ks.map (fun q => Value.ref q.2), []⟩ = pure ())
    (h3 : ∀ obj, argsOk "object.__init__" ⟨obj :: ks.map (fun q => Value.ref q.2), []⟩) (hq : ∀ q ∈ ks, ∃ xs, Sq X.K H q xs) (q : R (Itn X.K ks) H) :
    wpAny (model X.prog X.w) X.A (call (.type "zip") (ks.map fun q => Value.ref q.2)) (fun v s1 => wpAny (model X.prog X.w) X.A (pyIter v) (PIE X pins σ (.Tuple elts kk tpos) R) E s1) E s := by
  have h0 : ∀ q ∈ ks, Sq0 s.heap q := fun q hm => by
    obtain ⟨xs, hx⟩ := hq q hm
    exact sq0_of I hx
  refine call_zipN h100 h1 h2 h3 h0 fun h' z => wpAny_pyIter_zip z.z ?_
  have I2 : Inv X pins σ H { s with heap := h' } := I.kept (t' := s.toks) z.keep
  refine ⟨_, fpZ s.heap.objs.size ks, _, _, H, rfl, I2, turnN hne h100 fun q hm => (h0 q hm).lt, ⟨z.z, z.ti, ⟨_, by simp, z.to⟩, z.its⟩, fun c hc => ?_, q⟩
  have hle : @LE.le Nat _ s.heap.objs.size c := by
    rcases fpz_cases hc with rfl | rfl | rfl | ⟨q, hq, rfl⟩
    · show s.heap.objs.size ≤ s.heap.objs.size + ks.length + 2
      omega
    · show s.heap.objs.size ≤ s.heap.objs.size + ks.length
      omega
    · show s.heap.objs.size ≤ s.heap.objs.size + ks.length + 1
      omega
    · exact (made_ge ks _ q hq).1
  exact I.fpOk hle (I.hok.fresh hle)
end
theorem init4 (a b c d : Value) : argsOk "object.__init__" ⟨[a, b, c, d], []⟩ := by
  unfold argsOk; rw [signature?_of (id := "object.__init__") (n := ['_', '_', 't', 'i', 'n', 'i', '_', '_']) (o := ['t', 'c', 'e', 'j', 'b', 'o']) (by kernel_rfl) PySem.F.owner_object]; kernel_rfl
theorem init5 (a b c d e : Value) : argsOk "object.__init__" ⟨[a, b, c, d, e], []⟩ := by
  unfold argsOk; rw [signature?_of (id := "object.__init__") (n := ['_', '_', 't', 'i', 'n', 'i', '_', '_']) (o := ['t', 'c', 'e', 'j', 'b', 'o']) (by kernel_rfl) PySem.F.owner_object]; kernel_rfl
theorem tc3 (a b c : Value) : checkTypeCall "zip" ⟨[a, b, c], []⟩ = pure () := by kernel_rfl
theorem tc4 (a b c d : Value) : checkTypeCall "zip" ⟨[a, b, c, d], []⟩ = pure () := by kernel_rfl
theorem nc3 (a b c : Value) : checkBuiltinCall "zip.__new__" ⟨[.type "zip", a, b, c], []⟩ = pure () := by kernel_rfl
theorem nc4 (a b c d : Value) : checkBuiltinCall "zip.__new__" ⟨[.type "zip", a, b, c, d], []⟩ = pure () := by kernel_rfl
section
variable {X : Cx} {K : PySem.W.Frag} {ta : TA} {p pos tpos : Pos} {elts : List Expr} {kk : Nat} {e1 e2 e3 e4 : Expr}
theorem zip2 (hK : X.K = K) (hg : Gl X "zip") (hm : X.mg "zip" = none) (ha : PA X [e1, e2] ta)
    (hs : starEach [e1, e2] X.env = (false, eval e1 X.env) :: starEach [e2] X.env := by rfl) (hpl : (backTo pos (starEach [e2] X.env)).any (·.1) = false := by rfl) :
    PI X (.Tuple elts kk tpos) (.Call (.Name "zip" p) [e1, e2] [] pos) (iZipN K 2 ta) := by
  subst hK
  refine ⟨fun pins s σ H R I h => ?_⟩
  refine Call_ (ld_blt I hg hm PyProof.Rows.boot_zip (PyProof.Rows.callWith_type1 (thn (ha.run pos pins s σ H _ I h) fun us s1 ⟨vs, H1, I1, r1, q1⟩ => ?_) hs hpl))
  obtain ⟨ks, hl, rfl, hq, q⟩ := q1
  rw [vals_refs r1]
  match ks, hl with
  | [(b1, a1), (b2, a2)], _ => exact zip_it I1 (fun z => nomatch z) (by show 2 ≤ 100; decide) (F.typeCall_zip_2 _ _) (F.newCall_zip_2 _ _) (fun o => F.args_object_init_3 o _ _) hq q
theorem zip3 (hK : X.K = K) (hg : Gl X "zip") (hm : X.mg "zip" = none) (ha : PA X [e1, e2, e3] ta)
    (hs : starEach [e1, e2, e3] X.env = (false, eval e1 X.env) :: starEach [e2, e3] X.env := by rfl) (hpl : (backTo pos (starEach [e2, e3] X.env)).any (·.1) = false := by rfl) :
    PI X (.Tuple elts kk tpos) (.Call (.Name "zip" p) [e1, e2, e3] [] pos) (iZipN K 3 ta) := by
  subst hK
  refine ⟨fun pins s σ H R I h => ?_⟩
  refine Call_ (ld_blt I hg hm PyProof.Rows.boot_zip (PyProof.Rows.callWith_type1 (thn (ha.run pos pins s σ H _ I h) fun us s1 ⟨vs, H1, I1, r1, q1⟩ => ?_) hs hpl))
  obtain ⟨ks, hl, rfl, hq, q⟩ := q1
  rw [vals_refs r1]
  match ks, hl with
  | [(b1, a1), (b2, a2), (b3, a3)], _ => exact zip_it I1 (fun z => nomatch z) (by show 3 ≤ 100; decide) (tc3 _ _ _) (nc3 _ _ _) (fun o => init4 o _ _ _) hq q
theorem zip4 (hK : X.K = K) (hg : Gl X "zip") (hm : X.mg "zip" = none) (ha : PA X [e1, e2, e3, e4] ta)
    (hs : starEach [e1, e2, e3, e4] X.env = (false, eval e1 X.env) :: starEach [e2, e3, e4] X.env := by rfl) (hpl : (backTo pos (starEach [e2, e3, e4] X.env)).any (·.1) = false := by rfl) :
    PI X (.Tuple elts kk tpos) (.Call (.Name "zip" p) [e1, e2, e3, e4] [] pos) (iZipN K 4 ta) := by
  subst hK
  refine ⟨fun pins s σ H R I h => ?_⟩
  refine Call_ (ld_blt I hg hm PyProof.Rows.boot_zip (PyProof.Rows.callWith_type1 (thn (ha.run pos pins s σ H _ I h) fun us s1 ⟨vs, H1, I1, r1, q1⟩ => ?_) hs hpl))
  obtain ⟨ks, hl, rfl, hq, q⟩ := q1
  rw [vals_refs r1]
  match ks, hl with
  | [(b1, a1), (b2, a2), (b3, a3), (b4, a4)], _ => exact zip_it I1 (fun z => nomatch z) (by show 4 ≤ 100; decide) (tc4 _ _ _ _) (nc4 _ _ _ _) (fun o => init5 o _ _ _ _) hq q
end
/-! ### loops over columns -/
def SqAll (K : PySem.W.Frag) (H : Hp) : List K2 → List (List V) → Prop
  | [], [] => True
  | q :: r, y :: ys => Sq K H q y ∧ SqAll K H r ys
  | _, _ => False
def rowAt (i : Nat) (yss : List (List V)) : List V := yss.map fun ys => ys.getD i .non
theorem row_at {K : PySem.W.Frag} {H : Hp} {i : Nat} : ∀ {ks : List K2} {yss : List (List V)}, SqAll K H ks yss → (∀ ys ∈ yss, i < ys.length) → Row K H i ks (rowAt i yss) := by
  intro ks
  induction ks with
  | nil =>
    intro yss h _
    cases yss with
    | nil => exact True.intro
    | cons => exact h.elim
  | cons q ks ih =>
    intro yss h hl
    cases yss with
    | nil => exact h.elim
    | cons y yss =>
      refine ⟨⟨y, h.1, ?_⟩, ih h.2 fun ys hy => hl ys (List.mem_cons_of_mem _ hy)⟩
      show y[i]? = some (y.getD i V.non)
      rw [List.getD_eq_getElem?_getD, List.getElem?_eq_getElem (hl y List.mem_cons_self)]
      rfl
theorem out_at {K : PySem.W.Frag} {H : Hp} {n : Nat} : ∀ {ks : List K2} {yss : List (List V)}, SqAll K H ks yss → (∀ ys ∈ yss, n ≤ ys.length) → (∃ ys ∈ yss, ys.length = n) → Out K H n ks := by
  intro ks
  induction ks with
  | nil =>
    intro yss h _ hm
    cases yss with
    | nil =>
      obtain ⟨_, z, _⟩ := hm
      cases z
    | cons => exact h.elim
  | cons q ks ih =>
    intro yss h hl hm
    cases yss with
    | nil => exact h.elim
    | cons y yss =>
      refine ⟨y, h.1, ?_⟩
      by_cases hy : y.length ≤ n
      · exact .inl hy
      · refine .inr ⟨by omega, ih h.2 (fun ys hy => hl ys (List.mem_cons_of_mem _ hy)) ?_⟩
        obtain ⟨z, hz, e⟩ := hm
        rcases List.mem_cons.mp hz with rfl | hz
        · omega
        · exact ⟨z, hz, e⟩
theorem for_zipN {K : PySem.W.Frag} {ks : List K2} {yss : List (List V)} {n : Nat} {g : TG} {tb : TS} {D : Ends} {σ : L2.St} {H : Hp} (hlen : ∀ ys ∈ yss, n ≤ ys.length) (hmin : ∃ ys ∈ yss, ys.length = n) (Pv : Nat → L2.St → Hp → Prop) (h0 : Pv 0 σ H) (hq : ∀ i σ H, Pv i σ H → SqAll K H ks yss)
    (hs : ∀ (i : Nat) (T : Addr) (σ : L2.St) (H : Hp), i < n → Pv i σ H → H T = none → g (.ref T) σ (upd H T (.tup (rowAt i yss))) fun σ2 H2 => tb { D with nx := Pv (i + 1), ct := Pv (i + 1), bk := D.nx } σ2 H2) (hd : ∀ σ H, Pv n σ H → D.nx σ H) :
    ∃ W : Nat → Nat → L2.St → Hp → Prop, (∃ m, W 0 m σ H) ∧ ∀ i m σ H, W i m σ H →
      ((Itn K ks).stop i H ∧ D.nx σ H) ∨ ((Itn K ks).go i H ∧ ∃ N : L2.St → Hp → Prop, (∀ σ' H', N σ' H' → ∃ m', m' < m ∧ W (i + 1) m' σ' H') ∧ ∀ v H', (Itn K ks).yld i H v H' → g v σ H' fun σ2 H2 => tb { D with nx := N, ct := N, bk := D.nx } σ2 H2) := by
  refine ⟨fun i m σ H => m = n - i ∧ i ≤ n ∧ Pv i σ H, ⟨n, rfl, Nat.zero_le _, h0⟩, fun i m σ H ⟨em, hi, p⟩ => ?_⟩
  have hS := hq i σ H p
  by_cases hlt : i < n
  · have hrow := row_at hS fun ys hy => Nat.lt_of_lt_of_le hlt (hlen ys hy)
    refine .inr ⟨⟨_, hrow⟩, Pv (i + 1), fun σ' H' p' => ⟨n - (i + 1), by omega, rfl, hlt, p'⟩, fun v H' y => ?_⟩
    obtain ⟨T, xs, rfl, hT, rfl, hx⟩ := y
    rw [← hx _ hrow]
    exact hs i T σ H hlt p hT
  · have e : i = n := by omega
    subst e
    exact .inl ⟨out_at hS hlen hmin, hd σ H p⟩
end Zn
namespace Fr
open PySem PySem.Spec PyProof.Rows L2
/-- a comprehension without a test: one item for each -/
theorem lc_all {K : PySem.W.Frag} {J : It} {n : Nat} {G : Hp → Prop} {Y : Nat → Hp → V → Hp → Prop} (w : Walk J n G Y) {g : TG} {tt : TT} {te : TE} {vs : List Nat} {σ : L2.St} {H1 : Hp} {D : Addr} {Qd : Hp → Prop}
    (hD : H1 D = none) (hn : n ≤ 100000) (hG : ∀ H', Same H1 H' → G H') (S : Nat → PyData → Prop) (hS : ∀ i d, S i d → noL d = true)
    (hs : ∀ i x H' H'' (A : V → Hp → Prop) (B : Hp → Prop), i < n → Same H1 H' → Y i H' x H'' → (∀ y d H4, S i d → Same H' H4 → Dp K H4 y d → A y H4) →
      g x (wipe σ vs) H'' fun σ2 H2 => wipe σ2 vs = wipe σ vs ∧ tt σ2 H2 fun b H3 => if b = true then te σ2 H3 A else B H3)
    (hd : ∀ H' ys ds, Same H1 H' → H' D = some (.lst ys) → DpAll K H' ys ds → ds.length = n → (∀ i d, ds[i]? = some d → S i d) → Qd H') :
    ∃ W : Nat → Nat → Hp → Prop, (∃ m, W 0 m (upd H1 D (.lst []))) ∧ ∀ i m H, W i m H →
      (J.stop i H ∧ Qd H) ∨ (J.go i H ∧ ∃ Nx : Hp → Prop, (∀ H', Nx H' → ∃ m', m' < m ∧ W (i + 1) m' H') ∧ ∀ x H', J.yld i H x H' → g x (wipe σ vs) H' fun σ2 H2 => wipe σ2 vs = wipe σ vs ∧ tt σ2 H2 fun b H3 =>
        if b = true then te σ2 H3 fun y H4 => ∃ acc, H4 D = some (.lst acc) ∧ acc.length < sizeLine ∧ Nx (upd H4 D (.lst (acc ++ [y]))) else Nx H3) := by
  refine lc_it w (fun i H' => Same H1 H' ∧ i ≤ n ∧ ∃ ys ds, H' D = some (.lst ys) ∧ DpAll K H' ys ds ∧ ds.length = i ∧ ∀ j d, ds[j]? = some d → S j d) ⟨same_new hD, Nat.zero_le _, [], [], upd_same, .nil, rfl, fun j d h => by simp at h⟩ (fun i H' _ p => hG H' p.1) (fun i x H' H'' hi p hY => ?_) (fun H' p => ?_)
  · obtain ⟨sm, hin, ys, ds, hy, hA, hl, hAS⟩ := p
    refine hs i x H' H'' _ _ hi sm hY (fun y d H4 hSd s4 hdp => ?_)
    refine ⟨ys, s4 _ _ hy, ?_, ?_, by omega, ys ++ [y], ds ++ [d], upd_same, ?_, ?_, ?_⟩
    · have h2 := dps_len hA
      exact Nat.lt_of_lt_of_le (show ys.length < 100000 by omega) (by decide)
    · exact same_put (sm.trans s4) hD
    · exact dps_app (dps_upd (s4 _ _ hy) (noLs_of fun e he => by
        obtain ⟨j, hj⟩ := List.mem_iff_getElem?.mp he
        exact hS j e (hAS j e hj)) (same_dps s4 hA)) (.cons (dp_upd (s4 _ _ hy) (hS i d hSd) hdp) .nil)
    · rw [List.length_append, hl]
      rfl
    · intro j d' e
      by_cases hj : j < ds.length
      · rw [List.getElem?_append_left hj] at e
        exact hAS j d' e
      · rw [List.getElem?_append_right (by omega)] at e
        have hj2 : j - ds.length = 0 := by
          by_cases z : j - ds.length = 0
          · exact z
          · rw [List.getElem?_eq_none (by simp; omega)] at e
            cases e
        rw [hj2] at e
        cases e
        have : j = i := by omega
        rw [this]
        exact hSd
  · obtain ⟨sm, _, ys, ds, hy, hA, hl, hAS⟩ := p
    exact hd H' ys ds sm hy hA hl hAS
end Fr
namespace Fr
open PySem PySem.Spec PyProof.Rows L2
/-! ### written data -/
def tDat (K : PySem.W.Frag) (d : PyData) : TE := fun _ H Q => ∀ v H', Same H H' → Dp K H' v d → Q v H'
def tDats (K : PySem.W.Frag) (ds : List PyData) : TA := fun _ H Q => ∀ vs H', Same H H' → DpAll K H' vs ds → Q vs H'
theorem PE.imp {X : Cx} {e : Expr} {t t' : TE} (h : PE X e t) (i : ∀ σ H Q, t' σ H Q → t σ H Q) : PE X e t' := ⟨fun pins s σ H Q I q => h.run pins s σ H Q I (i σ H Q q)⟩
theorem PA.imp {X : Cx} {es : List Expr} {t t' : TA} (h : PA X es t) (i : ∀ σ H Q, t' σ H Q → t σ H Q) : PA X es t' := ⟨fun pos pins s σ H Q I q => h.run pos pins s σ H Q I (i σ H Q q)⟩
section
variable {X : Cx} {K : PySem.W.Frag} {pos : Pos} {j : Nat}
theorem dl_int {i : Int} : PE X (.Constant (.int i) j pos) (tDat K (.int i)) := PE.imp pe_int fun σ H Q q => q _ H (Same.refl H) (.int i)
theorem dl_neg {i : Int} {p : Pos} : PE X (.UnaryOp .USub (.Constant (.int i) j p) pos) (tDat K (.int (-i))) := PE.imp (pe_un un_neg pe_int) fun σ H Q q => ⟨i, rfl, q _ H (Same.refl H) (.int (-i))⟩
theorem dl_bl {b : Bool} : PE X (.Constant (.bool b) j pos) (tDat K (.bool b)) := PE.imp pe_bl fun σ H Q q => q _ H (Same.refl H) (.bl b)
theorem dl_non : PE X (.Constant .none j pos) (tDat K .none) := PE.imp pe_non fun σ H Q q => q _ H (Same.refl H) .non
theorem dl_str {x : Str} : PE X (.Constant (.str x) j pos) (tDat K (.str x)) := PE.imp pe_str fun σ H Q q => q _ H (Same.refl H) (.str x)
theorem dl_nil : PA X [] (tDats K []) := PA.imp pa_nil fun σ H Q q => q [] H (Same.refl H) .nil
theorem dl_cons {e : Expr} {es : List Expr} {d : PyData} {ds : List PyData} (h : PE X e (tDat K d)) (t : PA X es (tDats K ds)) (hs : starEach (e :: es) X.env = (false, eval e X.env) :: starEach es X.env := by rfl) : PA X (e :: es) (tDats K (d :: ds)) :=
  PA.imp (pa_cons h t hs) fun σ H Q q v H1 s1 h1 vs H2 s2 h2 => q (v :: vs) H2 (s1.trans s2) (.cons (same_dp s2 h1) h2)
theorem dl_tup {es : List Expr} {ds : List PyData} {x1 : Nat} (hl : ds.length ≤ 1000) (h : PA X es (tDats K ds)) : PE X (.Tuple es x1 pos) (tDat K (.tuple ds)) :=
  PE.imp (pe_tup h) fun σ H Q q vs H1 s1 h1 => ⟨by rw [dps_len h1]; exact Nat.le_trans hl (by decide), fun p np => q (.ref p) _ (s1.trans (same_new np)) (.tup (SqT.of upd_same) (same_dps (same_new np) h1))⟩
theorem dl_lst {es : List Expr} {ds : List PyData} (hl : ds.length ≤ 1000) (h : PA X es (tDats K ds)) : PE X (.List es pos) (tDat K (.list ds)) :=
  PE.imp (pe_lst h) fun σ H Q q vs H1 s1 h1 => ⟨by rw [dps_len h1]; exact Nat.le_trans hl (by decide), fun p np => q (.ref p) _ (s1.trans (same_new np)) (.lst (SqL.of upd_same) (same_dps (same_new np) h1))⟩
end
/-! ### zip, walked -/
theorem same_sqAll {K : PySem.W.Frag} {H H' : Hp} (s : Same H H') : ∀ {ks : List Zn.K2} {yss : List (List V)}, Zn.SqAll K H ks yss → Zn.SqAll K H' ks yss := by
  intro ks
  induction ks with
  | nil =>
    intro yss h
    cases yss with
    | nil => exact True.intro
    | cons => exact h.elim
  | cons q ks ih =>
    intro yss h
    cases yss with
    | nil => exact h.elim
    | cons y yss =>
      refine ⟨?_, ih h.2⟩
      obtain ⟨b, a⟩ := q
      cases b
      · exact same_tup s h.1
      · exact s.seq h.1
theorem walk_zipN {K : PySem.W.Frag} {ks : List Zn.K2} {yss : List (List V)} {n : Nat} (hlen : ∀ ys ∈ yss, n ≤ ys.length) (hmin : ∃ ys ∈ yss, ys.length = n) :
    Walk (Zn.Itn K ks) n (fun H => Zn.SqAll K H ks yss) (fun i H x H' => ∃ T, x = .ref T ∧ H T = none ∧ H' = upd H T (.tup (Zn.rowAt i yss))) := by
  refine ⟨fun i H hi q => ⟨_, Zn.row_at q fun ys hy => Nat.lt_of_lt_of_le hi (hlen ys hy)⟩, fun H q => Zn.out_at q hlen hmin, fun i H x H' hi q y => ?_⟩
  obtain ⟨T, xs, rfl, hT, rfl, hx⟩ := y
  refine ⟨T, rfl, hT, ?_⟩
  rw [← hx _ (Zn.row_at q fun ys hy => Nat.lt_of_lt_of_le hi (hlen ys hy))]
end Fr
namespace Fr
open PySem PySem.Spec PyProof.Rows L2
/-! ### a list of one's own that grows -/
theorem app_dp {K : PySem.W.Frag} {H : Hp} {o : Addr} {ys : List V} {ds : List PyData} {y : V} {d : PyData} (ho : H o = some (.lst ys)) (hA : DpAll K H ys ds) (hn : noLs ds = true) (hd : Dp K H y d) (hnd : noL d = true) :
    DpAll K (upd H o (.lst (ys ++ [y]))) (ys ++ [y]) (ds ++ [d]) :=
  dps_app (dps_upd ho hn hA) (.cons (dp_upd ho hnd hd) .nil)
theorem noL_opt (x : Option Nat) : noL (optD x) = true := by cases x <;> rfl
theorem noLs_nats (ns : List Nat) : noLs (ns.map nD) = true := noLs_of fun d hd => by
  obtain ⟨n, _, rfl⟩ := List.mem_map.mp hd
  rfl
theorem cut_take (xs : List V) (i : Nat) : cutV xs none (some (i : Int)) = xs.take i := by
  unfold cutV
  rw [show HT.sIx xs.length xs.length (some (i : Int)) = min i xs.length from HT.sIx_nat xs.length xs.length i, HT.sIx_none]
  rw [List.drop_zero, Nat.sub_zero]
  rcases Nat.le_total i xs.length with h | h
  · rw [Nat.min_eq_left h]
  · rw [Nat.min_eq_right h, List.take_of_length_le (Nat.le_refl _), List.take_of_length_le h]
/-- the least of a list -/
theorem min_int {as : List Nat} {m : Int} (hm : m ∈ as.map fun (x : Nat) => (x : Int)) (hle : ∀ y, y ∈ (as.map fun (x : Nat) => (x : Int)) → m ≤ y) : ∃ k : Nat, m = k ∧ as.min? = some k := by
  obtain ⟨k, hk, rfl⟩ := List.mem_map.mp hm
  refine ⟨k, rfl, ?_⟩
  rw [List.min?_eq_some_iff]
  refine ⟨hk, fun y hy => ?_⟩
  have := hle (y : Int) (List.mem_map.mpr ⟨y, hy, rfl⟩)
  omega
end Fr
namespace Fr
open PySem PySem.Spec PyProof.Rows L2
theorem opNotBl {X : Cx} : OpR X (compareOp .IsNot) (fun x y H Q => ∃ a b, x = .bl a ∧ y = .bl b ∧ Q (.bl (!decide (a = b))) H) := op_isnot_bl
end Fr
namespace Zn
open PySem PySem.Spec PyProof.Rows L2
open AutoSeq1 (wpAny_loadPart')
/-! ### enumerate of a tuple -/
theorem meets_enumT (l : Addr) (items : Array Value) (n : Nat) (dct : Option Addr) (sl : Array (Option Value)) :
    Meets (Builtin.«enumerate.__new__» ⟨[.type "enumerate", .ref l], []⟩) (fun _ R s => s.heap.get? l = some { cls := .type "tuple", dict := dct, data := .seq items n, slots := sl } ∧
      R (.ok (.ret (.ref (s.heap.push { cls := .type "tuple_iterator", data := .fields #[.ref l, .int 0 0] }).objs.size)))
        { s with heap := (s.heap.push { cls := .type "tuple_iterator", data := .fields #[.ref l, .int 0 0] }).push { cls := .type "enumerate", data := .fields #[.none, .bool false, .ref s.heap.objs.size, rawInt 0, .none, .none] } }) :=
  .of_wp fun prog w A R s h => by
    obtain ⟨hp, g, d, tk, os⟩ := s; obtain ⟨hl, h⟩ := h
    have hsub := sub_enumerate
    have hL : Heap.IsTuple (Shared.heap ⟨hp, g, d, tk, os⟩) l items := ⟨_, hl, rfl, n, rfl⟩
    wp_walk using wpAny_loadPart' hl
    refine wpAny_stack_any fun st => wpAny_pure ?_
    split
    · rename_i c _ _ _ _ _
      cases (c == Value.type "enumerate")
      · wp_walk using wpAny_loadPart' hl, wpAny_pyIter_tuple hL
        exact ⟨_, rfl, h⟩
      · wp_walk using wpAny_loadPart' hl, wpAny_pyIter_tuple hL
        exact ⟨_, rfl, h⟩
    · wp_walk using wpAny_loadPart' hl, wpAny_pyIter_tuple hL
      exact ⟨_, rfl, h⟩
theorem call_enumT {prog : Program} {w : World} {A : Around} {E : Value → Shared → Prop} {s : Shared} {l : Addr} {items : Array Value} {Q : Value → Shared → Prop} (hL : s.heap.IsTuple l items)
    (h : ∀ h', IsEnum h' (s.heap.objs.size + 1) s.heap.objs.size 0 .none → h'.IsTupleIter s.heap.objs.size l 0 → h'.objs.size = s.heap.objs.size + 2 →
      (∀ b o, s.heap.get? b = some o → h'.get? b = some o) → Q (.ref (s.heap.objs.size + 1)) { s with heap := h' }) :
    wpAny (model prog w) A (call (.type "enumerate") [.ref l]) Q E s := by
  obtain ⟨⟨c, dct, dt, sl⟩, hl, hc, n, hd⟩ := hL
  replace hc : c = .type "tuple" := hc
  replace hd : dt = .seq items n := hd
  subst hc hd
  refine callType_new F.called_enumerate (by decide) (F.typeCall_enumerate_1 _) (F.newCall_enumerate_1 _) (fun obj => F.args_object_init_2 obj _) F.entry_enumerate_new
    (meets_enumT l items n dct sl) ⟨hl, ?_⟩
  have hz : (s.heap.push { cls := .type "tuple_iterator", data := .fields #[.ref l, .int 0 0] }).objs.size = s.heap.objs.size + 1 := Heap.size_push ..
  show _ ∧ _
  rw [hz]
  have he : IsEnum ((s.heap.push { cls := .type "tuple_iterator", data := .fields #[.ref l, .int 0 0] }).push
      { cls := .type "enumerate", data := .fields #[.none, .bool false, .ref s.heap.objs.size, rawInt 0, .none, .none] }) (s.heap.objs.size + 1) s.heap.objs.size 0 .none := by
    have := Heap.get?_push_size (s.heap.push { cls := .type "tuple_iterator", data := .fields #[.ref l, .int 0 0] })
      (o := { cls := .type "enumerate", data := .fields #[.none, .bool false, .ref s.heap.objs.size, rawInt 0, .none, .none] }) rfl
    rw [hz] at this; exact this
  refine ⟨⟨_, he, rfl⟩, h _ he ⟨_, Heap.get?_push_of_some _ (Heap.get?_push_size _ rfl), rfl, rfl⟩ (by rw [Heap.size_push, hz]) fun b o x => Heap.get?_push_of_some _ (Heap.get?_push_of_some _ x)⟩
/-- the tuple at a, each item in a new pair -/
def IteT (K : PySem.W.Frag) (a : Addr) : It :=
  ⟨fun i H => ∃ (xs : List V) (x : V), SqT K H a xs ∧ xs[i]? = some x, fun i H v H' => ∃ T x, v = .ref T ∧ H T = none ∧ H' = upd H T (.tup [.int (i : Nat), x]) ∧ ∀ xs, SqT K H a xs → xs[i]? = some x, fun i H => ∃ xs : List V, SqT K H a xs ∧ xs.length = i⟩
theorem tup_inj {X : Cx} {pins : List (Addr × Obj)} {σ : L2.St} {H : Hp} {s : Shared} (I : Inv X pins σ H s) {a : Addr} {xs ys : List V} (h : SqT X.K H a xs) (h' : SqT X.K H a ys) : xs = ys := sq_inj I (q := (false, a)) h h'
theorem turn_enumT {P : Program} {w : World} {K : PySem.W.Frag} {elts : List Expr} {kk : Nat} {tpos : Pos} (a e it : Addr) (hai : a ≠ it) (hea : e ≠ a) :
    Turn P w K (.Tuple elts kk tpos) (IteT K a) [e, it] e (fun i h => (∃ old, IsEnum h e it ((i : Nat) : Int) old) ∧ h.IsTupleIter it a i ∧ e ≠ it) where
  mem := by simp
  obj := fun i h st b hb => by
    obtain ⟨⟨old, he⟩, ⟨o, ho, hc, hd⟩, _⟩ := st
    have e' : b = e ∨ b = it := by simpa using hb
    rcases e' with z | z
    · rw [z]; exact ⟨_, he, fun v q => nomatch q⟩
    · rw [z]; exact ⟨o, ho, fun v q => by rw [hd] at q; cases q⟩
  keep := fun i h h' st k => let ⟨⟨old, he⟩, hi, hne⟩ := st; ⟨⟨old, k e (by simp) _ he⟩, hi.at fun o q => k it (by simp) o q, hne⟩
  item := by
    intro X hP hw hK hc i pins s σ H E I hf st hg
    subst hP hw hK
    obtain ⟨⟨old, he⟩, hit, hne⟩ := st
    obtain ⟨xs, x, hq, hx⟩ := hg
    obtain ⟨its, rv, p, hz⟩ := I.tuple hq
    obtain ⟨u, hu, ru⟩ := rv.get hx
    have hlt : i < its.toArray.size := by
      have := (List.getElem?_eq_some_iff.mp hu).1
      simpa using this
    have hel : e < s.heap.objs.size := Heap.lt_size he
    have hil : it < s.heap.objs.size := by obtain ⟨_, q, _⟩ := hit; exact Heap.lt_size q
    refine wpAny_pyNext_enum_itemD (Draws.tuple (A := X.A.in1) (I.ok.hd hc) it a hai its.toArray) he ⟨hit, p⟩ hlt hne (by simp [hne, hea]) fun x' h' tk hx' ho hit' hT hsz hk => ?_
    have ex : x' = u := by
      rw [show its.toArray[i]? = some u by simpa using hu] at hx'
      exact (Option.some.inj hx').symm
    subst ex
    refine ⟨_, rfl, wpAny_letOwnedTupleGo_enum (s := { s with heap := h', toks := tk + 1 }) ho fun h'' he' sb => ?_⟩
    have hT2 : h''.get? s.heap.objs.size = some { cls := .type "tuple", data := .seq #[.int i tk, x'] } := (sb.2 _ (Nat.ne_of_gt hel)).trans hT
    have new : ObjOk X.prog X.w (upd H s.heap.objs.size (.tup [.int (i : Nat), x])) h'' s.heap.objs.size (.tup [.int (i : Nat), x]) :=
      ⟨by show 2 ≤ sizeLine; decide, [.int i tk, x'], .cons ⟨_, rfl⟩ (.cons ru .nil), ⟨_, hT2, rfl, _, rfl⟩⟩
    have I1 : Inv X pins σ (upd H s.heap.objs.size (.tup [.int (i : Nat), x])) { s with heap := h'', toks := tk + 1 } :=
      I.turnedNew (ch := [e, it]) (fun b ob hb q => (sb.2 b (fun z => hb (by simp [z]))).trans (hk b ob (fun z => hb (by simp [z])) (fun z => hb (by simp [z])) q)) hf (Nat.le_refl _) new
    refine ⟨.ref s.heap.objs.size, _, I1, rfl, ⟨_, x, rfl, I.hok.fresh (Nat.le_refl _), rfl, fun ys hy => by rw [tup_inj I hy hq]; exact hx⟩, ⟨⟨x', ?_⟩, hit'.1.at fun o q => (sb.2 it (Ne.symm hne)).trans q, hne⟩, fun b hb => ?_⟩
    · have e1 : ((i + 1 : Nat) : Int) = (i : Int) + 1 := by omega
      rw [e1]; exact he'
    · have hb' : b < s.heap.objs.size := by
        have e' : b = e ∨ b = it := by simpa using hb
        rcases e' with z | z
        · rw [z]; exact hel
        · rw [z]; exact hil
      rw [upd_ne (Nat.ne_of_lt hb')]
      exact (hf b hb).1
  done := by
    intro X hP hw hK hc i pins s σ H E I hf st hg
    subst hP hw hK
    obtain ⟨⟨old, he⟩, hit, hne⟩ := st
    obtain ⟨xs, hq, hx⟩ := hg
    obtain ⟨its, rv, p, hz⟩ := I.tuple hq
    obtain ⟨f0, f1, f2, f3, f4, f5⟩ := hf it (by simp)
    have hl : its.toArray.size = i := by
      have := rv.length
      simp only [List.size_toArray]
      omega
    exact wpAny_pyNext_enum_endD (Draws.tuple (A := X.A.in1) (I.ok.hd hc) it a hai its.toArray) he (by rw [hl]; exact ⟨hit, p⟩) fun h' eb => ⟨rfl, I.turned (t' := s.toks) (fun b o hb q => eb b o hb q) f0 f1 f3 f4 f5⟩
  self := fun A i s Q E st h => let ⟨⟨_, he⟩, _⟩ := st; wpAny_pyIter_enum he h
def iEnumT (K : PySem.W.Frag) (ta : TA) : TI := fun σ H R => ta σ H fun vs H1 => ∃ a xs, vs = [.ref a] ∧ SqT K H1 a xs ∧ R (IteT K a) H1
theorem piET {X : Cx} {K : PySem.W.Frag} {e : Expr} {ta : TA} {p pos tpos : Pos} {elts : List Expr} {kk : Nat} (hK : X.K = K) (hg : Gl X "enumerate") (hm : X.mg "enumerate" = none) (ha : PA X [e] ta) (hs : starEach [e] X.env = [(false, eval e X.env)] := by rfl) :
    PI X (.Tuple elts kk tpos) (.Call (.Name "enumerate" p) [e] [] pos) (iEnumT K ta) := by
  subst hK
  refine ⟨fun pins s σ H R I h => ?_⟩
  refine Call_ (ld_blt I hg hm boot_enumerate (PyProof.Rows.callWith_type1 (thn (ha.run pos pins s σ H _ I h) fun us s1 ⟨vs, H1, I1, r1, q1⟩ => ?_) hs rfl))
  obtain ⟨a, xs, ex, hq, q⟩ := q1
  subst ex
  cases r1 with
  | cons r rr =>
    cases rr
    cases r
    obtain ⟨its, rv, p', hz⟩ := I1.tuple hq
    have hal : a < s1.heap.objs.size := by
      obtain ⟨o, e, _⟩ := p'
      exact Heap.lt_size e
    refine call_enumT p' fun h' he hit hsz hk => wpAny_pyIter_enum he ?_
    have I2 : Inv X pins σ H1 { s1 with heap := h' } := I1.kept (t' := s1.toks) hk
    refine ⟨s1.heap.objs.size + 1, [s1.heap.objs.size + 1, s1.heap.objs.size], _, _, H1, rfl, I2, turn_enumT a (s1.heap.objs.size + 1) s1.heap.objs.size (Nat.ne_of_lt hal) (Nat.ne_of_gt (Nat.lt_succ_of_lt hal)), ⟨⟨.none, he⟩, hit, Nat.succ_ne_self _⟩, fun b hb => ?_, q⟩
    have e' : b = s1.heap.objs.size + 1 ∨ b = s1.heap.objs.size := by simpa using hb
    have hle : s1.heap.objs.size ≤ b := by
      rcases e' with z | z
      · rw [z]; exact Nat.le_add_right _ _
      · rw [z]; exact Nat.le_refl _
    exact I1.fpOk hle (I1.hok.fresh hle)
theorem walk_enumT {K : PySem.W.Frag} {a : Addr} {xs : List V} : Walk (IteT K a) xs.length (fun H => SqT K H a xs) (fun i H v H' => ∃ T x, v = .ref T ∧ H T = none ∧ H' = upd H T (.tup [.int (i : Nat), x]) ∧ xs[i]? = some x) := by
  refine ⟨fun i _ hi q => ⟨xs, xs[i], q, by simp [hi]⟩, fun _ q => ⟨xs, q, rfl⟩, fun i H v H' _ q y => ?_⟩
  obtain ⟨T, x, h1, h2, h3, h4⟩ := y
  exact ⟨T, x, h1, h2, h3, h4 xs q⟩
end Zn
namespace Fr
open PySem PySem.Spec PyProof.Rows L2
/-! ### len(set(t)) of a tuple of ints -/
theorem len_sub {α : Type} [DecidableEq α] : ∀ {l m : List α}, l.Nodup → (∀ x ∈ l, x ∈ m) → l.length ≤ m.length
  | [], _, _, _ => Nat.zero_le _
  | a :: l, m, hn, hs => by
    have ha := hs a List.mem_cons_self
    have hn' := List.nodup_cons.mp hn
    have := len_sub (m := m.erase a) hn'.2 fun x hx => (List.mem_erase_of_ne (fun e : x = a => hn'.1 (by rw [← e]; exact hx))).mpr (hs x (List.mem_cons_of_mem _ hx))
    rw [List.length_erase_of_mem ha] at this
    have h0 : 0 < m.length := List.length_pos_of_mem ha
    simp only [List.length_cons]
    omega
theorem dup_at {α : Type} [DecidableEq α] : ∀ {l : List α}, ¬ l.Nodup → ∃ a, a ∈ l.erase a ∧ a ∈ l
  | [], h => absurd List.nodup_nil h
  | b :: l, h => by
    by_cases hb : b ∈ l
    · exact ⟨b, by simp [hb], List.mem_cons_self⟩
    · have hl : ¬ l.Nodup := fun z => h (List.nodup_cons.mpr ⟨hb, z⟩)
      obtain ⟨a, h1, h2⟩ := dup_at hl
      refine ⟨a, ?_, List.mem_cons_of_mem _ h2⟩
      have hne : b ≠ a := fun e => hb (e ▸ h2)
      rw [List.erase_cons_tail (by simpa using hne)]
      exact List.mem_cons_of_mem _ h1
theorem nodup_of_len {α : Type} [DecidableEq α] {out ns : List α} (hn : out.Nodup) (hs : ∀ x ∈ out, x ∈ ns) (hl : ns.length ≤ out.length) : ns.Nodup := by
  by_cases z : ns.Nodup
  · exact z
  · obtain ⟨a, h1, h2⟩ := dup_at z
    have := len_sub (m := ns.erase a) hn fun x hx => by
      by_cases e : x = a
      · rw [e]
        exact h1
      · exact (List.mem_erase_of_ne e).mpr (hs x hx)
    rw [List.length_erase_of_mem h2] at this
    have := List.length_pos_of_mem h2
    omega
def tLenSetT (K : PySem.W.Frag) (ta : TE) : TE := fun σ H Q => ta σ H fun x H1 => ∃ (l : Addr) (ns : List Int), x = .ref l ∧ SqT K H1 l (ns.map V.int) ∧ ns.length ≤ 1000 ∧ ∀ c : Nat, (ns.Nodup → c = ns.length) → (¬ ns.Nodup → c ≠ ns.length) → Q (.int (c : Nat)) H1
theorem pe_lenSetT {X : Cx} {K : PySem.W.Frag} {a : Expr} {ta : TE} {p p2 q pos : Pos} (hK : X.K = K) (hg : Gl X "len") (hm : X.mg "len" = none) (hg2 : Gl X "set") (hm2 : X.mg "set" = none) (ha : PE X a ta) (hc : X.calm = true := by rfl)
    (na : starEach [a] X.env = (false, eval a X.env) :: starEach [] X.env := by rfl) : PE X (.Call (.Name "len" p) [.Call (.Name "set" p2) [a] [] q] [] pos) (tLenSetT K ta) := by
  subst hK
  refine ⟨fun pins s σ H Q I h => ?_⟩
  refine Call_ (ld_blt I hg hm boot_len ?_)
  refine PyProof.Rows.callWith_builtin1 (PyProof.Rows.args_cons ?_ rfl) rfl rfl
  refine Call_ (ld_blt I hg2 hm2 boot_set ?_)
  refine PyProof.Rows.callWith_type1 (PyProof.Rows.args_cons (thn (ha.run pins s σ H _ I h) fun v s1 ⟨x, H1, I1, r1, q1⟩ => PyProof.Rows.args_nil ?_) na) na rfl
  obtain ⟨l, ns, rfl, hq, hl, q1⟩ := q1
  cases r1
  obtain ⟨its, rv, pt, hz⟩ := I1.tuple hq
  have hi : IntsAre its.toArray.toList ns := ints_of_vals rv
  refine call_set_tupI ns (I1.ok.hd hc) (show s1.heap.IsTuple l its.toArray from pt) hi (by unfold scanBound; omega) fun h' tk c R1 hcn k => ?_
  refine PyProof.Rows.args_nil ?_
  obtain ⟨o, es, ep, t, ho, hex, hdt, g, nd, hm2, hb, hf, hn, hr, hl2⟩ := R1
  have I2 : Inv X pins σ H1 { s1 with heap := h', toks := tk } := I1.kept k
  have hmem : ∀ j, j ∈ es.toList.map keyOf ↔ j ∈ ns := fun j => by rw [← hm2 j, decide_eq_true_eq]
  have hlen : (es.toList.map keyOf).length = c := by rw [List.length_map, Array.length_toList, hn]
  have h1 : c ≤ ns.length := by rw [← hlen]; exact len_sub nd fun x hx => (hmem x).mp hx
  refine call_len_set ho hex hdt hf (by rw [hn]; omega) ⟨.int c, H1, I2.tok _, ⟨_, by rw [hn]⟩, q1 c (fun hnd => ?_) (fun hnd e => hnd ?_)⟩
  · have h2 := len_sub hnd fun x hx => (hmem x).mpr hx
    omega
  · exact nodup_of_len nd (fun x hx => (hmem x).mp hx) (by omega)
end Fr
namespace Fr
open PySem PySem.Spec PyProof.Rows L2
/-! ### t.index(x) of a tuple of flat things -/
def rIndexT (K : PySem.W.Frag) : V → List V → Hp → VK → Prop := fun x xs H Q => ∃ (a : Addr) (ys : List V) (y : V) (j : Nat) (z : V), x = V.ref a ∧ xs = [y] ∧ SqT K H a ys ∧ flatV y = true ∧ ys.all flatV = true ∧ ys[j]? = some z ∧ eqV z y = true ∧
  (∀ (m : Nat) (z' : V), m < j → ys[m]? = some z' → eqV z' y = false) ∧ Q (.int (j : Nat)) H
theorem mt_tidx {X : Cx} {K : PySem.W.Frag} (hK : X.K = K) : MtR X "tuple.index" (rIndexT K) := by
  subst hK
  intro pins s σ H x xs v us Q I rx rxs h
  obtain ⟨a, ys, y, j, z, rfl, rfl, hs, fy, fys, hz, hzj, hno, q⟩ := h
  cases rx
  cases rxs with
  | cons ry rt =>
    rename_i uy ut
    cases rt
    obtain ⟨its, rv, ⟨⟨cls, dd, data, sl⟩, ho, hc, n, hd⟩, hlen⟩ := I.tuple hs
    simp only at hc hd
    subst hc hd
    obtain ⟨u, hu, ru⟩ := rv.get hz
    obtain ⟨hjl, hje⟩ := List.getElem?_eq_some_iff.mp hu
    have hvl := rv.length
    have hj : j < its.toArray.size := by simpa using hjl
    refine call_meets PySem.F.slot_tuple_index ⟨_, ho, rfl⟩ PySem.F.entry_tuple_index (PySem.F.args_tuple_index_2 _ _)
      (TI.tuple_indexAt a its.toArray n dd sl uy (eqU y) j hj ?_ ?_) ⟨ho, fun u' hu' => mem_eqAt ry fy rv fys u' (by simpa using hu'), ?_⟩
    · have e1 : its.toArray[j] = u := by simpa using hje
      rw [e1, eqU_of ru (flat_at fys hz)]
      exact hzj
    · intro m hm hmj
      have hml : m < its.length := by simpa using hm
      have hmy : m < ys.length := by omega
      have hy' : ys[m]? = some ys[m] := List.getElem?_eq_getElem hmy
      obtain ⟨u2, hu2, ru2⟩ := rv.get hy'
      obtain ⟨_, hme⟩ := List.getElem?_eq_some_iff.mp hu2
      have e1 : its.toArray[m] = u2 := by simpa using hme
      rw [e1, eqU_of ru2 (flat_at fys hy')]
      exact hno m _ hmj hy'
    · exact ⟨.int (j : Nat), H, I.tok _, ⟨_, rfl⟩, q⟩
theorem mt_lidx {X : Cx} {K : PySem.W.Frag} (hK : X.K = K) : MtR X "list.index" (rIndex K) := by
  subst hK
  exact mt_index
end Fr
/-! An exception that leaves a comprehension from its element (a call there raises). The block's own context may wish
for exceptions (bxe); what comes out of it is noted by the frame and handed on by the comprehension (bxe_noted);
pe_lcX is the rule. It stands beside the library's rule for comprehensions that raise nothing, over the same reading. -/
namespace L2
open PySem PySem.Spec PyProof.Rows
/-- raised by a call in the block -/
def bxe (X : Cx) (s : Shared) (H : Hp) (scope : Scope) (ce : Env) (fp : List Addr) (Ex : XK) : Value → Shared → Prop :=
  fun u s' => ∃ (pins : List (Addr × Obj)) (σ : St) (HB : Hp) (sB : Shared), Inv (X.blk s H scope ce fp) pins σ HB sB ∧ L2N.CX X.prog X.w X.stack HB sB Ex u s'
theorem bxe_passes {X : Cx} {s : Shared} {H : Hp} {scope : Scope} {ce : Env} {fp : List Addr} {Ex : XK} : Passes (L2N.CX X.prog X.w) ((X.blk s H scope ce fp).wish (bxe X s H scope ce fp Ex)) Ex :=
  fun pins σ H' s' _ _ I c => ⟨pins, σ, H', s', I.unwish, c⟩
/-! ### a ground with one place less -/
abbrev hid (B : Heap) (C : Addr) : Heap := PySem.W.hideAll B [C]
theorem hid_none {B : Heap} {C b : Addr} (h : B.get? b = none) : (hid B C).get? b = none := by
  cases q : (hid B C).get? b with
  | none => rfl
  | some z =>
    have := PySem.W.of_hideAll _ q
    rw [h] at this
    cases this
theorem hid_self {B : Heap} {C : Addr} : (hid B C).get? C = none := PySem.W.hideAll_none _ (by simp)
theorem hid_get {B : Heap} {C b : Addr} {o : Obj} (h : B.get? b = some o) (n : b ≠ C) : (hid B C).get? b = some o := PySem.W.hideAll_get _ h (by simpa using n)
theorem hid_out {B : Heap} {C b : Addr} {o : Obj} (h : (hid B C).get? b = some o) : B.get? b = some o ∧ b ≠ C := ⟨PySem.W.of_hideAll _ h, fun z => by rw [z, hid_self] at h; cases h⟩
theorem hid_frames {B h : Heap} {C : Addr} : ∀ {l : List Env}, h.FunFrames B l → h.FunFrames (hid B C) l
  | [], _ => trivial
  | _ :: _, ⟨a, ⟨L, o, b, c, d, e⟩, r⟩ => ⟨a, ⟨L, o, b, hid_none c, d, e⟩, hid_frames r⟩
theorem hid_flying {B h : Heap} {C e : Addr} {l : List Env} {Z : Obj → Prop} (f : HandSPX.FlyingZ B l e Z h) : HandSPX.FlyingZ (hid B C) l e Z h := by
  obtain ⟨p1, p2, p3, oe, fs, T, oT, ts, q1, q2, q3, q4, q5, q6⟩ := f
  exact ⟨fun b o z => p1 b o (hid_out z).1, hid_none p2, hid_frames p3, oe, fs, T, oT, ts, q1, q2, q3, q4, hid_none q5, q6⟩
section
variable {X : Cx} {pins : List (Addr × Obj)} {σ : St} {Hd : Hp} {sd : Shared} {scope : Scope} {ce : Env} {fp : List Addr}
/-- from the block back to the def that it stands in -/
theorem blk_back {pb : List (Addr × Obj)} {τ : St} {Hn : Hp} {t : Shared} (J : Inv X pins σ Hd sd) (fo : ∀ b ∈ fp, FpOk X pins Hd b ∧ b < sd.heap.objs.size) (cl : ce.locals = sd.heap.objs.size) (G : Inv (X.blk sd Hd scope ce fp) pb τ Hn t) :
    Inv X pins σ Hn t ∧ FpOk X pins Hn sd.heap.objs.size ∧ ∃ m, t.heap.Ns ce.locals m := by
  refine ⟨J.call' (ch := fp) G.os G.base G.hok G.bare fun b hb => ?_, J.fpOk (Nat.le_refl _) ?_, ?_⟩
  · obtain ⟨⟨_, c1, _, c3, c4, c5⟩, _⟩ := fo b hb
    exact ⟨c3, c1, c4, c5⟩
  · rw [← cl]
    exact G.free
  · obtain ⟨m, n, _⟩ := G.loc
    exact ⟨m, n⟩
/-- the block's names change, the def's state stays -/
theorem Inv.butC {Hn : Hp} {t : Shared} {h' : Heap} {C : Addr} (J : Inv X pins σ Hn t) (f : FpOk X pins Hn C) (k : ∀ b o, b ≠ C → t.heap.get? b = some o → h'.get? b = some o) : Inv X pins σ Hn { t with heap := h' } := by
  obtain ⟨c0, c1, c2, c3, c4, c5⟩ := f
  exact J.turned (t' := t.toks) k c0 c1 c3 c4 c5
variable {W : WX} {Ex : XK}
/-- what a raise in the block comes to: noted by the frame, the block's names let go, handed on -/
theorem bxe_noted {u : Value} {s' : Shared} (tk : L2N.Takes X W) (hW : ∀ cls d σ H, Ex cls d H → W cls d σ H) (hs : X.stack = X.env :: X.outer) (hf : X.env.frame = some X.env.locals) (cf : ce.frame = X.env.frame) (cl : ce.locals = sd.heap.objs.size)
    (J : Inv X pins σ Hd sd) (fo : ∀ b ∈ fp, FpOk X pins Hd b ∧ b < sd.heap.objs.size) (x : bxe X sd Hd scope ce fp Ex u s') : notedBy (model X.prog X.w) X.A ce (CompFails (model X.prog X.w) X.A X.xe ce) u s' := by
  obtain ⟨pb, τ, HB, sB, IB, c⟩ := x
  obtain ⟨a, B0, H0, cls0, d0, eu, ⟨_, _, _, oe0, vs0, T0, oT0, ts0, w1, w2, w3, w4, w5, w6, w7, w8, w9⟩, _⟩ := id c
  obtain ⟨a1, B, t, pb', τ', Hn, cls, d, rfl, G, nb, up, sky, na, os, ag, hE⟩ := L2N.XE.of_call (W := fun cls d _ H => Ex cls d H) IB (fun _ _ _ z => z) c
  cases eu
  have fly : HandSPX.FlyingZ B X.stack a (L2N.Zn cls d) s'.heap := by
    rcases sky with ⟨_, _, _, oe, vs, z1, _, z3, z4⟩ | z | ⟨_, _, _, oe, vs, T, oT, ts, z1, _, z3, z4, _, _, z7, z8, z9⟩
    · rw [w1] at z1
      cases z1
      rw [w3] at z3
      cases z3
      rw [w4] at z4
      cases z4
    · exact z
    · rw [w1] at z1
      cases z1
      rw [w3] at z3
      cases z3
      rw [w4] at z4
      cases z4
      rw [w7] at z7
      cases z7
      rw [w8] at z8
      cases z8
      rw [w9] at z9
      exact absurd z9 (by simp [rawInt])
  obtain ⟨JG, fC, m, nG⟩ := blk_back J fo cl G
  have nS : s'.heap.Ns ce.locals m := nG.upToSlots up
  have J2 := JG.butC (h' := hid t.heap sd.heap.objs.size) fC fun b o n e => hid_get e n
  have fl2 := hid_flying (C := sd.heap.objs.size) fly
  rw [hs] at fl2
  show wpAny _ _ (noteFrame (.ref a) ce) _ _ s'
  rw [noteFrame_env _ cf]
  refine PXN.looks_onZ L2N.Zn.steady (by rw [J.ok.frames, hs]) hf fl2 fun g held up1 => ?_
  have n1 : g.Ns ce.locals m := nS.upToSlots up1
  refine ⟨m, n1, fun g2 m2 n2 same => ?_⟩
  rw [cl] at n1 n2 same
  obtain ⟨b1, b0, f1, oe, fs, T, oT, ts, q1, q2, q3, q4, q5, q6, q7, q8, q9⟩ := held
  obtain ⟨oC, esC, epC, c1, c2, _⟩ := n1
  have apart : ∀ (b : Addr) (o : Obj) (fs : Array Value), g.get? b = some o → o.data = .fields fs → b ≠ sd.heap.objs.size := fun b o fs e e' z => by
    rw [z, c1] at e
    cases e
    rw [c2] at e'
    cases e'
  have q1' := (same.2 a (apart _ _ _ q1 q3)).trans q1
  have q7' := (same.2 T (apart _ _ _ q7 q8)).trans q7
  unfold PySem.passOn
  refine wpAny_bind (wpAny_field q1' q3 q4 ?_)
  have notNone : ¬ (Value.ref T == Value.none) = true := by simp
  rw [if_neg notNone, cf, hf]
  refine wpAny_bind (HandSPX.setFlight_anyZ (base := hid B sd.heap.objs.size) (l := X.env :: X.outer) (Z := L2N.Zn cls d) (fr := some X.env.locals) (fun b o z => (same.2 b (hid_out z).2).trans (b1 b o z)) (Heap.FunFrames.sameBut same n2 f1) ⟨oe, fs, T, oT, ts, q1', q2, q3, q4, q5, q6, q7', q8, q9⟩ fun g3 r1 r2 r3 up3 => wpAny_throw ?_)
  rw [← hs] at r2
  refine tk _ _ ⟨a, hid B sd.heap.objs.size, _, pins, σ, Hn, cls, d, rfl, J2, fun b o e n => ?_, fun b o e nf => ?_, .inr (.inr ⟨r1, b0, r2, r3⟩), na, os, ag, hW _ _ _ _ hE⟩
  · obtain ⟨e1, e2⟩ := hid_out e
    exact hid_get (nb b o e1 n) e2
  · obtain ⟨e1, e2⟩ := hid_out e
    obtain ⟨sl1, e3⟩ := up b o e1 nf
    obtain ⟨sl2, e4⟩ := up1 b _ e3 nf
    obtain ⟨sl3, e5⟩ := up3 b _ ((same.2 b e2).trans e4) nf
    exact ⟨sl3, e5⟩
/-- the turns of the loop -/
theorem lcx_turns {elt tg iter : Expr} {ifs : List Expr} {own : List (Str × Nat)} {pos : Pos} {g : TG} {tt : TT} {te : TE} {Q : VK} {it D : Addr} {tn : Nat → Heap → Prop} {It : It} {V : Nat → Nat → Hp → Prop} {sb : Shared} {m0 : Nat}
    (tk : L2N.Takes X W) (hW : ∀ cls d σ H, Ex cls d H → W cls d σ H) (hs : X.stack = X.env :: X.outer) (hf : X.env.frame = some X.env.locals) (cf : ce.frame = X.env.frame) (cl : ce.locals = sd.heap.objs.size) (hc : X.calm = true)
    (J : Inv X pins σ Hd sd) (fo : ∀ b ∈ fp, FpOk X pins Hd b ∧ b < sd.heap.objs.size) (Tn : Turn X.prog X.w X.K tg It fp it tn)
    (pg : PG (X.blk sd Hd scope ce fp) tg g) (pt : PTs (X.blk sd Hd scope ce fp) ifs tt) (pe : PE ((X.blk sd Hd scope ce fp).wish (bxe X sd Hd scope ce fp Ex)) elt te)
    (I0 : Inv (X.blk sd Hd scope ce fp) [] (wipe σ (own.map (·.2))) Hd sb) (t0 : tn 0 sb.heap) (v0 : V 0 m0 Hd)
    (turn : ∀ i m H, V i m H → (It.stop i H ∧ Q (.ref D) H) ∨ (It.go i H ∧ ∃ Nx : Hp → Prop, (∀ H', Nx H' → ∃ m', m' < m ∧ V (i + 1) m' H') ∧ ∀ x H', It.yld i H x H' → g x (wipe σ (own.map (·.2))) H' fun σ2 H2 => wipe σ2 (own.map (·.2)) = wipe σ (own.map (·.2)) ∧ tt σ2 H2 fun b H3 =>
      if b = true then te σ2 H3 fun y H4 => ∃ acc, H4 D = some (.lst acc) ∧ acc.length < sizeLine ∧ Nx (upd H4 D (.lst (acc ++ [y]))) else Nx H3)) :
    codeAny (model X.prog X.w) X.A (.compLoop (.ListComp elt [⟨tg, iter, ifs, 0⟩] scope pos) 0 (.ref it) (.ref D) ce) (compEnds (model X.prog X.w) X.A X.xe none (EP X pins σ Q) (.ref D) ce) sb := by
  have ff : ∀ {τ : St} {H : Hp} {t : Shared}, Inv (X.blk sd Hd scope ce fp) [] τ H t → (∀ b ∈ fp, H b = none) → ∀ b ∈ fp, FpOk (X.blk sd Hd scope ce fp) [] H b := fun {τ H t} G n b hb => by
    obtain ⟨x1, x2⟩ := G.ok.exf b hb
    exact ⟨n b hb, x1, G.ok.exfs b hb, .inl hb, x2, fun p hp => (nomatch (show p ∈ ([] : List (Addr × Obj)) from hp))⟩
  refine compLoop_any (fun k t => ∃ i H, Inv (X.blk sd Hd scope ce fp) [] (wipe σ (own.map (·.2))) H t ∧ tn i t.heap ∧ (∀ b ∈ fp, H b = none) ∧ V i k H) (fun k t ⟨i, H, G, tG, nG, v⟩ => ?_) m0 ⟨0, Hd, I0, t0, fun b hb => (fo b hb).1.1, v0⟩
  rcases turn i k H v with ⟨stop, q⟩ | ⟨go, Nx, next, step⟩
  · refine thnF (Tn.done (X.blk sd Hd scope ce fp) rfl rfl rfl hc i [] t _ H (fun _ _ => False) G (ff G nG) tG stop) fun r t1 ⟨er, G1⟩ => ?_
    subst er
    obtain ⟨J1, fC, m, nC⟩ := blk_back J fo cl G1
    exact ⟨m, nC, fun h' same => ⟨.ref D, H, J1.butC fC fun b o n e => (same.2 b (by rw [cl]; exact n)).trans e, rfl, q⟩⟩
  · refine thnF (Tn.item (X.blk sd Hd scope ce fp) rfl rfl rfl hc i [] t _ H (fun _ _ => False) G (ff G nG) tG go) fun r t1 ⟨u, er, h1⟩ => ?_
    subst er
    refine thnF h1 fun _ t2 ⟨x, H2, G2, r2, y2, tn2, n2⟩ => ?_
    refine thnF (pg.run _ t2 _ H2 x u _ (G2.pinned (ff G2 n2) (Tn.obj _ _ tn2)) r2 (step x H2 y2)) fun _ t3 ⟨σ3, H3, G3, e3, q3⟩ => ?_
    refine thnF (pt.run _ t3 σ3 H3 _ G3 q3) fun b t4 ⟨H4, G4, q4⟩ => ?_
    have on : ∀ {t' : Shared} {H' : Hp}, Inv (X.blk sd Hd scope ce fp) ([] ++ pinsAt fp t2.heap) σ3 H' t' → Nx H' → ∃ k', k' < k ∧ ∃ i H, Inv (X.blk sd Hd scope ce fp) [] (wipe σ (own.map (·.2))) H t' ∧ tn i t'.heap ∧ (∀ b ∈ fp, H b = none) ∧ V i k' H := fun {t' H'} G' nx => by
      obtain ⟨k', lt, v'⟩ := next H' nx
      have kept : ∀ b ∈ fp, ∀ o, t2.heap.get? b = some o → t'.heap.get? b = some o ∧ H' b = none := fun b hb o e => by
        obtain ⟨p1, p2, _⟩ := G'.pin (b, o) (List.mem_append_right _ (List.mem_append_right _ (mem_pinsAt hb e)))
        exact ⟨p1, p2⟩
      have weaker := G'.unpinned (pins := []) |>.weak (σ' := wipe σ (own.map (·.2))) (by rw [← e3, wipe_length]) fun j v z => (wipe_some (by rw [e3]; exact z)).1
      refine ⟨k', lt, i + 1, H', weaker, Tn.keep _ _ _ tn2 fun b hb o e => (kept b hb o e).1, fun b hb => ?_, v'⟩
      obtain ⟨o, e, _⟩ := Tn.obj _ _ tn2 b hb
      exact (kept b hb o e).2
    cases b with
    | false => exact on G4 q4
    | true =>
      refine wpAny_mono (pe.run _ t4 σ3 H4 _ (G4.wish _) q4) (fun z t5 ⟨y, H5, G5, r5, acc, d5, l5, nx⟩ => ?_) fun u' t' hx => bxe_noted tk hW hs hf cf cl J fo hx
      exact app_ok (X := X.blk sd Hd scope ce fp) G5.unwish d5 l5 r5 fun t6 G6 => on G6 nx
/-- the block begins -/
theorem lcx_start {elt tg iter : Expr} {ifs : List Expr} {own : List (Str × Nat)} {pos : Pos} {g : TG} {tt : TT} {te : TE} {Q : VK} {it D : Addr} {tn : Nat → Heap → Prop} {It : It} {V : Nat → Nat → Hp → Prop} {m0 : Nat} {cells : List (Str × Addr)}
    (tk : L2N.Takes X W) (hW : ∀ cls d σ H, Ex cls d H → W cls d σ H) (hs : X.stack = X.env :: X.outer) (hf : X.env.frame = some X.env.locals) (hc : X.calm = true) (hN : X.N.Nodup) (ok : BlkOk X.N X.env.scope scope own)
    (J : Inv X pins σ Hd sd) (fo : ∀ b ∈ fp, FpOk X pins Hd b ∧ b < sd.heap.objs.size) (Tn : Turn X.prog X.w X.K tg It fp it tn) (t0 : tn 0 sd.heap)
    (ec : cells = cellsFrom (sd.heap.objs.size + 1) scope.names (cloFrom X.env.cells scope.names []))
    (pg : PG (X.blk sd Hd scope (compEnvC scope cells sd.heap.objs.size X.env) fp) tg g) (pt : PTs (X.blk sd Hd scope (compEnvC scope cells sd.heap.objs.size X.env) fp) ifs tt)
    (pe : PE ((X.blk sd Hd scope (compEnvC scope cells sd.heap.objs.size X.env) fp).wish (bxe X sd Hd scope (compEnvC scope cells sd.heap.objs.size X.env) fp Ex)) elt te) (v0 : V 0 m0 Hd)
    (turn : ∀ i m H, V i m H → (It.stop i H ∧ Q (.ref D) H) ∨ (It.go i H ∧ ∃ Nx : Hp → Prop, (∀ H', Nx H' → ∃ m', m' < m ∧ V (i + 1) m' H') ∧ ∀ x H', It.yld i H x H' → g x (wipe σ (own.map (·.2))) H' fun σ2 H2 => wipe σ2 (own.map (·.2)) = wipe σ (own.map (·.2)) ∧ tt σ2 H2 fun b H3 =>
      if b = true then te σ2 H3 fun y H4 => ∃ acc, H4 D = some (.lst acc) ∧ acc.length < sizeLine ∧ Nx (upd H4 D (.lst (acc ++ [y]))) else Nx H3)) :
    codeAny (model X.prog X.w) X.A (.compStart (.ListComp elt [⟨tg, iter, ifs, 0⟩] scope pos) 0 (.ref it) (.ref D) (compEnvC scope cells sd.heap.objs.size X.env)) (compEnds (model X.prog X.w) X.A X.xe none (EP X pins σ Q) (.ref D) (compEnvC scope cells sd.heap.objs.size X.env))
      { sd with heap := pushCells (sd.heap.push { cls := .type "dict", data := .dict #[] }) scope.names } := by
  have I0 := block_start J ok hN fo
  rw [← ec] at I0
  have tb : tn 0 (pushCells (sd.heap.push { cls := .type "dict", data := .dict #[] }) scope.names) := Tn.keep _ _ _ t0 fun b _ o e => pushCells_keeps _ _ _ _ (Heap.get?_push_of_some _ e)
  have loop := lcx_turns (iter := iter) (pos := pos) (D := D) (Q := Q) tk hW hs hf (ce := compEnvC scope cells sd.heap.objs.size X.env) rfl rfl hc J fo Tn pg pt pe I0 tb v0 turn
  exact codeAny_compStart_list loop (Tn.self X.A 0 _ _ _ tb loop)
/-- [f(..) for target in iter if ..]: the element's calls may raise -/
theorem pe_lcX {elt tg iter : Expr} {ifs : List Expr} {own : List (Str × Nat)} {pos : Pos} {wi : TI} {g : TG} {tt : TT} {te : TE} (tk : L2N.Takes X W) (hW : ∀ cls d σ H, Ex cls d H → W cls d σ H)
    (hs : X.stack = X.env :: X.outer) (hf : X.env.frame = some X.env.locals) (hc : X.calm = true) (hN : X.N.Nodup) (hi : PI X tg iter wi) (ok : BlkOk X.N X.env.scope scope own)
    (hg : ∀ (s : Shared) (H : Hp) (C : Addr) (cl : List (Str × Addr)) (fp : List Addr), PG (X.blk s H scope (compEnvC scope cl C X.env) fp) tg g)
    (ht : ∀ (s : Shared) (H : Hp) (C : Addr) (cl : List (Str × Addr)) (fp : List Addr), PTs (X.blk s H scope (compEnvC scope cl C X.env) fp) ifs tt)
    (he : ∀ (s : Shared) (H : Hp) (C : Addr) (cl : List (Str × Addr)) (fp : List Addr), PE ((X.blk s H scope (compEnvC scope cl C X.env) fp).wish (bxe X s H scope (compEnvC scope cl C X.env) fp Ex)) elt te)
    (hfs : ∀ x, foldedSetIterable iter X.env x = pure x := by intro _; rfl) : PE X (.ListComp elt [⟨tg, iter, ifs, 0⟩] scope pos) (tLc wi g tt te (own.map (·.2))) := by
  refine ⟨fun pins s σ H Q I h => ?_⟩
  rw [eval_ListComp]
  refine comprehension_at (use := none) rfl hfs (closure_ok fun y hy e => (ok.free y hy e).elim (fun z => I.ok.has _ (.inl z)) fun z => I.ok.has _ (.inr z)) ok.kind (fun y hy e => by rw [ok.uniq y hy, e]) ?_
  refine thn (hi.run pins s σ H _ I h) fun xv s1 hx => thn hx fun itv s2 ⟨it, fp, tn, It, H2, e, I2, Tn, t2, f2, q⟩ => ?_
  subst e
  refine wpAny_newObj_type (newEnv_comp ?_) (by show 0 ≤ sizeLine; decide)
  have hn : H2 s2.heap.objs.size = none := I2.hok.fresh (Nat.le_refl _)
  obtain ⟨V, ⟨m0, v0⟩, turn⟩ := q s2.heap.objs.size hn
  have grow : ∀ b o, s2.heap.get? b = some o → (s2.heap.push { cls := .type "list", data := .seq ([] : List Value).toArray }).get? b = some o := fun b o e => Heap.get?_push_of_some _ e
  have J : Inv X pins σ (upd H2 s2.heap.objs.size (.lst [])) { s2 with heap := s2.heap.push { cls := .type "list", data := .seq ([] : List Value).toArray } } :=
    I2.laid (t' := s2.toks) grow (Nat.le_refl _) ⟨Nat.zero_le _, [], 0, .nil, Heap.get?_push_size _ rfl⟩
  have fo : ∀ b ∈ fp, FpOk X pins (upd H2 s2.heap.objs.size (.lst [])) b ∧ b < (s2.heap.push { cls := .type "list", data := .seq ([] : List Value).toArray }).objs.size := fun b hb => by
    obtain ⟨o, e, _⟩ := Tn.obj _ _ t2 b hb
    have lt := Heap.lt_size e
    obtain ⟨c0, c⟩ := f2 b hb
    exact ⟨⟨by rw [upd_ne (Nat.ne_of_lt lt)]; exact c0, c⟩, by rw [Heap.size_push]; exact Nat.lt_succ_of_lt lt⟩
  have tn1 : tn 0 (s2.heap.push { cls := .type "list", data := .seq ([] : List Value).toArray }) := Tn.keep _ _ _ t2 fun b _ o e => grow b o e
  exact lcx_start (scope := scope) (own := own) tk hW hs hf hc hN ok J fo Tn tn1 rfl (hg _ _ _ _ _) (ht _ _ _ _ _) (he _ _ _ _ _) v0 turn
end
end L2
namespace Fr
open PySem PySem.Spec PyProof.Rows L2
/-! ### the texts by their places -/
def topS (i : Nat) : Stmt := PySem.Challenge.pw_fractrows_k70_whole_texts.main.body.getD i (.Pass ⟨0, 0, 0, 0⟩)
abbrev s_parted : Stmt := topS 10
theorem sc_parted : FnScope ["number", "found", "prime", "many"] ["number"] (defScope s_parted) := ⟨rfl, rfl, rfl, by decide +kernel, rfl, by decide +kernel, by decide +kernel⟩
abbrev s_is_number : Stmt := topS 11
theorem sc_is_number : FnScope ["thing", "found", "left", "many"] ["thing"] (defScope s_is_number) := ⟨rfl, rfl, rfl, by decide +kernel, rfl, by decide +kernel, by decide +kernel⟩
abbrev s_common : Stmt := topS 15
theorem sc_common : FnScope ["one", "other"] ["one", "other"] (defScope s_common) := ⟨rfl, rfl, rfl, by decide +kernel, rfl, by decide +kernel, by decide +kernel⟩
abbrev s_is_fraction : Stmt := topS 16
theorem sc_is_fraction : FnScope ["thing", "one"] ["thing"] (defScope s_is_fraction) := ⟨rfl, rfl, rfl, by decide +kernel, rfl, by decide +kernel, by decide +kernel⟩
abbrev s_is_program : Stmt := topS 17
theorem sc_is_program : FnScope ["thing", "one"] ["thing"] (defScope s_is_program) := ⟨rfl, rfl, rfl, by decide +kernel, rfl, by decide +kernel, by decide +kernel⟩
abbrev s_need_program : Stmt := topS 18
theorem sc_need_program : FnScope ["program"] ["program"] (defScope s_need_program) := ⟨rfl, rfl, rfl, by decide +kernel, rfl, by decide +kernel, by decide +kernel⟩
abbrev s_need : Stmt := topS 22
theorem sc_need : FnScope ["good"] ["good"] (defScope s_need) := ⟨rfl, rfl, rfl, by decide +kernel, rfl, by decide +kernel, by decide +kernel⟩
abbrev s_program_text : Stmt := topS 23
theorem sc_program_text : FnScope ["program", "top", "under"] ["program"] (defScope s_program_text) := ⟨rfl, rfl, rfl, by decide +kernel, rfl, by decide +kernel, by decide +kernel⟩
abbrev s_written : Stmt := topS 24
theorem sc_written : FnScope ["program"] ["program"] (defScope s_written) := ⟨rfl, rfl, rfl, by decide +kernel, rfl, by decide +kernel, by decide +kernel⟩
abbrev s_number_in : Stmt := topS 25
theorem sc_number_in : FnScope ["word", "sign"] ["word"] (defScope s_number_in) := ⟨rfl, rfl, rfl, by decide +kernel, rfl, by decide +kernel, by decide +kernel⟩
abbrev s_fraction_in : Stmt := topS 26
theorem sc_fraction_in : FnScope ["word", "top", "line", "under"] ["word"] (defScope s_fraction_in) := ⟨rfl, rfl, rfl, by decide +kernel, rfl, by decide +kernel, by decide +kernel⟩
abbrev s_read : Stmt := topS 27
theorem sc_read : FnScope ["text", "found", "word"] ["text"] (defScope s_read) := ⟨rfl, rfl, rfl, by decide +kernel, rfl, by decide +kernel, by decide +kernel⟩
abbrev s__law_cell : Stmt := topS 29
theorem sc__law_cell : FnScope ["script", "k"] ["script", "k"] (defScope s__law_cell) := ⟨rfl, rfl, rfl, by decide +kernel, rfl, by decide +kernel, by decide +kernel⟩
abbrev s__law_drawn : Stmt := topS 30
theorem sc__law_drawn : FnScope ["cell", "k", "more"] ["cell", "k"] (defScope s__law_drawn) := ⟨rfl, rfl, rfl, by decide +kernel, rfl, by decide +kernel, by decide +kernel⟩
abbrev s__law_word : Stmt := topS 31
theorem sc__law_word : FnScope ["e", "flags", "flag"] ["e"] (defScope s__law_word) := ⟨rfl, rfl, rfl, by decide +kernel, rfl, by decide +kernel, by decide +kernel⟩
abbrev s__law_told : Stmt := topS 32
theorem sc__law_told : FnScope ["deed", "e"] ["deed"] (defScope s__law_told) := ⟨rfl, rfl, rfl, by decide +kernel, rfl, by decide +kernel, by decide +kernel⟩
abbrev s__law_primes : Stmt := topS 33
theorem sc__law_primes : FnScope [] [] (defScope s__law_primes) := ⟨rfl, rfl, rfl, by decide +kernel, rfl, by decide +kernel, by decide +kernel⟩
abbrev s__law_some : Stmt := topS 34
theorem sc__law_some : FnScope ["more", "primes", "most", "found", "j"] ["more", "primes", "most"] (defScope s__law_some) := ⟨rfl, rfl, rfl, by decide +kernel, rfl, by decide +kernel, by decide +kernel⟩
abbrev s__law_fraction : Stmt := topS 35
theorem sc__law_fraction : FnScope ["more", "primes", "top", "under", "prime"] ["more", "primes"] (defScope s__law_fraction) := ⟨rfl, rfl, rfl, by decide +kernel, rfl, by decide +kernel, by decide +kernel⟩
abbrev s__law_program : Stmt := topS 36
theorem sc__law_program : FnScope ["more", "primes", "found", "j", "one"] ["more", "primes"] (defScope s__law_program) := ⟨rfl, rfl, rfl, by decide +kernel, rfl, by decide +kernel, by decide +kernel⟩
abbrev s__law_text : Stmt := topS 37
theorem sc__law_text : FnScope ["program", "top", "under"] ["program"] (defScope s__law_text) := ⟨rfl, rfl, rfl, by decide +kernel, rfl, by decide +kernel, by decide +kernel⟩
abbrev s__law_is_right : Stmt := topS 38
theorem sc__law_is_right : FnScope ["text", "told"] ["text"] (defScope s__law_is_right) := ⟨rfl, rfl, rfl, by decide +kernel, rfl, by decide +kernel, by decide +kernel⟩
abbrev s_law : Stmt := topS 39
theorem sc_law : FnScope ["script", "signs", "k", "more", "program", "text", "at", "put", "none", "bad"] ["script"] (defScope s_law) := ⟨rfl, rfl, rfl, by decide +kernel, rfl, by decide +kernel, by decide +kernel⟩
/-! ### what stands behind the top -/
structure Txt (K : PySem.W.Frag) (mg : Str → Option Value) : Prop where
  b_isinstance : mg "isinstance" = none
  b_int : mg "int" = none
  b_bool : mg "bool" = none
  b_str : mg "str" = none
  b_list : mg "list" = none
  b_tuple : mg "tuple" = none
  b_len : mg "len" = none
  b_all : mg "all" = none
  b_max : mg "max" = none
  b_min : mg "min" = none
  b_sum : mg "sum" = none
  b_range : mg "range" = none
  b_ValueError : mg "ValueError" = none
  d_parted : FnP K "parted" s_parted
  m_parted : mg "parted" = some (.ref (ga K "parted"))
  d_is_number : FnP K "is_number" s_is_number
  m_is_number : mg "is_number" = some (.ref (ga K "is_number"))
  d_common : FnP K "common" s_common
  m_common : mg "common" = some (.ref (ga K "common"))
  d_is_fraction : FnP K "is_fraction" s_is_fraction
  m_is_fraction : mg "is_fraction" = some (.ref (ga K "is_fraction"))
  d_is_program : FnP K "is_program" s_is_program
  m_is_program : mg "is_program" = some (.ref (ga K "is_program"))
  d_need_program : FnP K "need_program" s_need_program
  m_need_program : mg "need_program" = some (.ref (ga K "need_program"))
  d_need : FnP K "need" s_need
  m_need : mg "need" = some (.ref (ga K "need"))
  d_program_text : FnP K "program_text" s_program_text
  m_program_text : mg "program_text" = some (.ref (ga K "program_text"))
  d_written : FnP K "written" s_written
  m_written : mg "written" = some (.ref (ga K "written"))
  d_number_in : FnP K "number_in" s_number_in
  m_number_in : mg "number_in" = some (.ref (ga K "number_in"))
  d_fraction_in : FnP K "fraction_in" s_fraction_in
  m_fraction_in : mg "fraction_in" = some (.ref (ga K "fraction_in"))
  d_read : FnP K "read" s_read
  m_read : mg "read" = some (.ref (ga K "read"))
  d__law_cell : FnP K "_law_cell" s__law_cell
  m__law_cell : mg "_law_cell" = some (.ref (ga K "_law_cell"))
  d__law_drawn : FnP K "_law_drawn" s__law_drawn
  m__law_drawn : mg "_law_drawn" = some (.ref (ga K "_law_drawn"))
  d__law_word : FnP K "_law_word" s__law_word
  m__law_word : mg "_law_word" = some (.ref (ga K "_law_word"))
  d__law_told : FnP K "_law_told" s__law_told
  m__law_told : mg "_law_told" = some (.ref (ga K "_law_told"))
  d__law_primes : FnP K "_law_primes" s__law_primes
  m__law_primes : mg "_law_primes" = some (.ref (ga K "_law_primes"))
  d__law_some : FnP K "_law_some" s__law_some
  m__law_some : mg "_law_some" = some (.ref (ga K "_law_some"))
  d__law_fraction : FnP K "_law_fraction" s__law_fraction
  m__law_fraction : mg "_law_fraction" = some (.ref (ga K "_law_fraction"))
  d__law_program : FnP K "_law_program" s__law_program
  m__law_program : mg "_law_program" = some (.ref (ga K "_law_program"))
  d__law_text : FnP K "_law_text" s__law_text
  m__law_text : mg "_law_text" = some (.ref (ga K "_law_text"))
  d__law_is_right : FnP K "_law_is_right" s__law_is_right
  m__law_is_right : mg "_law_is_right" = some (.ref (ga K "_law_is_right"))
  d_law : FnP K "law" s_law
  m_law : mg "law" = some (.ref (ga K "law"))
  m_RowError : mg "RowError" = some (.ref (ga K "RowError"))
  x_RowError : PySem.W.excIn K (ga K "RowError") He.veBase "ValueError.__new__" = true ∧ PySem.W.keepIn K (.ref (ga K "RowError")) = true ∧ PySem.W.subIn K (.ref (ga K "RowError")) (.type "BaseException") = some true ∧ PySem.W.typeIn K (.ref (ga K "RowError")) = some (.type "type")
  m_BadNumber : mg "BadNumber" = some (.ref (ga K "BadNumber"))
  x_BadNumber : PySem.W.excIn K (ga K "BadNumber") He.veBase "ValueError.__new__" = true ∧ PySem.W.keepIn K (.ref (ga K "BadNumber")) = true ∧ PySem.W.subIn K (.ref (ga K "BadNumber")) (.type "BaseException") = some true ∧ PySem.W.typeIn K (.ref (ga K "BadNumber")) = some (.type "type")
  m_BadProgram : mg "BadProgram" = some (.ref (ga K "BadProgram"))
  x_BadProgram : PySem.W.excIn K (ga K "BadProgram") He.veBase "ValueError.__new__" = true ∧ PySem.W.keepIn K (.ref (ga K "BadProgram")) = true ∧ PySem.W.subIn K (.ref (ga K "BadProgram")) (.type "BaseException") = some true ∧ PySem.W.typeIn K (.ref (ga K "BadProgram")) = some (.type "type")
  m_BadMachine : mg "BadMachine" = some (.ref (ga K "BadMachine"))
  x_BadMachine : PySem.W.excIn K (ga K "BadMachine") He.veBase "ValueError.__new__" = true ∧ PySem.W.keepIn K (.ref (ga K "BadMachine")) = true ∧ PySem.W.subIn K (.ref (ga K "BadMachine")) (.type "BaseException") = some true ∧ PySem.W.typeIn K (.ref (ga K "BadMachine")) = some (.type "type")
  m_TooGreat : mg "TooGreat" = some (.ref (ga K "TooGreat"))
  x_TooGreat : PySem.W.excIn K (ga K "TooGreat") He.veBase "ValueError.__new__" = true ∧ PySem.W.keepIn K (.ref (ga K "TooGreat")) = true ∧ PySem.W.subIn K (.ref (ga K "TooGreat")) (.type "BaseException") = some true ∧ PySem.W.typeIn K (.ref (ga K "TooGreat")) = some (.type "type")
  m_BadText : mg "BadText" = some (.ref (ga K "BadText"))
  x_BadText : PySem.W.excIn K (ga K "BadText") He.veBase "ValueError.__new__" = true ∧ PySem.W.keepIn K (.ref (ga K "BadText")) = true ∧ PySem.W.subIn K (.ref (ga K "BadText")) (.type "BaseException") = some true ∧ PySem.W.typeIn K (.ref (ga K "BadText")) = some (.type "type")
  m_PRIMES : mg "PRIMES" = some (.ref (ga K "PRIMES"))
  t_PRIMES : ∀ H : Hp, SqT K H (ga K "PRIMES") [.int 2, .int 3, .int 5, .int 7, .int 11, .int 13, .int 17, .int 19, .int 23, .int 29, .int 31, .int 37]
  c_MOST_ROOM : ∃ t, mg "MOST_ROOM" = some (.int 400 t)
  c_MOST_FRACTIONS : ∃ t, mg "MOST_FRACTIONS" = some (.int 16 t)
  c_MOST_PART : ∃ t, mg "MOST_PART" = some (.int 1000000 t)
  c_FIGURES : ∃ t, mg "FIGURES" = some (.str "0123456789" t)
  c_MOST_FIGURES : ∃ t, mg "MOST_FIGURES" = some (.int 7 t)
  w_exc : excB K ["BadMachine", "BadNumber", "BadProgram", "BadText", "TooGreat"] = true
  w_tab : tabsD K ["_law_is_right", "law"] = true
end Fr
namespace Fr
open PySem PySem.Spec PyProof.Rows L2
section
variable {P : Program} {w : World} {K : PySem.W.Frag} {mg : Str → Option Value} {base : Heap}
theorem Cal.mk0 {x : Str} {st : Stmt} {N ps : List Str} {k : Nat} {sp : Sp} (D : FnP K x st) (m : mg x = some (.ref (ga K x))) (S : FnScope N ps (defScope st))
    (hb : ∀ (kV doc pm : Value) (an : Option Addr) (cdv ct : Value) (us : List Value), us.length = ps.length → bindArgs (PySem.W.fnOf x x (defArgs st) (defBody st) (defScope st) .none kV doc pm an cdv ct) ⟨us, []⟩ = pure (ps.zip us))
    (len : ∀ vs H Q E, sp vs H Q E → vs.length = ps.length)
    (hbody : ∀ (cdv : Value) (A : Around) (outer : List Env) (s : Shared) (H : Hp) (vs : List V) (Q : VK) (E : XK), Room k (A.deeper (envOfC x (defScope st) s.heap.objs.size (ga K x) cdv)) → sp vs H Q E →
      ∃ t, PSs (cxOf L2.CX0 P w K mg base N x (defScope st) (ga K x) cdv A outer s H E).nox (defBody st) t ∧ t { nx := fun _ H' => Q .non H', rt := Q } (start N vs) H) : Cal P w K mg base L2.CX0 (k + 1) x ps sp := by
  refine ⟨D.ok S len fun cdv A outer s H vs Q E hr h => ?_, m, D.kp, D.bindsN hb⟩
  obtain ⟨t, h1, h2⟩ := hbody cdv A outer s H vs Q E hr h
  exact ⟨t, h1.nox, h2⟩
theorem Cal.mkX {x : Str} {st : Stmt} {N ps : List Str} {k : Nat} {sp : Sp} (D : FnP K x st) (m : mg x = some (.ref (ga K x))) (S : FnScope N ps (defScope st))
    (hb : ∀ (kV doc pm : Value) (an : Option Addr) (cdv ct : Value) (us : List Value), us.length = ps.length → bindArgs (PySem.W.fnOf x x (defArgs st) (defBody st) (defScope st) .none kV doc pm an cdv ct) ⟨us, []⟩ = pure (ps.zip us))
    (len : ∀ vs H Q E, sp vs H Q E → vs.length = ps.length)
    (hbody : ∀ (cdv : Value) (A : Around) (outer : List Env) (s : Shared) (H : Hp) (vs : List V) (Q : VK) (E : XK), Room k (A.deeper (envOfC x (defScope st) s.heap.objs.size (ga K x) cdv)) → sp vs H Q E →
      ∃ t, PSs (cxOf (L2N.CX P w) P w K mg base N x (defScope st) (ga K x) cdv A outer s H E) (defBody st) t ∧ t { nx := fun _ H' => Q .non H', rt := Q } (start N vs) H) : Cal P w K mg base (L2N.CX P w) (k + 1) x ps sp :=
  ⟨D.ok S len hbody, m, D.kp, D.bindsN hb⟩

/-! ### parted -/
def spParted : Sp := fun vs H Q _ => ∃ n : Nat, vs = [nI n] ∧ 0 < n ∧ ∀ p t H', Same H H' → H' t = some (.tup ((rooms n).map nI)) → H' p = some (.tup [.ref t, nI (left n)]) → Q (.ref p) H'
theorem ok_parted (T : Txt K mg) : Cal P w K mg base L2.CX0 1 "parted" ["number"] spParted := by
  refine Cal.mk0 T.d_parted T.m_parted sc_parted (fun _ _ _ _ _ _ us hl => match us, hl with | [_], _ => rfl) (fun vs H Q E h => ?_) (fun cdv A outer s H vs Q E hr h => ?_)
  · obtain ⟨n, rfl, _⟩ := h
    rfl
  obtain ⟨n, rfl, hn, q⟩ := h
  refine ⟨_, (pss_cons (ps_set (i := 1) sc_parted.nd rfl (.inl rfl) (pe_lst pa_nil))
      (pss_cons (ps_for PassesOwn.never rfl (piT rfl (pe_glob (v := .ref (ga K "PRIMES")) (by rfl) T.m_PRIMES rfl)) (pg_name (i := 2) sc_parted.nd rfl (.inl rfl)) (pss_cons (ps_set (i := 3) sc_parted.nd rfl (.inl rfl) pe_int)
      (pss_cons (ps_while PassesOwn.never (pt_cmpR opN_eq (pe_op opN_mod (pv 0) (pv 2)) pe_int (nomark _)) (pss_cons (ps_set (i := 0) sc_parted.nd rfl (.inl rfl) (pe_op opN_div (pv 0) (pv 2)))
      (pss_one (ps_set (i := 3) sc_parted.nd rfl (.inl rfl) (pe_op opN_add (pv 3) pe_int)))))
      (pss_one (ps_expr (bm rfl PySem.F.plainAttrs_list PySem.F.slot_list_append PySem.F.type_list_append mt_append (pv 1) (pa_cons (pv 3) pa_nil)))))))
      (pss_one (ps_ret (pe_tup (pa_cons (pe_callTy (tupleOf rfl) (by rfl) T.b_tuple boot_tuple (pa_cons (pv 1) pa_nil)) (pa_cons (pv 0) pa_nil))))))), ?_⟩
  refine ⟨Nat.zero_le _, fun o no => ?_⟩
  have hP : SqT K (upd H o (.lst [])) (ga K "PRIMES") (primes.map nI) := T.t_PRIMES _
  refine ⟨_, rfl, ⟨_, hP⟩, for_tup (xs := primes.map nI) (fun i σ H3 => ∃ y2 y3, σ = [some (nI (partL (primes.take i) n).2), some (.ref o), y2, y3] ∧ Same H H3 ∧ H3 o = some (.lst ((partL (primes.take i) n).1.map nI))) ?_ ?_ ?_ ?_⟩
  · exact ⟨none, none, rfl, same_new no, upd_same⟩
  · rintro i σ H3 _ _
    exact T.t_PRIMES _
  · rintro i x σ H3 hx ⟨y2, y3, rfl, sm, ho⟩
    rw [List.getElem?_map] at hx
    obtain ⟨p, hp, rfl⟩ := Option.map_eq_some_iff.mp hx
    have hp2 : 2 ≤ p := primes_two p (List.mem_of_getElem? hp)
    have hps : p < 64 := primes_small p (List.mem_of_getElem? hp)
    have hm : 0 < (partL (primes.take i) n).2 := partL_pos _ (fun r hr => primes_two r (List.mem_of_mem_take hr)) n hn
    rw [take_at hp, partL_snoc]
    generalize hA : partL (primes.take i) n = A at *
    refine ⟨fun m σ H4 => ∃ x k : Nat, σ = [some (nI x), some (.ref o), some (nI p), some (nI k)] ∧ H4 = H3 ∧ 0 < x ∧ x = m ∧ (strip p A.2).1 = k + (strip p x).1 ∧ (strip p A.2).2 = (strip p x).2, ⟨_, A.2, 0, rfl, rfl, hm, rfl, by omega, rfl⟩, ?_⟩
    rintro m σ H4 ⟨x, k, rfl, rfl, hx0, rfl, e1, e2⟩
    refine ⟨_, rfl, _, rfl, x, p, rfl, rfl, by omega, _, 0, rfl, rfl, _, rfl, ite2 (fun hd => ?_) (fun hd => ?_)⟩
    · have hd := of_decide_eq_true hd
      obtain ⟨f1, f2, f3⟩ := strip_yes hd hp2 hx0
      refine ⟨fun σ' H' => ∃ x' k' : Nat, x' < x ∧ σ' = [some (nI x'), some (.ref o), some (nI p), some (nI k')] ∧ H' = H4 ∧ 0 < x' ∧ (strip p A.2).1 = k' + (strip p x').1 ∧ (strip p A.2).2 = (strip p x').2, ?_, ?_⟩
      · rintro σ' H' ⟨x', k', h1, h2, h3, h4, h5, h6⟩
        exact ⟨x', h1, x', k', h2, h3, h4, rfl, h5, h6⟩
      · refine ⟨_, rfl, _, rfl, x, p, rfl, rfl, ⟨by omega, ?_⟩, _, rfl, k, 1, rfl, rfl, x / p, k + 1, f3, rfl, rfl, f2, ?_, ?_⟩
        · exact Nat.lt_of_lt_of_le (PySem.Flt.log2_lt_of (by decide) (show p < 2 ^ 6 by omega)) (by decide)
        · rw [e1, f1]; show k + ((strip p (x / p)).1 + 1) = _; omega
        · rw [e2, f1]
    · have hd : ¬ x % p = 0 := fun z => hd (decide_eq_true z)
      rw [strip_no hd hp2] at e1 e2
      refine ⟨_, rfl, .inl ⟨rfl, _, SqL.of ho⟩, _, rfl, o, _, _, rfl, rfl, ho, ?_, ?_⟩
      · rw [List.length_map, ← hA, partL_len]
        exact Nat.lt_of_le_of_lt (List.length_take_le' _ _) (by decide)
      · refine ⟨some (nI p), some (nI k), ?_, same_put sm no, ?_⟩
        · rw [e2]
        · rw [upd_same, e1, List.map_append]
          rfl
  · rintro σ H3 ⟨y2, y3, rfl, sm, ho⟩
    have ep : primes.take (primes.map nI).length = primes := rfl
    rw [ep] at ho ⊢
    refine ⟨_, rfl, o, _, rfl, .inl ⟨SqL.of ho, fun t nt => ?_⟩⟩
    refine ⟨_, rfl, (by show 2 ≤ sizeLine; decide), fun p np => ?_⟩
    have ntp : t ≠ p := ne_of_none upd_same np
    exact q p t _ ((sm.trans (same_new nt)).trans (same_new np)) (by rw [upd_ne ntp, upd_same, rooms_def]) (by rw [upd_same, left_def])
end
end Fr
namespace Fr
open PySem PySem.Spec PyProof.Rows L2
section
variable {P : Program} {w : World} {K : PySem.W.Frag} {mg : Str → Option Value} {base : Heap}
/-! ### is_number -/
def spIsNumber (K : PySem.W.Frag) : Sp := fun vs H Q _ => ∃ (v : V) (d : PyData), vs = [v] ∧ Dp K H v d ∧ ∀ H', Same H H' → Q (.bl (isNumD d)) H'
theorem all_le (as : List Nat) : ((as.map fun a => decide (a ≤ 400)).all id) = as.all fun a => decide (a ≤ 400) := by
  rw [List.all_map]
  rfl
theorem isNum_eq {n : Nat} (h : 1 ≤ n) : isNum n = (decide (left n = 1) && (rooms n).all fun a => decide (a ≤ 400)) := by
  unfold isNum
  rw [decide_eq_true h, Bool.true_and]
theorem ok_is_number (T : Txt K mg) : Cal P w K mg base L2.CX0 2 "is_number" ["thing"] (spIsNumber K) := by
  have c_parted := ok_parted (P := P) (w := w) (base := base) T
  refine Cal.mk0 T.d_is_number T.m_is_number sc_is_number (fun _ _ _ _ _ _ us hl => match us, hl with | [_], _ => rfl) (fun vs H Q E h => ?_) (fun cdv A outer s H vs Q E hr h => ?_)
  · obtain ⟨v, d, rfl, _⟩ := h
    rfl
  obtain ⟨v, d, rfl, hd, q⟩ := h
  refine ⟨_, (pss_cons (ps_if (PW.pt (pw_or (pt_not (pt_val (pe_callB (isInt rfl) (by rfl) T.b_isinstance boot_isinstance (pa_cons (pv 0) (pa_cons (pe_bltn (v := .ty "int") (by rfl) T.b_int boot_int rfl) pa_nil))))) (pw_or (pt_val (pe_callB (isBool rfl) (by rfl) T.b_isinstance boot_isinstance (pa_cons (pv 0) (pa_cons (pe_bltn (v := .ty "bool") (by rfl) T.b_bool boot_bool rfl) pa_nil)))) (pw_or1 (pt_cmpR op_lt (pv 0) pe_int (nomark _)))))) (pss_one (ps_ret pe_bl)) pss_nil)
      (pss_cons (ps_asg (pe_cal c_parted (hr.mono (by decide)) (by rfl) pass0 (pa_cons (pv 0) pa_nil)) (pgT (n := 2) rfl rfl (pgs_cons (pg_name (i := 1) sc_is_number.nd rfl (.inl rfl)) (pgs_cons (pg_name (i := 2) sc_is_number.nd rfl (.inl rfl)) pgs_nil))))
      (pss_one (ps_ret (pe_and (pe_cmpR opN_eq (pv 2) pe_int (nomark _)) (pe_one (pe_callB (crAll rfl rfl) (by rfl) T.b_all boot_all (pa_cons (pe_lc (own := [("many", 3)]) rfl sc_is_number.nd (piT rfl (pv 1)) (blkOk_by (own := [("many", 3)]) (N := ["thing", "found", "left", "many"]) (sc := defScope s_is_number) (by decide +kernel)) (fun _ _ _ _ _ => (pg_name (i := 3) sc_is_number.nd rfl (.inl rfl))) (fun _ _ _ _ _ => pts_nil) (fun _ _ _ _ _ => (pe_cmpR opN_le (pv 3) (pe_glob (v := .int 400) (by rfl) T.c_MOST_ROOM.choose_spec ⟨_, rfl⟩) (nomark _)))) pa_nil)))))))), ?_⟩
  refine ⟨_, rfl, _, _, rfl, hd, _, rfl, ?_⟩
  have q0 := q H (Same.refl H)
  cases d with
  | int i =>
    cases hd
    refine iteF ⟨_, rfl, _, _, rfl, .int i, _, rfl, iteF ⟨_, rfl, i, 1, rfl, rfl, _, rfl, ite2 (fun h1 => ?_) (fun h1 => ?_)⟩⟩
    · have h1 := of_decide_eq_true h1
      have e : isNumD (.int i) = false := by
        show (decide (1 ≤ i) && isNum i.toNat) = false
        rw [decide_eq_false (by omega), Bool.false_and]
      rw [e] at q0
      exact q0
    · have h1 : 1 ≤ i := by
        have : ¬ i < 1 := fun z => h1 (decide_eq_true z)
        omega
      obtain ⟨n, rfl⟩ : ∃ n : Nat, i = n := ⟨i.toNat, by omega⟩
      refine ⟨_, rfl, n, rfl, by omega, fun p t H1 sm ht hp => ?_⟩
      have e : isNumD (.int (n : Int)) = (decide (left n = 1) && (rooms n).all fun a => decide (a ≤ 400)) := by
        show (decide (1 ≤ (n : Int)) && isNum (n : Int).toNat) = _
        rw [decide_eq_true h1, Bool.true_and, Int.toNat_natCast, isNum_eq (by omega)]
      rw [e] at q
      refine ⟨p, _, rfl, SqT.of hp, rfl, _, _, rfl, _, _, rfl, rfl, ?_⟩
      refine ⟨_, rfl, left n, 1, rfl, rfl, _, rfl, ite2 (fun h2 => ?_) (fun h2 => ?_)⟩
      · rw [h2, Bool.true_and] at q
        refine ⟨_, rfl, t, rfl, ⟨_, SqT.of ht⟩, fun D hD => ?_⟩
        refine lc_dp (K := K) walk_tup hD (by rw [List.length_map, rooms_len]; decide) (fun H' s' => same_tup s' (SqT.of ht)) (fun i => ((rooms n)[i]?).map fun a => PyData.bool (decide (a ≤ 400))) ?_ ?_ ?_
        · intro i d e
          obtain ⟨a, _, rfl⟩ := Option.map_eq_some_iff.mp e
          rfl
        · rintro i x H' H'' A B hi s' ⟨rfl, hx⟩ hA hB
          rw [List.getElem?_map] at hx
          obtain ⟨a, ha, rfl⟩ := Option.map_eq_some_iff.mp hx
          exact ⟨rfl, _, rfl, a, 400, rfl, rfl, hA _ _ _ (by rw [ha]; rfl) (Same.refl _) (.bl _)⟩
        · intro H' ys s' hD' hA
          rw [List.length_map, gath_map] at hA
          have e2 : ys = ((rooms n).map fun a => decide (a ≤ 400)).map V.bl := dps_bools (by rw [List.map_map]; exact hA)
          rw [e2] at hD'
          refine ⟨D, _, rfl, SqL.of hD', ?_⟩
          rw [all_le]
          exact q H' (sm.trans s')
      · rw [show decide (left n = 1) = false by simpa using h2, Bool.false_and] at q
        exact q H1 sm
  | bool b =>
    cases hd
    exact iteF ⟨_, rfl, _, _, rfl, .bl b, _, rfl, iteT (iteT q0)⟩
  | none => exact iteT (iteT q0)
  | str x => exact iteT (iteT q0)
  | list xs => exact iteT (iteT q0)
  | tuple xs => exact iteT (iteT q0)
  | dict xs => exact iteT (iteT q0)
end
end Fr
namespace Fr
open PySem PySem.Spec PyProof.Rows L2
section
variable {P : Program} {w : World} {K : PySem.W.Frag} {mg : Str → Option Value} {base : Heap}
end
end Fr
namespace Fr
open PySem PySem.Spec PyProof.Rows L2
section
variable {P : Program} {w : World} {K : PySem.W.Frag} {mg : Str → Option Value} {base : Heap}
/-! ### is_count -/
def isCountD (lo hi : Int) : PyData → Bool
  | .int i => decide (lo ≤ i) && decide (i ≤ hi)
  | _ => false
def spCount (K : PySem.W.Frag) : Sp := fun vs H Q _ => ∃ (v : V) (d : PyData) (lo hi : Int), vs = [v, .int lo, .int hi] ∧ Dp K H v d ∧ Q (.bl (isCountD lo hi d)) H
end
end Fr
namespace Fr
open PySem PySem.Spec PyProof.Rows L2
section
variable {P : Program} {w : World} {K : PySem.W.Frag} {mg : Str → Option Value} {base : Heap}
/-! ### common -/
def spCommon : Sp := fun vs H Q _ => ∃ a b : Nat, vs = [nI a, nI b] ∧ Q (nI (Nat.gcd a b)) H
theorem gcd_step (a b : Nat) : Nat.gcd b (a % b) = Nat.gcd a b := by
  rw [Nat.gcd_comm b (a % b), ← Nat.gcd_rec, Nat.gcd_comm]
theorem ok_common (T : Txt K mg) : Cal P w K mg base L2.CX0 1 "common" ["one", "other"] spCommon := by
  refine Cal.mk0 T.d_common T.m_common sc_common (fun _ _ _ _ _ _ us hl => match us, hl with | [_, _], _ => rfl) (fun vs H Q E h => ?_) (fun cdv A outer s H vs Q E hr h => ?_)
  · obtain ⟨a, b, rfl, _⟩ := h
    rfl
  obtain ⟨a, b, rfl, q⟩ := h
  refine ⟨_, (pss_cons (ps_while PassesOwn.never (pt_cmpR opN_ne (pv 1) pe_int (nomark _)) (pss_one (ps_par (i := 0) (j := 1) (by rfl) sc_common.nd rfl rfl (by decide) rfl rfl (pa_cons (pv 1) (pa_cons (pe_op opN_mod (pv 0) (pv 1)) pa_nil)) (by rfl))))
      (pss_one (ps_ret (pv 0)))), ?_⟩
  refine ⟨fun m σ H3 => ∃ x : Nat, σ = [some (nI x), some (nI m)] ∧ H3 = H ∧ Nat.gcd x m = Nat.gcd a b, ⟨b, a, rfl, rfl, rfl⟩, ?_⟩
  rintro m σ H3 ⟨x, rfl, rfl, e⟩
  refine ⟨_, rfl, m, 0, rfl, rfl, _, rfl, ?_⟩
  by_cases h : m = 0
  · subst h
    refine iteF ⟨_, rfl, ?_⟩
    rw [Nat.gcd_zero_right] at e
    show Q (nI x) H3
    rw [e]
    exact q
  · rw [decide_eq_false h]
    refine iteT ⟨fun σ' H' => σ' = [some (nI m), some (nI (x % m))] ∧ H' = H3, ?_, ?_⟩
    · rintro σ' H' ⟨h1, h2⟩
      exact ⟨x % m, Nat.mod_lt _ (by omega), m, h1, h2, by rw [gcd_step, e]⟩
    · exact ⟨_, rfl, _, rfl, _, rfl, x, m, rfl, rfl, by omega, _, _, rfl, rfl, rfl⟩
/-! ### is_fraction -/
def spIs (K : PySem.W.Frag) (f : PyData → Bool) : Sp := fun vs H Q _ => ∃ (v : V) (d : PyData), vs = [v] ∧ Dp K H v d ∧ ∀ H', Same H H' → Q (.bl (f d)) H'
theorem ok_is_fraction (T : Txt K mg) : Cal P w K mg base L2.CX0 3 "is_fraction" ["thing"] (spIs K isFracD) := by
  have c_is_number := ok_is_number (P := P) (w := w) (base := base) T
  have c_common := ok_common (P := P) (w := w) (base := base) T
  refine Cal.mk0 T.d_is_fraction T.m_is_fraction sc_is_fraction (fun _ _ _ _ _ _ us hl => match us, hl with | [_], _ => rfl) (fun vs H Q E h => ?_) (fun cdv A outer s H vs Q E hr h => ?_)
  · obtain ⟨v, d, rfl, _⟩ := h
    rfl
  obtain ⟨v, d, rfl, hd, q⟩ := h
  refine ⟨_, (pss_cons (ps_if (PW.pt (pw_or (pt_not (pt_val (pe_callB (isTuple rfl) (by rfl) T.b_isinstance boot_isinstance (pa_cons (pv 0) (pa_cons (pe_bltn (v := .ty "tuple") (by rfl) T.b_tuple boot_tuple rfl) pa_nil))))) (pw_or (pt_cmpR opN_ne (pe_callB (lenS rfl) (by rfl) T.b_len PySem.boot_len (pa_cons (pv 0) pa_nil)) pe_int (nomark _)) (pw_or1 (pt_not (pt_val (pe_callB (crAll rfl rfl) (by rfl) T.b_all boot_all (pa_cons (pe_lc (own := [("one", 1)]) rfl sc_is_fraction.nd (piT rfl (pv 0)) (blkOk_by (own := [("one", 1)]) (N := ["thing", "one"]) (sc := defScope s_is_fraction) (by decide +kernel)) (fun _ _ _ _ _ => (pg_name (i := 1) sc_is_fraction.nd rfl (.inl rfl))) (fun _ _ _ _ _ => pts_nil) (fun _ _ _ _ _ => (pe_cal c_is_number (hr.mono (by decide)) (by rfl) pass0 (pa_cons (pv 1) pa_nil)))) pa_nil)))))))) (pss_one (ps_ret pe_bl)) pss_nil)
      (pss_one (ps_ret (pe_and (pe_cmpR opN_le (pe_callB (crMaxT rfl rfl (hu_of hr)) (by rfl) T.b_max boot_max (pa_cons (pv 0) pa_nil)) (pe_glob (v := .int 1000000) (by rfl) T.c_MOST_PART.choose_spec ⟨_, rfl⟩) (nomark _)) (pe_one (pe_cmpR opN_eq (pe_cal c_common (hr.mono (by decide)) (by rfl) pass0 (pa_cons (pe_ix (ixT rfl) (pv 0) pe_int (fun _ _ => rfl)) (pa_cons (pe_ix (ixT rfl) (pv 0) pe_int (fun _ _ => rfl)) pa_nil))) pe_int (nomark _))))))), ?_⟩
  refine ⟨_, rfl, _, _, rfl, hd, _, rfl, ?_⟩
  have q0 := q H (Same.refl H)
  cases d with
  | tuple ds =>
    cases hd with
    | @tup a xs _ hs ha =>
      have hlen := dps_len ha
      refine iteF ⟨_, rfl, a, xs, rfl, .inr hs, xs.length, 2, rfl, rfl, _, rfl, ?_⟩
      by_cases h2 : xs.length = 2
      · rw [decide_eq_true h2]
        refine iteF ⟨_, rfl, a, rfl, ⟨_, hs⟩, fun D hD => ?_⟩
        refine lc_dp (K := K) walk_tup hD (by rw [h2]; decide) (fun H' s' => same_tup s' hs) (fun i => ds[i]?.map fun d => PyData.bool (isNumD d)) ?_ ?_ ?_
        · intro i d e
          obtain ⟨a, _, rfl⟩ := Option.map_eq_some_iff.mp e
          rfl
        · rintro i x H' H'' A B hi s' ⟨rfl, hx⟩ hA hB
          obtain ⟨d, hd, hp⟩ := dps_at2 ha hx
          exact ⟨rfl, _, rfl, x, d, rfl, same_dp s' hp, fun H4 s4 => hA _ _ _ (by rw [hd]; rfl) s4 (.bl _)⟩
        · intro H' ys s' hD' hA
          rw [hlen, gath_map] at hA
          have e2 : ys = (ds.map isNumD).map V.bl := dps_bools (by rw [List.map_map]; exact hA)
          rw [e2] at hD'
          obtain ⟨x, y, rfl⟩ : ∃ x y, ds = [x, y] := by
            match ds, hlen with
            | [x, y], _ => exact ⟨x, y, rfl⟩
            | [], h => rw [h2] at h; cases h
            | [_], h => rw [h2] at h; cases h
            | _ :: _ :: _ :: _, h => rw [h2] at h; simp at h
          refine ⟨D, [isNumD x, isNumD y], rfl, SqL.of hD', _, rfl, ?_⟩
          have e3 : ([isNumD x, isNumD y].all id) = (isNumD x && isNumD y) := by simp
          rw [e3]
          cases hxy : (isNumD x && isNumD y) with
          | false =>
            have e4 : isFracD (.tuple [x, y]) = false := by
              show ((isNumD x && isNumD y) && _) = false
              rw [hxy, Bool.false_and]
            rw [e4] at q
            exact iteT (q H' s')
          | true =>
            obtain ⟨hx, hy⟩ := Bool.and_eq_true_iff.mp hxy
            obtain ⟨n, rfl, _⟩ := isNumD_is hx
            obtain ⟨m, rfl, _⟩ := isNumD_is hy
            have exs : xs = [n, m].map nI := dps_nats (ns := [n, m]) ha
            have hs' : SqT K H' a ([n, m].map nI) := by rw [← exs]; exact same_tup s' hs
            have e4 : isFracD (.tuple [nD n, nD m]) = (decide (max n m ≤ 1000000) && decide (Nat.gcd n m = 1)) := by
              show ((isNumD (nD n) && isNumD (nD m)) && (decide (max (n : Int).toNat (m : Int).toNat ≤ 1000000) && decide (Nat.gcd (n : Int).toNat (m : Int).toNat = 1))) = _
              rw [hxy, Bool.true_and, Int.toNat_natCast, Int.toNat_natCast]
            rw [e4] at q
            refine iteF ⟨_, rfl, a, [n, m], rfl, hs', by simp, maxN [n, m], 1000000, rfl, rfl, _, rfl, ?_⟩
            have e5 : maxN [n, m] = max n m := by simp [maxN]
            rw [e5]
            cases hmx : decide (max n m ≤ 1000000) with
            | false =>
              rw [hmx, Bool.false_and] at q
              exact iteF (q H' s')
            | true =>
              rw [hmx, Bool.true_and] at q
              refine iteT ⟨_, rfl, a, _, 0, _, rfl, rfl, hs', atI0, _, rfl, a, _, 1, _, rfl, rfl, hs', atI1, n, m, rfl, Nat.gcd n m, 1, rfl, rfl, ?_⟩
              exact q H' s'
      · rw [decide_eq_false h2]
        have e : isFracD (.tuple ds) = false := by
          match ds, hlen with
          | [], _ => rfl
          | [_], _ => rfl
          | [_, _], h => exact absurd h h2
          | _ :: _ :: _ :: _, _ => rfl
        rw [e] at q0
        exact iteT (iteT q0)
  | none => exact iteT (iteT q0)
  | bool b => exact iteT (iteT q0)
  | int i => exact iteT (iteT q0)
  | str x => exact iteT (iteT q0)
  | list xs => exact iteT (iteT q0)
  | dict xs => exact iteT (iteT q0)
/-! ### is_program -/
theorem ok_is_program (T : Txt K mg) : Cal P w K mg base L2.CX0 4 "is_program" ["thing"] (spIs K isProgD) := by
  have c_is_fraction := ok_is_fraction (P := P) (w := w) (base := base) T
  refine Cal.mk0 T.d_is_program T.m_is_program sc_is_program (fun _ _ _ _ _ _ us hl => match us, hl with | [_], _ => rfl) (fun vs H Q E h => ?_) (fun cdv A outer s H vs Q E hr h => ?_)
  · obtain ⟨v, d, rfl, _⟩ := h
    rfl
  obtain ⟨v, d, rfl, hd, q⟩ := h
  refine ⟨_, (pss_cons (ps_if (PW.pt (pw_or (pt_not (pt_val (pe_callB (isList rfl) (by rfl) T.b_isinstance boot_isinstance (pa_cons (pv 0) (pa_cons (pe_bltn (v := .ty "list") (by rfl) T.b_list boot_list rfl) pa_nil))))) (pw_or1 (pt_cmpR opN_gt (pe_callB (lenS rfl) (by rfl) T.b_len PySem.boot_len (pa_cons (pv 0) pa_nil)) (pe_glob (v := .int 16) (by rfl) T.c_MOST_FRACTIONS.choose_spec ⟨_, rfl⟩) (nomark _))))) (pss_one (ps_ret pe_bl)) pss_nil)
      (pss_one (ps_ret (pe_callB (crAll rfl rfl) (by rfl) T.b_all boot_all (pa_cons (pe_lc (own := [("one", 1)]) rfl sc_is_program.nd (piL rfl (pv 0)) (blkOk_by (own := [("one", 1)]) (N := ["thing", "one"]) (sc := defScope s_is_program) (by decide +kernel)) (fun _ _ _ _ _ => (pg_name (i := 1) sc_is_program.nd rfl (.inl rfl))) (fun _ _ _ _ _ => pts_nil) (fun _ _ _ _ _ => (pe_cal c_is_fraction (hr.mono (by decide)) (by rfl) pass0 (pa_cons (pv 1) pa_nil)))) pa_nil))))), ?_⟩
  refine ⟨_, rfl, _, _, rfl, hd, _, rfl, ?_⟩
  have q0 := q H (Same.refl H)
  cases d with
  | list ds =>
    cases hd with
    | @lst a xs _ hs ha =>
      have hlen := dps_len ha
      refine iteF ⟨_, rfl, a, xs, rfl, .inl hs, xs.length, 16, rfl, rfl, _, rfl, ?_⟩
      have e0 : isProgD (.list ds) = (decide (ds.length ≤ 16) && ds.all isFracD) := rfl
      by_cases h2 : 16 < xs.length
      · rw [decide_eq_true h2]
        rw [e0, decide_eq_false (by omega), Bool.false_and] at q0
        exact iteT q0
      · rw [decide_eq_false h2]
        rw [e0, decide_eq_true (by omega), Bool.true_and] at q
        refine iteF ⟨_, rfl, a, rfl, ⟨_, hs⟩, fun D hD => ?_⟩
        refine lc_dp (K := K) walk_list hD (by omega) (fun H' s' => s'.seq hs) (fun i => ds[i]?.map fun d => PyData.bool (isFracD d)) ?_ ?_ ?_
        · intro i d e
          obtain ⟨a, _, rfl⟩ := Option.map_eq_some_iff.mp e
          rfl
        · rintro i x H' H'' A B hi s' ⟨rfl, hx⟩ hA hB
          obtain ⟨d, hd, hp⟩ := dps_at2 ha hx
          exact ⟨rfl, _, rfl, x, d, rfl, same_dp s' hp, fun H4 s4 => hA _ _ _ (by rw [hd]; rfl) s4 (.bl _)⟩
        · intro H' ys s' hD' hA
          rw [hlen, gath_map] at hA
          have e2 : ys = (ds.map isFracD).map V.bl := dps_bools (by rw [List.map_map]; exact hA)
          rw [e2] at hD'
          refine ⟨D, ds.map isFracD, rfl, SqL.of hD', ?_⟩
          have e3 : ((ds.map isFracD).all id) = ds.all isFracD := by rw [List.all_map]; rfl
          rw [e3]
          exact q H' s'
  | none => exact iteT (iteT q0)
  | bool b => exact iteT (iteT q0)
  | int i => exact iteT (iteT q0)
  | str x => exact iteT (iteT q0)
  | tuple xs => exact iteT (iteT q0)
  | dict xs => exact iteT (iteT q0)
theorem ok_need_program (T : Txt K mg) : Cal P w K mg base (L2N.CX P w) 5 "need_program" ["program"] (spNeed K (ga K "BadProgram") isProgD) := by
  have c_is_program := ok_is_program (P := P) (w := w) (base := base) T
  refine Cal.mkX T.d_need_program T.m_need_program sc_need_program (fun _ _ _ _ _ _ us hl => match us, hl with | [_], _ => rfl) (fun vs H Q E h => ?_) (fun cdv A outer s H vs Q E hr h => ?_)
  · obtain ⟨v, d, rfl, _⟩ := h
    rfl
  obtain ⟨v, d, rfl, hd, q1, q2⟩ := h
  refine ⟨_, (pss_one (ps_if (pt_not (pt_val (pe_cal c_is_program (hr.mono (by decide)) (by rfl) pass0 (pa_cons (pv 0) pa_nil)))) (pss_one (L2N.ps_raise rfl (L2N.takes_of rfl rfl rfl rfl) (L2N.pmk_own PySem.F.excBase_ValueError T.x_BadProgram.1 T.m_BadProgram T.x_BadProgram.2.1 (raises_own T.x_BadProgram.2.2.1 T.x_BadProgram.2.2.2) (by rfl)))) pss_nil)), ?_⟩
  refine ⟨_, rfl, v, d, rfl, hd, fun H1 s1 => ⟨_, rfl, ?_⟩⟩
  cases e : isProgD d with
  | true => exact iteF (q1 e H1 s1)
  | false => exact iteT (q2 e H1 s1)
end
end Fr
namespace Fr
open PySem PySem.Spec PyProof.Rows L2
section
variable {P : Program} {w : World} {K : PySem.W.Frag} {mg : Str → Option Value} {base : Heap}
/-! ### first_at -/
def spFirst (K : PySem.W.Frag) : Sp := fun vs H Q _ => ∃ (v : V) (l : Prog) (n : Nat), vs = [v, nI n] ∧ Dp K H v (progD l) ∧ (∀ p ∈ l, 0 < p.2) ∧ ∀ H', Same H H' → Q (optV (firstAt l n)) H'
/-! ### led -/
def spLed (K : PySem.W.Frag) : Sp := fun vs H Q _ => ∃ (v : V) (l : Prog) (n : Nat), vs = [v, nI n] ∧ Dp K H v (progD l) ∧ isProg l = true ∧ n < 2 ^ 30000 ∧ ∀ H', Same H H' → Q (optV (led l n)) H'
/-! ### need_room -/
def spRoom (K : PySem.W.Frag) (C : Addr) : Sp := fun vs H Q E => ∃ n : Nat, vs = [nI n] ∧ 0 < n ∧ (maxN (rooms n) ≤ 400 → ∀ H', Same H H' → Q .non H') ∧ (400 < maxN (rooms n) → ∀ H', Same H H' → E (.ref C) none H')
theorem rooms_ne (n : Nat) : rooms n ≠ [] := fun z => by
  have h := rooms_len n
  rw [z] at h
  cases h
/-! ### look -/
def spLook (K : PySem.W.Frag) : Sp := fun vs H Q E => ∃ (v u : V) (d e : PyData), vs = [v, u] ∧ Dp K H v d ∧ Dp K H u e ∧ (isProgD d = true → isNumD e = true → ∀ H', Same H H' → Q .non H') ∧
  (isProgD d = false → ∀ H', Same H H' → E (.ref (ga K "BadProgram")) none H') ∧ (isProgD d = true → isNumD e = false → ∀ H', Same H H' → E (.ref (ga K "BadNumber")) none H')
/-! ### step -/
def isGreat (o : Option Nat) : Bool := match o with
  | some m => decide (400 < maxN (rooms m))
  | none => false
def spStep (K : PySem.W.Frag) : Sp := fun vs H Q E => ∃ (v u : V) (d e : PyData), vs = [v, u] ∧ Dp K H v d ∧ Dp K H u e ∧
  (isProgD d = false → ∀ H', Same H H' → E (.ref (ga K "BadProgram")) none H') ∧ (isProgD d = true → isNumD e = false → ∀ H', Same H H' → E (.ref (ga K "BadNumber")) none H') ∧
  (∀ (l : Prog) (n : Nat), d = progD l → e = nD n → isProg l = true → isNum n = true → (isGreat (led l n) = false → ∀ H', Same H H' → Q (optV (led l n)) H') ∧ (isGreat (led l n) = true → ∀ H', Same H H' → E (.ref (ga K "TooGreat")) none H'))
theorem led_pos {l : Prog} {n m : Nat} (hP : isProg l = true) (hn : 0 < n) (h : led l n = some m) : 0 < m := by
  unfold led at h
  obtain ⟨i, hi, rfl⟩ := Option.map_eq_some_iff.mp h
  obtain ⟨hlt, h0, _⟩ := firstAt_is hi
  obtain ⟨f1, f2, f3, f4, f5⟩ := isFrac_iff.mp ((isProg_iff.mp hP).2 _ (List.getElem_mem hlt))
  rw [unAt_eq hlt, upAt_eq hlt]
  exact Nat.mul_pos (Nat.div_pos (Nat.le_of_dvd hn (Nat.dvd_of_mod_eq_zero h0)) (isNum_pos f2)) (isNum_pos f1)
theorem num_lt {n : Nat} (h : isNum n = true) : n < 2 ^ 30000 := Nat.lt_trans (isNum_lt h) (Nat.pow_lt_pow_right (by decide) (by decide))
end
end Fr
namespace Fr
open PySem PySem.Spec PyProof.Rows L2
section
variable {P : Program} {w : World} {K : PySem.W.Frag} {mg : Str → Option Value} {base : Heap}
theorem lay_ints : ∀ ns : List Int, PyData.canLayAll0 (ns.map PyData.int) = true
  | [] => by simp [PyData.canLayAll0]
  | n :: ns => by simp [PyData.canLayAll0, PyData.canLay0, lay_ints ns]
theorem shaped_ints (ns : List Int) : SeqAt.shaped (.list (ns.map PyData.int)) = true := by
  unfold SeqAt.shaped
  simp [PyData.canLay0, PyData.depth, lay_ints, depth_ints]
/-! ### _law_cell -/
def spCellL (K : PySem.W.Frag) : Sp := fun vs H Q _ => ∃ (a : Addr) (k : Nat) (ns : List Int), vs = [.ref a, nI k] ∧ SqL K H a (ns.map V.int) ∧ ns.length ≤ 63 ∧ k ≤ 1000 ∧ ∀ (c : Int) H', Same H H' → Q (.int c) H'
theorem ok__law_cell (T : Txt K mg) : Cal P w K mg base L2.CX0 1 "_law_cell" ["script", "k"] (spCellL K) := by
  refine Cal.mk0 T.d__law_cell T.m__law_cell sc__law_cell (fun _ _ _ _ _ _ us hl => match us, hl with | [_, _], _ => rfl) (fun vs H Q E h => ?_) (fun cdv A outer s H vs Q E hr h => ?_)
  · obtain ⟨a, k, ns, rfl, _⟩ := h
    rfl
  obtain ⟨a, k, ns, rfl, hs, hl, hk, q⟩ := h
  refine ⟨_, (pss_cons (ps_if (pt_cmpR (eqD rfl hr.units) (pv 0) (pe_lst pa_nil) (nomark _)) (pss_one (ps_ret (pe_op opN_mul (pv 1) pe_int))) pss_nil)
      (pss_one (ps_ret (pe_op op_add (pe_ix (ixL rfl) (pv 0) (pe_op opN_mod (pv 1) (pe_callB (lenS rfl) (by rfl) T.b_len PySem.boot_len (pa_cons (pv 0) pa_nil))) (fun _ _ => rfl)) (pe_op opN_mul (pe_op opN_div (pv 1) (pe_callB (lenS rfl) (by rfl) T.b_len PySem.boot_len (pa_cons (pv 0) pa_nil))) pe_int))))), ?_⟩
  have hk2 : k.log2 < 20 := lt_log2 (k := 20) (by omega) (by decide) (by decide)
  refine ⟨_, rfl, Nat.zero_le _, fun p np => ?_⟩
  have s1 : Same H (upd H p (.lst [])) := same_new np
  refine ⟨.list (ns.map PyData.int), .list [], .lst (s1.seq hs) (dps_ints ns), .lst (SqL.of upd_same) .nil, shaped_ints ns, shaped_ints [], _, rfl, ?_⟩
  cases ns with
  | nil =>
    refine iteT ⟨_, rfl, k, 7919, rfl, rfl, ?_, q _ _ s1⟩
    have : (7919 : Nat).log2 < 20 := by decide
    omega
  | cons n ns =>
    have hlen : ((n :: ns).map V.int).length = ns.length + 1 := by simp
    refine iteF ?_
    have hm : k % (ns.length + 1) < ((n :: ns).map V.int).length := by rw [hlen]; exact Nat.mod_lt _ (by omega)
    have hg : ((n :: ns).map V.int)[k % (ns.length + 1)]? = some (.int ((n :: ns)[k % (ns.length + 1)]'(by simpa using hm))) := by
      rw [List.getElem?_map, List.getElem?_eq_getElem (by simpa using hm)]
      rfl
    simp only [List.length_cons] at hl
    have h3 : (k / (ns.length + 1)).log2 < 20 := lt_log2 (k := 20) (Nat.lt_of_le_of_lt (Nat.div_le_self _ _) (by omega)) (by decide) (by decide)
    have h4 : (104729 : Nat).log2 < 20 := by decide
    refine ⟨_, rfl, _, rfl, _, rfl, a, _, rfl, .inl (s1.seq hs), k, ns.length + 1, rfl, by rw [hlen], by omega, a, _, _, _, rfl, rfl, s1.seq hs, atIn hg, ?_⟩
    refine ⟨_, rfl, _, rfl, a, _, rfl, .inl (s1.seq hs), k, ns.length + 1, rfl, by rw [hlen], ⟨by omega, lt_log2 (k := 20) (by omega) (by decide) (by decide)⟩, _, 104729, rfl, rfl, by omega, _, _, rfl, rfl, q _ _ s1⟩
/-! ### _law_drawn -/
def spDrawn : Sp := fun vs H Q _ => ∃ (c : Int) (k : Nat), vs = [.int c, nI k] ∧ k ≤ 100000 ∧ ∀ d : Nat, d < 2 ^ 129 → Q (nI d) H
theorem ok__law_drawn (T : Txt K mg) : Cal P w K mg base L2.CX0 1 "_law_drawn" ["cell", "k"] spDrawn := by
  refine Cal.mk0 T.d__law_drawn T.m__law_drawn sc__law_drawn (fun _ _ _ _ _ _ us hl => match us, hl with | [_, _], _ => rfl) (fun vs H Q E h => ?_) (fun cdv A outer s H vs Q E hr h => ?_)
  · obtain ⟨c, k, rfl, _⟩ := h
    rfl
  obtain ⟨c, k, rfl, hk, q⟩ := h
  refine ⟨_, (pss_cons (ps_set (i := 2) sc__law_drawn.nd rfl (.inl rfl) (pe_op op_mod (pe_op op_add (pe_op op_mul (pv 0) pe_int) (pe_op opN_mul (pe_op opN_add (pv 1) pe_int) pe_int)) pe_int))
      (pss_cons (ps_set (i := 2) sc__law_drawn.nd rfl (.inl rfl) (pe_op opN_mod (pe_op opN_mul (pv 2) (pv 2)) pe_int))
      (pss_cons (ps_set (i := 2) sc__law_drawn.nd rfl (.inl rfl) (pe_op opN_mul (pe_op opN_mul (pe_op opN_add (pe_op opN_mod (pv 2) pe_int) pe_int) (pe_op opN_add (pe_op opN_div (pv 2) pe_int) pe_int)) (pv 2)))
      (pss_one (ps_ret (pe_op opN_mod (pv 2) pe_int)))))), ?_⟩
  have hk2 : (k + 1).log2 < 20 := lt_log2 (k := 20) (by omega) (by decide) (by decide)
  have hc2 : (1442695040888963407 : Nat).log2 < 64 := by decide +kernel
  refine ⟨_, rfl, c, 6364136223846793005, rfl, rfl, .inr ⟨by decide, by decide⟩, _, rfl, k, 1, rfl, rfl, k + 1, 1442695040888963407, rfl, rfl, by omega, _, _, rfl, rfl, _, 340282366920938463463374607431768211507, rfl, rfl, by omega, ?_⟩
  obtain ⟨m, hm, hm2⟩ : ∃ m : Nat, (c * 6364136223846793005 + (((k + 1) * 1442695040888963407 : Nat) : Int)) % 340282366920938463463374607431768211507 = (m : Int) ∧ m < 340282366920938463463374607431768211507 := by
    have h1 := Int.emod_nonneg (c * 6364136223846793005 + (((k + 1) * 1442695040888963407 : Nat) : Int)) (b := 340282366920938463463374607431768211507) (by decide)
    have h2 := Int.emod_lt_of_pos (c * 6364136223846793005 + (((k + 1) * 1442695040888963407 : Nat) : Int)) (b := 340282366920938463463374607431768211507) (by decide)
    generalize (c * 6364136223846793005 + (((k + 1) * 1442695040888963407 : Nat) : Int)) % 340282366920938463463374607431768211507 = z at h1 h2 ⊢
    exact ⟨z.toNat, (Int.toNat_of_nonneg h1).symm, by omega⟩
  have em : V.int ((c * 6364136223846793005 + (((k + 1) * 1442695040888963407 : Nat) : Int)) % 340282366920938463463374607431768211507) = nI m := by rw [hm]
  have l1 : m.log2 < 129 := lt_log2 (k := 129) (Nat.lt_trans hm2 (by decide +kernel)) (by decide) (by decide)
  have h3 : m * m % 340282366920938463463374607431768211297 < 340282366920938463463374607431768211297 := Nat.mod_lt _ (by decide)
  generalize hx : m * m % 340282366920938463463374607431768211297 = x at h3
  have l2 : x.log2 < 129 := lt_log2 (k := 129) (Nat.lt_trans h3 (by decide +kernel)) (by decide) (by decide)
  have h4 : x % 18446744073709551557 + 1 < 2 ^ 65 := by
    have := Nat.mod_lt x (y := 18446744073709551557) (by decide)
    exact Nat.lt_of_lt_of_le (Nat.succ_lt_succ this) (by decide +kernel)
  have h5 : x / 18446744073709551557 + 1 < 2 ^ 65 := by
    have : x / 18446744073709551557 < 2 ^ 64 + 200 := by
      rw [Nat.div_lt_iff_lt_mul (by decide)]
      exact Nat.lt_trans h3 (by decide +kernel)
    exact Nat.lt_of_lt_of_le (Nat.succ_lt_succ this) (by decide +kernel)
  have l4 := lt_log2 (j := 65) h4 (by decide) (by decide)
  have l5 := lt_log2 (j := 65) h5 (by decide) (by decide)
  have l6 : ((x % 18446744073709551557 + 1) * (x / 18446744073709551557 + 1)).log2 < 130 := lt_log2 (k := 130) (by
    have := Nat.mul_lt_mul'' h4 h5
    rw [← Nat.pow_add] at this
    exact this) (by decide) (by decide)
  refine ⟨nI m, congrArg some (congrArg some em), nI m, congrArg some (congrArg some em), m, m, rfl, rfl, by omega, _, 340282366920938463463374607431768211297, rfl, rfl, by omega, ?_⟩
  have ex : V.int ((m * m % 340282366920938463463374607431768211297 : Nat) : Int) = nI x := by rw [hx]
  refine ⟨nI x, congrArg some (congrArg some ex), x, 18446744073709551557, rfl, rfl, by omega, _, 1, rfl, rfl, nI x, congrArg some (congrArg some ex), x, 18446744073709551557, rfl, rfl, ⟨by decide, by decide +kernel⟩, _, 1, rfl, rfl, _, _, rfl, rfl, by omega, nI x, congrArg some (congrArg some ex), _, x, rfl, rfl, by omega, ?_⟩
  refine ⟨_, rfl, _, 340282366920938463463374607431768211507, rfl, rfl, by omega, q _ ?_⟩
  exact Nat.lt_trans (Nat.mod_lt _ (by decide)) (by decide +kernel)
/-! ### _law_primes -/
def spPrimes : Sp := fun vs H Q _ => vs = [] ∧ ∀ p, H p = none → Q (.ref p) (upd H p (.lst (primes.map nI)))
theorem ok__law_primes (T : Txt K mg) : Cal P w K mg base L2.CX0 1 "_law_primes" [] spPrimes := by
  refine Cal.mk0 T.d__law_primes T.m__law_primes sc__law_primes (fun _ _ _ _ _ _ us hl => match us, hl with | [], _ => rfl) (fun vs H Q E h => ?_) (fun cdv A outer s H vs Q E hr h => ?_)
  · obtain ⟨rfl, _⟩ := h
    rfl
  obtain ⟨rfl, q⟩ := h
  refine ⟨_, (pss_one (ps_ret (pe_lst (pa_cons pe_int (pa_cons pe_int (pa_cons pe_int (pa_cons pe_int (pa_cons pe_int (pa_cons pe_int (pa_cons pe_int (pa_cons pe_int (pa_cons pe_int (pa_cons pe_int (pa_cons pe_int (pa_cons pe_int pa_nil))))))))))))))), ?_⟩
  exact ⟨(by show 12 ≤ sizeLine; decide), fun p np => q p np⟩
end
end Fr
namespace Fr
open PySem PySem.Spec PyProof.Rows L2
section
variable {P : Program} {w : World} {K : PySem.W.Frag} {mg : Str → Option Value} {base : Heap}
/-! ### _law_some -/
def spSome : Sp := fun vs H Q _ => ∃ m k b : Nat, vs = [nI m, nI k, nI b] ∧ 1 ≤ k ∧ k ≤ 12 ∧ b ≤ 50 ∧ ∀ n H', SomeN k b n → Same H H' → Q (nI n) H'
theorem ok__law_some (T : Txt K mg) : Cal P w K mg base L2.CX0 2 "_law_some" ["more", "primes", "most"] spSome := by
  have c__law_primes := ok__law_primes (P := P) (w := w) (base := base) T
  have c__law_drawn := ok__law_drawn (P := P) (w := w) (base := base) T
  refine Cal.mk0 T.d__law_some T.m__law_some sc__law_some (fun _ _ _ _ _ _ us hl => match us, hl with | [_, _, _], _ => rfl) (fun vs H Q E h => ?_) (fun cdv A outer s H vs Q E hr h => ?_)
  · obtain ⟨m, k, b, rfl, _⟩ := h
    rfl
  obtain ⟨m, k, b, rfl, hk1, hk2, hb, q⟩ := h
  refine ⟨_, (pss_cons (ps_set (i := 3) sc__law_some.nd rfl (.inl rfl) pe_int)
      (pss_cons (ps_for PassesOwn.never rfl (pi_range1 (by rfl) T.b_range (pa_cons (pe_op opN_mod (pv 0) (pe_op opN_add (pv 2) pe_int)) pa_nil)) (pg_name (i := 4) sc__law_some.nd rfl (.inl rfl)) (pss_one (ps_set (i := 3) sc__law_some.nd rfl (.inl rfl) (pe_op opN_mul (pv 3) (pe_ix (ixL rfl) (pe_cal0 c__law_primes (hr.mono (by decide)) (by rfl) pass0) (pe_op opN_mod (pe_op opN_div (pe_cal c__law_drawn (hr.mono (by decide)) (by rfl) pass0 (pa_cons (pv 0) (pa_cons (pv 4) pa_nil))) pe_int) (pv 1)) (fun _ _ => rfl))))))
      (pss_one (ps_ret (pv 3))))), ?_⟩
  have hmod : m % (b + 1) < b + 1 := Nat.mod_lt _ (by omega)
  refine ⟨_, rfl, _, rfl, b, 1, rfl, rfl, m, b + 1, rfl, rfl, by omega, ((m % (b + 1) : Nat) : Int), rfl, by omega, by omega, ?_⟩
  have en : ((m % (b + 1) : Nat) : Int).toNat = m % (b + 1) := by omega
  rw [en]
  refine for_it walk_nats (fun i σ H3 => (∃ as y, σ = [some (nI m), some (nI k), some (nI b), some (nI (make as)), y] ∧ as.length = 12 ∧ as.sum = i ∧ ∀ j, k ≤ j → j < 12 → as[j]? = some 0) ∧ Same H H3) ?_ (fun _ _ _ _ _ => trivial) ?_ ?_
  · refine ⟨⟨List.replicate 12 0, none, ?_, by decide, by decide, fun j _ hj => ?_⟩, Same.refl H⟩
    · rw [make_zero]
      rfl
    · rw [List.getElem?_replicate, if_pos hj]
  · rintro i x σ H3 H4 hi ⟨⟨as, y, rfl, hl, hsum, hz⟩, sm⟩ ⟨rfl, rfl⟩
    refine ⟨_, rfl, rfl, fun p np => ⟨_, rfl, _, rfl, (m : Int), i, rfl, by omega, fun d _ => ?_⟩⟩
    have hdk : d / 8 % k < k := Nat.mod_lt _ (by omega)
    have h12 : d / 8 % k < 12 := by omega
    refine ⟨d, 8, rfl, rfl, ⟨by decide, by decide⟩, _, rfl, d / 8, k, rfl, rfl, by omega, ?_⟩
    obtain ⟨ix, hix⟩ : ∃ ix, d / 8 % k = ix := ⟨_, rfl⟩
    rw [hix] at hdk h12
    have hp : primes[ix]? = some (primes[ix]'(by exact h12)) := List.getElem?_eq_getElem (by exact h12)
    have hpm : (primes.map nI)[ix]? = some (nI (primes[ix]'(by exact h12))) := by
      rw [List.getElem?_map, hp]
      rfl
    have ha : as[ix]? = some (as[ix]'(by omega)) := List.getElem?_eq_getElem (by omega)
    have hpl : primes[ix]'(by exact h12) < 2 ^ 6 := primes_small _ (List.getElem_mem _)
    have hml : make as < 2 ^ 301 := Nat.lt_of_le_of_lt (make_le as) (Nat.pow_lt_pow_right (by decide) (by omega))
    have l1 := lt_log2 (j := 6) hpl (by decide) (by decide)
    have l2 := lt_log2 (j := 301) hml (by decide) (by decide)
    refine ⟨p, _, ix, _, rfl, congrArg nI hix, SqL.of upd_same, atIn hpm, make as, primes[ix]'(by exact h12), rfl, rfl, by omega, ⟨as.set ix (as[ix]'(by omega) + 1), some (nI i), ?_, by rw [List.length_set]; exact hl, by rw [sum_set1 ha, hsum], fun j hj1 hj2 => ?_⟩, sm.trans (same_new np)⟩
    · rw [make_set hp ha]
      rfl
    · rw [List.getElem?_set_ne (by omega)]
      exact hz j hj1 hj2
  · rintro σ H3 ⟨⟨as, y, rfl, hl, hsum, hz⟩, sm⟩
    exact ⟨_, rfl, q _ H3 ⟨as, hl, rfl, by omega, hz⟩ sm⟩
end
end Fr
namespace Fr
open PySem PySem.Spec PyProof.Rows L2
section
variable {P : Program} {w : World} {K : PySem.W.Frag} {mg : Str → Option Value} {base : Heap}
/-! ### _law_fraction -/
def spFraction : Sp := fun vs H Q _ => ∃ m k : Nat, vs = [nI m, nI k] ∧ 1 ≤ k ∧ k ≤ 12 ∧ ∀ (f : Nat × Nat) (p : Addr) H', FracN k f → H p = none → Same H H' → H' p = some (.tup [nI f.1, nI f.2]) → Q (.ref p) H'
/-- rooms ahead of place i have nothing in common -/
structure Apart (k b c i : Nat) (as bs : List Nat) : Prop where
  la : as.length = 12
  lb : bs.length = 12
  sa : as.sum ≤ b
  sb : bs.sum ≤ c
  za : ∀ j, k ≤ j → j < 12 → as[j]? = some 0
  zb : ∀ j, k ≤ j → j < 12 → bs[j]? = some 0
  ap : ∀ j, j < i → as[j]? = some 0 ∨ bs[j]? = some 0
theorem set_zero {as : List Nat} {i j a : Nat} (h : as[j]? = some 0) (ha : as[i]? = some (a + 1)) : (as.set i a)[j]? = some 0 := by
  by_cases e : j = i
  · subst e
    rw [h] at ha
    cases ha
  · rw [List.getElem?_set_ne (Ne.symm e)]
    exact h
theorem Apart.down {k b c i a d : Nat} {as bs : List Nat} (h : Apart k b c i as bs) (ha : as[i]? = some (a + 1)) (hb : bs[i]? = some (d + 1)) : Apart k b c i (as.set i a) (bs.set i d) where
  la := by rw [List.length_set]; exact h.la
  lb := by rw [List.length_set]; exact h.lb
  sa := by have := sum_dec ha; have := h.sa; omega
  sb := by have := sum_dec hb; have := h.sb; omega
  za := fun j h1 h2 => set_zero (h.za j h1 h2) ha
  zb := fun j h1 h2 => set_zero (h.zb j h1 h2) hb
  ap := fun j hj => (h.ap j hj).elim (fun z => .inl (set_zero z ha)) fun z => .inr (set_zero z hb)
theorem Apart.up {k b c i : Nat} {as bs : List Nat} (h : Apart k b c i as bs) (hz : as[i]? = some 0 ∨ bs[i]? = some 0) : Apart k b c (i + 1) as bs where
  la := h.la
  lb := h.lb
  sa := h.sa
  sb := h.sb
  za := h.za
  zb := h.zb
  ap := fun j hj => by
    by_cases e : j = i
    · subst e
      exact hz
    · exact h.ap j (by omega)
theorem prime_log {p : Nat} (h : p ∈ primes) : p.log2 < 9000 := lt_log2 (k := 6) (primes_small p h) (by decide) (by decide)
theorem ok__law_fraction (T : Txt K mg) : Cal P w K mg base L2.CX0 3 "_law_fraction" ["more", "primes"] spFraction := by
  have c__law_primes := ok__law_primes (P := P) (w := w) (base := base) T
  have c__law_drawn := ok__law_drawn (P := P) (w := w) (base := base) T
  have c__law_some := ok__law_some (P := P) (w := w) (base := base) T
  refine Cal.mk0 T.d__law_fraction T.m__law_fraction sc__law_fraction (fun _ _ _ _ _ _ us hl => match us, hl with | [_, _], _ => rfl) (fun vs H Q E h => ?_) (fun cdv A outer s H vs Q E hr h => ?_)
  · obtain ⟨m, k, rfl, _⟩ := h
    rfl
  obtain ⟨m, k, rfl, hk1, hk2, q⟩ := h
  refine ⟨_, (pss_cons (ps_par (i := 2) (j := 3) (by rfl) sc__law_fraction.nd rfl rfl (by decide) rfl rfl (pa_cons (pe_cal c__law_some (hr.mono (by decide)) (by rfl) pass0 (pa_cons (pe_cal c__law_drawn (hr.mono (by decide)) (by rfl) pass0 (pa_cons (pv 0) (pa_cons pe_int pa_nil))) (pa_cons (pv 1) (pa_cons pe_int pa_nil)))) (pa_cons (pe_cal c__law_some (hr.mono (by decide)) (by rfl) pass0 (pa_cons (pe_cal c__law_drawn (hr.mono (by decide)) (by rfl) pass0 (pa_cons (pv 0) (pa_cons pe_int pa_nil))) (pa_cons (pv 1) (pa_cons pe_int pa_nil)))) pa_nil)) (by rfl))
      (pss_cons (ps_for PassesOwn.never rfl (piL rfl (pe_cal0 c__law_primes (hr.mono (by decide)) (by rfl) pass0)) (pg_name (i := 4) sc__law_fraction.nd rfl (.inl rfl)) (pss_one (ps_while PassesOwn.never (PW.pt (pw_and (pt_cmpR opN_eq (pe_op opN_mod (pv 2) (pv 4)) pe_int (nomark _)) (pw_and1 (pt_cmpR opN_eq (pe_op opN_mod (pv 3) (pv 4)) pe_int (nomark _))))) (pss_one (ps_par (i := 2) (j := 3) (by rfl) sc__law_fraction.nd rfl rfl (by decide) rfl rfl (pa_cons (pe_op opN_div (pv 2) (pv 4)) (pa_cons (pe_op opN_div (pv 3) (pv 4)) pa_nil)) (by rfl))))))
      (pss_one (ps_ret (pe_tup (pa_cons (pv 2) (pa_cons (pv 3) pa_nil))))))), ?_⟩
  refine ⟨_, rfl, m, 1, rfl, by decide, fun d1 _ => ⟨_, rfl, d1, k, 2, rfl, hk1, hk2, by decide, fun t H1 ht s1 => ?_⟩⟩
  refine ⟨_, rfl, m, 2, rfl, by decide, fun d2 _ => ⟨_, rfl, d2, k, 3, rfl, hk1, hk2, by decide, fun u H2 hu s2 => ⟨_, _, rfl, ?_⟩⟩⟩
  obtain ⟨as0, la, rfl, sa, za⟩ := ht
  obtain ⟨bs0, lb, rfl, sb, zb⟩ := hu
  have A0 : Apart k 2 3 0 as0 bs0 := ⟨la, lb, sa, sb, za, zb, fun j hj => absurd hj (by omega)⟩
  refine ⟨rfl, fun o no => ⟨o, rfl, ⟨_, SqL.of upd_same⟩, ?_⟩⟩
  refine for_it (walk_list (xs := primes.map nI)) (fun i σ H3 => (∃ as bs y, σ = [some (nI m), some (nI k), some (nI (make as)), some (nI (make bs)), y] ∧ Apart k 2 3 i as bs) ∧ H3 o = some (.lst (primes.map nI)) ∧ Same H H3) ⟨⟨as0, bs0, none, rfl, A0⟩, upd_same, (s1.trans s2).trans (same_new no)⟩ (fun i σ H3 _ p => SqL.of p.2.1) ?_ ?_
  · rintro i x σ H3 H4 hi ⟨⟨as, bs, y, rfl, hA⟩, ho, sm⟩ ⟨rfl, hx⟩
    rw [List.getElem?_map] at hx
    obtain ⟨p, hp, rfl⟩ := Option.map_eq_some_iff.mp hx
    have hpm : p ∈ primes := List.mem_of_getElem? hp
    have hp2 : 2 ≤ p := primes_two p hpm
    have hi12 : i < 12 := (List.getElem?_eq_some_iff.mp hp).1
    refine ⟨fun μ σ H5 => ∃ as bs, σ = [some (nI m), some (nI k), some (nI (make as)), some (nI (make bs)), some (nI p)] ∧ H5 = H4 ∧ Apart k 2 3 i as bs ∧ μ = as.sum, ⟨_, as, bs, rfl, rfl, hA, rfl⟩, ?_⟩
    rintro μ σ H5 ⟨as, bs, rfl, rfl, hA, rfl⟩
    have ga : as[i]? = some (as[i]'(by rw [hA.la]; exact hi12)) := List.getElem?_eq_getElem _
    have gb : bs[i]? = some (bs[i]'(by rw [hA.lb]; exact hi12)) := List.getElem?_eq_getElem _
    generalize as[i]'(by rw [hA.la]; exact hi12) = a at ga
    generalize bs[i]'(by rw [hA.lb]; exact hi12) = b at gb
    refine ⟨_, rfl, _, rfl, make as, p, rfl, rfl, by omega, _, 0, rfl, rfl, _, rfl, ?_⟩
    have out : (as[i]? = some 0 ∨ bs[i]? = some 0) → ∃ as' bs' y, [some (nI m), some (nI k), some (nI (make as)), some (nI (make bs)), some (nI p)] = [some (nI m), some (nI k), some (nI (make as')), some (nI (make bs')), y] ∧ Apart k 2 3 (i + 1) as' bs' := fun hz => ⟨as, bs, _, rfl, hA.up hz⟩
    by_cases h1 : make as % p = 0
    · rw [decide_eq_true h1]
      refine iteT ⟨_, rfl, _, rfl, make bs, p, rfl, rfl, by omega, _, 0, rfl, rfl, _, rfl, ?_⟩
      by_cases h2 : make bs % p = 0
      · rw [decide_eq_true h2]
        have a0 := (make_mod hA.la hp ga).mp h1
        have b0 := (make_mod hA.lb hp gb).mp h2
        obtain ⟨a', rfl⟩ : ∃ a', a = a' + 1 := ⟨a - 1, by omega⟩
        obtain ⟨b', rfl⟩ : ∃ b', b = b' + 1 := ⟨b - 1, by omega⟩
        refine iteT ⟨fun σ' H' => σ' = [some (nI m), some (nI k), some (nI (make (as.set i a'))), some (nI (make (bs.set i b'))), some (nI p)] ∧ H' = H5, ?_, ?_⟩
        · rintro σ' H' ⟨h3, h4⟩
          exact ⟨_, by have := sum_dec ga; omega, _, _, h3, h4, hA.down ga gb, rfl⟩
        · refine ⟨_, rfl, _, rfl, make as, p, rfl, rfl, ⟨by omega, prime_log hpm⟩, _, rfl, _, rfl, make bs, p, rfl, rfl, ⟨by omega, prime_log hpm⟩, _, _, rfl, ?_⟩
          refine ⟨?_, rfl⟩
          rw [← make_div hp ga, ← make_div hp gb]
          rfl
      · rw [decide_eq_false h2]
        refine iteF ⟨out (.inr ?_), ho, sm⟩
        rcases Nat.eq_zero_or_pos b with z | z
        · rw [gb, z]
        · exact absurd ((make_mod hA.lb hp gb).mpr z) h2
    · rw [decide_eq_false h1]
      refine iteF (iteF ⟨out (.inl ?_), ho, sm⟩)
      rcases Nat.eq_zero_or_pos a with z | z
      · rw [ga, z]
      · exact absurd ((make_mod hA.la hp ga).mpr z) h1
  · rintro σ H3 ⟨⟨as, bs, y, rfl, hA⟩, ho, sm⟩
    refine ⟨_, rfl, _, rfl, (by show 2 ≤ sizeLine; decide), fun p np => ?_⟩
    refine q (make as, make bs) p _ ⟨⟨as, hA.la, rfl, hA.sa, hA.za⟩, ⟨bs, hA.lb, rfl, hA.sb, hA.zb⟩, ?_⟩ (sm.free np) (sm.trans (same_new np)) upd_same
    refine make_cop fun i => ?_
    by_cases hi : i < 12
    · exact (hA.ap i hi).elim .inl fun z => .inr (.inl z)
    · exact .inr (.inr (by omega))
/-! ### _law_program -/
def spProgram (K : PySem.W.Frag) : Sp := fun vs H Q _ => ∃ m k : Nat, vs = [nI m, nI k] ∧ 1 ≤ k ∧ k ≤ 12 ∧ ∀ (l : Prog) (p : Addr) (xs : List V) H', (∀ f ∈ l, FracN k f) → l.length ≤ 6 → H p = none → Same H H' → H' p = some (.lst xs) → DpAll K H' xs (l.map fracD) → Q (.ref p) H'
theorem fracs_of {k : Nat} : ∀ {ds : List PyData}, (∀ d ∈ ds, ∃ f, d = fracD f ∧ FracN k f) → ∃ l : Prog, ds = l.map fracD ∧ ∀ f ∈ l, FracN k f
  | [], _ => ⟨[], rfl, fun f h => (nomatch h)⟩
  | d :: ds, h => by
    obtain ⟨f, rfl, hf⟩ := h d List.mem_cons_self
    obtain ⟨l, rfl, hl⟩ := fracs_of (ds := ds) fun e he => h e (List.mem_cons_of_mem _ he)
    refine ⟨f :: l, rfl, fun g hg => ?_⟩
    rcases List.mem_cons.mp hg with e | e
    · rw [e]
      exact hf
    · exact hl g e
theorem ok__law_program (T : Txt K mg) : Cal P w K mg base L2.CX0 4 "_law_program" ["more", "primes"] (spProgram K) := by
  have c__law_drawn := ok__law_drawn (P := P) (w := w) (base := base) T
  have c__law_fraction := ok__law_fraction (P := P) (w := w) (base := base) T
  refine Cal.mk0 T.d__law_program T.m__law_program sc__law_program (fun _ _ _ _ _ _ us hl => match us, hl with | [_, _], _ => rfl) (fun vs H Q E h => ?_) (fun cdv A outer s H vs Q E hr h => ?_)
  · obtain ⟨m, k, rfl, _⟩ := h
    rfl
  obtain ⟨m, k, rfl, hk1, hk2, q⟩ := h
  refine ⟨_, (pss_cons (ps_setLc (i := 2) (own := [("j", 3)]) rfl sc__law_program.nd rfl rfl (sw_true rfl rfl rfl (by decide +kernel)) (pi_range1 (by rfl) T.b_range (pa_cons (pe_op opN_mod (pv 0) (pe_ix (ixL rfl) (pe_lst (pa_cons pe_int (pa_cons pe_int pa_nil))) (pe_op opN_mod (pe_op opN_div (pv 0) pe_int) pe_int) (fun _ _ => rfl))) pa_nil)) (blkOk_by (own := [("j", 3)]) (N := ["more", "primes", "found", "j", "one"]) (sc := defScope s__law_program) (by decide +kernel)) (fun _ _ _ _ _ => (pg_name (i := 3) sc__law_program.nd rfl (.inl rfl))) (fun _ _ _ _ _ => pts_nil) (fun _ _ _ _ _ => (pe_cal c__law_fraction (hr.mono (by decide)) (by rfl) pass0 (pa_cons (pe_cal c__law_drawn (hr.mono (by decide)) (by rfl) pass0 (pa_cons (pv 0) (pa_cons (pv 3) pa_nil))) (pa_cons (pv 1) pa_nil)))))
      (pss_one (ps_ret (pe_lc (own := [("one", 4)]) rfl sc__law_program.nd (piL rfl (pv 2)) (blkOk_by (own := [("one", 4)]) (N := ["more", "primes", "found", "j", "one"]) (sc := defScope s__law_program) (by decide +kernel)) (fun _ _ _ _ _ => (pg_name (i := 4) sc__law_program.nd rfl (.inl rfl))) (fun _ _ _ _ _ => (pts_one (PW.pt (pw_or (pt_cmpR opN_gt (pe_ix (ixT rfl) (pv 4) pe_int (fun _ _ => rfl)) pe_int (nomark _)) (pw_or1 (pt_cmpR opN_eq (pe_op opN_mod (pe_op opN_div (pv 0) pe_int) pe_int) pe_int (nomark _))))))) (fun _ _ _ _ _ => (pv 4)))))), ?_⟩
  have h8 : (8 : Nat).log2 < 9000 := by decide
  have h64 : (64 : Nat).log2 < 9000 := by decide
  obtain ⟨c, hc, hc0, hc7⟩ : ∃ c : Nat, ([nI 4, nI 7])[m / 8 % 2]? = some (nI c) ∧ 0 < c ∧ c ≤ 7 := by
    have : m / 8 % 2 < 2 := Nat.mod_lt _ (by decide)
    match m / 8 % 2, this with
    | 0, _ => exact ⟨4, rfl, by decide, by decide⟩
    | 1, _ => exact ⟨7, rfl, by decide, by decide⟩
  refine ⟨_, rfl, (by show 2 ≤ sizeLine; decide), fun p4 np4 => ⟨_, rfl, m, 8, rfl, rfl, ⟨by decide, h8⟩, _, 2, rfl, rfl, by omega, p4, _, _, _, rfl, rfl, SqL.of upd_same, atIn hc, m, c, rfl, rfl, hc0, _, rfl, ?_, ?_, ?_⟩⟩
  · omega
  · have := Nat.mod_lt m hc0
    omega
  have s1 : Same H (upd H p4 (.lst [nI 4, nI 7])) := same_new np4
  intro D hD
  have en : (((m % c : Nat) : Int)).toNat = m % c := by omega
  have hmc : m % c ≤ 6 := by have := Nat.mod_lt m hc0; omega
  rw [en]
  refine lc_ex (K := K) walk_nats hD (by omega) (fun _ _ => trivial) (fun d => ∃ f, d = fracD f ∧ FracN k f) (fun d ⟨f, e, _⟩ => by rw [e]; exact noL_frac f) ?_ ?_
  · rintro i x H' H'' A B hi s' ⟨rfl, rfl⟩ hA hB
    refine ⟨rfl, _, rfl, _, rfl, (m : Int), i, rfl, by omega, fun d _ => ⟨_, rfl, d, k, rfl, hk1, hk2, fun f p H4 hf np s4 hp => ?_⟩⟩
    exact hA _ (fracD f) H4 ⟨f, rfl, hf⟩ s4 (.tup (SqT.of hp) (.cons (.int _) (.cons (.int _) .nil)))
  · intro H2 ys ds s2 hD2 hA hS hl
    have s12 := s1.trans s2
    refine ⟨_, rfl, D, rfl, ⟨_, SqL.of hD2⟩, fun D2 nD2 => ?_⟩
    have hyl := dps_len hA
    refine lc_ex (K := K) walk_list nD2 (by omega) (fun H' s' => s'.seq (SqL.of hD2)) (fun d => ∃ f, d = fracD f ∧ FracN k f) (fun d ⟨f, e, _⟩ => by rw [e]; exact noL_frac f) ?_ ?_
    · rintro i x H' H'' A B hi s' ⟨rfl, hx⟩ hA' hB
      obtain ⟨d, hd, hdp⟩ := dps_at2 (same_dps s' hA) hx
      obtain ⟨f, rfl, hf⟩ := hS d (List.mem_of_getElem? hd)
      obtain ⟨b, rfl, hb⟩ := frac_at hdp
      refine ⟨rfl, _, rfl, b, _, 1, _, rfl, rfl, hb, atI1, f.2, 1, rfl, rfl, _, rfl, ?_⟩
      have yes : tVar 4 [some (nI m), some (nI k), some (.ref D), none, some (.ref b)] H'' A := ⟨_, rfl, hA' _ _ _ ⟨f, rfl, hf⟩ (Same.refl _) hdp⟩
      by_cases h1 : 1 < f.2
      · rw [decide_eq_true h1]
        exact iteT (iteT yes)
      · rw [decide_eq_false h1]
        refine iteF ⟨_, rfl, m, 64, rfl, rfl, ⟨by decide, h64⟩, _, 4, rfl, rfl, by omega, _, 0, rfl, rfl, _, rfl, ?_⟩
        exact ite2 (fun _ => yes) (fun _ => hB _ (Same.refl _))
    · intro H3 zs es s3 hD3 hA3 hS3 hl3
      obtain ⟨l, rfl, hlF⟩ := fracs_of hS3
      rw [List.length_map] at hl3
      exact q l D2 zs H3 hlF (by omega) (s12.free nD2) (s12.trans s3) hD3 hA3
/-! ### _law_step -/
def spLawStep (K : PySem.W.Frag) : Sp := fun vs H Q _ => ∃ (v : V) (l : Prog) (n : Nat), vs = [v, nI n] ∧ Dp K H v (progD l) ∧ (∀ p ∈ l, 0 < p.2 ∧ p.1 < 2 ^ 20 ∧ p.2 < 2 ^ 20) ∧ n < 2 ^ 100000 ∧
  (lawStep l n = none → ∀ H', Same H H' → Q .non H') ∧ ∀ i m, lawStep l n = some (i, m) → ∀ p H', H p = none → Same H H' → H' p = some (.tup [nI i, nI m]) → Q (.ref p) H'
theorem lawStep_some {l : Prog} {n i : Nat} (hi : i < l.length) (h : n * (l[i]).1 % (l[i]).2 = 0) (hb : ∀ (j : Nat) (hj : j < l.length), j < i → n * (l[j]).1 % (l[j]).2 ≠ 0) : lawStep l n = some (i, n * (l[i]).1 / (l[i]).2) := by
  unfold lawStep
  have e : (l.findIdx? fun p => decide (n * p.1 % p.2 = 0)) = some i := by
    rw [List.findIdx?_eq_some_iff_getElem]
    refine ⟨hi, by simpa using h, fun j hj => ?_⟩
    have := hb j (by omega) hj
    simpa using this
  rw [e, Option.map_some, unAt_eq hi, upAt_eq hi]
theorem lawStep_none {l : Prog} {n : Nat} (h : ∀ (j : Nat) (hj : j < l.length), n * (l[j]).1 % (l[j]).2 ≠ 0) : lawStep l n = none := by
  unfold lawStep
  have e : (l.findIdx? fun p => decide (n * p.1 % p.2 = 0)) = none := by
    rw [List.findIdx?_eq_none_iff]
    intro p hp
    obtain ⟨j, hj, e⟩ := List.mem_iff_getElem.mp hp
    have := h j hj
    rw [e] at this
    simpa using this
  rw [e]
  rfl
end
end Fr
namespace Fr
open PySem PySem.Spec PyProof.Rows L2 LamX
section
variable {P : Program} {w : World} {K : PySem.W.Frag} {mg : Str → Option Value} {base : Heap}
abbrev words : List Str := ["BadMachine", "BadNumber", "BadProgram", "BadText", "TooGreat"]
theorem ok__law_word (T : Txt K mg) : Hl.WordP P w K mg base 1 (ga K "_law_word") (fdOf K ("_law_word", none)) (Nm K words) := by
  intro A outer s H args p D n Q hr hot hpin hcls hdict hn e0 hb q
  obtain ⟨hn, rfl⟩ := hn
  obtain ⟨C, hk, hv, hx⟩ := exc_of T.w_exc hn
  have hf : ∃ vs, p.2.data = .fields vs := by
    obtain ⟨_, vs, e, _⟩ := hot
    exact ⟨vs, e⟩
  refine Hl.run_hot (CX := L2.CX0) (mg := mg) (base := base) (us := [.ref p.1]) (vs := [.ref p.1]) T.d__law_word sc__law_word hr hpin e0 hb (.cons rfl .nil) rfl fun cdv hr => ?_
  refine ⟨_, PSs.nox (pss_cons (ps_set (i := 1) sc__law_word.nd rfl (.inl rfl) (pe_lst (pa_cons (pe_callB (Hl.call_isH C List.mem_cons_self hcls hdict hf) (by rfl) T.b_isinstance boot_isinstance (pa_cons (pv 0) (pa_cons (pe_glob (v := .ref (ga K "BadMachine")) (by rfl) T.m_BadMachine rfl) pa_nil))) (pa_cons (pe_callB (Hl.call_isH C List.mem_cons_self hcls hdict hf) (by rfl) T.b_isinstance boot_isinstance (pa_cons (pv 0) (pa_cons (pe_glob (v := .ref (ga K "BadNumber")) (by rfl) T.m_BadNumber rfl) pa_nil))) (pa_cons (pe_callB (Hl.call_isH C List.mem_cons_self hcls hdict hf) (by rfl) T.b_isinstance boot_isinstance (pa_cons (pv 0) (pa_cons (pe_glob (v := .ref (ga K "BadProgram")) (by rfl) T.m_BadProgram rfl) pa_nil))) (pa_cons (pe_callB (Hl.call_isH C List.mem_cons_self hcls hdict hf) (by rfl) T.b_isinstance boot_isinstance (pa_cons (pv 0) (pa_cons (pe_glob (v := .ref (ga K "BadText")) (by rfl) T.m_BadText rfl) pa_nil))) pa_nil))))))
      (pss_cons (ps_set (i := 1) sc__law_word.nd rfl (.inl rfl) (pe_op op_cat (pv 1) (pe_lst (pa_cons (pe_callB (Hl.call_isH C List.mem_cons_self hcls hdict hf) (by rfl) T.b_isinstance boot_isinstance (pa_cons (pv 0) (pa_cons (pe_glob (v := .ref (ga K "TooGreat")) (by rfl) T.m_TooGreat rfl) pa_nil))) pa_nil))))
      (pss_cons (ps_if (PW.pt (pw_or (pt_cmpR op_ne (Hl.pe_sumB (i := 1) ⟨p, hot, List.mem_cons_self⟩ (by rfl) T.b_sum T.b_int rfl (.inl rfl) rfl rfl rfl (by decide +kernel) (by decide +kernel) rfl (by decide +kernel) rfl rfl) pe_int (nomark _)) (pw_or1 (pt_not (pt_val (pe_callB (Hl.call_isH C List.mem_cons_self hcls hdict hf) (by rfl) T.b_isinstance boot_isinstance (pa_cons (pv 0) (pa_cons (pe_bltn (v := .ty "ValueError") (by rfl) T.b_ValueError (by rfl) rfl) pa_nil)))))))) (pss_one (ps_ret pe_str)) pss_nil)
      (pss_one (ps_ret (pe_ix (ixL rfl) (pe_lst (pa_cons pe_str (pa_cons pe_str (pa_cons pe_str (pa_cons pe_str (pa_cons pe_str pa_nil)))))) (bm rfl PySem.F.plainAttrs_list PySem.F.slot_list_index PySem.F.type_list_index mt_index (pv 1) (pa_cons pe_bl pa_nil)) (fun _ _ => rfl))))))), ?_⟩
  have k_BadMachine := hk "BadMachine" (by simp)
  have k_BadNumber := hk "BadNumber" (by simp)
  have k_BadProgram := hk "BadProgram" (by simp)
  have k_BadText := hk "BadText" (by simp)
  have k_TooGreat := hk "TooGreat" (by simp)
  have hn2 : n = "BadMachine" ∨ n = "BadNumber" ∨ n = "BadProgram" ∨ n = "BadText" ∨ n = "TooGreat" := by simpa using hn
  rcases hn2 with rfl | rfl | rfl | rfl | rfl
  · refine ⟨_, rfl, _, _, _, rfl, fun _ h => h, k_BadMachine, _, rfl, _, _, _, rfl, fun _ h => h, k_BadNumber, _, rfl, _, _, _, rfl, fun _ h => h, k_BadProgram, _, rfl, _, _, _, rfl, fun _ h => h, k_BadText, (by show 4 ≤ sizeLine; decide), fun a na => ?_⟩
    refine ⟨_, rfl, _, rfl, _, _, _, rfl, fun _ h => h, k_TooGreat, (by show 1 ≤ sizeLine; decide), fun b nb => ?_⟩
    have hab : a ≠ b := ne_of_none upd_same nb
    refine ⟨a, b, _, _, rfl, rfl, by rw [upd_ne hab, upd_same], upd_same, (by show 4 + 1 ≤ sizeLine; decide), fun c nc => ?_⟩
    have sH : Same H (upd (upd (upd H a (.lst [.bl ("BadMachine" == "BadMachine"), .bl ("BadMachine" == "BadNumber"), .bl ("BadMachine" == "BadProgram"), .bl ("BadMachine" == "BadText")])) b (.lst [.bl ("BadMachine" == "TooGreat")])) c (.lst [.bl ("BadMachine" == "BadMachine"), .bl ("BadMachine" == "BadNumber"), .bl ("BadMachine" == "BadProgram"), .bl ("BadMachine" == "BadText"), .bl ("BadMachine" == "TooGreat")])) := ((same_new na).trans (same_new nb)).trans (same_new nc)
    refine ⟨c, [true, false, false, false, false], rfl, SqL.of upd_same, ?_⟩
    refine ⟨rfl, _, rfl, iteF ?_⟩
    refine ⟨_, rfl, _, _, _, rfl, fun _ h => h, hv, _, rfl, iteF ?_⟩
    refine ⟨(by show 5 ≤ sizeLine; decide), fun d nd => ?_⟩
    refine ⟨_, rfl, .inl ⟨rfl, _, SqL.of ((same_new nd) _ _ upd_same)⟩, c, _, _, 0, .bl true, rfl, rfl, SqL.of ((same_new nd) _ _ upd_same), rfl, rfl, rfl, rfl, fun m z hm hz => ?_, ?_⟩
    · exact absurd hm (by omega)
    · exact ⟨d, _, 0, .str "BadMachine", rfl, rfl, SqL.of upd_same, atIn (i := 0) rfl, q _ (sH.trans (same_new nd))⟩
  · refine ⟨_, rfl, _, _, _, rfl, fun _ h => h, k_BadMachine, _, rfl, _, _, _, rfl, fun _ h => h, k_BadNumber, _, rfl, _, _, _, rfl, fun _ h => h, k_BadProgram, _, rfl, _, _, _, rfl, fun _ h => h, k_BadText, (by show 4 ≤ sizeLine; decide), fun a na => ?_⟩
    refine ⟨_, rfl, _, rfl, _, _, _, rfl, fun _ h => h, k_TooGreat, (by show 1 ≤ sizeLine; decide), fun b nb => ?_⟩
    have hab : a ≠ b := ne_of_none upd_same nb
    refine ⟨a, b, _, _, rfl, rfl, by rw [upd_ne hab, upd_same], upd_same, (by show 4 + 1 ≤ sizeLine; decide), fun c nc => ?_⟩
    have sH : Same H (upd (upd (upd H a (.lst [.bl ("BadNumber" == "BadMachine"), .bl ("BadNumber" == "BadNumber"), .bl ("BadNumber" == "BadProgram"), .bl ("BadNumber" == "BadText")])) b (.lst [.bl ("BadNumber" == "TooGreat")])) c (.lst [.bl ("BadNumber" == "BadMachine"), .bl ("BadNumber" == "BadNumber"), .bl ("BadNumber" == "BadProgram"), .bl ("BadNumber" == "BadText"), .bl ("BadNumber" == "TooGreat")])) := ((same_new na).trans (same_new nb)).trans (same_new nc)
    refine ⟨c, [false, true, false, false, false], rfl, SqL.of upd_same, ?_⟩
    refine ⟨rfl, _, rfl, iteF ?_⟩
    refine ⟨_, rfl, _, _, _, rfl, fun _ h => h, hv, _, rfl, iteF ?_⟩
    refine ⟨(by show 5 ≤ sizeLine; decide), fun d nd => ?_⟩
    refine ⟨_, rfl, .inl ⟨rfl, _, SqL.of ((same_new nd) _ _ upd_same)⟩, c, _, _, 1, .bl true, rfl, rfl, SqL.of ((same_new nd) _ _ upd_same), rfl, rfl, rfl, rfl, fun m z hm hz => ?_, ?_⟩
    · match m, hm with
      | 0, _ => cases hz; rfl
    · exact ⟨d, _, 1, .str "BadNumber", rfl, rfl, SqL.of upd_same, atIn (i := 1) rfl, q _ (sH.trans (same_new nd))⟩
  · refine ⟨_, rfl, _, _, _, rfl, fun _ h => h, k_BadMachine, _, rfl, _, _, _, rfl, fun _ h => h, k_BadNumber, _, rfl, _, _, _, rfl, fun _ h => h, k_BadProgram, _, rfl, _, _, _, rfl, fun _ h => h, k_BadText, (by show 4 ≤ sizeLine; decide), fun a na => ?_⟩
    refine ⟨_, rfl, _, rfl, _, _, _, rfl, fun _ h => h, k_TooGreat, (by show 1 ≤ sizeLine; decide), fun b nb => ?_⟩
    have hab : a ≠ b := ne_of_none upd_same nb
    refine ⟨a, b, _, _, rfl, rfl, by rw [upd_ne hab, upd_same], upd_same, (by show 4 + 1 ≤ sizeLine; decide), fun c nc => ?_⟩
    have sH : Same H (upd (upd (upd H a (.lst [.bl ("BadProgram" == "BadMachine"), .bl ("BadProgram" == "BadNumber"), .bl ("BadProgram" == "BadProgram"), .bl ("BadProgram" == "BadText")])) b (.lst [.bl ("BadProgram" == "TooGreat")])) c (.lst [.bl ("BadProgram" == "BadMachine"), .bl ("BadProgram" == "BadNumber"), .bl ("BadProgram" == "BadProgram"), .bl ("BadProgram" == "BadText"), .bl ("BadProgram" == "TooGreat")])) := ((same_new na).trans (same_new nb)).trans (same_new nc)
    refine ⟨c, [false, false, true, false, false], rfl, SqL.of upd_same, ?_⟩
    refine ⟨rfl, _, rfl, iteF ?_⟩
    refine ⟨_, rfl, _, _, _, rfl, fun _ h => h, hv, _, rfl, iteF ?_⟩
    refine ⟨(by show 5 ≤ sizeLine; decide), fun d nd => ?_⟩
    refine ⟨_, rfl, .inl ⟨rfl, _, SqL.of ((same_new nd) _ _ upd_same)⟩, c, _, _, 2, .bl true, rfl, rfl, SqL.of ((same_new nd) _ _ upd_same), rfl, rfl, rfl, rfl, fun m z hm hz => ?_, ?_⟩
    · match m, hm with
      | 0, _ => cases hz; rfl
      | 1, _ => cases hz; rfl
    · exact ⟨d, _, 2, .str "BadProgram", rfl, rfl, SqL.of upd_same, atIn (i := 2) rfl, q _ (sH.trans (same_new nd))⟩
  · refine ⟨_, rfl, _, _, _, rfl, fun _ h => h, k_BadMachine, _, rfl, _, _, _, rfl, fun _ h => h, k_BadNumber, _, rfl, _, _, _, rfl, fun _ h => h, k_BadProgram, _, rfl, _, _, _, rfl, fun _ h => h, k_BadText, (by show 4 ≤ sizeLine; decide), fun a na => ?_⟩
    refine ⟨_, rfl, _, rfl, _, _, _, rfl, fun _ h => h, k_TooGreat, (by show 1 ≤ sizeLine; decide), fun b nb => ?_⟩
    have hab : a ≠ b := ne_of_none upd_same nb
    refine ⟨a, b, _, _, rfl, rfl, by rw [upd_ne hab, upd_same], upd_same, (by show 4 + 1 ≤ sizeLine; decide), fun c nc => ?_⟩
    have sH : Same H (upd (upd (upd H a (.lst [.bl ("BadText" == "BadMachine"), .bl ("BadText" == "BadNumber"), .bl ("BadText" == "BadProgram"), .bl ("BadText" == "BadText")])) b (.lst [.bl ("BadText" == "TooGreat")])) c (.lst [.bl ("BadText" == "BadMachine"), .bl ("BadText" == "BadNumber"), .bl ("BadText" == "BadProgram"), .bl ("BadText" == "BadText"), .bl ("BadText" == "TooGreat")])) := ((same_new na).trans (same_new nb)).trans (same_new nc)
    refine ⟨c, [false, false, false, true, false], rfl, SqL.of upd_same, ?_⟩
    refine ⟨rfl, _, rfl, iteF ?_⟩
    refine ⟨_, rfl, _, _, _, rfl, fun _ h => h, hv, _, rfl, iteF ?_⟩
    refine ⟨(by show 5 ≤ sizeLine; decide), fun d nd => ?_⟩
    refine ⟨_, rfl, .inl ⟨rfl, _, SqL.of ((same_new nd) _ _ upd_same)⟩, c, _, _, 3, .bl true, rfl, rfl, SqL.of ((same_new nd) _ _ upd_same), rfl, rfl, rfl, rfl, fun m z hm hz => ?_, ?_⟩
    · match m, hm with
      | 0, _ => cases hz; rfl
      | 1, _ => cases hz; rfl
      | 2, _ => cases hz; rfl
    · exact ⟨d, _, 3, .str "BadText", rfl, rfl, SqL.of upd_same, atIn (i := 3) rfl, q _ (sH.trans (same_new nd))⟩
  · refine ⟨_, rfl, _, _, _, rfl, fun _ h => h, k_BadMachine, _, rfl, _, _, _, rfl, fun _ h => h, k_BadNumber, _, rfl, _, _, _, rfl, fun _ h => h, k_BadProgram, _, rfl, _, _, _, rfl, fun _ h => h, k_BadText, (by show 4 ≤ sizeLine; decide), fun a na => ?_⟩
    refine ⟨_, rfl, _, rfl, _, _, _, rfl, fun _ h => h, k_TooGreat, (by show 1 ≤ sizeLine; decide), fun b nb => ?_⟩
    have hab : a ≠ b := ne_of_none upd_same nb
    refine ⟨a, b, _, _, rfl, rfl, by rw [upd_ne hab, upd_same], upd_same, (by show 4 + 1 ≤ sizeLine; decide), fun c nc => ?_⟩
    have sH : Same H (upd (upd (upd H a (.lst [.bl ("TooGreat" == "BadMachine"), .bl ("TooGreat" == "BadNumber"), .bl ("TooGreat" == "BadProgram"), .bl ("TooGreat" == "BadText")])) b (.lst [.bl ("TooGreat" == "TooGreat")])) c (.lst [.bl ("TooGreat" == "BadMachine"), .bl ("TooGreat" == "BadNumber"), .bl ("TooGreat" == "BadProgram"), .bl ("TooGreat" == "BadText"), .bl ("TooGreat" == "TooGreat")])) := ((same_new na).trans (same_new nb)).trans (same_new nc)
    refine ⟨c, [false, false, false, false, true], rfl, SqL.of upd_same, ?_⟩
    refine ⟨rfl, _, rfl, iteF ?_⟩
    refine ⟨_, rfl, _, _, _, rfl, fun _ h => h, hv, _, rfl, iteF ?_⟩
    refine ⟨(by show 5 ≤ sizeLine; decide), fun d nd => ?_⟩
    refine ⟨_, rfl, .inl ⟨rfl, _, SqL.of ((same_new nd) _ _ upd_same)⟩, c, _, _, 4, .bl true, rfl, rfl, SqL.of ((same_new nd) _ _ upd_same), rfl, rfl, rfl, rfl, fun m z hm hz => ?_, ?_⟩
    · match m, hm with
      | 0, _ => cases hz; rfl
      | 1, _ => cases hz; rfl
      | 2, _ => cases hz; rfl
      | 3, _ => cases hz; rfl
    · exact ⟨d, _, 4, .str "TooGreat", rfl, rfl, SqL.of upd_same, atIn (i := 4) rfl, q _ (sH.trans (same_new nd))⟩
abbrev lams : List Str := ["_law_is_right", "law"]
theorem told {X : Cx} (T : Txt X.K X.mg) {x : Str} (hx : x ∈ lams) (hB : TabX X.K X.mg X.base lams) (hcode : X.env.code = .ref (He.codeOf X.K (x, none))) (hq : X.env.qual = x ++ ".<locals>.") {k : Nat} {params : Arguments} {body : Expr} {scope : Scope} {t : XK → TE} {p lpos pos : Pos}
    (hgT : Gl X "_law_told") (hr : Room (k + 2) X.A) (L : LamS X.env.scope scope) (hdef : defaultsOf params X.env = ([], []))
    (hbind : ∀ (q : Str) (cl : List (Str × Addr)) (pm cv ctv : Value), bindArgs (PySem.W.kla_fn "<lambda>" q params body scope cl pm cv ctv) ⟨[], []⟩ = pure [])
    (hbody : ∀ (A : Around) (outer : List Env) (s : Shared) (H : Hp) (E : XK) (f c' : Addr), Room k (A.deeper (lamEnv X scope s.heap.objs.size f c')) → PE (Hl.lamN X A outer s H E scope f c') body (t E)) :
    PE X (.Call (.Name "_law_told" p) [.Lambda params body scope lpos] [] pos) (Hl.tTold (Tb X.K lams) (Nm X.K words) t) := by
  refine Hl.pe_told (c := (He.cT X.K (x, none)).1) (P := (He.cT X.K (x, none)).2) T.d__law_told rfl sc__law_told rfl rfl hgT T.m__law_told (T.d__law_told.bindsN (fun _ _ _ _ _ _ us hl => match us, hl with | [_], _ => rfl)) T.m_RowError rfl T.m__law_word rfl T.d__law_word.kp
    (T.d__law_word.bindsN (fun _ _ _ _ _ _ us hl => match us, hl with | [_], _ => rfl)) (ok__law_word T) (fun D n h => ?_) (hB x hx) hcode ?_ ?_ hr (by omega) L hdef hbind hbody
  · obtain ⟨hn, rfl⟩ := h
    exact (exc_of T.w_exc hn).2.2.2
  · rw [hq]
    exact tb_mem hx
  · rw [hq]
    exact tb_u T.w_tab hx
end
end Fr
namespace Fr
open PySem PySem.Spec PyProof.Rows L2
theorem rooms_getD (n i : Nat) (hi : i < 12) : ((rooms n).map nI).getD i .non = nI (rm n i) := by
  unfold rm
  rw [List.getD_eq_getElem?_getD, List.getD_eq_getElem?_getD, List.getElem?_map, List.getElem?_eq_getElem (by rw [rooms_len]; exact hi)]
  rfl
theorem rm_le {n : Nat} (h : isNum n = true) (r : Nat) : rm n r ≤ 400 := by
  unfold rm
  rw [List.getD_eq_getElem?_getD]
  cases e : (rooms n)[r]? with
  | none => exact Nat.zero_le _
  | some a => exact (isNum_iff.mp h).2.2 a (List.mem_of_getElem? e)
theorem row22 {n u i : Nat} (hi : i < 12) : Zn.rowAt i [(rooms n).map nI, (rooms u).map nI] = [nI (rm n i), nI (rm u i)] := by
  show [((rooms n).map nI).getD i .non, ((rooms u).map nI).getD i .non] = _
  rw [rooms_getD n i hi, rooms_getD u i hi]
end Fr
namespace Fr
open PySem PySem.Spec PyProof.Rows L2
/-! ### data that may be held against one another -/
def Shp (k : Nat) (d : PyData) : Prop := d.canLay0 = true ∧ d.depth ≤ k
theorem Shp.mono {k j : Nat} {d : PyData} (h : Shp k d) (hk : k ≤ j) : Shp j d := ⟨h.1, Nat.le_trans h.2 hk⟩
theorem Shp.int {i : Int} {k : Nat} : Shp k (.int i) := ⟨by simp [PyData.canLay0], by simp [PyData.depth]⟩
theorem Shp.bool {i : Bool} {k : Nat} : Shp k (.bool i) := ⟨by simp [PyData.canLay0], by simp [PyData.depth]⟩
theorem Shp.non {k : Nat} : Shp k .none := ⟨by simp [PyData.canLay0], by simp [PyData.depth]⟩
theorem Shp.str {x : Str} {k : Nat} (h : PyData.strOk x = true) : Shp k (.str x) := ⟨by simp [PyData.canLay0, h], by simp [PyData.depth]⟩
theorem shp_all {k : Nat} : ∀ {ds : List PyData}, (∀ d ∈ ds, Shp k d) → PyData.canLayAll0 ds = true ∧ PyData.depthAll ds ≤ k
  | [], _ => ⟨by simp [PyData.canLayAll0], by simp [PyData.depthAll]⟩
  | d :: ds, h => by
    have h1 := h d List.mem_cons_self
    have h2 := shp_all fun e he => h e (List.mem_cons_of_mem _ he)
    refine ⟨?_, ?_⟩
    · simp only [PyData.canLayAll0, h1.1, h2.1, Bool.and_self]
    · simp only [PyData.depthAll]
      exact Nat.max_le.mpr ⟨h1.2, h2.2⟩
theorem Shp.lst {k : Nat} {ds : List PyData} (h : ∀ d ∈ ds, Shp k d) : Shp (k + 1) (.list ds) := by
  have := shp_all h
  exact ⟨by simp only [PyData.canLay0]; exact this.1, by simp only [PyData.depth]; exact Nat.succ_le_succ this.2⟩
theorem Shp.tup {k : Nat} {ds : List PyData} (h : ∀ d ∈ ds, Shp k d) : Shp (k + 1) (.tuple ds) := by
  have := shp_all h
  exact ⟨by simp only [PyData.canLay0]; exact this.1, by simp only [PyData.depth]; exact Nat.succ_le_succ this.2⟩
theorem Shp.ok {k : Nat} {d : PyData} (h : Shp k d) (hk : k ≤ 64) : SeqAt.shaped d = true := by
  unfold SeqAt.shaped
  rw [h.1, decide_eq_true (Nat.le_trans h.2 hk)]
  rfl
theorem Shp.nil {k : Nat} : ∀ d ∈ ([] : List PyData), Shp k d := fun _ h => nomatch h
theorem Shp.cons {k : Nat} {d : PyData} {ds : List PyData} (h : Shp k d) (t : ∀ e ∈ ds, Shp k e) : ∀ e ∈ d :: ds, Shp k e := fun e he => by
  rcases List.mem_cons.mp he with rfl | z
  · exact h
  · exact t e z
theorem Shp.map {α : Type} {k : Nat} {f : α → PyData} {l : List α} (h : ∀ a ∈ l, Shp k (f a)) : ∀ e ∈ l.map f, Shp k e := fun e he => by
  obtain ⟨a, ha, rfl⟩ := List.mem_map.mp he
  exact h a ha
theorem Shp.opt {k : Nat} (o : Option Nat) : Shp k (optD o) := by
  cases o with
  | none => exact .non
  | some a => exact .int
theorem Shp.frac {k : Nat} (f : Nat × Nat) : Shp (k + 1) (fracD f) := .tup (.cons .int (.cons .int .nil))
theorem Shp.prog {k : Nat} (l : Prog) : Shp (k + 2) (progD l) := .lst (.map fun f _ => .frac f)
theorem Shp.nats {k : Nat} (ns : List Nat) : ∀ e ∈ ns.map nD, Shp k e := .map fun _ _ => .int
/-- held against the same -/
def rNeS (K : PySem.W.Frag) : R2 := fun x y H Q => ∃ d, Dp K H x d ∧ Dp K H y d ∧ Shp 60 d ∧ Q (.bl false) H
def rEqS (K : PySem.W.Frag) : R2 := fun x y H Q => ∃ d, Dp K H x d ∧ Dp K H y d ∧ Shp 60 d ∧ Q (.bl true) H
section
variable {X : Cx} {K : PySem.W.Frag}
theorem neS (e : X.K = K) (hu : X.A.units + 64 < cLine) : OpR X (compareOp .NotEq) (rNeS K) := by
  intro pins s σ H x y v u Q I rx ry h
  obtain ⟨d, h1, h2, h3, q⟩ := h
  refine neD e hu pins s σ H x y v u Q I rx ry ⟨d, d, h1, h2, h3.ok (by decide), h3.ok (by decide), ?_⟩
  rw [SeqAt.eqv_refl _ h3.1]
  exact q
theorem eqS (e : X.K = K) (hu : X.A.units + 64 < cLine) : OpR X (compareOp .Eq) (rEqS K) := by
  intro pins s σ H x y v u Q I rx ry h
  obtain ⟨d, h1, h2, h3, q⟩ := h
  refine eqD e hu pins s σ H x y v u Q I rx ry ⟨d, d, h1, h2, h3.ok (by decide), h3.ok (by decide), ?_⟩
  rw [SeqAt.eqv_refl _ h3.1]
  exact q
/-- a list held against the empty one -/
def rNeE (K : PySem.W.Frag) : R2 := fun x y H Q => ∃ ds, Dp K H x (.list ds) ∧ Dp K H y (.list []) ∧ (∀ d ∈ ds, Shp 50 d) ∧ Q (.bl (!ds.isEmpty)) H
theorem neE (e : X.K = K) (hu : X.A.units + 64 < cLine) : OpR X (compareOp .NotEq) (rNeE K) := by
  intro pins s σ H x y v u Q I rx ry h
  obtain ⟨ds, h1, h2, h3, q⟩ := h
  refine neD e hu pins s σ H x y v u Q I rx ry ⟨_, _, h1, h2, (Shp.lst h3).ok (by decide), (Shp.lst (k := 0) Shp.nil).ok (by decide), ?_⟩
  cases ds with
  | nil => exact q
  | cons d ds => exact q
end
theorem row33 {n u v i : Nat} (hi : i < 12) : Zn.rowAt i [(rooms n).map nI, (rooms u).map nI, (rooms v).map nI] = [nI (rm n i), nI (rm u i), nI (rm v i)] := by
  show [((rooms n).map nI).getD i .non, ((rooms u).map nI).getD i .non, ((rooms v).map nI).getD i .non] = _
  rw [rooms_getD n i hi, rooms_getD u i hi, rooms_getD v i hi]
def rEqE (K : PySem.W.Frag) : R2 := fun x y H Q => ∃ ds, Dp K H x (.list ds) ∧ Dp K H y (.list []) ∧ (∀ d ∈ ds, Shp 50 d) ∧ Q (.bl ds.isEmpty) H
theorem eqE {X : Cx} {K : PySem.W.Frag} (e : X.K = K) (hu : X.A.units + 64 < cLine) : OpR X (compareOp .Eq) (rEqE K) := by
  intro pins s σ H x y v u Q I rx ry h
  obtain ⟨ds, h1, h2, h3, q⟩ := h
  refine eqD e hu pins s σ H x y v u Q I rx ry ⟨_, _, h1, h2, (Shp.lst h3).ok (by decide), (Shp.lst (k := 0) Shp.nil).ok (by decide), ?_⟩
  cases ds with
  | nil => exact q
  | cons d ds => exact q
theorem maxN_rm {x : Nat} : 400 < maxN (rooms x) ↔ ∃ r, r < 12 ∧ 400 < rm x r := by
  constructor
  · intro h
    have h1 := maxN_mem (rooms_ne x)
    obtain ⟨r, hr, e⟩ := List.mem_iff_getElem.mp h1
    rw [rooms_len] at hr
    refine ⟨r, hr, ?_⟩
    unfold rm
    rw [List.getD_eq_getElem?_getD, List.getElem?_eq_getElem (by rw [rooms_len]; exact hr), e]
    exact h
  · rintro ⟨r, hr, h⟩
    unfold rm at h
    rw [List.getD_eq_getElem?_getD, List.getElem?_eq_getElem (by rw [rooms_len]; exact hr)] at h
    exact Nat.lt_of_lt_of_le h (maxN_le (List.getElem_mem _))
theorem sum_ints : ∀ ns : List Nat, (ns.map fun (x : Nat) => (x : Int)).sum = ((ns.sum : Nat) : Int)
  | [] => rfl
  | n :: ns => by
    rw [List.map_cons, List.sum_cons, List.sum_cons, sum_ints ns]
    omega
theorem dp_tup {K : PySem.W.Frag} {H : Hp} {v : V} {ds : List PyData} (h : Dp K H v (.tuple ds)) : ∃ (a : Addr) (xs : List V), v = .ref a ∧ SqT K H a xs ∧ DpAll K H xs ds := by
  cases h with
  | @tup a xs _ hs ha => exact ⟨a, xs, rfl, hs, ha⟩
theorem dp_lst {K : PySem.W.Frag} {H : Hp} {v : V} {ds : List PyData} (h : Dp K H v (.list ds)) : ∃ (a : Addr) (xs : List V), v = .ref a ∧ SqL K H a xs ∧ DpAll K H xs ds := by
  cases h with
  | @lst a xs _ hs ha => exact ⟨a, xs, rfl, hs, ha⟩
theorem dp_two {K : PySem.W.Frag} {H : Hp} {v : V} {d e : PyData} (h : Dp K H v (.tuple [d, e])) : ∃ (a : Addr) (x y : V), v = .ref a ∧ SqT K H a [x, y] ∧ Dp K H x d ∧ Dp K H y e := by
  obtain ⟨a, xs, rfl, hs, ha⟩ := dp_tup h
  cases ha with
  | cons h1 h2 => cases h2 with
    | cons h3 h4 => cases h4 with
      | nil => exact ⟨a, _, _, rfl, hs, h1, h3⟩
theorem dp_optV {K : PySem.W.Frag} {H : Hp} {v : V} {o : Option Nat} (h : Dp K H v (optD o)) : v = optV o := by
  cases o with
  | none => cases h; rfl
  | some a => cases h; rfl
theorem rm_one (r : Nat) : rm 1 r = 0 := by
  have := rm_pow (a := 2) (by decide) r 0
  simpa using this
theorem count_yes {m b : Nat} (h : m ≤ b) : isCountD 0 b (nD m) = true := by
  show (decide ((0 : Int) ≤ (m : Int)) && decide ((m : Int) ≤ (b : Int))) = true
  rw [decide_eq_true (by omega), decide_eq_true (by omega)]
  rfl
/-- a written list, new -/
def tDatN (K : PySem.W.Frag) (ds : List PyData) : TE := fun _ H Q => ∀ p vs H', Same H H' → H' p = some (.lst vs) → DpAll K H' vs ds → Q (.ref p) H'
theorem dl_lstN {X : Cx} {K : PySem.W.Frag} {pos : Pos} {es : List Expr} {ds : List PyData} (hl : ds.length ≤ 1000) (h : PA X es (tDats K ds)) : PE X (.List es pos) (tDatN K ds) :=
  PE.imp (pe_lst h) fun σ H Q q vs H1 s1 h1 => ⟨by rw [dps_len h1]; exact Nat.le_trans hl (by decide), fun p np => q p vs _ (s1.trans (same_new np)) upd_same (same_dps (same_new np) h1)⟩
theorem left_1 : left 1 = 1 := by
  have := left_pow (a := 1) (by decide)
  rw [left_def]
  decide +kernel
/-! ### tuples by their data -/
def cutD (ds : List PyData) (lo hi : Option Int) : List PyData := (ds.drop (HT.sIx ds.length 0 lo)).take (HT.sIx ds.length ds.length hi - HT.sIx ds.length 0 lo)
def rSlD (K : PySem.W.Frag) : V → Option Int → Option Int → Hp → VK → Prop := fun x lo hi H Q => ∃ ds, Dp K H x (.tuple ds) ∧ ∀ v H', Same H H' → Dp K H' v (.tuple (cutD ds lo hi)) → Q v H'
theorem slD {X : Cx} {K : PySem.W.Frag} (e : X.K = K) : SlR X (rSlD K) := by
  subst e
  intro pins s σ H x v vl vu lo hi sl Q I rx hs pl pu h
  obtain ⟨ds, hd, q⟩ := h
  obtain ⟨a, xs, rfl, hx, ha⟩ := dp_tup hd
  have hlen := dps_len ha
  refine sl_tupA pins s σ H _ v vl vu lo hi sl Q I rx hs pl pu ⟨a, xs, rfl, hx, fun hw => ?_, fun _ p np => ?_⟩
  · refine q _ H (Same.refl H) ?_
    unfold cutD
    rw [← hlen, hw.1, hw.2, List.drop_zero, Nat.sub_zero, List.take_of_length_le (by omega)]
    exact .tup hx ha
  · refine q _ _ (same_new np) (.tup (SqT.of upd_same) ?_)
    unfold cutV cutD
    rw [← hlen]
    exact dps_take _ (dps_drop _ (same_dps (same_new np) ha))
def rCatD (K : PySem.W.Frag) : R2 := fun x y H Q => ∃ ds es, Dp K H x (.tuple ds) ∧ Dp K H y (.tuple es) ∧ ds.length + es.length ≤ 1000 ∧ ∀ v H', Same H H' → Dp K H' v (.tuple (ds ++ es)) → Q v H'
theorem catD {X : Cx} {K : PySem.W.Frag} (e : X.K = K) : OpR X (binaryOp .Add) (rCatD K) := by
  subst e
  intro pins s σ H x y v u Q I rx ry h
  obtain ⟨ds, es, hd, he, hl, q⟩ := h
  obtain ⟨a, xs, rfl, hx, ha⟩ := dp_tup hd
  obtain ⟨b, ys, rfl, hy, hb⟩ := dp_tup he
  have h1 := dps_len ha
  have h2 := dps_len hb
  refine op_catA pins s σ H _ _ v u Q I rx ry ⟨a, b, xs, ys, rfl, rfl, hx, hy, Nat.le_trans (show xs.length + ys.length ≤ 1000 by omega) (by decide), fun z => ?_, fun _ z => ?_, fun _ _ p np => ?_⟩
  · subst z
    have : ds = [] := List.length_eq_zero_iff.mp (by rw [← h1]; rfl)
    subst this
    exact q _ H (Same.refl H) he
  · subst z
    have : es = [] := List.length_eq_zero_iff.mp (by rw [← h2]; rfl)
    subst this
    rw [List.append_nil] at q
    exact q _ H (Same.refl H) hd
  · exact q _ _ (same_new np) (.tup (SqT.of upd_same) (dps_app (same_dps (same_new np) ha) (same_dps (same_new np) hb)))
theorem cutD_from (ds : List PyData) (i : Nat) : cutD ds (some (i : Int)) none = ds.drop i := by
  unfold cutD
  rw [show HT.sIx ds.length 0 (some (i : Int)) = min i ds.length from HT.sIx_nat ds.length 0 i, HT.sIx_none]
  rcases Nat.le_total i ds.length with h | h
  · rw [Nat.min_eq_left h, List.take_of_length_le (by rw [List.length_drop]; exact Nat.le_refl _)]
  · rw [Nat.min_eq_right h, List.drop_of_length_le h, List.drop_length, List.take_nil]
theorem cutD_to (ds : List PyData) (i : Nat) : cutD ds none (some (i : Int)) = ds.take i := by
  unfold cutD
  rw [show HT.sIx ds.length ds.length (some (i : Int)) = min i ds.length from HT.sIx_nat ds.length ds.length i, HT.sIx_none]
  rw [List.drop_zero, Nat.sub_zero]
  rcases Nat.le_total i ds.length with h | h
  · rw [Nat.min_eq_left h]
  · rw [Nat.min_eq_right h, List.take_of_length_le (Nat.le_refl _), List.take_of_length_le h]
end Fr
namespace Fr
open PySem PySem.Spec PyProof.Rows L2 LamX
/-! ### the world goes on: all but tables stays, the tables are good -/
structure Stp (T : List (Addr × Str)) (H H' : Hp) : Prop where
  e : ExtN H H'
  t : Tabs T H'
theorem Stp.same {T : List (Addr × Str)} {H H' H'' : Hp} (a : Stp T H H') (s : Same H' H'') : Stp T H H'' := ⟨a.e.trans (ext_same s), ext_tabs a.t s⟩
theorem Stp.told {T : List (Addr × Str)} {H H' H'' : Hp} (a : Stp T H H') (e : ExtN H' H'') (t : Tabs T H'') : Stp T H H'' := ⟨a.e.trans e, t⟩
theorem Stp.trans {T : List (Addr × Str)} {H H' H'' : Hp} (a : Stp T H H') (b : Stp T H' H'') : Stp T H H'' := ⟨a.e.trans b.e, b.t⟩
theorem Stp.refl {T : List (Addr × Str)} {H : Hp} (t : Tabs T H) : Stp T H H := ⟨ExtN.refl H, t⟩
theorem ext_lst {H H' : Hp} {a : Addr} {xs : List V} (e : ExtN H H') (h : H a = some (.lst xs)) : H' a = some (.lst xs) := e _ _ h (fun _ z => by cases z)
theorem ext_tup {H H' : Hp} {a : Addr} {xs : List V} (e : ExtN H H') (h : H a = some (.tup xs)) : H' a = some (.tup xs) := e _ _ h (fun _ z => by cases z)
theorem xtold {K : PySem.W.Frag} {n : Str} {Q : VK} {H' : Hp} (hn : n ∈ words) (q : ∀ H'', Same H' H'' → Q (.str n) H'') : Hl.XTold (Nm K words) Q (.ref (ga K n)) none H' := ⟨_, n, rfl, rfl, ⟨hn, rfl⟩, q⟩
/-- the texts of the classes -/
theorem strOk_BN : PyData.strOk "BadNumber" = true := by decide +kernel
theorem strOk_BP : PyData.strOk "BadProgram" = true := by decide +kernel
theorem strOk_TG : PyData.strOk "TooGreat" = true := by decide +kernel
theorem strOk_BM : PyData.strOk "BadMachine" = true := by decide +kernel
theorem strOk_BT : PyData.strOk "BadText" = true := by decide +kernel
theorem strOk_No : PyData.strOk "Nothing" = true := by decide +kernel
theorem pow_small {b : Nat} (h : b ≤ 1000) : ((2 : Nat) ^ b).log2 < 1001 := by
  rw [Nat.log2_two_pow]
  omega
theorem tabs_put {T : List (Addr × Str)} {H : Hp} {p : Addr} {xs : List V} {o : HO} (t : Tabs T H) (h : H p = some (.lst xs)) : Tabs T (upd H p o) := fun q hq => by
  obtain ⟨ps, h1, h2, h3⟩ := t q hq
  refine ⟨ps, by rw [upd_ne (ne_of h1 h (by intro z; cases z))]; exact h1, h2, fun pos cv hc => ?_⟩
  obtain ⟨c, e1, e2⟩ := h3 pos cv hc
  exact ⟨c, e1, by rw [upd_ne (ne_of e2 h (by intro z; cases z))]; exact e2⟩
/-- a list of one's own, that no one else has -/
structure Own (T : List (Addr × Str)) (K : PySem.W.Frag) (H0 : Hp) (p : Addr) (ds : List PyData) (H : Hp) : Prop where
  st : Stp T H0 H
  ap : ∀ o, H0 p = some o → (∀ ps, o ≠ .tbl ps) → False
  lst : ∃ vs, H p = some (.lst vs) ∧ DpAll K H vs ds
  no : noLs ds = true
theorem Own.new {T : List (Addr × Str)} {K : PySem.W.Frag} {H0 H : Hp} {p : Addr} {ds : List PyData} {vs : List V} (a : Stp T H0 H) (np : H p = none) (h : DpAll K H vs ds) (no : noLs ds = true) : Own T K H0 p ds (upd H p (.lst vs)) :=
  ⟨a.same (same_new np), (fun o h1 h2 => by
    have := a.e _ _ h1 h2
    rw [np] at this
    cases this), ⟨vs, upd_same, same_dps (same_new np) h⟩, no⟩
theorem Own.go {T : List (Addr × Str)} {K : PySem.W.Frag} {H0 H H' : Hp} {p : Addr} {ds : List PyData} (a : Own T K H0 p ds H) (e : ExtN H H') (t : Tabs T H') : Own T K H0 p ds H' := by
  obtain ⟨vs, h1, h2⟩ := a.lst
  exact ⟨a.st.told e t, a.ap, ⟨vs, ext_lst e h1, ext_dps e h2⟩, a.no⟩
theorem Own.same {T : List (Addr × Str)} {K : PySem.W.Frag} {H0 H H' : Hp} {p : Addr} {ds : List PyData} (a : Own T K H0 p ds H) (s : Same H H') : Own T K H0 p ds H' := a.go (ext_same s) (ext_tabs a.st.t s)
theorem Own.put {T : List (Addr × Str)} {K : PySem.W.Frag} {H0 H : Hp} {p : Addr} {ds : List PyData} {d : PyData} {y : V} {vs : List V} (a : Own T K H0 p ds H) (h : H p = some (.lst vs)) (hd : Dp K H y d) (no : noL d = true) : Own T K H0 p (ds ++ [d]) (upd H p (.lst (vs ++ [y]))) := by
  obtain ⟨vs', h1, h2⟩ := a.lst
  rw [h] at h1
  cases h1
  refine ⟨⟨fun b o h1 h3 => ?_, tabs_put a.st.t h⟩, a.ap, ⟨_, upd_same, app_dp h h2 a.no hd no⟩, by rw [noLs_app, a.no, noLs, no]; simp [noLs]⟩
  rw [upd_ne fun e => a.ap o (by rw [← e]; exact h1) h3]
  exact a.st.e _ _ h1 h3
theorem Own.dp {T : List (Addr × Str)} {K : PySem.W.Frag} {H0 H : Hp} {p : Addr} {ds : List PyData} (a : Own T K H0 p ds H) : Dp K H (.ref p) (.list ds) := by
  obtain ⟨vs, h1, h2⟩ := a.lst
  exact .lst (SqL.of h1) h2
theorem Own.len {T : List (Addr × Str)} {K : PySem.W.Frag} {H0 H : Hp} {p : Addr} {ds : List PyData} {vs : List V} (a : Own T K H0 p ds H) (h : H p = some (.lst vs)) : vs.length = ds.length := by
  obtain ⟨vs', h1, h2⟩ := a.lst
  rw [h] at h1
  cases h1
  exact dps_len h2
end Fr
namespace Fr
open PySem PySem.Spec PyProof.Rows L2 LamX
/-! ### promises at right things, and at wrong ones -/
theorem nD_inj {n m : Nat} (h : nD n = nD m) : n = m := by
  have := PyData.int.inj h
  omega
theorem fracD_inj {x y : Nat × Nat} (h : fracD x = fracD y) : x = y := by
  have h1 := PyData.tuple.inj h
  injection h1 with h2 h3
  injection h3 with h4 h5
  have h6 := PyData.int.inj h2
  have h7 := PyData.int.inj h4
  exact Prod.ext (by omega) (by omega)
theorem progD_inj {l l' : Prog} (h : progD l = progD l') : l = l' := (List.map_inj_right fun _ _ => fracD_inj).mp (PyData.list.inj h)
theorem progD_prog {l : Prog} (h : isProg l = true) : isProgD (progD l) = true := by
  show (decide ((l.map fracD).length ≤ 16) && (l.map fracD).all isFracD) = true
  have h1 := isProg_iff.mp h
  rw [List.length_map, decide_eq_true h1.1, Bool.true_and, List.all_map, List.all_eq_true]
  intro p hp
  have h2 := isFrac_iff.mp (h1.2 p hp)
  show (isNumD (nD p.1) && isNumD (nD p.2) && (decide (max (p.1 : Int).toNat (p.2 : Int).toNat ≤ 1000000) && decide (Nat.gcd (p.1 : Int).toNat (p.2 : Int).toNat = 1))) = true
  rw [isNumD_nat, isNumD_nat, h2.1, h2.2.1, Int.toNat_natCast, Int.toNat_natCast, decide_eq_true (by omega), decide_eq_true h2.2.2.2.2]
  rfl
theorem numD_num {n : Nat} (h : isNum n = true) : isNumD (nD n) = true := by rw [isNumD_nat]; exact h
theorem no_yes {b : Bool} (h : b = false) (h' : b = true) : False := by rw [h] at h'; cases h'
section
variable {K : PySem.W.Frag} {H : Hp} {Q : VK} {E : XK} {v u c : V} {l : Prog} {n m : Nat} {d e g : PyData}
end
end Fr
namespace Fr
open PySem PySem.Spec PyProof.Rows L2
/-! ### texts as lists of signs -/
abbrev figs : List Nat := [48, 49, 50, 51, 52, 53, 54, 55, 56, 57]
def wordL (f : Nat × Nat) : List Nat := TL.numL f.1 ++ (47 :: TL.numL f.2)
def textL (l : Prog) : List Nat := TL.joinL [32] (l.map wordL)
def numIn (w : List Nat) : Option Nat := if (1 ≤ w.length ∧ w.length ≤ 7) ∧ (w.all fun c => decide (c ∈ figs)) = true then some (NumText.digitsVal w) else none
def fracIn (w : List Nat) : Option (Nat × Nat) := match TL.par [47] [] w with
  | some (p, q) => (numIn p).bind fun a => (numIn q).map fun b => (a, b)
  | none => none
def foundL : List (List Nat) → Option Prog
  | [] => some []
  | w :: ws => (fracIn w).bind fun f => (foundL ws).map fun r => f :: r
def readL (t : List Nat) : Option Prog := (if t = [] then some [] else foundL (TL.spl [32] 0 [] t)).bind fun l => if isProg l = true ∧ textL l = t then some l else none
theorem fig_iff {c : Nat} : c ∈ figs ↔ 48 ≤ c ∧ c ≤ 57 := by
  simp only [figs, List.mem_cons, List.not_mem_nil, or_false]
  omega
theorem numIn_num {n : Nat} (h : n ≤ 1000000) : numIn (TL.numL n) = some n := by
  unfold numIn
  rw [if_pos, TL.numL_val]
  refine ⟨⟨?_, ?_⟩, ?_⟩
  · exact List.length_pos_iff.mpr (TL.numL_ne n)
  · exact TL.numL_len (by decide) (Nat.lt_of_le_of_lt h (by decide))
  · rw [List.all_eq_true]
    intro c hc
    have := TL.numL_digits n c hc
    exact decide_eq_true (fig_iff.mpr this)
theorem fold_lt : ∀ (l : List Nat) (a : Nat), (∀ c ∈ l, c ∈ figs) → l.foldl (fun acc c => acc * 10 + (c - 48)) a < (a + 1) * 10 ^ l.length
  | [], a, _ => by simp
  | c :: l, a, h => by
    have hc := fig_iff.mp (h c List.mem_cons_self)
    have ih := fold_lt l (a * 10 + (c - 48)) fun d hd => h d (List.mem_cons_of_mem _ hd)
    rw [List.foldl_cons, List.length_cons, Nat.pow_succ]
    refine Nat.lt_of_lt_of_le ih ?_
    have e : (a * 10 + (c - 48) + 1) ≤ (a + 1) * 10 := by omega
    calc (a * 10 + (c - 48) + 1) * 10 ^ l.length ≤ (a + 1) * 10 * 10 ^ l.length := Nat.mul_le_mul_right _ e
      _ = (a + 1) * (10 ^ l.length * 10) := by rw [Nat.mul_assoc, Nat.mul_comm 10]
theorem numIn_lt {w : List Nat} {n : Nat} (h : numIn w = some n) : n < 10 ^ 7 := by
  unfold numIn at h
  split at h
  · rename_i hc
    cases h
    have hd : ∀ c ∈ w, c ∈ figs := fun c hcw => of_decide_eq_true (List.all_eq_true.mp hc.2 c hcw)
    have h1 := fold_lt w 0 hd
    have h2 : NumText.digitsVal w < 10 ^ w.length := by
      have : NumText.digitsVal w < (0 + 1) * 10 ^ w.length := h1
      omega
    exact Nat.lt_of_lt_of_le h2 (Nat.pow_le_pow_right (by decide) hc.1.2)
  · cases h
theorem fracIn_word {f : Nat × Nat} (h1 : f.1 ≤ 1000000) (h2 : f.2 ≤ 1000000) : fracIn (wordL f) = some f := by
  have e : TL.par [47] [] (wordL f) = some (TL.numL f.1, TL.numL f.2) := SX.par_head (c := 47) (sep := []) (TL.numL f.2) (TL.numL_free (by omega))
  unfold fracIn
  rw [e]
  show (numIn (TL.numL f.1)).bind _ = _
  rw [numIn_num h1, Option.bind_some, numIn_num h2]
  rfl
theorem foundL_words : ∀ {l : Prog}, (∀ f ∈ l, f.1 ≤ 1000000 ∧ f.2 ≤ 1000000) → foundL (l.map wordL) = some l
  | [], _ => rfl
  | f :: l, h => by
    obtain ⟨h1, h2⟩ := h f List.mem_cons_self
    rw [List.map_cons]
    unfold foundL
    rw [fracIn_word h1 h2, foundL_words fun g hg => h g (List.mem_cons_of_mem _ hg)]
    rfl
theorem wordL_free (f : Nat × Nat) : 32 ∉ wordL f := fun h => by
  unfold wordL at h
  rcases List.mem_append.mp h with h | h
  · exact TL.numL_free (by omega) h
  · rcases List.mem_cons.mp h with h | h
    · cases h
    · exact TL.numL_free (by omega) h
theorem wordL_ne (f : Nat × Nat) : wordL f ≠ [] := by
  unfold wordL
  simp
theorem textL_ne {l : Prog} (h : l ≠ []) : textL l ≠ [] := fun z => by
  cases l with
  | nil => exact h rfl
  | cons f l =>
    have e := SX.spl_join (c := 32) (sep := []) (parts := (f :: l).map wordL) (by simp) (fun p hp => by
      obtain ⟨g, _, rfl⟩ := List.mem_map.mp hp
      exact wordL_free g)
    unfold textL at z
    rw [z] at e
    have e2 : TL.spl [32] 0 [] [] = [[]] := by decide
    rw [e2] at e
    have := (List.cons.inj e).1
    exact wordL_ne f this.symm
theorem readL_text {l : Prog} (hP : isProg l = true) : readL (textL l) = some l := by
  unfold readL
  have h6 : ∀ f ∈ l, f.1 ≤ 1000000 ∧ f.2 ≤ 1000000 := fun f hf => by
    obtain ⟨_, _, h3, h4, _⟩ := isFrac_iff.mp ((isProg_iff.mp hP).2 f hf)
    exact ⟨h3, h4⟩
  have e : (if textL l = [] then some [] else foundL (TL.spl [32] 0 [] (textL l))) = some l := by
    by_cases hl : l = []
    · subst hl
      exact if_pos rfl
    · rw [if_neg (textL_ne hl)]
      have e := SX.spl_join (c := 32) (sep := []) (parts := l.map wordL) (by simpa using hl) (fun p hp => by
        obtain ⟨g, _, rfl⟩ := List.mem_map.mp hp
        exact wordL_free g)
      unfold textL
      rw [e]
      exact foundL_words h6
  rw [e, Option.bind_some, if_pos ⟨hP, rfl⟩]
theorem readL_is {t : List Nat} {l : Prog} (h : readL t = some l) : isProg l = true ∧ textL l = t := by
  unfold readL at h
  obtain ⟨l', _, h⟩ := Option.bind_eq_some_iff.mp h
  split at h
  · cases h
    assumption
  · cases h
end Fr
namespace Fr
open PySem PySem.Spec PyProof.Rows L2 LamX
theorem dps_strs {K : PySem.W.Frag} {H : Hp} : ∀ {ys : List Str} {vs : List V}, DpAll K H vs (ys.map PyData.str) → vs = ys.map V.str
  | [], _, .nil => rfl
  | y :: ys, _, .cons a b => by
    cases a
    rw [dps_strs b]
    rfl
theorem s_num (n : Nat) : Str.ofString (toString ((n : Nat) : Int)) = SX.S (TL.numL n) := TL.ext_tl (TL.tl_num n)
theorem s_one {w : List Nat} : (SX.S w).length = w.length := SX.S_len w
theorem s_sl : (Str.ofString "/") = SX.S [47] := by decide +kernel
theorem s_sp : (Str.ofString " ") = SX.S [32] := by decide +kernel
theorem s_fig : (Str.ofString "0123456789").cps.toList = figs := by decide +kernel
section
variable {P : Program} {w : World} {K : PySem.W.Frag} {mg : Str → Option Value} {base : Heap}
/-! ### need -/
def spNeedT (K : PySem.W.Frag) : Sp := fun vs H Q E => ∃ b : Bool, vs = [.bl b] ∧ (b = true → Q .non H) ∧ (b = false → E (.ref (ga K "BadText")) none H)
theorem ok_need (T : Txt K mg) : Cal P w K mg base (L2N.CX P w) 1 "need" ["good"] (spNeedT K) := by
  refine Cal.mkX T.d_need T.m_need sc_need (fun _ _ _ _ _ _ us hl => match us, hl with | [_], _ => rfl) (fun vs H Q E h => ?_) (fun cdv A outer s H vs Q E hr h => ?_)
  · obtain ⟨b, rfl, _⟩ := h
    rfl
  obtain ⟨b, rfl, q1, q2⟩ := h
  refine ⟨_, (pss_one (ps_if (pt_not (pt_val (pv 0))) (pss_one (L2N.ps_raise rfl (L2N.takes_of rfl rfl rfl rfl) (L2N.pmk_own PySem.F.excBase_ValueError T.x_BadText.1 T.m_BadText T.x_BadText.2.1 (raises_own T.x_BadText.2.2.1 T.x_BadText.2.2.2) (by rfl)))) pss_nil)), ?_⟩
  cases b with
  | true => exact ⟨_, rfl, _, rfl, iteF (q1 rfl)⟩
  | false => exact ⟨_, rfl, _, rfl, iteT (q2 rfl)⟩
/-! ### number_in -/
def spNumIn (K : PySem.W.Frag) : Sp := fun vs H Q E => ∃ w : List Nat, vs = [.str (SX.S w)] ∧ w.length ≤ 100000 ∧ (numIn w = none → ∀ H', Same H H' → E (.ref (ga K "BadText")) none H') ∧ (∀ n, numIn w = some n → ∀ H', Same H H' → Q (nI n) H')
theorem ok_number_in (T : Txt K mg) : Cal P w K mg base (L2N.CX P w) 2 "number_in" ["word"] (spNumIn K) := by
  have c_need := ok_need (P := P) (w := w) (base := base) T
  refine Cal.mkX T.d_number_in T.m_number_in sc_number_in (fun _ _ _ _ _ _ us hl => match us, hl with | [_], _ => rfl) (fun vs H Q E h => ?_) (fun cdv A outer s H vs Q E hr h => ?_)
  · obtain ⟨x, rfl, _⟩ := h
    rfl
  obtain ⟨x, rfl, hl, q1, q2⟩ := h
  refine ⟨_, (pss_cons (ps_expr (pe_cal c_need (hr.mono (by decide)) (by rfl) (L2N.passes_call (L2N.takes_of rfl rfl rfl rfl) (fun _ _ _ _ h => h)) (pa_cons (pe_and (pe_chain opN_le opN_le pe_int (pe_callB call_len_str (by rfl) T.b_len PySem.boot_len (pa_cons (pv 0) pa_nil)) (pe_glob (v := .int 7) (by rfl) T.c_MOST_FIGURES.choose_spec ⟨_, rfl⟩)) (pe_one (pe_callB (crAll rfl rfl) (by rfl) T.b_all boot_all (pa_cons (pe_lc (own := [("sign", 1)]) rfl sc_number_in.nd (pi_str (pv 0)) (blkOk_by (own := [("sign", 1)]) (N := ["word", "sign"]) (sc := defScope s_number_in) (by decide +kernel)) (fun _ _ _ _ _ => (pg_name (i := 1) sc_number_in.nd rfl (.inl rfl))) (fun _ _ _ _ _ => pts_nil) (fun _ _ _ _ _ => (pe_cmpR op_in_sign (pv 1) (pe_glob (v := .str "0123456789") (by rfl) T.c_FIGURES.choose_spec ⟨_, rfl⟩) (by rfl)))) pa_nil)))) pa_nil)))
      (pss_one (ps_ret (pe_callTy call_int_str (by rfl) T.b_int boot_int (pa_cons (pv 0) pa_nil))))), ?_⟩
  have hsz : (SX.S x).length ≤ sizeLine := by rw [SX.S_len]; exact Nat.le_trans hl (by decide)
  have hcs : (SX.S x).cps.size = x.length := by simp [SX.S]
  have no : ¬ ((1 ≤ x.length ∧ x.length ≤ 7) ∧ (x.all fun c => decide (c ∈ figs)) = true) → numIn x = none := fun h => by unfold numIn; exact if_neg h
  refine ⟨_, rfl, _, rfl, hsz, 1, (SX.S x).length, rfl, rfl, _, rfl, ?_⟩
  rw [SX.S_len]
  by_cases h1 : 1 ≤ x.length
  · rw [decide_eq_true h1]
    refine iteT ⟨x.length, 7, rfl, rfl, _, rfl, ?_⟩
    by_cases h7 : x.length ≤ 7
    · rw [decide_eq_true h7]
      refine iteT ⟨_, rfl, _, rfl, fun D hD => ?_⟩
      refine lc_dp (K := K) walk_str hD (by rw [hcs]; exact hl) (fun _ _ => trivial) (fun i => (x[i]?).map fun c => PyData.bool (decide (c ∈ figs))) ?_ ?_ ?_
      · intro i d e
        obtain ⟨a, _, rfl⟩ := Option.map_eq_some_iff.mp e
        rfl
      · rintro i v H' H'' A B hi s' ⟨rfl, c, hc, rfl⟩ hA hB
        have hc : x[i]? = some c := by
          have : (SX.S x).cps[i]? = some c := hc
          simpa [SX.S] using this
        refine ⟨rfl, _, rfl, c, _, rfl, rfl, ?_⟩
        rw [s_fig]
        exact hA _ _ _ (by rw [hc]; rfl) (Same.refl _) (.bl _)
      · intro H' ys s' hD' hA
        rw [hcs, gath_map] at hA
        have e2 : ys = (x.map fun c => decide (c ∈ figs)).map V.bl := dps_bools (by rw [List.map_map]; exact hA)
        rw [e2] at hD'
        refine ⟨D, _, rfl, SqL.of hD', ?_⟩
        have e3 : ((x.map fun c => decide (c ∈ figs)).all id) = (x.all fun c => decide (c ∈ figs)) := by rw [List.all_map]; rfl
        rw [e3]
        refine ⟨_, rfl, fun ha => ?_, fun ha => q1 (no fun z => by rw [ha] at z; cases z.2) H' s'⟩
        have e4 : numIn x = some (NumText.digitsVal x) := by unfold numIn; exact if_pos ⟨⟨h1, h7⟩, ha⟩
        refine ⟨_, rfl, _, _, rfl, SX.int_S ?_ (fun z => by rw [z] at h1; exact absurd h1 (by decide)) (by omega), by rw [SX.S_len]; omega, q2 _ e4 H' s'⟩
        rw [List.all_eq_true] at ha ⊢
        intro c hc
        have := fig_iff.mp (of_decide_eq_true (ha c hc))
        rw [decide_eq_true this.1, decide_eq_true this.2]
        rfl
    · rw [decide_eq_false h7]
      exact iteF ⟨_, rfl, fun z => (nomatch z), fun _ => q1 (no fun z => h7 z.1.2) H (Same.refl H)⟩
  · rw [decide_eq_false h1]
    exact iteF ⟨_, rfl, iteF ⟨_, rfl, fun z => (nomatch z), fun _ => q1 (no fun z => h1 z.1.1) H (Same.refl H)⟩⟩
/-! ### fraction_in -/
def spFracIn (K : PySem.W.Frag) : Sp := fun vs H Q E => ∃ w : List Nat, vs = [.str (SX.S w)] ∧ w.length ≤ 100000 ∧ (fracIn w = none → ∀ H', Same H H' → E (.ref (ga K "BadText")) none H') ∧ (∀ f, fracIn w = some f → ∀ p H', Same H H' → H' p = some (.tup [nI f.1, nI f.2]) → Q (.ref p) H')
theorem par_lens : ∀ {w acc p q : List Nat}, TL.par [47] acc w = some (p, q) → p.length ≤ acc.length + w.length ∧ q.length ≤ w.length
  | [], _, _, _, h => (nomatch h)
  | c :: r, acc, p, q, h => by
    have h : (if TL.pre [47] (c :: r) = true then some (acc, (c :: r).drop 1) else TL.par [47] (acc ++ [c]) r) = some (p, q) := h
    split at h
    · cases h
      simp
    · have ih := par_lens h
      simp only [List.length_append, List.length_cons, List.length_nil] at ih ⊢
      omega
theorem par_len {w p q : List Nat} (h : TL.par [47] [] w = some (p, q)) : p.length ≤ w.length ∧ q.length ≤ w.length := by
  have := par_lens h
  simpa using this
theorem spl_lens : ∀ {t acc : List Nat}, (TL.spl [32] 0 acc t).length ≤ t.length + 1 ∧ ∀ w ∈ TL.spl [32] 0 acc t, w.length ≤ acc.length + t.length
  | [], acc => by
    rw [TL.spl_nil]
    simp
  | c :: r, acc => by
    have e : TL.spl [32] 0 acc (c :: r) = if TL.pre [32] (c :: r) = true then acc :: TL.spl [32] 0 [] r else TL.spl [32] 0 (acc ++ [c]) r := rfl
    rw [e]
    split
    · have ih := spl_lens (t := r) (acc := [])
      refine ⟨by simpa using ih.1, fun w hw => ?_⟩
      rcases List.mem_cons.mp hw with rfl | hw
      · exact Nat.le_add_right _ _
      · have := ih.2 w hw
        simp only [List.length_nil, List.length_cons] at this ⊢
        omega
    · have ih := spl_lens (t := r) (acc := acc ++ [c])
      refine ⟨by have := ih.1; simp only [List.length_cons]; omega, fun w hw => ?_⟩
      have := ih.2 w hw
      simp only [List.length_append, List.length_nil, List.length_cons] at this ⊢
      omega
theorem ok_fraction_in (T : Txt K mg) : Cal P w K mg base (L2N.CX P w) 3 "fraction_in" ["word"] (spFracIn K) := by
  have c_number_in := ok_number_in (P := P) (w := w) (base := base) T
  refine Cal.mkX T.d_fraction_in T.m_fraction_in sc_fraction_in (fun _ _ _ _ _ _ us hl => match us, hl with | [_], _ => rfl) (fun vs H Q E h => ?_) (fun cdv A outer s H vs Q E hr h => ?_)
  · obtain ⟨x, rfl, _⟩ := h
    rfl
  obtain ⟨x, rfl, hl, q1, q2⟩ := h
  refine ⟨_, (pss_cons (ps_asg (bm rfl PySem.F.plainAttrs_str PySem.F.slot_str_partition PySem.F.type_str_partition mt_partition (pv 0) (pa_cons pe_str pa_nil)) (pgT (n := 3) rfl rfl (pgs_cons (pg_name (i := 1) sc_fraction_in.nd rfl (.inl rfl)) (pgs_cons (pg_name (i := 2) sc_fraction_in.nd rfl (.inl rfl)) (pgs_cons (pg_name (i := 3) sc_fraction_in.nd rfl (.inl rfl)) pgs_nil)))))
      (pss_one (ps_ret (pe_tup (pa_cons (pe_cal c_number_in (hr.mono (by decide)) (by rfl) (L2N.passes_call (L2N.takes_of rfl rfl rfl rfl) (fun _ _ _ _ h => h)) (pa_cons (pv 1) pa_nil)) (pa_cons (pe_cal c_number_in (hr.mono (by decide)) (by rfl) (L2N.passes_call (L2N.takes_of rfl rfl rfl rfl) (fun _ _ _ _ h => h)) (pa_cons (pv 3) pa_nil)) pa_nil)))))), ?_⟩
  have hsz : (SX.S x).length ≤ sizeLine := by rw [SX.S_len]; exact Nat.le_trans hl (by decide)
  refine ⟨_, rfl, rfl, SX.S x, _, rfl, rfl, by decide +kernel, hsz, fun p np => ?_⟩
  rw [s_sl]
  have s1 := fun (o : HO) => same_new (o := o) np
  cases hp : TL.par [47] [] x with
  | none =>
    have en : fracIn x = none := by unfold fracIn; rw [hp]
    rw [SX.partition_none (by simp) hp]
    refine ⟨p, _, rfl, SqT.of upd_same, rfl, _, _, rfl, _, _, rfl, _, _, rfl, rfl, ?_⟩
    refine ⟨_, rfl, x, rfl, hl, fun _ H' s' => q1 en H' ((s1 _).trans s'), fun n _ H' s' => ?_⟩
    exact ⟨_, rfl, [], rfl, Nat.zero_le _, fun _ H'' s'' => q1 en H'' (((s1 _).trans s').trans s''), fun n z => (nomatch z)⟩
  | some r =>
    obtain ⟨a, b⟩ := r
    obtain ⟨la, lb⟩ := par_len hp
    rw [SX.partition_some (by simp) hp]
    refine ⟨p, _, rfl, SqT.of upd_same, rfl, _, _, rfl, _, _, rfl, _, _, rfl, rfl, ?_⟩
    refine ⟨_, rfl, a, rfl, by omega, fun z H' s' => q1 (by unfold fracIn; rw [hp]; show (numIn a).bind _ = none; rw [z]; rfl) H' ((s1 _).trans s'), fun n hn H' s' => ?_⟩
    refine ⟨_, rfl, b, rfl, by omega, fun z H'' s'' => q1 (by unfold fracIn; rw [hp]; show (numIn a).bind _ = none; rw [hn, Option.bind_some, z]; rfl) H'' (((s1 _).trans s').trans s''), fun m hm H'' s'' => ?_⟩
    refine ⟨(by show 2 ≤ sizeLine; decide), fun t nt => ?_⟩
    exact q2 (n, m) (by unfold fracIn; rw [hp]; show (numIn a).bind _ = _; rw [hn, Option.bind_some, hm]; rfl) t _ ((((s1 _).trans s').trans s'').trans (same_new nt)) upd_same
end
end Fr
namespace Fr
open PySem PySem.Spec PyProof.Rows L2 LamX
theorem sum_le15 : ∀ {ys : List (List Nat)}, (∀ y ∈ ys, y.length ≤ 15) → ((ys.map SX.S).map (·.length)).sum ≤ 15 * ys.length
  | [], _ => Nat.le_refl _
  | y :: ys, h => by
    have h1 := h y List.mem_cons_self
    have h2 := sum_le15 (ys := ys) fun z hz => h z (List.mem_cons_of_mem _ hz)
    rw [List.map_cons, List.map_cons, List.sum_cons, SX.S_len, List.length_cons]
    omega
theorem wordL_len {f : Nat × Nat} (h1 : f.1 < 10 ^ 7) (h2 : f.2 < 10 ^ 7) : (wordL f).length ≤ 15 := by
  unfold wordL
  have e1 := TL.numL_len (k := 7) (by decide) h1
  have e2 := TL.numL_len (k := 7) (by decide) h2
  rw [List.length_append, List.length_cons]
  omega
def smallP (l : Prog) : Prop := l.length ≤ 16 ∧ ∀ f ∈ l, f.1 < 10 ^ 7 ∧ f.2 < 10 ^ 7
theorem smallP_of {l : Prog} (h : isProg l = true) : smallP l := ⟨(isProg_iff.mp h).1, fun f hf => by
  obtain ⟨_, _, h3, h4, _⟩ := isFrac_iff.mp ((isProg_iff.mp h).2 f hf)
  exact ⟨Nat.lt_of_le_of_lt h3 (by decide), Nat.lt_of_le_of_lt h4 (by decide)⟩⟩
theorem foundL_small : ∀ {ws : List (List Nat)} {l : Prog}, foundL ws = some l → ∀ f ∈ l, f.1 < 10 ^ 7 ∧ f.2 < 10 ^ 7
  | [], l, h, f, hf => by
    cases h
    cases hf
  | w :: ws, l, h, f, hf => by
    have h : ((fracIn w).bind fun f => (foundL ws).map fun r => f :: r) = some l := h
    obtain ⟨g, hg, h⟩ := Option.bind_eq_some_iff.mp h
    obtain ⟨r, hr, rfl⟩ := Option.map_eq_some_iff.mp h
    rcases List.mem_cons.mp hf with rfl | hf
    · unfold fracIn at hg
      split at hg
      · obtain ⟨a, ha, hg⟩ := Option.bind_eq_some_iff.mp hg
        obtain ⟨b, hb, rfl⟩ := Option.map_eq_some_iff.mp hg
        exact ⟨numIn_lt ha, numIn_lt hb⟩
      · cases hg
    · exact foundL_small hr f hf
section
variable {P : Program} {w : World} {K : PySem.W.Frag} {mg : Str → Option Value} {base : Heap}
/-! ### program_text -/
def spPText (K : PySem.W.Frag) : Sp := fun vs H Q _ => ∃ (v : V) (l : Prog), vs = [v] ∧ Dp K H v (progD l) ∧ smallP l ∧ ∀ H', Same H H' → Q (.str (SX.S (textL l))) H'
theorem ok_program_text (T : Txt K mg) : Cal P w K mg base L2.CX0 1 "program_text" ["program"] (spPText K) := by
  refine Cal.mk0 T.d_program_text T.m_program_text sc_program_text (fun _ _ _ _ _ _ us hl => match us, hl with | [_], _ => rfl) (fun vs H Q E h => ?_) (fun cdv A outer s H vs Q E hr h => ?_)
  · obtain ⟨v, l, rfl, _⟩ := h
    rfl
  obtain ⟨v, l, rfl, hd, hl, q⟩ := h
  refine ⟨_, (pss_one (ps_ret (bm rfl PySem.F.plainAttrs_str PySem.F.slot_str_join PySem.F.type_str_join mt_join pe_str (pa_cons (pe_lc (own := [("top", 1), ("under", 2)]) rfl sc_program_text.nd (piL rfl (pv 0)) (blkOk_by (own := [("top", 1), ("under", 2)]) (N := ["program", "top", "under"]) (sc := defScope s_program_text) (by decide +kernel)) (fun _ _ _ _ _ => (pgT (n := 2) rfl rfl (pgs_cons (pg_name (i := 1) sc_program_text.nd rfl (.inl rfl)) (pgs_cons (pg_name (i := 2) sc_program_text.nd rfl (.inl rfl)) pgs_nil)))) (fun _ _ _ _ _ => pts_nil) (fun _ _ _ _ _ => (pe_op op_add_str (pe_op op_add_str (pe_callTy call_str_int (by rfl) T.b_str boot_str (pa_cons (pv 1) pa_nil)) pe_str) (pe_callTy call_str_int (by rfl) T.b_str boot_str (pa_cons (pv 2) pa_nil))))) pa_nil)))), ?_⟩
  obtain ⟨a, xs, rfl, hs, hxs⟩ := dp_lst hd
  have hxl : xs.length = l.length := by rw [dps_len hxs, List.length_map]
  have hl16 := hl.1
  refine ⟨rfl, _, rfl, a, rfl, ⟨_, hs⟩, fun D hD => ?_⟩
  refine lc_dp (K := K) walk_list hD (by omega) (fun H' s' => s'.seq hs) (fun i => l[i]?.map fun f => PyData.str (SX.S (wordL f))) ?_ ?_ ?_
  · intro i d e
    obtain ⟨x, _, rfl⟩ := Option.map_eq_some_iff.mp e
    rfl
  · rintro i x H' H'' A' B' hi s' ⟨rfl, hx⟩ hA hB
    obtain ⟨hi2, b, rfl, hb, _⟩ := prog_item (same_dps s' hxs) hx
    obtain ⟨f1, f2⟩ := hl.2 l[i] (List.getElem_mem hi2)
    have e1 := TL.numL_len (k := 7) (by decide) f1
    have e2 := TL.numL_len (k := 7) (by decide) f2
    have lg : ∀ n : Nat, n < 10 ^ 7 → ((n : Int).natAbs).log2 < 1920 := fun n hn => by
      rw [Int.natAbs_natCast]
      by_cases h0 : n = 0
      · subst h0
        decide
      · exact Nat.lt_of_lt_of_le ((Nat.log2_lt h0).mpr (Nat.lt_of_lt_of_le hn (show 10 ^ 7 ≤ 2 ^ 24 by decide))) (by decide)
    refine ⟨b, _, rfl, hb, rfl, _, _, rfl, _, _, rfl, rfl, rfl, _, rfl, (l[i].1 : Int), rfl, lg _ f1, ?_⟩
    rw [s_num, s_sl]
    refine ⟨_, _, rfl, rfl, by rw [SX.S_len, SX.S_len]; exact Nat.le_trans (show (TL.numL l[i].1).length + 1 ≤ 8 by omega) (by decide), ?_⟩
    rw [SX.S_cat]
    refine ⟨_, rfl, (l[i].2 : Int), rfl, lg _ f2, ?_⟩
    rw [s_num]
    refine ⟨_, _, rfl, rfl, by rw [SX.S_len, SX.S_len, List.length_append]; exact Nat.le_trans (show (TL.numL l[i].1).length + 1 + (TL.numL l[i].2).length ≤ 15 by omega) (by decide), ?_⟩
    rw [SX.S_cat, List.append_assoc]
    exact hA _ _ _ (by rw [List.getElem?_eq_getElem hi2]; rfl) (Same.refl _) (.str _)
  intro H1 zs s1 hD1 hA1
  rw [hxl, gath_map] at hA1
  have ez : zs = (l.map fun f => SX.S (wordL f)).map V.str := dps_strs (by rw [List.map_map]; exact hA1)
  subst ez
  have em : (l.map fun f => SX.S (wordL f)) = (l.map wordL).map SX.S := by rw [List.map_map]; rfl
  rw [em] at hD1
  have hsum := sum_le15 (ys := l.map wordL) fun y hy => by
    obtain ⟨f, hf, rfl⟩ := List.mem_map.mp hy
    exact wordL_len (hl.2 f hf).1 (hl.2 f hf).2
  refine ⟨_, D, _, rfl, rfl, .inl (SqL.of hD1), ?_, ?_⟩
  · rw [s_sp, SX.S_len, List.length_map]
    rw [List.length_map] at hsum ⊢
    show _ + l.length * 1 ≤ _
    omega
  · rw [s_sp, SX.join_S]
    exact q H1 s1
/-! ### written -/
def spWritten (K : PySem.W.Frag) : Sp := fun vs H Q E => ∃ (v : V) (d : PyData), vs = [v] ∧ Dp K H v d ∧ (isProgD d = false → ∀ H', Same H H' → E (.ref (ga K "BadProgram")) none H') ∧ (∀ l, d = progD l → isProg l = true → ∀ H', Same H H' → Q (.str (SX.S (textL l))) H')
theorem ok_written (T : Txt K mg) : Cal P w K mg base (L2N.CX P w) 6 "written" ["program"] (spWritten K) := by
  have c_need_program := ok_need_program (P := P) (w := w) (base := base) T
  have c_program_text := ok_program_text (P := P) (w := w) (base := base) T
  refine Cal.mkX T.d_written T.m_written sc_written (fun _ _ _ _ _ _ us hl => match us, hl with | [_], _ => rfl) (fun vs H Q E h => ?_) (fun cdv A outer s H vs Q E hr h => ?_)
  · obtain ⟨v, d, rfl, _⟩ := h
    rfl
  obtain ⟨v, d, rfl, hd, q1, q2⟩ := h
  refine ⟨_, (pss_cons (ps_expr (pe_cal c_need_program (hr.mono (by decide)) (by rfl) (L2N.passes_call (L2N.takes_of rfl rfl rfl rfl) (fun _ _ _ _ h => h)) (pa_cons (pv 0) pa_nil)))
      (pss_one (ps_ret (pe_cal c_program_text (hr.mono (by decide)) (by rfl) pass0 (pa_cons (pv 0) pa_nil))))), ?_⟩
  refine ⟨_, rfl, v, d, rfl, hd, fun hP H1 s1 => ?_, q1⟩
  obtain ⟨l, rfl, hl⟩ := isProgD_is hP
  exact ⟨_, rfl, v, l, rfl, same_dp s1 hd, smallP_of hl, fun H2 s2 => q2 l rfl hl H2 (s1.trans s2)⟩
/-! ### read -/
def readD : PyData → Option Prog
  | .str x => readL x.cps.toList
  | _ => none
def strLen : PyData → Nat
  | .str x => x.length
  | _ => 0
def spRead (K : PySem.W.Frag) : Sp := fun vs H Q E => ∃ (v : V) (d : PyData), vs = [v] ∧ Dp K H v d ∧ strLen d ≤ 10000 ∧ (readD d = none → ∀ H', Same H H' → E (.ref (ga K "BadText")) none H') ∧
  (∀ l, readD d = some l → ∀ a xs H', Same H H' → H a = none → H' a = some (.lst xs) → DpAll K H' xs (l.map fracD) → Q (.ref a) H')
theorem ok_read (T : Txt K mg) : Cal P w K mg base (L2N.CX P w) 5 "read" ["text"] (spRead K) := by
  have c_need := ok_need (P := P) (w := w) (base := base) T
  have c_fraction_in := ok_fraction_in (P := P) (w := w) (base := base) T
  have c_is_program := ok_is_program (P := P) (w := w) (base := base) T
  have c_program_text := ok_program_text (P := P) (w := w) (base := base) T
  refine Cal.mkX T.d_read T.m_read sc_read (fun _ _ _ _ _ _ us hl => match us, hl with | [_], _ => rfl) (fun vs H Q E h => ?_) (fun cdv A outer s H vs Q E hr h => ?_)
  · obtain ⟨v, d, rfl, _⟩ := h
    rfl
  obtain ⟨v, d, rfl, hd, hsl, q1, q2⟩ := h
  refine ⟨_, (pss_cons (ps_expr (pe_cal c_need (hr.mono (by decide)) (by rfl) (L2N.passes_call (L2N.takes_of rfl rfl rfl rfl) (fun _ _ _ _ h => h)) (pa_cons (pe_callB (isStr rfl) (by rfl) T.b_isinstance boot_isinstance (pa_cons (pv 0) (pa_cons (pe_bltn (v := .ty "str") (by rfl) T.b_str boot_str rfl) pa_nil))) pa_nil)))
      (C8.pss_cut (ps_set (i := 1) sc_read.nd rfl (.inl rfl) (pe_ifExp (pt_cmpR op_ne (pv 0) pe_str (nomark _)) (pe_lcX (Ex := E) (L2N.takes_of rfl rfl rfl rfl) (fun _ _ _ _ h => h) rfl rfl (own := [("word", 2)]) rfl sc_read.nd (piL rfl (bm rfl PySem.F.plainAttrs_str PySem.F.slot_str_split PySem.F.type_str_split mt_split (pv 0) (pa_cons pe_str pa_nil))) (blkOk_by (own := [("word", 2)]) (N := ["text", "found", "word"]) (sc := defScope s_read) (by decide +kernel)) (fun _ _ _ _ _ => (pg_name (i := 2) sc_read.nd rfl (.inl rfl))) (fun _ _ _ _ _ => pts_nil) (fun _ _ _ _ _ => (pe_cal c_fraction_in (hr.mono (by decide)) (by rfl) bxe_passes (pa_cons (pv 2) pa_nil)))) (pe_lst pa_nil)))
      (pss_cons (ps_expr (pe_cal c_need (hr.mono (by decide)) (by rfl) (L2N.passes_call (L2N.takes_of rfl rfl rfl rfl) (fun _ _ _ _ h => h)) (pa_cons (pe_and (pe_cal c_is_program (hr.mono (by decide)) (by rfl) pass0 (pa_cons (pv 1) pa_nil)) (pe_one (pe_cmpR op_eq (pe_cal c_program_text (hr.mono (by decide)) (by rfl) pass0 (pa_cons (pv 1) pa_nil)) (pv 0) (nomark _)))) pa_nil)))
      (pss_one (ps_ret (pv 1)))))), ?_⟩
  have bad : isStrD d = false → readD d = none := fun h => by
    cases d with
    | str x => cases h
    | _ => rfl
  refine ⟨_, rfl, _, _, rfl, hd, _, rfl, fun hs => ?_, fun hs => q1 (bad hs) H (Same.refl H)⟩
  cases d with
  | str x =>
    cases hd
    obtain ⟨t, rfl⟩ : ∃ t, x = SX.S t := ⟨x.cps.toList, (SX.S_tl x).symm⟩
    have hlt : t.length ≤ 10000 := by
      have : (SX.S t).length ≤ 10000 := hsl
      rwa [SX.S_len] at this
    have eR : readD (.str (SX.S t)) = readL t := by
      show readL (SX.S t).cps.toList = _
      simp [SX.S]
    rw [eR] at q1 q2
    refine ⟨fun σ H1 => ∃ a xs l, σ = [some (.str (SX.S t)), some (.ref a), none] ∧ Same H H1 ∧ H a = none ∧ H1 a = some (.lst xs) ∧ DpAll K H1 xs (l.map fracD) ∧ (if t = [] then some [] else foundL (TL.spl [32] 0 [] t)) = some l, ?_, ?_⟩
    · refine ⟨_, rfl, rfl, _, rfl, ?_⟩
      by_cases ht : t = []
      · subst ht
        refine iteF ⟨Nat.zero_le _, fun a na => ⟨a, [], [], rfl, same_new na, na, upd_same, .nil, rfl⟩⟩
      · have hne : (!decide (V.str (SX.S t) = V.str "")) = true := by
          have : ¬ V.str (SX.S t) = V.str "" := fun z => ht (by
            have z : SX.S t = Str.ofString "" := V.str.inj z
            have := congrArg (fun y : Str => y.cps.toList) z
            have e0 : (Str.ofString "").cps.toList = [] := by decide +kernel
            rw [e0] at this
            simpa [SX.S] using this)
          rw [decide_eq_false this]
          rfl
        rw [hne, if_neg ht]
        have hws := spl_lens (t := t) (acc := [])
        refine iteT ⟨_, rfl, rfl, _, _, rfl, rfl, by decide +kernel, by rw [SX.S_len]; exact Nat.le_trans (show t.length + 2 ≤ 10002 by omega) (by decide), fun wa nwa => ?_⟩
        rw [s_sp, SX.split_S (by simp) (by decide)]
        generalize hws0 : TL.spl [32] 0 [] t = ws at *
        have sw := same_new (o := .lst ((ws.map SX.S).map V.str)) nwa
        have hwa : (upd H wa (.lst ((ws.map SX.S).map V.str))) wa = some (.lst ((ws.map SX.S).map V.str)) := upd_same
        generalize upd H wa (.lst ((ws.map SX.S).map V.str)) = Hw at *
        have hwl : ((ws.map SX.S).map V.str).length = ws.length := by rw [List.length_map, List.length_map]
        refine ⟨wa, rfl, ⟨_, SqL.of hwa⟩, fun D hD => ?_⟩
        have hD0 := sw.free hD
        refine lc_it walk_list (fun i H' => Same Hw H' ∧ ∃ (fs : Prog) (ys : List V), H' D = some (.lst ys) ∧ DpAll K H' ys (fs.map fracD) ∧ fs.length ≤ i ∧ foundL ws = (foundL (ws.drop i)).map fun r => fs ++ r) ⟨same_new hD, [], [], upd_same, .nil, Nat.le_refl _, ?_⟩ (fun i H' _ p => SqL.of (p.1 _ _ hwa)) ?_ ?_
        · rw [List.drop_zero]
          cases foundL ws <;> rfl
        · rintro i x H' H'' hi ⟨sm, fs, ys, hy, hys, hfl, hf⟩ ⟨rfl, hx⟩
          rw [List.getElem?_map, List.getElem?_map] at hx
          rw [hwl] at hi
          have hwi : ws[i]? = some ws[i] := List.getElem?_eq_getElem hi
          rw [hwi] at hx
          cases hx
          have hdr : ws.drop i = ws[i] :: ws.drop (i + 1) := List.drop_eq_getElem_cons hi
          have hw1 := hws.2 ws[i] (List.getElem_mem hi)
          have hws1 := hws.1
          have en : fracIn ws[i] = none → readL t = none := fun z => by
            unfold readL
            rw [if_neg ht, hws0, hf, hdr]
            show (((fracIn ws[i]).bind fun f => (foundL (ws.drop (i + 1))).map fun r => f :: r).map _).bind _ = none
            rw [z]
            rfl
          refine ⟨rfl, _, rfl, ws[i], rfl, by simp only [List.length_nil] at hw1; omega, fun z H4 s4 => q1 (en z) H4 (sw.trans (sm.trans s4)), fun f hf1 p H4 s4 hp => ?_⟩
          refine ⟨ys, s4 _ _ hy, ?_, same_put (sm.trans s4) hD, fs ++ [f], ys ++ [.ref p], upd_same, ?_, ?_, ?_⟩
          · rw [dps_len hys, List.length_map]
            exact Nat.lt_of_le_of_lt (show fs.length ≤ 10001 by omega) (by decide)
          · rw [List.map_append]
            have nl : noLs (fs.map fracD) = true := noLs_of fun d hd => by
              obtain ⟨g, _, rfl⟩ := List.mem_map.mp hd
              exact noL_frac g
            exact dps_app (dps_upd (s4 _ _ hy) nl (same_dps s4 hys)) (.cons (dp_upd (s4 _ _ hy) (noL_frac f) (.tup (SqT.of hp) (.cons (.int _) (.cons (.int _) .nil)))) .nil)
          · rw [List.length_append]
            exact Nat.succ_le_succ hfl
          · rw [hf, hdr]
            show ((fracIn ws[i]).bind fun f => (foundL (ws.drop (i + 1))).map fun r => f :: r).map _ = _
            rw [hf1, Option.bind_some, Option.map_map]
            cases foundL (ws.drop (i + 1)) with
            | none => rfl
            | some r => simp
        · rintro H' ⟨sm, fs, ys, hy, hys, hfl, hf⟩
          rw [hwl, List.drop_length] at hf
          exact ⟨D, ys, fs, rfl, sw.trans sm, hD0, hy, hys, by rw [hf]; simp [foundL]⟩
    rintro σ H1 ⟨a, xs, l, rfl, s1, na, ha, hxs, hfo⟩
    have hsm : ∀ f ∈ l, f.1 < 10 ^ 7 ∧ f.2 < 10 ^ 7 := by
      by_cases ht : t = []
      · rw [if_pos ht] at hfo
        cases hfo
        exact fun f hf => nomatch hf
      · rw [if_neg ht] at hfo
        exact foundL_small hfo
    have hdl : Dp K H1 (.ref a) (progD l) := .lst (SqL.of ha) hxs
    have eL : readL t = if isProg l = true ∧ textL l = t then some l else none := by
      unfold readL
      rw [hfo, Option.bind_some]
    refine ⟨_, rfl, _, _, rfl, hdl, fun H2 s2 => ⟨_, rfl, ?_⟩⟩
    rw [isProgD_prog]
    cases hP : isProg l with
    | false => exact iteF ⟨_, rfl, fun z => (nomatch z), fun _ => q1 (by rw [eL, if_neg (by rw [hP]; simp)]) H2 (s1.trans s2)⟩
    | true =>
      refine iteT ⟨_, rfl, _, l, rfl, same_dp s2 hdl, smallP_of hP, fun H3 s3 => ⟨_, rfl, rfl, _, rfl, fun hb => ?_, fun hb => ?_⟩⟩
      · have ht : textL l = t := SX.S_inj (V.str.inj (of_decide_eq_true hb))
        have s23 := s2.trans s3
        exact ⟨_, rfl, q2 l (by rw [eL, if_pos ⟨hP, ht⟩]) a xs H3 (s1.trans s23) na (s23 _ _ ha) (same_dps s23 hxs)⟩
      · have ht : textL l ≠ t := fun z => by
          rw [z] at hb
          simp at hb
        exact q1 (by rw [eL, if_neg (fun z => ht z.2)]) H3 (s1.trans (s2.trans s3))
  | _ => cases hs
end
end Fr
namespace Fr
open PySem PySem.Spec PyProof.Rows L2 LamX
section
variable {P : Program} {w : World} {K : PySem.W.Frag} {mg : Str → Option Value} {base : Heap}
/-! ### _law_text -/
theorem ok__law_text (T : Txt K mg) : Cal P w K mg base L2.CX0 1 "_law_text" ["program"] (spPText K) := by
  refine Cal.mk0 T.d__law_text T.m__law_text sc__law_text (fun _ _ _ _ _ _ us hl => match us, hl with | [_], _ => rfl) (fun vs H Q E h => ?_) (fun cdv A outer s H vs Q E hr h => ?_)
  · obtain ⟨v, l, rfl, _⟩ := h
    rfl
  obtain ⟨v, l, rfl, hd, hl, q⟩ := h
  refine ⟨_, (pss_one (ps_ret (bm rfl PySem.F.plainAttrs_str PySem.F.slot_str_join PySem.F.type_str_join mt_join pe_str (pa_cons (pe_lc (own := [("top", 1), ("under", 2)]) rfl sc__law_text.nd (piL rfl (pv 0)) (blkOk_by (own := [("top", 1), ("under", 2)]) (N := ["program", "top", "under"]) (sc := defScope s__law_text) (by decide +kernel)) (fun _ _ _ _ _ => (pgT (n := 2) rfl rfl (pgs_cons (pg_name (i := 1) sc__law_text.nd rfl (.inl rfl)) (pgs_cons (pg_name (i := 2) sc__law_text.nd rfl (.inl rfl)) pgs_nil)))) (fun _ _ _ _ _ => pts_nil) (fun _ _ _ _ _ => (pe_op op_add_str (pe_op op_add_str (pe_callTy call_str_int (by rfl) T.b_str boot_str (pa_cons (pv 1) pa_nil)) pe_str) (pe_callTy call_str_int (by rfl) T.b_str boot_str (pa_cons (pv 2) pa_nil))))) pa_nil)))), ?_⟩
  obtain ⟨a, xs, rfl, hs, hxs⟩ := dp_lst hd
  have hxl : xs.length = l.length := by rw [dps_len hxs, List.length_map]
  have hl16 := hl.1
  refine ⟨rfl, _, rfl, a, rfl, ⟨_, hs⟩, fun D hD => ?_⟩
  refine lc_dp (K := K) walk_list hD (by omega) (fun H' s' => s'.seq hs) (fun i => l[i]?.map fun f => PyData.str (SX.S (wordL f))) ?_ ?_ ?_
  · intro i d e
    obtain ⟨x, _, rfl⟩ := Option.map_eq_some_iff.mp e
    rfl
  · rintro i x H' H'' A' B' hi s' ⟨rfl, hx⟩ hA hB
    obtain ⟨hi2, b, rfl, hb, _⟩ := prog_item (same_dps s' hxs) hx
    obtain ⟨f1, f2⟩ := hl.2 l[i] (List.getElem_mem hi2)
    have e1 := TL.numL_len (k := 7) (by decide) f1
    have e2 := TL.numL_len (k := 7) (by decide) f2
    have lg : ∀ n : Nat, n < 10 ^ 7 → ((n : Int).natAbs).log2 < 1920 := fun n hn => by
      rw [Int.natAbs_natCast]
      by_cases h0 : n = 0
      · subst h0
        decide
      · exact Nat.lt_of_lt_of_le ((Nat.log2_lt h0).mpr (Nat.lt_of_lt_of_le hn (show 10 ^ 7 ≤ 2 ^ 24 by decide))) (by decide)
    refine ⟨b, _, rfl, hb, rfl, _, _, rfl, _, _, rfl, rfl, rfl, _, rfl, (l[i].1 : Int), rfl, lg _ f1, ?_⟩
    rw [s_num, s_sl]
    refine ⟨_, _, rfl, rfl, by rw [SX.S_len, SX.S_len]; exact Nat.le_trans (show (TL.numL l[i].1).length + 1 ≤ 8 by omega) (by decide), ?_⟩
    rw [SX.S_cat]
    refine ⟨_, rfl, (l[i].2 : Int), rfl, lg _ f2, ?_⟩
    rw [s_num]
    refine ⟨_, _, rfl, rfl, by rw [SX.S_len, SX.S_len, List.length_append]; exact Nat.le_trans (show (TL.numL l[i].1).length + 1 + (TL.numL l[i].2).length ≤ 15 by omega) (by decide), ?_⟩
    rw [SX.S_cat, List.append_assoc]
    exact hA _ _ _ (by rw [List.getElem?_eq_getElem hi2]; rfl) (Same.refl _) (.str _)
  intro H1 zs s1 hD1 hA1
  rw [hxl, gath_map] at hA1
  have ez : zs = (l.map fun f => SX.S (wordL f)).map V.str := dps_strs (by rw [List.map_map]; exact hA1)
  subst ez
  have em : (l.map fun f => SX.S (wordL f)) = (l.map wordL).map SX.S := by rw [List.map_map]; rfl
  rw [em] at hD1
  have hsum := sum_le15 (ys := l.map wordL) fun y hy => by
    obtain ⟨f, hf, rfl⟩ := List.mem_map.mp hy
    exact wordL_len (hl.2 f hf).1 (hl.2 f hf).2
  refine ⟨_, D, _, rfl, rfl, .inl (SqL.of hD1), ?_, ?_⟩
  · rw [s_sp, SX.S_len, List.length_map]
    rw [List.length_map] at hsum ⊢
    show _ + l.length * 1 ≤ _
    omega
  · rw [s_sp, SX.join_S]
    exact q H1 s1
/-! ### _law_is_right -/
def spRight (K : PySem.W.Frag) : Sp := fun vs H Q _ => ∃ t : List Nat, vs = [.str (SX.S t)] ∧ t.length ≤ 10000 ∧ Tabs (Tb K lams) H ∧ ∀ H', Stp (Tb K lams) H H' → Q (.bl true) H'
theorem ok__law_is_right (T : Txt K mg) (hB : TabX K mg base lams) : Cal P w K mg base L2.CX0 12 "_law_is_right" ["text"] (spRight K) := by
  have c_read := ok_read (P := P) (w := w) (base := base) T
  have c_need_program := ok_need_program (P := P) (w := w) (base := base) T
  have c__law_text := ok__law_text (P := P) (w := w) (base := base) T
  refine Cal.mkT T.d__law_is_right T.m__law_is_right sc__law_is_right (fun _ _ _ _ _ _ us hl => match us, hl with | [_], _ => rfl) (fun vs H Q E h => ?_) (fun A outer s H vs Q E hr h => ?_)
  · obtain ⟨t, rfl, _⟩ := h
    rfl
  obtain ⟨t, rfl, ht, hTb, q⟩ := h
  refine ⟨_, (pss_cons (ps_set (i := 1) sc__law_is_right.nd rfl (.inl rfl) (told (x := "_law_is_right") (k := 9) T (by simp) hB rfl rfl (by rfl) (hr.mono (by decide)) (lamS_by (sc := defScope s__law_is_right) (by decide +kernel)) rfl (fun _ _ _ _ _ => rfl) (fun A outer s H E f c' hr => (pe_cal c_read (hr.mono (by decide)) (by rfl) (L2N.passes_call (L2N.takes_of rfl rfl rfl rfl) (fun _ _ _ _ h => h)) (pa_cons (pv 0) pa_nil)))))
      (pss_one (ps_ret (pe_or (pe_cmpR (eqD rfl hr.units) (pv 1) pe_str (nomark _)) (pe_one (pe_and (pe_cmpR op_isN (pe_cal c_need_program (hr.mono (by decide)) (by rfl) passN (pa_cons (pv 1) pa_nil)) pe_non (nomark _)) (pe_one (pe_cmpR op_eq (pe_cal c__law_text (hr.mono (by decide)) (by rfl) pass0 (pa_cons (pv 1) pa_nil)) (pv 0) (nomark _))))))))), ?_⟩
  refine ⟨hTb, fun H1 e1 t1 => ?_⟩
  have st1 : Stp (Tb K lams) H H1 := ⟨e1, t1⟩
  refine ⟨_, rfl, _, .str (SX.S t), rfl, .str _, by show (SX.S t).length ≤ 10000; rw [SX.S_len]; exact ht, fun _ H2 s2 => xtold (by simp) fun H3 s3 => ?_, fun l hl a xs H2 s2 na ha hxs => ?_⟩
  · refine ⟨_, rfl, .str "BadText", .str "BadText", .str _, .str _, (Shp.str (k := 0) strOk_BT).ok (by decide), (Shp.str (k := 0) strOk_BT).ok (by decide), _, rfl, ?_⟩
    rw [SeqAt.eqv_refl _ (Shp.str (k := 0) strOk_BT).1]
    exact iteT (q H3 (st1.same (s2.trans s3)))
  · have eR : readL t = some l := by
      have : readL (SX.S t).cps.toList = some l := hl
      simpa [SX.S] using this
    obtain ⟨hP, hT⟩ := readL_is eR
    have hd : Dp K H2 (.ref a) (progD l) := .lst (SqL.of ha) hxs
    refine ⟨_, rfl, progD l, .str "BadText", hd, .str _, (Shp.prog (k := 50) l).ok (by decide), (Shp.str (k := 0) strOk_BT).ok (by decide), _, rfl, iteF ?_⟩
    refine ⟨_, rfl, _, progD l, rfl, hd, fun _ H3 s3 => ⟨rfl, _, rfl, iteT ?_⟩, fun z => (no_yes z (progD_prog hP)).elim⟩
    refine ⟨_, rfl, _, l, rfl, same_dp s3 hd, smallP_of hP, fun H4 s4 => ⟨_, rfl, rfl, ?_⟩⟩
    rw [hT, decide_eq_true rfl]
    exact q H4 (st1.same (s2.trans (s3.trans s4)))
end
end Fr
namespace Fr
open PySem PySem.Spec PyProof.Rows L2 LamX
def rJoin (K : PySem.W.Frag) : V → List V → Hp → VK → Prop := fun x xs H Q => ∃ a p, ∃ ys : List Str, x = .str a ∧ xs = [.ref p] ∧ (SqL K H p (ys.map V.str) ∨ SqT K H p (ys.map V.str)) ∧ (ys.map (·.length)).sum + ys.length * a.length ≤ 16777216 ∧ Q (.str (Txt.join a ys)) H
theorem mt_joinK {X : Cx} {K : PySem.W.Frag} (e : X.K = K) : MtR X "str.join" (rJoin K) := by
  subst e
  exact mt_join
theorem join_len : ∀ {ws : List (List Nat)}, (∀ w ∈ ws, w.length ≤ 15) → (TL.joinL [32] ws).length ≤ 16 * ws.length
  | [], _ => Nat.le_refl _
  | [p], h => by
    show p.length ≤ 16 * 1
    have := h p List.mem_cons_self
    omega
  | p :: q :: r, h => by
    have e : TL.joinL [32] (p :: q :: r) = p ++ ([32] ++ TL.joinL [32] (q :: r)) := rfl
    have h1 := h p List.mem_cons_self
    have ih := join_len (ws := q :: r) fun w hw => h w (List.mem_cons_of_mem _ hw)
    rw [e]
    simp only [List.length_append, List.length_cons, List.length_nil] at ih ⊢
    omega
theorem textL_len {l : Prog} (h : smallP l) : (textL l).length ≤ 256 := by
  have e := join_len (ws := l.map wordL) fun w hw => by
    obtain ⟨f, hf, rfl⟩ := List.mem_map.mp hw
    exact wordL_len (h.2 f hf).1 (h.2 f hf).2
  rw [List.length_map] at e
  have := h.1
  unfold textL
  omega
theorem s_any (x : Str) : ∃ t : List Nat, x = SX.S t ∧ t.length = x.length := ⟨x.cps.toList, (SX.S_tl x).symm, by rw [← SX.S_len, SX.S_tl]⟩
abbrev noneD : List PyData := [.none, .int 5, .str " ", .str "1", .str "1/", .str "/2", .str "2/4", .str "0/1", .str "1/0", .str "01/2", .str "1/41", .str "1/2 ", .str "1/2/3", .list [.str "1/2"]]
theorem none_bad : ∀ d ∈ noneD ++ [.str "1/1048576"], readD d = none ∧ strLen d ≤ 10000 := by decide +kernel
abbrev t17 : List Nat := TL.joinL [32] (List.replicate 17 [49, 47, 50])
theorem t17_bad : readL t17 = none := by decide +kernel
theorem progs_bad : ∀ d ∈ ([.none, .tuple [.tuple [.int 1, .int 2]], .list [.tuple [.int 2, .int 2]]] : List PyData), isProgD d = false := by decide +kernel
section
variable {P : Program} {w : World} {K : PySem.W.Frag} {mg : Str → Option Value} {base : Heap}
abbrev W70 (sc : Addr) (k more : Nat) (b4 b5 b6 b7 b8 b9 : Option V) : L2.St := [some (.ref sc), some (.str "0123456789/ -."), some (nI k), some (nI more), b4, b5, b6, b7, b8, b9]
def spLaw (K : PySem.W.Frag) : Sp := fun vs H Q _ => ∃ (a : Addr) (ns : List Int), vs = [.ref a] ∧ SqL K H a (ns.map V.int) ∧ ns.length ≤ 63 ∧ Tabs (Tb K lams) H ∧ ∀ H', Q (.bl true) H'
theorem ok_law (T : Txt K mg) (hB : TabX K mg base lams) : Cal P w K mg base L2.CX0 13 "law" ["script"] (spLaw K) := by
  have c__law_cell := ok__law_cell (P := P) (w := w) (base := base) T
  have c__law_drawn := ok__law_drawn (P := P) (w := w) (base := base) T
  have c__law_program := ok__law_program (P := P) (w := w) (base := base) T
  have c__law_text := ok__law_text (P := P) (w := w) (base := base) T
  have c__law_is_right := ok__law_is_right (P := P) (w := w) (base := base) T hB
  have c_written := ok_written (P := P) (w := w) (base := base) T
  have c_read := ok_read (P := P) (w := w) (base := base) T
  refine Cal.mkT T.d_law T.m_law sc_law (fun _ _ _ _ _ _ us hl => match us, hl with | [_], _ => rfl) (fun vs H Q E h => ?_) (fun A outer s H vs Q E hr h => ?_)
  · obtain ⟨a, ns, rfl, _⟩ := h
    rfl
  obtain ⟨sc, ns, rfl, hS, hlen, hTb, q⟩ := h
  refine ⟨_, (pss_cons (ps_set (i := 1) sc_law.nd rfl (.inl rfl) pe_str)
      (pss_cons (ps_for PassesOwn.never rfl (pi_range1 (by rfl) T.b_range (pa_cons (pe_callB (max2N rfl) (by rfl) T.b_max boot_max (pa_cons pe_int (pa_cons (pe_callB (min2N rfl) (by rfl) T.b_min boot_min (pa_cons pe_int (pa_cons (pe_callB (lenS rfl) (by rfl) T.b_len PySem.boot_len (pa_cons (pv 0) pa_nil)) pa_nil))) pa_nil))) pa_nil)) (pg_name (i := 2) sc_law.nd rfl (.inl rfl)) (pss_cons (ps_set (i := 3) sc_law.nd rfl (.inl rfl) (pe_cal c__law_drawn (hr.mono (by decide)) (by rfl) pass0 (pa_cons (pe_cal c__law_cell (hr.mono (by decide)) (by rfl) pass0 (pa_cons (pv 0) (pa_cons (pv 2) pa_nil))) (pa_cons (pv 2) pa_nil))))
      (C8.pss_cut (ps_set (i := 4) sc_law.nd rfl (.inl rfl) (pe_cal c__law_program (hr.mono (by decide)) (by rfl) pass0 (pa_cons (pe_op opN_div (pv 3) pe_int) (pa_cons (pe_op opN_add pe_int (pe_op opN_mod (pv 3) pe_int)) pa_nil))))
      (C8.pss_cut (ps_set (i := 5) sc_law.nd rfl (.inl rfl) (pe_cal c__law_text (hr.mono (by decide)) (by rfl) pass0 (pa_cons (pv 4) pa_nil)))
      (C8.pss_cut (ps_if (PW.pt (pw_or (pt_cmpR op_ne (pe_cal c_written (hr.mono (by decide)) (by rfl) passN (pa_cons (pv 4) pa_nil)) (pv 5) (nomark _)) (pw_or1 (pt_cmpR (neS rfl hr.units) (pe_cal c_read (hr.mono (by decide)) (by rfl) passN (pa_cons (pv 5) pa_nil)) (pv 4) (nomark _))))) (pss_one (ps_ret pe_bl)) pss_nil)
      (C8.pss_cut (ps_for PassesOwn.never rfl (pi_range1 (by rfl) T.b_range (pa_cons (pe_op opN_add (pe_callB call_len_str (by rfl) T.b_len PySem.boot_len (pa_cons (pv 5) pa_nil)) pe_int) pa_nil)) (pg_name (i := 6) sc_law.nd rfl (.inl rfl)) (C8.pss_cut (ps_set (i := 7) sc_law.nd rfl (.inl rfl) (pe_ix ix_str (pv 1) (pe_op opN_mod (pe_cal c__law_drawn (hr.mono (by decide)) (by rfl) pass0 (pa_cons (pv 3) (pa_cons (pv 6) pa_nil))) pe_int) (fun _ _ => rfl)))
      (C8.pss_cut (ps_if (PW.pt (pw_or (pt_not (pt_val (pe_cal c__law_is_right (hr.mono (by decide)) (by rfl) pass0 (pa_cons (pe_op op_add_str (pe_slice sl_str (pv 5) po_none (po_some (pv 6))) (pe_slice sl_str (pv 5) (po_some (pe_op opN_add (pv 6) pe_int)) po_none)) pa_nil)))) (pw_or1 (pt_not (pt_val (pe_cal c__law_is_right (hr.mono (by decide)) (by rfl) pass0 (pa_cons (pe_op op_add_str (pe_op op_add_str (pe_slice sl_str (pv 5) po_none (po_some (pv 6))) (pv 7)) (pe_slice sl_str (pv 5) (po_some (pv 6)) po_none)) pa_nil))))))) (pss_one (ps_ret pe_bl)) pss_nil)
      (pss_one (ps_if (pt_not (pt_val (pe_cal c__law_is_right (hr.mono (by decide)) (by rfl) pass0 (pa_cons (pe_op op_add_str (pe_op op_add_str (pe_slice sl_str (pv 5) po_none (po_some (pv 6))) (pv 7)) (pe_slice sl_str (pv 5) (po_some (pe_op opN_add (pv 6) pe_int)) po_none)) pa_nil)))) (pss_one (ps_ret pe_bl)) pss_nil)))))
      (C8.pss_cut (ps_set (i := 8) sc_law.nd rfl (.inl rfl) (dl_lstN (K := K) (by decide) (dl_cons dl_non (dl_cons dl_int (dl_cons dl_str (dl_cons dl_str (dl_cons dl_str (dl_cons dl_str (dl_cons dl_str (dl_cons dl_str (dl_cons dl_str (dl_cons dl_str (dl_cons dl_str (dl_cons dl_str (dl_cons dl_str (dl_cons (dl_lst (K := K) (by decide) (dl_cons dl_str dl_nil)) dl_nil))))))))))))))))
      (C8.pss_cut (ps_for PassesOwn.never rfl (piL rfl (pe_op op_cat (pv 8) (dl_lstN (K := K) (by decide) (dl_cons dl_str dl_nil)))) (pg_name (i := 9) sc_law.nd rfl (.inr rfl)) (pss_one (ps_if (pt_cmpR (neS rfl hr.units) (told (x := "law") (k := 9) T (by simp) hB rfl rfl (by rfl) (hr.mono (by decide)) (lamS_by (sc := defScope s_law) (by decide +kernel)) rfl (fun _ _ _ _ _ => rfl) (fun A outer s H E f c' hr => (pe_cal c_read (hr.mono (by decide)) (by rfl) (L2N.passes_call (L2N.takes_of rfl rfl rfl rfl) (fun _ _ _ _ h => h)) (pa_cons (pv 9) pa_nil)))) pe_str (nomark _)) (pss_one (ps_ret pe_bl)) pss_nil)))
      (C8.pss_cut (ps_if (pt_cmpR (neS rfl hr.units) (told (x := "law") (k := 9) T (by simp) hB rfl rfl (by rfl) (hr.mono (by decide)) (lamS_by (sc := defScope s_law) (by decide +kernel)) rfl (fun _ _ _ _ _ => rfl) (fun A outer s H E f c' hr => (pe_cal c_read (hr.mono (by decide)) (by rfl) (L2N.passes_call (L2N.takes_of rfl rfl rfl rfl) (fun _ _ _ _ h => h)) (pa_cons (bm rfl PySem.F.plainAttrs_str PySem.F.slot_str_join PySem.F.type_str_join (mt_joinK rfl) pe_str (pa_cons (pe_op op_rep (pe_lst (pa_cons pe_str pa_nil)) pe_int) pa_nil)) pa_nil)))) pe_str (nomark _)) (pss_one (ps_ret pe_bl)) pss_nil)
      (pss_one (ps_for PassesOwn.never rfl (piL rfl (dl_lst (K := K) (by decide) (dl_cons dl_non (dl_cons (dl_tup (K := K) (by decide) (dl_cons (dl_tup (K := K) (by decide) (dl_cons dl_int (dl_cons dl_int dl_nil))) dl_nil)) (dl_cons (dl_lst (K := K) (by decide) (dl_cons (dl_tup (K := K) (by decide) (dl_cons dl_int (dl_cons dl_int dl_nil))) dl_nil)) dl_nil))))) (pg_name (i := 9) sc_law.nd rfl (.inr rfl)) (pss_one (ps_if (pt_cmpR (neS rfl hr.units) (told (x := "law") (k := 9) T (by simp) hB rfl rfl (by rfl) (hr.mono (by decide)) (lamS_by (sc := defScope s_law) (by decide +kernel)) rfl (fun _ _ _ _ _ => rfl) (fun A outer s H E f c' hr => (pe_cal c_written (hr.mono (by decide)) (by rfl) (L2N.passes_call (L2N.takes_of rfl rfl rfl rfl) (fun _ _ _ _ h => h)) (pa_cons (pv 9) pa_nil)))) pe_str (nomark _)) (pss_one (ps_ret pe_bl)) pss_nil)))))))))))))
      (pss_one (ps_ret pe_bl)))), ?_⟩
  refine ⟨_, rfl, sc, _, rfl, .inl hS, 4, _, rfl, 1, _, rfl, _, rfl, by omega, by omega, ?_⟩
  generalize hT : ((max 1 (min 4 (ns.map V.int).length) : Nat) : Int).toNat = turns
  have hturn : turns ≤ 4 := by omega
  refine for_it walk_nats (fun i σ H3 => (∃ r, σ = some (.ref sc) :: some (.str "0123456789/ -.") :: r ∧ r.length = 8) ∧ Stp (Tb K lams) H H3) ⟨⟨_, rfl, rfl⟩, Stp.refl hTb⟩ (fun _ _ _ _ _ => trivial) ?_ (fun σ H3 _ => q H3)
  rintro k x σ H9 Hb hk ⟨⟨r, rfl, hrl⟩, st0⟩ ⟨rfl, rfl⟩
  obtain ⟨y2, y3, y4, y5, y6, y7, y8, y9, rfl⟩ : ∃ y2 y3 y4 y5 y6 y7 y8 y9, r = [y2, y3, y4, y5, y6, y7, y8, y9] := by
    match r, hrl with
    | [y2, y3, y4, y5, y6, y7, y8, y9], _ => exact ⟨_, _, _, _, _, _, _, _, rfl⟩
  refine ⟨_, rfl, _, rfl, sc, k, ns, rfl, ext_l st0.e hS, hlen, by omega, fun c H1 s1 => ⟨_, rfl, c, k, rfl, by omega, fun more _ => ?_⟩⟩
  have st1 := st0.same s1
  clear st0
  -- the program
  refine ⟨fun σ H2 => ∃ (p : Addr) (l : Prog), σ = W70 sc k more (some (.ref p)) y5 y6 y7 y8 y9 ∧ Stp (Tb K lams) H H2 ∧ Dp K H2 (.ref p) (progD l) ∧ isProg l = true, ?_, ?_⟩
  · have hm5 := Nat.mod_lt more (show 0 < 5 by decide)
    exact ⟨_, rfl, more, 64, rfl, rfl, ⟨by decide, by decide⟩, _, rfl, more, 5, rfl, rfl, by omega, 2, _, rfl, rfl, more / 64, 2 + more % 5, rfl, by omega, by omega, fun l p xs H5 hF hl6 _ s5 hp hxs => ⟨p, l, rfl, st1.same s5, .lst (SqL.of hp) hxs, fracs_prog hF (by omega)⟩⟩
  clear st1
  rintro σ H2 ⟨p, l, rfl, st2, hdp, hP⟩
  have hsm := smallP_of hP
  have htl := textL_len hsm
  have hrd : readL (textL l) = some l := readL_text hP
  -- its text
  refine ⟨fun σ H3 => σ = W70 sc k more (some (.ref p)) (some (.str (SX.S (textL l)))) y6 y7 y8 y9 ∧ Same H2 H3, ?_, ?_⟩
  · exact ⟨_, rfl, _, l, rfl, hdp, hsm, fun H3 s3 => ⟨rfl, s3⟩⟩
  rintro σ H3 ⟨rfl, s3⟩
  have st3 := st2.same s3
  have hdp := same_dp s3 hdp
  clear st2 s3
  refine ⟨fun σ H4 => σ = W70 sc k more (some (.ref p)) (some (.str (SX.S (textL l)))) y6 y7 y8 y9 ∧ Same H3 H4, ?_, ?_⟩
  · refine ⟨_, rfl, _, progD l, rfl, hdp, fun z => (no_yes z (progD_prog hP)).elim, fun l' el _ H4 s4 => ?_⟩
    obtain rfl := progD_inj el
    refine ⟨_, rfl, rfl, _, rfl, ?_⟩
    rw [decide_eq_true rfl]
    refine iteF ⟨_, rfl, _, .str (SX.S (textL l)), rfl, .str _, by show (SX.S (textL l)).length ≤ 10000; rw [SX.S_len]; omega, fun z => ?_, fun l' hl' a xs H5 s5 na ha hxs => ?_⟩
    · have z : readL (SX.S (textL l)).cps.toList = none := z
      have z : readL (textL l) = none := by simpa [SX.S] using z
      rw [hrd] at z
      cases z
    · have hl' : readL (SX.S (textL l)).cps.toList = some l' := hl'
      have hl' : readL (textL l) = some l' := by simpa [SX.S] using hl'
      rw [hrd] at hl'
      cases hl'
      exact ⟨_, rfl, progD l, .lst (SqL.of ha) hxs, same_dp (s4.trans s5) hdp, .prog _, _, rfl, iteF ⟨rfl, s4.trans s5⟩⟩
  rintro σ H4 ⟨rfl, s4⟩
  have st4 := st3.same s4
  clear st3 s4 hdp hrd
  generalize textL l = t at *
  have hsz : (SX.S t).length ≤ sizeLine := by rw [SX.S_len]; exact Nat.le_trans htl (by decide)
  -- its neighbours
  refine ⟨fun σ H5 => ∃ y6 y7, σ = W70 sc k more (some (.ref p)) (some (.str (SX.S t))) y6 y7 y8 y9 ∧ Stp (Tb K lams) H H5, ?_, ?_⟩
  · refine ⟨_, rfl, _, rfl, hsz, (SX.S t).length, 1, rfl, rfl, _, rfl, by omega, ?_, ?_⟩
    · rw [SX.S_len]
      omega
    have en : ((((SX.S t).length + 1 : Nat) : Int)).toNat ≤ 257 := by rw [SX.S_len]; omega
    refine for_it walk_nats (fun i σ H5 => ∃ y6 y7, σ = W70 sc k more (some (.ref p)) (some (.str (SX.S t))) y6 y7 y8 y9 ∧ Stp (Tb K lams) H H5) ⟨_, _, rfl, st4⟩ (fun _ _ _ _ _ => trivial) ?_ (fun σ H5 h => h)
    rintro i x σ Ha H5 hi ⟨y6, y7, rfl, st5⟩ ⟨rfl, rfl⟩
    have hi : i ≤ 257 := by omega
    have cut : ∀ lo hi, (cutS (SX.S t) lo hi).length ≤ 256 := fun lo hi => by
      have := cutS_length (SX.S t) lo hi
      rw [SX.S_len t] at this
      omega
    refine ⟨fun σ H6 => ∃ c : Nat, σ = W70 sc k more (some (.ref p)) (some (.str (SX.S t))) (some (nI i)) (some (.str ⟨#[c]⟩)) y8 y9 ∧ H6 = H5, ?_, ?_⟩
    · refine ⟨_, rfl, _, rfl, _, rfl, (more : Int), i, rfl, by omega, fun d _ => ⟨d, 14, rfl, rfl, by omega, ?_⟩⟩
      have h14 := Nat.mod_lt d (show 0 < 14 by decide)
      obtain ⟨cc, hcc⟩ : ∃ cc, (Str.ofString "0123456789/ -.").cps.toList[d % 14]? = some cc := by
        have hl : (Str.ofString "0123456789/ -.").cps.toList.length = 14 := by decide +kernel
        exact ⟨_, List.getElem?_eq_getElem (by rw [hl]; exact h14)⟩
      exact ⟨_, ((d % 14 : Nat) : Int), cc, rfl, rfl, by decide +kernel, atI_nat hcc, cc, rfl, rfl⟩
    rintro σ H6 ⟨cc, rfl, e6⟩
    rw [e6]
    clear e6 H6
    have one : (⟨#[cc]⟩ : Str) = SX.S [cc] := rfl
    obtain ⟨u1, e1, l1⟩ := s_any (cutS (SX.S t) none (some (i : Int)))
    obtain ⟨u2, e2, l2⟩ := s_any (cutS (SX.S t) (some ((i + 1 : Nat) : Int)) none)
    obtain ⟨u3, e3, l3⟩ := s_any (cutS (SX.S t) (some (i : Int)) none)
    have c1 := cut none (some (i : Int))
    have c2 := cut (some ((i + 1 : Nat) : Int)) none
    have c3 := cut (some (i : Int)) none
    rw [← l1] at c1
    rw [← l2] at c2
    rw [← l3] at c3
    refine ⟨fun σ H6 => σ = W70 sc k more (some (.ref p)) (some (.str (SX.S t))) (some (nI i)) (some (.str ⟨#[cc]⟩)) y8 y9 ∧ Stp (Tb K lams) H H6, ?_, ?_⟩
    · refine ⟨_, rfl, _, rfl, _, rfl, _, rfl, hsz, _, rfl, _, rfl, i, 1, rfl, rfl, _, rfl, _, rfl, hsz, ?_⟩
      rw [e1, e2]
      refine ⟨_, _, rfl, rfl, by rw [SX.S_len, SX.S_len]; exact Nat.le_trans (show u1.length + u2.length ≤ 1000 by omega) (by decide), ?_⟩
      rw [SX.S_cat]
      refine ⟨_, rfl, by rw [List.length_append]; omega, st5.t, fun H6 st6 => ⟨_, rfl, iteF ?_⟩⟩
      have st6' := st5.trans st6
      refine ⟨_, rfl, _, rfl, _, rfl, _, rfl, hsz, ?_⟩
      rw [e1, one]
      refine ⟨_, rfl, _, _, rfl, rfl, by rw [SX.S_len, SX.S_len]; exact Nat.le_trans (show u1.length + 1 ≤ 1000 by omega) (by decide), ?_⟩
      rw [SX.S_cat]
      refine ⟨_, rfl, _, rfl, _, rfl, _, rfl, hsz, ?_⟩
      rw [e3]
      refine ⟨_, _, rfl, rfl, by rw [SX.S_len, SX.S_len, List.length_append]; exact Nat.le_trans (show u1.length + 1 + u3.length ≤ 1000 by omega) (by decide), ?_⟩
      rw [SX.S_cat]
      exact ⟨_, rfl, by rw [List.length_append, List.length_append]; show u1.length + 1 + u3.length ≤ 10000; omega, st6'.t, fun H7 st7 => ⟨_, rfl, iteF ⟨rfl, st6'.trans st7⟩⟩⟩
    clear st5
    rintro σ H6 ⟨rfl, st6⟩
    refine ⟨_, rfl, _, rfl, _, rfl, _, rfl, hsz, ?_⟩
    rw [e1, one]
    refine ⟨_, rfl, _, _, rfl, rfl, by rw [SX.S_len, SX.S_len]; exact Nat.le_trans (show u1.length + 1 ≤ 1000 by omega) (by decide), ?_⟩
    rw [SX.S_cat]
    refine ⟨_, rfl, _, rfl, i, 1, rfl, rfl, _, rfl, _, rfl, hsz, ?_⟩
    rw [e2]
    refine ⟨_, _, rfl, rfl, by rw [SX.S_len, SX.S_len, List.length_append]; exact Nat.le_trans (show u1.length + 1 + u2.length ≤ 1000 by omega) (by decide), ?_⟩
    rw [SX.S_cat]
    exact ⟨_, rfl, by rw [List.length_append, List.length_append]; show u1.length + 1 + u2.length ≤ 10000; omega, st6.t, fun H7 st7 => ⟨_, rfl, iteF ⟨_, _, rfl, st6.trans st7⟩⟩⟩
  clear st4
  rintro σ H5 ⟨y6, y7, rfl, st5⟩
  -- texts that are none
  refine ⟨fun σ H6 => ∃ na, σ = W70 sc k more (some (.ref p)) (some (.str (SX.S t))) y6 y7 (some (.ref na)) y9 ∧ Stp (Tb K lams) H H6 ∧ ∃ vs, H6 na = some (.lst vs) ∧ DpAll K H6 vs noneD, ?_, ?_⟩
  · exact fun na vs H6 s6 hna hds => ⟨na, rfl, st5.same s6, vs, hna, hds⟩
  clear st5
  rintro σ H6 ⟨na, rfl, st6, vs, hna, hds⟩
  refine ⟨fun σ H7 => ∃ y9, σ = W70 sc k more (some (.ref p)) (some (.str (SX.S t))) y6 y7 (some (.ref na)) y9 ∧ Stp (Tb K lams) H H7, ?_, ?_⟩
  · refine ⟨_, rfl, fun nb us H7 s7 hnb hus => ?_⟩
    have hl1 := dps_len hds
    have hl2 := dps_len hus
    have hl1 : vs.length = 14 := hl1
    have hl2 : us.length = 1 := hl2
    refine ⟨na, nb, vs, us, rfl, rfl, s7 _ _ hna, hnb, Nat.le_trans (show vs.length + us.length ≤ 15 by omega) (by decide), fun pc npc => ?_⟩
    have s8 := same_new (o := .lst (vs ++ us)) npc
    have hpc : (upd H7 pc (.lst (vs ++ us))) pc = some (.lst (vs ++ us)) := upd_same
    have hall : DpAll K (upd H7 pc (.lst (vs ++ us))) (vs ++ us) (noneD ++ [.str "1/1048576"]) := dps_app (same_dps (s7.trans s8) hds) (same_dps s8 hus)
    have st8 := st6.same (s7.trans s8)
    generalize upd H7 pc (.lst (vs ++ us)) = H8 at *
    have hbad := none_bad
    generalize (noneD ++ [.str "1/1048576"] : List PyData) = ds at *
    generalize vs ++ us = ws at *
    refine ⟨pc, rfl, ⟨_, SqL.of hpc⟩, for_list (xs := ws) (fun i σ H9 => ∃ y9, σ = W70 sc k more (some (.ref p)) (some (.str (SX.S t))) y6 y7 (some (.ref na)) y9 ∧ Stp (Tb K lams) H8 H9) ⟨_, rfl, Stp.refl st8.t⟩ ?_ ?_ ?_⟩
    · rintro i σ H9 _ ⟨y9, rfl, st9⟩
      exact ext_l st9.e (SqL.of hpc)
    · rintro i x σ H9 hx ⟨y9, rfl, st9⟩
      obtain ⟨d, hd, hxd⟩ := dps_at2 hall hx
      obtain ⟨hb1, hb2⟩ := hbad d (List.mem_of_getElem? hd)
      refine ⟨st9.t, fun H10 e10 t10 => ?_⟩
      have st10 := st9.told e10 t10
      exact ⟨_, rfl, x, d, rfl, ext_dp st10.e hxd, hb2, fun _ H11 s11 => xtold (by simp) fun H12 s12 => ⟨.str "BadText", .str _, .str _, .str strOk_BT, _, rfl, iteF ⟨_, rfl, st10.same (s11.trans s12)⟩⟩, fun l z => by rw [hb1] at z; cases z⟩
    · rintro σ H9 ⟨y9, rfl, st9⟩
      exact ⟨_, rfl, st8.trans st9⟩
  clear st6 hna hds
  rintro σ H7 ⟨y9, rfl, st7⟩
  -- seventeen
  refine ⟨fun σ H8 => σ = W70 sc k more (some (.ref p)) (some (.str (SX.S t))) y6 y7 (some (.ref na)) y9 ∧ Stp (Tb K lams) H H8, ?_, ?_⟩
  · refine ⟨st7.t, fun H8 e8 t8 => ?_⟩
    have st8 := st7.told e8 t8
    refine ⟨rfl, (by show 1 ≤ sizeLine; decide), fun pa npa => ⟨pa, 17, _, rfl, rfl, upd_same, by decide, by decide, (by show 1 * 17 ≤ sizeLine; decide), fun pb npb => ?_⟩⟩
    have s9 := (same_new (o := .lst [.str "1/2"]) npa).trans (same_new (o := .lst (List.replicate (17 : Int).toNat [V.str "1/2"]).flatten) npb)
    have e17 : (List.replicate (17 : Int).toNat [V.str "1/2"]).flatten = (((List.replicate 17 [49, 47, 50] : List (List Nat)).map SX.S).map V.str) := by
      have e12 : (Str.ofString "1/2") = SX.S [49, 47, 50] := by decide +kernel
      rw [e12]
      rfl
    have hpb : (upd (upd H8 pa (.lst [.str "1/2"])) pb (.lst (List.replicate (17 : Int).toNat [V.str "1/2"]).flatten)) pb = some (.lst (((List.replicate 17 [49, 47, 50] : List (List Nat)).map SX.S).map V.str)) := by rw [upd_same, e17]
    generalize upd (upd H8 pa (.lst [.str "1/2"])) pb (.lst (List.replicate (17 : Int).toNat [V.str "1/2"]).flatten) = H9 at *
    refine ⟨_, pb, _, rfl, rfl, .inl (SqL.of hpb), by decide +kernel, ?_⟩
    rw [s_sp, SX.join_S]
    refine ⟨_, .str (SX.S t17), rfl, .str _, by decide +kernel, fun _ H10 s10 => xtold (by simp) fun H11 s11 => ⟨.str "BadText", .str _, .str _, .str strOk_BT, _, rfl, iteF ⟨rfl, st8.same (s9.trans (s10.trans s11))⟩⟩, fun l z => ?_⟩
    have z : readL (SX.S t17).cps.toList = some l := z
    have z : readL t17 = some l := by simpa [SX.S] using z
    rw [t17_bad] at z
    cases z
  clear st7
  rintro σ H8 ⟨rfl, st8⟩
  -- programs that are none
  intro lv H9 s9 hlv
  obtain ⟨la, ls, rfl, hls, hlds⟩ := dp_lst hlv
  have hbad := progs_bad
  generalize ([.none, .tuple [.tuple [.int 1, .int 2]], .list [.tuple [.int 2, .int 2]]] : List PyData) = ds at *
  have st9 := st8.same s9
  refine ⟨la, rfl, ⟨_, hls⟩, for_list (xs := ls) (fun i σ H10 => ∃ y9, σ = W70 sc k more (some (.ref p)) (some (.str (SX.S t))) y6 y7 (some (.ref na)) y9 ∧ Stp (Tb K lams) H9 H10) ⟨_, rfl, Stp.refl st9.t⟩ ?_ ?_ ?_⟩
  · rintro i σ H10 _ ⟨y9, rfl, st10⟩
    exact ext_l st10.e hls
  · rintro i x σ H10 hx ⟨y9, rfl, st10⟩
    obtain ⟨d, hd, hxd⟩ := dps_at2 hlds hx
    have hb1 := hbad d (List.mem_of_getElem? hd)
    refine ⟨st10.t, fun H11 e11 t11 => ?_⟩
    have st11 := st10.told e11 t11
    exact ⟨_, rfl, x, d, rfl, ext_dp st11.e hxd, fun _ H12 s12 => xtold (by simp) fun H13 s13 => ⟨.str "BadProgram", .str _, .str _, .str strOk_BP, _, rfl, iteF ⟨_, rfl, st11.same (s12.trans s13)⟩⟩, fun l el hl => by subst el; exact (no_yes hb1 (progD_prog hl)).elim⟩
  · rintro σ H10 ⟨y9, rfl, st10⟩
    exact ⟨⟨_, rfl, rfl⟩, st9.trans st10⟩
end
end Fr
set_option maxHeartbeats 0
namespace Fr
open PySem PySem.Spec PyProof.Rows L2
def dd_parted : He.DefD := ⟨("parted", none), "parted", "parted", defArgs s_parted, defBody s_parted, defScope s_parted, [], []⟩
def dd_is_number : He.DefD := ⟨("is_number", none), "is_number", "is_number", defArgs s_is_number, defBody s_is_number, defScope s_is_number, [], []⟩
def dd_common : He.DefD := ⟨("common", none), "common", "common", defArgs s_common, defBody s_common, defScope s_common, [], []⟩
def dd_is_fraction : He.DefD := ⟨("is_fraction", none), "is_fraction", "is_fraction", defArgs s_is_fraction, defBody s_is_fraction, defScope s_is_fraction, [], []⟩
def dd_is_program : He.DefD := ⟨("is_program", none), "is_program", "is_program", defArgs s_is_program, defBody s_is_program, defScope s_is_program, [], []⟩
def dd_need_program : He.DefD := ⟨("need_program", none), "need_program", "need_program", defArgs s_need_program, defBody s_need_program, defScope s_need_program, [], []⟩
def dd_need : He.DefD := ⟨("need", none), "need", "need", defArgs s_need, defBody s_need, defScope s_need, [], []⟩
def dd_program_text : He.DefD := ⟨("program_text", none), "program_text", "program_text", defArgs s_program_text, defBody s_program_text, defScope s_program_text, [], []⟩
def dd_written : He.DefD := ⟨("written", none), "written", "written", defArgs s_written, defBody s_written, defScope s_written, [], []⟩
def dd_number_in : He.DefD := ⟨("number_in", none), "number_in", "number_in", defArgs s_number_in, defBody s_number_in, defScope s_number_in, [], []⟩
def dd_fraction_in : He.DefD := ⟨("fraction_in", none), "fraction_in", "fraction_in", defArgs s_fraction_in, defBody s_fraction_in, defScope s_fraction_in, [], []⟩
def dd_read : He.DefD := ⟨("read", none), "read", "read", defArgs s_read, defBody s_read, defScope s_read, [], []⟩
def dd__law_cell : He.DefD := ⟨("_law_cell", none), "_law_cell", "_law_cell", defArgs s__law_cell, defBody s__law_cell, defScope s__law_cell, [], []⟩
def dd__law_drawn : He.DefD := ⟨("_law_drawn", none), "_law_drawn", "_law_drawn", defArgs s__law_drawn, defBody s__law_drawn, defScope s__law_drawn, [], []⟩
def dd__law_word : He.DefD := ⟨("_law_word", none), "_law_word", "_law_word", defArgs s__law_word, defBody s__law_word, defScope s__law_word, [], []⟩
def dd__law_told : He.DefD := ⟨("_law_told", none), "_law_told", "_law_told", defArgs s__law_told, defBody s__law_told, defScope s__law_told, [], []⟩
def dd__law_primes : He.DefD := ⟨("_law_primes", none), "_law_primes", "_law_primes", defArgs s__law_primes, defBody s__law_primes, defScope s__law_primes, [], []⟩
def dd__law_some : He.DefD := ⟨("_law_some", none), "_law_some", "_law_some", defArgs s__law_some, defBody s__law_some, defScope s__law_some, [], []⟩
def dd__law_fraction : He.DefD := ⟨("_law_fraction", none), "_law_fraction", "_law_fraction", defArgs s__law_fraction, defBody s__law_fraction, defScope s__law_fraction, [], []⟩
def dd__law_program : He.DefD := ⟨("_law_program", none), "_law_program", "_law_program", defArgs s__law_program, defBody s__law_program, defScope s__law_program, [], []⟩
def dd__law_text : He.DefD := ⟨("_law_text", none), "_law_text", "_law_text", defArgs s__law_text, defBody s__law_text, defScope s__law_text, [], []⟩
def dd__law_is_right : He.DefD := ⟨("_law_is_right", none), "_law_is_right", "_law_is_right", defArgs s__law_is_right, defBody s__law_is_right, defScope s__law_is_right, [], []⟩
def dd_law : He.DefD := ⟨("law", none), "law", "law", defArgs s_law, defBody s_law, defScope s_law, [], []⟩
def fn : List He.DefD := [dd_parted, dd_is_number, dd_common, dd_is_fraction, dd_is_program, dd_need_program, dd_need, dd_program_text, dd_written, dd_number_in, dd_fraction_in, dd_read, dd__law_cell, dd__law_drawn, dd__law_word, dd__law_told, dd__law_primes, dd__law_some, dd__law_fraction, dd__law_program, dd__law_text, dd__law_is_right, dd_law]
def fa : List He.Fa := [.free "isinstance", .free "int", .free "bool", .free "str", .free "list", .free "tuple", .free "len", .free "all", .free "max", .free "min", .free "sum", .free "range", .free "ValueError", .glo "parted", .glo "is_number", .glo "common", .glo "is_fraction", .glo "is_program", .glo "need_program", .glo "need", .glo "program_text", .glo "written", .glo "number_in", .glo "fraction_in", .glo "read", .glo "_law_cell", .glo "_law_drawn", .glo "_law_word", .glo "_law_told", .glo "_law_primes", .glo "_law_some", .glo "_law_fraction", .glo "_law_program", .glo "_law_text", .glo "_law_is_right", .glo "law", .glo "RowError", .exc "RowError", .glo "BadNumber", .exc "BadNumber", .glo "BadProgram", .exc "BadProgram", .glo "BadMachine", .exc "BadMachine", .glo "TooGreat", .exc "TooGreat", .glo "BadText", .exc "BadText", .glo "PRIMES", .int "MOST_ROOM" 400, .int "MOST_FRACTIONS" 16, .int "MOST_PART" 1000000, .str "FIGURES" "0123456789", .int "MOST_FIGURES" 7]
def ex (K : PySem.W.Frag) : Bool := He.tupB K "PRIMES" [.int 2, .int 3, .int 5, .int 7, .int 11, .int 13, .int 17, .int 19, .int 23, .int 29, .int 31, .int 37] && (excB K ["BadMachine", "BadNumber", "BadProgram", "BadText", "TooGreat"] && (tabsD K ["_law_is_right", "law"] && (true)))
theorem ex_0 {K : PySem.W.Frag} (h : ex K = true) : He.tupB K "PRIMES" [.int 2, .int 3, .int 5, .int 7, .int 11, .int 13, .int 17, .int 19, .int 23, .int 29, .int 31, .int 37] = true := (He.ba h).1
theorem ex_1 {K : PySem.W.Frag} (h : ex K = true) : excB K ["BadMachine", "BadNumber", "BadProgram", "BadText", "TooGreat"] = true := (He.ba (He.ba h).2).1
theorem ex_2 {K : PySem.W.Frag} (h : ex K = true) : tabsD K ["_law_is_right", "law"] = true := (He.ba (He.ba (He.ba h).2).2).1
def tf : List He.Defn := (["_law_is_right", "law"] : List Str).map fun x => (x, none)
def ts : List He.Tab := []
abbrev R : PySem.W.OpenRow := PySem.W.OpenLaw.row PySem.Challenge.rw_fractrows_k70_whole_texts
abbrev hk : PySem.W.Hook := He.hookX 5 fa fn ts tf ex
def ob (s : PySem.W.SharedT) : He.AlX := He.obsX 5 fa fn ts tf ex (HandSHeadRun.getT s)
theorem ob_eq (s : PySem.W.SharedT) : ob s = hk.obs s.abs := He.obsX_eq (HandSHeadRun.getT_eq s)
def loose0 : List Str := ["RowError", "BadNumber", "BadProgram", "BadMachine", "TooGreat", "BadText", "PRIMES", "MOST_ROOM", "parted", "is_number", "MOST_FRACTIONS", "MOST_PART", "common", "is_fraction", "is_program", "need_program", "FIGURES", "MOST_FIGURES", "need", "program_text", "written", "number_in", "fraction_in", "read", "_law_cell", "_law_drawn", "_law_word", "_law_told", "_law_primes", "_law_some"]
def loose1 : List Str := ["_law_fraction", "_law_program", "_law_text", "_law_is_right"]
def loose : List Str := loose0 ++ loose1
theorem run (w : World) : HandSHeadRun.RunEq R (PySem.W.view R.prog [39]) hk ob 5200 loose w := by
  intro os
  kernel_rfl
theorem fnp_of {K : PySem.W.Frag} {x : Str} {st : Stmt} (h : ∃ fd, FunD K x x (defArgs st) (defBody st) (defScope st) [] [] (He.fAd K (x, none)) fd) : FnP K x st := by
  obtain ⟨fd, F⟩ := h
  obtain ⟨oc, od, dV, kV, doc, pm, an, cdv, ct, osl, e, lk, h1, h2, h3⟩ := F.ex
  have e2 : fdOf K (x, none) = fd := by
    unfold fdOf
    rw [lk]
  unfold FnP
  rw [e2]
  exact F
theorem txt_of {K : PySem.W.Frag} {h : Heap} {w : World} {mg : Str → Option Value} (X : K.In h) (G : h.Ns mainGlobals mg) (c : He.SaysX fa fn ts tf ex w h K) : Txt K mg :=
  ⟨He.free_ok X G (c.t.d.fact 0 (f := .free "isinstance") rfl),
    He.free_ok X G (c.t.d.fact 1 (f := .free "int") rfl),
    He.free_ok X G (c.t.d.fact 2 (f := .free "bool") rfl),
    He.free_ok X G (c.t.d.fact 3 (f := .free "str") rfl),
    He.free_ok X G (c.t.d.fact 4 (f := .free "list") rfl),
    He.free_ok X G (c.t.d.fact 5 (f := .free "tuple") rfl),
    He.free_ok X G (c.t.d.fact 6 (f := .free "len") rfl),
    He.free_ok X G (c.t.d.fact 7 (f := .free "all") rfl),
    He.free_ok X G (c.t.d.fact 8 (f := .free "max") rfl),
    He.free_ok X G (c.t.d.fact 9 (f := .free "min") rfl),
    He.free_ok X G (c.t.d.fact 10 (f := .free "sum") rfl),
    He.free_ok X G (c.t.d.fact 11 (f := .free "range") rfl),
    He.free_ok X G (c.t.d.fact 12 (f := .free "ValueError") rfl),
    fnp_of (c.t.d.def_ 0 (d := dd_parted) rfl),
    He.glo_ok X G (c.t.d.fact 13 (f := .glo "parted") rfl),
    fnp_of (c.t.d.def_ 1 (d := dd_is_number) rfl),
    He.glo_ok X G (c.t.d.fact 14 (f := .glo "is_number") rfl),
    fnp_of (c.t.d.def_ 2 (d := dd_common) rfl),
    He.glo_ok X G (c.t.d.fact 15 (f := .glo "common") rfl),
    fnp_of (c.t.d.def_ 3 (d := dd_is_fraction) rfl),
    He.glo_ok X G (c.t.d.fact 16 (f := .glo "is_fraction") rfl),
    fnp_of (c.t.d.def_ 4 (d := dd_is_program) rfl),
    He.glo_ok X G (c.t.d.fact 17 (f := .glo "is_program") rfl),
    fnp_of (c.t.d.def_ 5 (d := dd_need_program) rfl),
    He.glo_ok X G (c.t.d.fact 18 (f := .glo "need_program") rfl),
    fnp_of (c.t.d.def_ 6 (d := dd_need) rfl),
    He.glo_ok X G (c.t.d.fact 19 (f := .glo "need") rfl),
    fnp_of (c.t.d.def_ 7 (d := dd_program_text) rfl),
    He.glo_ok X G (c.t.d.fact 20 (f := .glo "program_text") rfl),
    fnp_of (c.t.d.def_ 8 (d := dd_written) rfl),
    He.glo_ok X G (c.t.d.fact 21 (f := .glo "written") rfl),
    fnp_of (c.t.d.def_ 9 (d := dd_number_in) rfl),
    He.glo_ok X G (c.t.d.fact 22 (f := .glo "number_in") rfl),
    fnp_of (c.t.d.def_ 10 (d := dd_fraction_in) rfl),
    He.glo_ok X G (c.t.d.fact 23 (f := .glo "fraction_in") rfl),
    fnp_of (c.t.d.def_ 11 (d := dd_read) rfl),
    He.glo_ok X G (c.t.d.fact 24 (f := .glo "read") rfl),
    fnp_of (c.t.d.def_ 12 (d := dd__law_cell) rfl),
    He.glo_ok X G (c.t.d.fact 25 (f := .glo "_law_cell") rfl),
    fnp_of (c.t.d.def_ 13 (d := dd__law_drawn) rfl),
    He.glo_ok X G (c.t.d.fact 26 (f := .glo "_law_drawn") rfl),
    fnp_of (c.t.d.def_ 14 (d := dd__law_word) rfl),
    He.glo_ok X G (c.t.d.fact 27 (f := .glo "_law_word") rfl),
    fnp_of (c.t.d.def_ 15 (d := dd__law_told) rfl),
    He.glo_ok X G (c.t.d.fact 28 (f := .glo "_law_told") rfl),
    fnp_of (c.t.d.def_ 16 (d := dd__law_primes) rfl),
    He.glo_ok X G (c.t.d.fact 29 (f := .glo "_law_primes") rfl),
    fnp_of (c.t.d.def_ 17 (d := dd__law_some) rfl),
    He.glo_ok X G (c.t.d.fact 30 (f := .glo "_law_some") rfl),
    fnp_of (c.t.d.def_ 18 (d := dd__law_fraction) rfl),
    He.glo_ok X G (c.t.d.fact 31 (f := .glo "_law_fraction") rfl),
    fnp_of (c.t.d.def_ 19 (d := dd__law_program) rfl),
    He.glo_ok X G (c.t.d.fact 32 (f := .glo "_law_program") rfl),
    fnp_of (c.t.d.def_ 20 (d := dd__law_text) rfl),
    He.glo_ok X G (c.t.d.fact 33 (f := .glo "_law_text") rfl),
    fnp_of (c.t.d.def_ 21 (d := dd__law_is_right) rfl),
    He.glo_ok X G (c.t.d.fact 34 (f := .glo "_law_is_right") rfl),
    fnp_of (c.t.d.def_ 22 (d := dd_law) rfl),
    He.glo_ok X G (c.t.d.fact 35 (f := .glo "law") rfl),
    He.glo_ok X G (c.t.d.fact 36 (f := .glo "RowError") rfl),
    He.exc_ok (c.t.d.fact 37 (f := .exc "RowError") rfl),
    He.glo_ok X G (c.t.d.fact 38 (f := .glo "BadNumber") rfl),
    He.exc_ok (c.t.d.fact 39 (f := .exc "BadNumber") rfl),
    He.glo_ok X G (c.t.d.fact 40 (f := .glo "BadProgram") rfl),
    He.exc_ok (c.t.d.fact 41 (f := .exc "BadProgram") rfl),
    He.glo_ok X G (c.t.d.fact 42 (f := .glo "BadMachine") rfl),
    He.exc_ok (c.t.d.fact 43 (f := .exc "BadMachine") rfl),
    He.glo_ok X G (c.t.d.fact 44 (f := .glo "TooGreat") rfl),
    He.exc_ok (c.t.d.fact 45 (f := .exc "TooGreat") rfl),
    He.glo_ok X G (c.t.d.fact 46 (f := .glo "BadText") rfl),
    He.exc_ok (c.t.d.fact 47 (f := .exc "BadText") rfl),
    He.glo_ok X G (c.t.d.fact 48 (f := .glo "PRIMES") rfl),
    fun H => He.tupB_ok (ex_0 c.more) H,
    He.int_ok X G (c.t.d.fact 49 (f := .int "MOST_ROOM" 400) rfl),
    He.int_ok X G (c.t.d.fact 50 (f := .int "MOST_FRACTIONS" 16) rfl),
    He.int_ok X G (c.t.d.fact 51 (f := .int "MOST_PART" 1000000) rfl),
    He.str_ok X G (c.t.d.fact 52 (f := .str "FIGURES" "0123456789") rfl),
    He.int_ok X G (c.t.d.fact 53 (f := .int "MOST_FIGURES" 7) rfl),
    ex_1 c.more,
    ex_2 c.more⟩
theorem law_at {K : PySem.W.Frag} {h : Heap} {w : World} {mg : Str → Option Value} {f : Addr} (X : K.In h) (G : h.Ns mainGlobals mg) (hmg : mg "law" = some (.ref f)) (c : He.SaysX fa fn ts tf ex w h K) :
    LamX.LawAtS PySem.Challenge.rw_fractrows_k70_whole_texts w K L2.CX0 13 63 "script" mg f h := by
  have T : Txt K mg := txt_of X G c
  have e := hmg.symm.trans T.m_law
  cases e
  refine ⟨fdOf K ("law", none), tf.map (He.cT K), spLaw K, fun p hp => ?_, fun p hp => ?_, fun p hp => ?_, fun s u => FunD.bindsA (ps := ["script"]) T.d_law (fun _ _ _ _ _ _ us hl => match us, hl with | [_], _ => rfl) s [u] rfl, fun H a ns hl _ hT hS => ⟨a, ns, rfl, hS, hl, tabs0 (xs := ["_law_is_right", "law"]) (fun x hx => hT _ (List.mem_map.mpr ⟨(x, none), List.mem_map.mpr ⟨x, hx, rfl⟩, rfl⟩)), fun _ => rfl⟩, fun base _ _ hB => (ok_law T (fun x hx => hB _ (List.mem_map.mpr ⟨(x, none), List.mem_map.mpr ⟨x, hx, rfl⟩, rfl⟩))).fn⟩
  · obtain ⟨z, hz, rfl⟩ := List.mem_map.mp hp
    exact c.empty z hz
  · obtain ⟨z, hz, rfl⟩ := List.mem_map.mp hp
    exact c.out z hz
  · obtain ⟨z, hz, rfl⟩ := List.mem_map.mp hp
    exact PySem.W.codeHd_of_K X (c.hd z hz)
end Fr
open PySem PySem.W PySem.Calls PyProof.Rows
set_option maxRecDepth 100000 in
set_option maxHeartbeats 0 in
theorem PySem.Challenge.cw_fractrows_k70_whole_texts_holds : PySem.Challenge.rw_fractrows_k70_whole_texts.Holds := by
  w_on; o_law
  refine HandSHeadRun.head_any (r := OpenLaw.row PySem.Challenge.rw_fractrows_k70_whole_texts) (q := view (OpenLaw.row PySem.Challenge.rw_fractrows_k70_whole_texts).prog [39]) (H := Fr.hk) (ob := Fr.ob) (M := 5200) (loose := Fr.loose) (d := HandSHeadRun.topDef (OpenLaw.row PySem.Challenge.rw_fractrows_k70_whole_texts).prog 39) (kwd := []) Fr.ob_eq
    (by kernel_rfl) (fun s => by kernel_rfl) Fr.run (by kernel_rfl) (by kernel_rfl) (by kernel_rfl) (by rfl) (by first | assumption | decide +kernel) (by decide +kernel) ⟨rfl, rfl, rfl, rfl, rfl, by decide +kernel⟩ ?hw ?hc
  case hw => w_witness2
  case hc =>
    refine LamX.walk_ofTsE (l := PySem.Challenge.rw_fractrows_k70_whole_texts) (n := 63) (k := 13) (x := "script") (CX := fun _ => L2.CX0) rfl (by decide) (by kernel_rfl) ⟨rfl, by decide, by decide⟩ ?F (fun _ _ _ _ _ z => z)
    intro w mg fa h Y G hmg0
    obtain ⟨K, KX, c⟩ := Y
    have hmg : mg ("law" : PySem.Str) = some (.ref fa) := by
      have e : (HandSHeadRun.topDef (OpenLaw.row PySem.Challenge.rw_fractrows_k70_whole_texts).prog 39).name = ("law" : PySem.Str) := by kernel_rfl
      rw [← e]
      exact hmg0
    exact ⟨K, KX, Fr.law_at KX G hmg c⟩
