import PyProof.Rows.All
import Wide.All
import OpenK.AllK
import Wide.FinOn
import HandS.ForMost
import HandS.Walk
import HandS.Style
import HandS.Deep
import HandS.IsInst
import HandS.Wide
import HandS.Strs
import HandS.StrMore
import HandS.Zip
import PySem.Challenge.RW_ropedance_k14_whole_judge
set_option Elab.async false
set_option maxRecDepth 100000
set_option maxHeartbeats 4000000
set_option linter.all false
/-! The plain law: letters, dances, moves, normal forms, numbers. No program in sight. -/
namespace RM
inductive L where | T | U | R
  deriving DecidableEq
open L
abbrev D := List L
/-! ### moves -/
def anywhere : List D := [[T, U], [U, T], [R, R], [T, R, T, R, T, R]]
structure Mv where
  place : Nat
  old : D
  new : D
def IsMv (m : Mv) : Prop := (m.old = [] ∨ m.new = []) ∧ (m.old ++ m.new ∈ anywhere ∨ (m.place = 0 ∧ m.old ++ m.new = [R, T, R]))
/-- one move leads a to b -/
def Step (a : D) (m : Mv) (b : D) : Prop := IsMv m ∧ ∃ x y : D, a = x ++ m.old ++ y ∧ b = x ++ m.new ++ y ∧ m.place = x.length
inductive Leads : D → List Mv → D → Prop
  | nil (a : D) : Leads a [] a
  | cons {a b c : D} {m : Mv} {ms : List Mv} : Step a m b → Leads b ms c → Leads a (m :: ms) c
theorem Leads.append {a b c : D} {ms ns : List Mv} (h : Leads a ms b) (k : Leads b ns c) : Leads a (ms ++ ns) c := by
  induction h with
  | nil => exact k
  | cons s _ ih => exact .cons s (ih k)
theorem Leads.one {a b : D} {m : Mv} (s : Step a m b) : Leads a [m] b := .cons s (.nil _)
theorem Leads.snoc {a b c : D} {ms : List Mv} {m : Mv} (h : Leads a ms b) (s : Step b m c) : Leads a (ms ++ [m]) c := h.append (.one s)
theorem Step.behind {a b : D} {m : Mv} (s : Step a m b) (z : D) : Step (a ++ z) m (b ++ z) := by
  obtain ⟨h, x, y, rfl, rfl, e⟩ := s
  exact ⟨h, x, y ++ z, by simp, by simp, e⟩
theorem Leads.behind {a b : D} {ms : List Mv} (h : Leads a ms b) (z : D) : Leads (a ++ z) ms (b ++ z) := by
  induction h with
  | nil => exact .nil _
  | cons s _ ih => exact .cons (s.behind z) ih
def opp (m : Mv) : Mv := ⟨m.place, m.new, m.old⟩
theorem IsMv.opp {m : Mv} (h : IsMv m) : IsMv (opp m) := by
  obtain ⟨p, o, n⟩ := m
  obtain ⟨h1, h2⟩ := h
  rcases h1 with e | e
  · simp only at e
    subst e
    exact ⟨.inr rfl, by simpa [RM.opp] using h2⟩
  · simp only at e
    subst e
    exact ⟨.inl rfl, by simpa [RM.opp] using h2⟩
theorem Step.opp {a b : D} {m : Mv} (s : Step a m b) : Step b (opp m) a := by
  obtain ⟨h, x, y, rfl, rfl, e⟩ := s
  exact ⟨h.opp, x, y, rfl, rfl, e⟩
theorem Leads.opp {a b : D} {ms : List Mv} (h : Leads a ms b) : Leads b (ms.reverse.map RM.opp) a := by
  induction h with
  | nil => exact .nil _
  | cons s _ ih =>
    rw [List.reverse_cons, List.map_append]
    exact ih.snoc s.opp
/-! ### numbers: a pair up to its sign -/
abbrev P2 := Int × Int
def stp (v : P2) : L → P2
  | T => (v.1 + v.2, v.2)
  | U => (v.1 - v.2, v.2)
  | R => (v.2, -v.1)
def rawF (d : D) (v : P2) : P2 := d.foldl stp v
def raw (d : D) : P2 := rawF d (0, -1)
def neg (v : P2) : P2 := (-v.1, -v.2)
theorem neg_neg (v : P2) : neg (neg v) = v := by
  obtain ⟨x, y⟩ := v
  simp [neg]
theorem stp_neg (v : P2) (l : L) : stp (neg v) l = neg (stp v l) := by
  obtain ⟨x, y⟩ := v
  cases l <;> simp [stp, neg] <;> omega
theorem rawF_neg (d : D) (v : P2) : rawF d (neg v) = neg (rawF d v) := by
  induction d generalizing v with
  | nil => rfl
  | cons l d ih =>
    show rawF d (stp (neg v) l) = neg (rawF d (stp v l))
    rw [stp_neg, ih]
theorem rawF_append (a b : D) (v : P2) : rawF (a ++ b) v = rawF b (rawF a v) := by
  unfold rawF
  rw [List.foldl_append]
/-- alike up to the sign -/
def Pm (v w : P2) : Prop := v = w ∨ v = neg w
theorem Pm.refl (v : P2) : Pm v v := .inl rfl
theorem Pm.symm {v w : P2} (h : Pm v w) : Pm w v := by
  rcases h with rfl | rfl
  · exact .inl rfl
  · exact .inr (neg_neg _).symm
theorem Pm.trans {u v w : P2} (h : Pm u v) (k : Pm v w) : Pm u w := by
  rcases h with rfl | rfl
  · exact k
  · rcases k with rfl | rfl
    · exact .inr rfl
    · exact .inl (neg_neg _)
theorem Pm.rawF {v w : P2} (h : Pm v w) (d : D) : Pm (rawF d v) (rawF d w) := by
  rcases h with rfl | rfl
  · exact .refl _
  · exact .inr (rawF_neg _ _)
theorem word_id {wd : D} (h : wd ∈ anywhere) (v : P2) : Pm (rawF wd v) v := by
  obtain ⟨x, y⟩ := v
  simp only [anywhere, List.mem_cons, List.not_mem_nil, or_false] at h
  rcases h with rfl | rfl | rfl | rfl
  · exact .inl (by simp [rawF, stp])
  · exact .inl (by simp [rawF, stp])
  · exact .inr (by simp [rawF, stp, neg])
  · simp only [rawF, List.foldl, stp, Pm, neg, Prod.mk.injEq]
    omega
theorem rtr_id : Pm (rawF [R, T, R] (0, -1)) (0, -1) := .inr (by simp [rawF, stp, neg])
theorem Step.raw {a b : D} {m : Mv} (s : Step a m b) : Pm (raw a) (raw b) := by
  obtain ⟨⟨h1, h2⟩, x, y, rfl, rfl, e⟩ := s
  have key : Pm (rawF m.old (rawF x (0, -1))) (rawF m.new (rawF x (0, -1))) := by
    have hw : ∀ v : P2, (m.old ++ m.new ∈ anywhere ∨ (m.place = 0 ∧ m.old ++ m.new = [R, T, R])) → v = rawF x (0, -1) → Pm (rawF (m.old ++ m.new) v) v := by
      intro v h ev
      rcases h with h | ⟨h0, h⟩
      · exact word_id h v
      · rw [h]
        have hx : x = [] := List.eq_nil_of_length_eq_zero (by omega)
        subst hx
        subst ev
        exact rtr_id
    rcases h1 with e1 | e1
    · have := hw _ h2 rfl
      rw [e1] at this ⊢
      exact this.symm
    · have := hw _ h2 rfl
      rw [e1, List.append_nil] at this
      rw [e1]
      exact this
  show Pm (rawF (x ++ m.old ++ y) (0, -1)) (rawF (x ++ m.new ++ y) (0, -1))
  rw [rawF_append, rawF_append, rawF_append, rawF_append]
  exact key.rawF y
theorem Leads.raw {a b : D} {ms : List Mv} (h : Leads a ms b) : Pm (raw a) (raw b) := by
  induction h with
  | nil => exact .refl _
  | cons s _ ih => exact s.raw.trans ih
/-- the fraction of a pair -/
def norm (v : P2) : P2 := if v.2 < 0 ∨ (v.2 = 0 ∧ v.1 < 0) then neg v else v
theorem norm_neg (v : P2) (h : v ≠ (0, 0)) : norm (neg v) = norm v := by
  obtain ⟨x, y⟩ := v
  have h' : ¬ (x = 0 ∧ y = 0) := fun ⟨a, b⟩ => h (by rw [a, b])
  unfold norm neg
  simp only
  by_cases h1 : y < 0 ∨ (y = 0 ∧ x < 0)
  · rw [if_pos h1, if_neg (by omega)]
  · rw [if_neg h1, if_pos (by omega)]
    simp
theorem norm_pm {v w : P2} (h : Pm v w) (hw : w ≠ (0, 0)) : norm v = norm w := by
  rcases h with rfl | rfl
  · rfl
  · exact norm_neg w hw
/-- coprime, by two factors -/
def Cop (v : P2) : Prop := Int.gcd v.1 v.2 = 1
theorem Cop.ne {v : P2} (h : Cop v) : v ≠ (0, 0) := by
  rintro rfl
  simp [Cop] at h
theorem gcd_dvd {x y : Int} (h : ∀ d : Nat, (d : Int) ∣ x → (d : Int) ∣ y → d = 1) : Int.gcd x y = 1 :=
  h _ (Int.gcd_dvd_left ..) (Int.gcd_dvd_right ..)
theorem dvd_one_of_gcd {x y : Int} (h : Int.gcd x y = 1) (d : Nat) (hx : (d : Int) ∣ x) (hy : (d : Int) ∣ y) : d = 1 := by
  have h1 : (d : Nat) ∣ Int.gcd x y := Int.dvd_gcd hx hy |> fun q => by exact_mod_cast q
  rw [h] at h1
  exact Nat.dvd_one.mp h1
theorem Cop.stp {v : P2} (h : Cop v) (l : L) : Cop (stp v l) := by
  obtain ⟨x, y⟩ := v
  have h' : Int.gcd x y = 1 := h
  refine gcd_dvd fun d h1 h2 => ?_
  cases l with
  | T =>
    have h1' : (d : Int) ∣ x + y := h1
    have h2' : (d : Int) ∣ y := h2
    refine dvd_one_of_gcd h' d ?_ h2'
    have := Int.dvd_sub h1' h2'
    rwa [Int.add_sub_cancel] at this
  | U =>
    have h1' : (d : Int) ∣ x - y := h1
    have h2' : (d : Int) ∣ y := h2
    refine dvd_one_of_gcd h' d ?_ h2'
    have := Int.dvd_add h1' h2'
    rwa [Int.sub_add_cancel] at this
  | R =>
    have h1' : (d : Int) ∣ y := h1
    have h2' : (d : Int) ∣ -x := h2
    exact dvd_one_of_gcd h' d (Int.dvd_neg.mp h2') h1'
theorem cop_rawF (d : D) (v : P2) (h : Cop v) : Cop (rawF d v) := by
  induction d generalizing v with
  | nil => exact h
  | cons l d ih => exact ih _ (h.stp l)
theorem cop_raw (d : D) : Cop (raw d) := cop_rawF d _ (show Int.gcd 0 (-1) = 1 by decide)
/-- the number of a dance -/
def num (d : D) : P2 := norm (raw d)
theorem Leads.num {a b : D} {ms : List Mv} (h : Leads a ms b) : num a = num b := norm_pm h.raw (cop_raw b).ne
/-- the program's call -/
def called (v : P2) : L → P2
  | T => (v.1 + v.2, v.2)
  | U => (v.1 - v.2, v.2)
  | R => if v.1 = 0 then (1, 0) else if v.1 < 0 then (v.2, -v.1) else (-v.2, v.1)
theorem called_norm (v : P2) (h : Cop v) (l : L) : called (norm v) l = norm (stp v l) := by
  obtain ⟨x, y⟩ := v
  have hc : Int.gcd x y = 1 := h
  have h0 : ¬ (x = 0 ∧ y = 0) := fun ⟨a, b⟩ => h.ne (by rw [a, b])
  have hx0 : x = 0 → y = 1 ∨ y = -1 := fun e => by
    rw [e, Int.gcd_zero_left] at hc
    omega
  cases l with
  | T =>
    show ((norm (x, y)).1 + (norm (x, y)).2, (norm (x, y)).2) = norm (x + y, y)
    unfold norm neg
    simp only
    by_cases h1 : y < 0 ∨ (y = 0 ∧ x < 0)
    · rw [if_pos h1, if_pos (by omega)]
      refine Prod.ext ?_ ?_ <;> simp only <;> omega
    · rw [if_neg h1, if_neg (by omega)]
  | U =>
    show ((norm (x, y)).1 - (norm (x, y)).2, (norm (x, y)).2) = norm (x - y, y)
    unfold norm neg
    simp only
    by_cases h1 : y < 0 ∨ (y = 0 ∧ x < 0)
    · rw [if_pos h1, if_pos (by omega)]
      refine Prod.ext ?_ ?_ <;> simp only <;> omega
    · rw [if_neg h1, if_neg (by omega)]
  | R =>
    show (if (norm (x, y)).1 = 0 then ((1, 0) : P2) else if (norm (x, y)).1 < 0 then ((norm (x, y)).2, -(norm (x, y)).1) else (-(norm (x, y)).2, (norm (x, y)).1)) = norm (y, -x)
    unfold norm neg
    simp only
    by_cases h1 : y < 0 ∨ (y = 0 ∧ x < 0)
    · rw [if_pos h1]
      simp only
      by_cases hx : x = 0
      · have := hx0 hx
        rw [if_pos (by omega), if_pos (by omega)]
        refine Prod.ext ?_ ?_ <;> simp only <;> omega
      · rw [if_neg (by omega)]
        by_cases hn : -x < 0
        · rw [if_pos hn, if_pos (by omega)]
        · rw [if_neg hn, if_neg (by omega)]
          refine Prod.ext ?_ ?_ <;> simp only <;> omega
    · rw [if_neg h1]
      simp only
      by_cases hx : x = 0
      · have := hx0 hx
        rw [if_pos hx, if_neg (by omega)]
        refine Prod.ext ?_ ?_ <;> simp only <;> omega
      · rw [if_neg hx]
        by_cases hn : x < 0
        · rw [if_pos hn, if_neg (by omega)]
        · rw [if_neg hn, if_pos (by omega)]
          refine Prod.ext ?_ ?_ <;> simp only <;> omega
theorem num_snoc (d : D) (l : L) : num (d ++ [l]) = called (num d) l := by
  show norm (rawF (d ++ [l]) (0, -1)) = called (norm (raw d)) l
  rw [rawF_append, called_norm _ (cop_raw d)]
  rfl
theorem num_nil : num [] = (0, 1) := by decide
/-- bounds -/
theorem raw_le (d : D) : (raw d).1.natAbs ≤ 2 ^ d.length ∧ (raw d).2.natAbs ≤ 2 ^ d.length := by
  have key : ∀ (d : D) (v : P2) (n : Nat), v.1.natAbs ≤ n → v.2.natAbs ≤ n → (rawF d v).1.natAbs ≤ n * 2 ^ d.length ∧ (rawF d v).2.natAbs ≤ n * 2 ^ d.length := by
    intro d
    induction d with
    | nil =>
      intro v n h1 h2
      simpa [rawF] using ⟨h1, h2⟩
    | cons l d ih =>
      intro v n h1 h2
      have := ih (stp v l) (2 * n) (by cases l <;> simp only [stp] <;> omega) (by cases l <;> simp only [stp] <;> omega)
      rw [List.length_cons, Nat.pow_succ]
      have e : n * (2 ^ d.length * 2) = 2 * n * 2 ^ d.length := by
        rw [Nat.mul_comm (2 ^ d.length) 2, ← Nat.mul_assoc, Nat.mul_comm n 2]
      rw [e]
      exact this
  have := key d (0, -1) 1 (by decide) (by decide)
  simpa [raw] using this
theorem norm_cases (v : P2) : norm v = v ∨ norm v = neg v := by
  unfold norm
  split
  · exact .inr rfl
  · exact .inl rfl
theorem num_le (d : D) : (num d).1.natAbs ≤ 2 ^ d.length ∧ (num d).2.natAbs ≤ 2 ^ d.length := by
  have h := raw_le d
  rcases norm_cases (raw d) with e | e
  · unfold num
    rw [e]
    exact h
  · unfold num
    rw [e]
    simpa [neg] using h
theorem num_q (d : D) : 0 ≤ (num d).2 := by
  unfold num norm neg
  split
  · simp only
    omega
  · omega
/-! ### normal forms -/
def tw (n : Nat) : D := List.replicate n T
def uw (n : Nat) : D := List.replicate n U
def run (a : Int) : D := if a < 0 then uw (-a).toNat else tw a.toNat
theorem tw_succ (n : Nat) : tw (n + 1) = tw n ++ [T] := List.replicate_succ'
theorem uw_succ (n : Nat) : uw (n + 1) = uw n ++ [U] := List.replicate_succ'
theorem tw_len (n : Nat) : (tw n).length = n := List.length_replicate
theorem uw_len (n : Nat) : (uw n).length = n := List.length_replicate
theorem rawF_tw (n : Nat) (v : P2) : rawF (tw n) v = (v.1 + n * v.2, v.2) := by
  induction n generalizing v with
  | zero => simp [tw, rawF]
  | succ n ih =>
    show rawF (tw n) (stp v T) = _
    rw [ih]
    refine Prod.ext ?_ rfl
    simp only [stp]
    rw [show ((n + 1 : Nat) : Int) = (n : Int) + 1 from rfl, Int.add_mul]
    omega
theorem rawF_uw (n : Nat) (v : P2) : rawF (uw n) v = (v.1 - n * v.2, v.2) := by
  induction n generalizing v with
  | zero => simp [uw, rawF]
  | succ n ih =>
    show rawF (uw n) (stp v U) = _
    rw [ih]
    refine Prod.ext ?_ rfl
    simp only [stp]
    rw [show ((n + 1 : Nat) : Int) = (n : Int) + 1 from rfl, Int.add_mul]
    omega
theorem rawF_run (a : Int) (v : P2) : rawF (run a) v = (v.1 + a * v.2, v.2) := by
  unfold run
  split
  · rename_i h
    rw [rawF_uw]
    have e : ((-a).toNat : Int) = -a := by omega
    rw [e, Int.neg_mul]
    refine Prod.ext ?_ rfl
    simp only
    omega
  · rename_i h
    rw [rawF_tw]
    have e : (a.toNat : Int) = a := by omega
    rw [e]
/-- runs of two or more twists with turns between them, with its value -/
inductive Core : D → Int → Int → Prop
  | one (a : Nat) : 2 ≤ a → Core (tw a) a 1
  | more {d : D} {p q : Int} (a : Nat) : Core d p q → 2 ≤ a → Core (d ++ R :: tw a) (a * p - q) p
inductive NF : D → Int → Int → Prop
  | inf : NF [R] 1 0
  | int (a : Int) : NF (run a) a 1
  | frac {d : D} {p q : Int} (a : Int) : Core d p q → NF (d ++ R :: run a) (a * p - q) p
theorem run_nat (a : Nat) : run (a : Int) = tw a := by
  unfold run
  rw [if_neg (by omega)]
  simp
theorem Core.nf {d : D} {p q : Int} (h : Core d p q) : NF d p q := by
  cases h with
  | one a _ =>
    have := NF.int (a : Int)
    rwa [run_nat] at this
  | more a h _ =>
    have := NF.frac (a : Int) h
    rwa [run_nat] at this
theorem Core.lt {d : D} {p q : Int} (h : Core d p q) : 1 ≤ q ∧ q < p := by
  induction h with
  | one a h => omega
  | more a _ ha ih =>
    rename_i d p q _
    refine ⟨by omega, ?_⟩
    have : 2 * p ≤ (a : Int) * p := Int.mul_le_mul_of_nonneg_right (by omega) (by omega)
    omega
theorem mul_eq {a b p q r : Int} (h : a * p - q = b * p - r) (hp : 0 < p) (h1 : 0 < q) (h2 : q < p) (h3 : 0 < r) (h4 : r < p) : a = b ∧ q = r := by
  have e : (a - b) * p = q - r := by
    rw [Int.sub_mul]
    omega
  have : a - b = 0 := by
    rcases Int.lt_trichotomy (a - b) 0 with h | h | h
    · have : (a - b) * p ≤ (-1) * p := Int.mul_le_mul_of_nonneg_right (by omega) (by omega)
      omega
    · exact h
    · have : 1 * p ≤ (a - b) * p := Int.mul_le_mul_of_nonneg_right (by omega) (by omega)
      omega
  refine ⟨by omega, ?_⟩
  rw [this, Int.zero_mul] at e
  omega
theorem core_unique {d : D} {p q : Int} (h : Core d p q) : ∀ {d' : D} {p' q' : Int}, Core d' p' q' → p = p' → q = q' → d = d' := by
  induction h with
  | one a ha =>
    intro d' p' q' h' e1 e2
    cases h' with
    | one b _ =>
      have : a = b := by omega
      rw [this]
    | more b h _ =>
      have := h.lt
      omega
  | more a h ha ih =>
    intro d' p' q' h' e1 e2
    cases h' with
    | one b _ =>
      have := h.lt
      omega
    | more b k hb =>
      have l1 := h.lt
      have l2 := k.lt
      subst e2
      obtain ⟨e3, e4⟩ := mul_eq e1 (by omega) (by omega) (by omega) (by omega) (by omega)
      have e5 : a = b := by omega
      rw [ih k rfl e4, e5]
theorem nf_unique {d d' : D} {p q : Int} (h : NF d p q) (k : NF d' p q) : d = d' := by
  generalize hp' : p = p' at k
  generalize hq' : q = q' at k
  cases h with
  | inf =>
    cases k with
    | inf => rfl
    | int b => omega
    | frac b k => have := k.lt; omega
  | int a =>
    cases k with
    | inf => omega
    | int b => rw [hp']
    | frac b k => have := k.lt; omega
  | frac a h =>
    have l1 := h.lt
    cases k with
    | inf => omega
    | int b => omega
    | frac b k =>
      have l2 := k.lt
      subst hq'
      obtain ⟨e3, e4⟩ := mul_eq hp' (by omega) (by omega) (by omega) (by omega) (by omega)
      rw [core_unique h k rfl e4, e3]
theorem core_raw {d : D} {p q : Int} (h : Core d p q) : Pm (raw d) (p, q) := by
  induction h with
  | one a ha =>
    refine .inr ?_
    show rawF (tw a) (0, -1) = _
    rw [rawF_tw]
    simp [neg]
  | more a h ha ih =>
    rename_i d p q
    show Pm (rawF (d ++ R :: tw a) (0, -1)) _
    rw [rawF_append]
    refine (Pm.rawF ih _).trans (.inr ?_)
    show rawF (tw a) (stp (p, q) R) = _
    rw [rawF_tw]
    simp only [stp, neg]
    rw [Int.mul_neg]
    refine Prod.ext ?_ ?_ <;> simp only <;> omega
theorem nf_raw {d : D} {p q : Int} (h : NF d p q) : Pm (raw d) (p, q) := by
  cases h with
  | inf => exact .inr (by decide)
  | int =>
    refine .inr ?_
    show rawF (run _) (0, -1) = _
    rw [rawF_run]
    simp [neg]
  | frac a h =>
    show Pm (rawF (_ ++ R :: run a) (0, -1)) _
    rw [rawF_append]
    refine (Pm.rawF (core_raw h) _).trans (.inr ?_)
    show rawF (run a) (stp (_, _) R) = _
    rw [rawF_run]
    simp only [stp, neg]
    rw [Int.mul_neg]
    refine Prod.ext ?_ ?_ <;> simp only <;> omega
theorem nf_pos {d : D} {p q : Int} (h : NF d p q) : norm (p, q) = (p, q) := by
  unfold norm
  cases h with
  | inf => decide
  | int a => simp
  | frac a h => have := h.lt; rw [if_neg (by simp only; omega)]
theorem nf_num {d : D} {p q : Int} (h : NF d p q) : num d = (p, q) := by
  have h1 := nf_raw h
  have h0 : (p, q) ≠ ((0, 0) : P2) := by
    intro e
    have h2 := h1
    rw [e] at h2
    have h3 : raw d = (0, 0) := by
      rcases h2 with h2 | h2
      · exact h2
      · rw [h2]
        rfl
    exact (cop_raw d).ne h3
  show norm (raw d) = _
  rw [norm_pm h1 h0, nf_pos h]
/-! ### normal forms by their shape, with a bound -/
def pot (a : Int) : Nat := if a < 0 then 3 * (-a).toNat else a.toNat
def CoreS (d : D) : Prop := ∃ p q, Core d p q
inductive NFs : D → Nat → Prop
  | inf : NFs [R] 1
  | int (a : Int) : NFs (run a) (pot a)
  | frac {d : D} (a : Int) : CoreS d → NFs (d ++ R :: run a) (d.length + 1 + pot a)
theorem run_len (a : Int) : (run a).length ≤ pot a := by
  unfold run pot
  split
  · rw [uw_len]
    omega
  · rw [tw_len]
    omega
theorem NFs.len {d : D} {n : Nat} (h : NFs d n) : d.length ≤ n := by
  cases h with
  | inf => decide
  | int a => exact run_len a
  | frac a h =>
    have := run_len a
    simp only [List.length_append, List.length_cons]
    omega
theorem NFs.nf {d : D} {n : Nat} (h : NFs d n) : ∃ p q, NF d p q := by
  cases h with
  | inf => exact ⟨_, _, .inf⟩
  | int a => exact ⟨_, _, .int a⟩
  | frac a h =>
    obtain ⟨p, q, h⟩ := h
    exact ⟨_, _, .frac a h⟩
theorem NFs.same {d d' : D} {n n' : Nat} (h : NFs d n) (k : NFs d' n') (e : num d = num d') : d = d' := by
  obtain ⟨p, q, h1⟩ := h.nf
  obtain ⟨p', q', k1⟩ := k.nf
  have e1 := nf_num h1
  have e2 := nf_num k1
  rw [e1, e2] at e
  injection e with e3 e4
  subst e3
  subst e4
  exact nf_unique h1 k1
end RM
/-! The plain law, second part: how one letter is settled. -/
namespace RM
open L
theorem ins_step {a b x y w : D} {p : Nat} (h : w ∈ anywhere) (e1 : a = x ++ y) (e2 : b = x ++ w ++ y) (ep : p = x.length) : Step a ⟨p, [], w⟩ b :=
  ⟨⟨.inl rfl, .inl (by simpa using h)⟩, x, y, by simpa using e1, by simpa using e2, ep⟩
theorem del_step {a b x y w : D} {p : Nat} (h : w ∈ anywhere) (e1 : a = x ++ w ++ y) (e2 : b = x ++ y) (ep : p = x.length) : Step a ⟨p, w, []⟩ b :=
  ⟨⟨.inr rfl, .inl (by simpa using h)⟩, x, y, by simpa using e1, by simpa using e2, ep⟩
theorem ins0_step {a b : D} (e2 : b = [R, T, R] ++ a) : Step a ⟨0, [], [R, T, R]⟩ b :=
  ⟨⟨.inl rfl, .inr ⟨rfl, rfl⟩⟩, [], a, by simp, by simpa using e2, rfl⟩
theorem del0_step {a b : D} (e1 : a = [R, T, R] ++ b) : Step a ⟨0, [R, T, R], []⟩ b :=
  ⟨⟨.inr rfl, .inr ⟨rfl, rfl⟩⟩, [], b, by simpa using e1, by simp, rfl⟩
abbrev w6 : D := [T, R, T, R, T, R]
theorem in_TU : [T, U] ∈ anywhere := by decide
theorem in_UT : [U, T] ∈ anywhere := by decide
theorem in_RR : [R, R] ∈ anywhere := by decide
theorem in_w6 : w6 ∈ anywhere := by decide
/-! ### runs -/
theorem run_up {a : Int} (h : 0 ≤ a) : run (a + 1) = run a ++ [T] := by
  unfold run
  rw [if_neg (by omega), if_neg (by omega), show (a + 1).toNat = a.toNat + 1 by omega, tw_succ]
theorem run_up_neg {a : Int} (h : a < 0) : run a = run (a + 1) ++ [U] := by
  unfold run
  rw [if_pos h]
  by_cases h1 : a + 1 < 0
  · rw [if_pos h1, show (-a).toNat = (-(a + 1)).toNat + 1 by omega, uw_succ]
  · rw [if_neg h1, show a = -1 by omega]
    rfl
theorem run_dn {a : Int} (h : a ≤ 0) : run (a - 1) = run a ++ [U] := by
  have := run_up_neg (a := a - 1) (by omega)
  rwa [Int.sub_add_cancel] at this
theorem run_dn_pos {a : Int} (h : 0 < a) : run a = run (a - 1) ++ [T] := by
  have := run_up (a := a - 1) (by omega)
  rwa [Int.sub_add_cancel] at this
theorem pot_up (a : Int) : pot (a + 1) ≤ pot a + 1 := by
  unfold pot
  split <;> split <;> omega
theorem pot_dn (a : Int) : pot (a - 1) ≤ pot a + 3 := by
  unfold pot
  split <;> split <;> omega
theorem pot_neg_up {a : Int} (h : a < 0) : pot (a + 1) ≤ pot a := by
  unfold pot
  rw [if_pos h]
  split <;> omega
theorem pot_pos_dn {a : Int} (h : 0 < a) : pot (a - 1) ≤ pot a := by
  unfold pot
  rw [if_neg (show ¬ a - 1 < 0 by omega), if_neg (show ¬ a < 0 by omega)]
  omega
theorem run_neg (k : Nat) : run (-((k : Int) + 1)) = uw (k + 1) := by
  unfold run
  rw [if_pos (by omega), show (-(-((k : Int) + 1))).toNat = k + 1 by omega]
theorem pot_neg (k : Nat) : pot (-((k : Int) + 1)) = 3 * (k + 1) := by
  unfold pot
  rw [if_pos (by omega), show (-(-((k : Int) + 1))).toNat = k + 1 by omega]
theorem pot_nat (k : Nat) : pot (k : Int) = k := by
  unfold pot
  rw [if_neg (by omega)]
  simp
theorem last_tw (x : D) (n : Nat) : (x ++ R :: tw n).getLast? = if n = 0 then some R else some T := by
  rw [List.getLast?_append]
  cases n with
  | zero => rfl
  | succ n => rw [tw_succ, ← List.cons_append, List.getLast?_concat]; simp
theorem last_uw (x : D) (n : Nat) : (x ++ R :: uw (n + 1)).getLast? = some U := by
  rw [uw_succ, ← List.cons_append, ← List.append_assoc, List.getLast?_concat]
theorem last_tw0 (n : Nat) : (tw n).getLast? = if n = 0 then none else some T := by
  cases n with
  | zero => rfl
  | succ n => rw [tw_succ, List.getLast?_concat]; simp
theorem run_cases (a : Int) : (∃ n : Nat, a = n ∧ run a = tw n) ∨ (∃ n : Nat, a = -((n : Int) + 1) ∧ run a = uw (n + 1)) := by
  by_cases h : a < 0
  · refine .inr ⟨(-a).toNat - 1, by omega, ?_⟩
    have e : a = -((((-a).toNat - 1 : Nat) : Int) + 1) := by omega
    generalize (-a).toNat - 1 = k at e
    subst e
    exact run_neg k
  · refine .inl ⟨a.toNat, by omega, ?_⟩
    have e : a = (a.toNat : Int) := by omega
    generalize a.toNat = k at e
    subst e
    exact run_nat k
/-! ### a twist, an untwist taken -/
theorem take_T {d : D} {n : Nat} (h : NFs d n) : d = [R] ∨ (∃ d0 n0, d = d0 ++ [U] ∧ NFs d0 n0 ∧ n0 ≤ n) ∨ (∃ n', NFs (d ++ [T]) n' ∧ n' ≤ n + 1 ∧ d ≠ [R] ∧ d.getLast? ≠ some U) := by
  cases h with
  | inf => exact .inl rfl
  | int a =>
    rcases run_cases a with ⟨k, rfl, e⟩ | ⟨k, rfl, e⟩
    · refine .inr (.inr ⟨_, ?_, pot_up _, ?_, ?_⟩)
      · rw [← run_up (by omega)]
        exact .int _
      · rw [e]
        intro q
        have : R ∈ tw k := by rw [q]; decide
        exact absurd (List.eq_of_mem_replicate this) (by decide)
      · rw [e, last_tw0]
        split <;> decide
    · exact .inr (.inl ⟨_, _, run_up_neg (by omega), .int _, pot_neg_up (by omega)⟩)
  | @frac c a h =>
    rcases run_cases a with ⟨k, rfl, e⟩ | ⟨k, rfl, e⟩
    · refine .inr (.inr ⟨_, ?_, Nat.add_le_add_left (pot_up _) _, ?_, ?_⟩)
      · rw [List.append_assoc, List.cons_append, ← run_up (by omega)]
        exact .frac _ h
      · obtain ⟨p, q, h⟩ := h
        intro z
        cases h with
        | one b hb =>
          have := congrArg List.length z
          simp [tw_len] at this
          omega
        | more b h hb =>
          have := congrArg List.length z
          simp at this
          omega
      · rw [e, last_tw]
        split <;> decide
    · refine .inr (.inl ⟨c ++ R :: run (-((k : Int) + 1) + 1), _, ?_, .frac _ h, Nat.add_le_add_left (pot_neg_up (by omega)) _⟩)
      rw [List.append_assoc, List.cons_append, ← run_up_neg (by omega)]
theorem core_ne {d : D} (h : CoreS d) : d ≠ [] := by
  rintro rfl
  obtain ⟨p, q, h⟩ := h
  generalize e : ([] : D) = z at h
  cases h with
  | one a ha =>
    have := congrArg List.length e
    simp [tw_len] at this
    omega
  | more a h ha => simp at e
theorem take_U {d : D} {n : Nat} (h : NFs d n) : d = [R] ∨ (∃ d0 n0, d = d0 ++ [T] ∧ NFs d0 n0 ∧ n0 ≤ n) ∨ (∃ n', NFs (d ++ [U]) n' ∧ n' ≤ n + 3 ∧ d ≠ [R] ∧ d.getLast? ≠ some T) := by
  cases h with
  | inf => exact .inl rfl
  | int a =>
    by_cases ha : 0 < a
    · exact .inr (.inl ⟨_, _, run_dn_pos ha, .int _, pot_pos_dn ha⟩)
    · refine .inr (.inr ⟨_, ?_, pot_dn a, ?_, ?_⟩)
      · rw [← run_dn (by omega)]
        exact .int _
      · rcases run_cases a with ⟨k, rfl, e⟩ | ⟨k, rfl, e⟩
        · rw [e, show k = 0 by omega]
          decide
        · rw [e]
          intro q
          have : R ∈ uw (k + 1) := by rw [q]; decide
          exact absurd (List.eq_of_mem_replicate this) (by decide)
      · rcases run_cases a with ⟨k, rfl, e⟩ | ⟨k, rfl, e⟩
        · rw [e, show k = 0 by omega]
          decide
        · rw [e, uw_succ, List.getLast?_concat]
          decide
  | @frac c a h =>
    by_cases ha : 0 < a
    · refine .inr (.inl ⟨c ++ R :: run (a - 1), _, ?_, .frac _ h, Nat.add_le_add_left (pot_pos_dn ha) _⟩)
      rw [List.append_assoc, List.cons_append, ← run_dn_pos ha]
    · refine .inr (.inr ⟨_, ?_, Nat.add_le_add_left (pot_dn _) _, ?_, ?_⟩)
      · rw [List.append_assoc, List.cons_append, ← run_dn (by omega)]
        exact .frac _ h
      · intro z
        have := congrArg List.length z
        have h1 : c ≠ [] := core_ne h
        have h2 : 0 < c.length := List.length_pos_iff.mpr h1
        simp at this
        omega
      · rcases run_cases a with ⟨k, rfl, e⟩ | ⟨k, rfl, e⟩
        · rw [e, show k = 0 by omega, last_tw]
          decide
        · rw [e, last_uw]
          decide
/-! ### cores -/
theorem core_tw {d : D} {n : Nat} (h : CoreS d) (hn : 2 ≤ n) : CoreS (d ++ R :: tw n) := by
  obtain ⟨p, q, h⟩ := h
  exact ⟨_, _, .more n h hn⟩
/-- a core's last run -/
theorem core_last {d : D} (h : CoreS d) : ∃ (x : D) (a : Nat), 2 ≤ a ∧ d = x ++ tw a ∧ (x = [] ∨ ∃ c, CoreS c ∧ x = c ++ [R]) := by
  obtain ⟨p, q, h⟩ := h
  cases h with
  | one a ha => exact ⟨[], a, ha, rfl, .inl rfl⟩
  | @more c _ _ a h ha => exact ⟨c ++ [R], a, ha, by simp, .inr ⟨c, ⟨_, _, h⟩, rfl⟩⟩
theorem core_of {x : D} {a : Nat} (h : x = [] ∨ ∃ c, CoreS c ∧ x = c ++ [R]) (ha : 2 ≤ a) : CoreS (x ++ tw a) := by
  rcases h with rfl | ⟨c, h, rfl⟩
  · exact ⟨_, _, .one a ha⟩
  · have := core_tw h ha
    simpa using this
theorem core_T {d : D} (h : CoreS d) : CoreS (d ++ [T]) := by
  obtain ⟨x, a, ha, rfl, hx⟩ := core_last h
  rw [List.append_assoc, ← tw_succ]
  exact core_of hx (by omega)
theorem core_nfs {d : D} (h : CoreS d) : NFs d d.length := by
  obtain ⟨x, a, ha, rfl, hx⟩ := core_last h
  rcases hx with rfl | ⟨c, h, rfl⟩
  · have := NFs.int (a : Int)
    rw [run_nat, pot_nat] at this
    simpa [tw_len] using this
  · have := NFs.frac (d := c) (a : Int) (by assumption)
    rw [run_nat, pot_nat] at this
    have e1 : c ++ R :: tw a = c ++ [R] ++ tw a := by simp
    have e2 : (c ++ [R] ++ tw a).length = c.length + 1 + a := by simp only [List.length_append, List.length_singleton, tw_len]
    rw [e2, ← e1]
    exact this
/-- a core ends with two twists; ahead of them more twists of the run, or the run's beginning -/
theorem core_end {c : D} (h : CoreS c) : ∃ c2 : D, c = c2 ++ [T, T] ∧ ((c2.getLast? = some T ∧ CoreS (c2 ++ [T])) ∨ (c2.getLast? ≠ some T ∧ (c2 = [] ∨ ∃ c3, CoreS c3 ∧ c2 = c3 ++ [R]))) := by
  obtain ⟨x, a, ha, rfl, hx⟩ := core_last h
  obtain ⟨b, rfl⟩ : ∃ b, a = b + 2 := ⟨a - 2, by omega⟩
  refine ⟨x ++ tw b, by rw [tw_succ, tw_succ]; simp, ?_⟩
  by_cases hb : b = 0
  · subst hb
    refine .inr ⟨?_, ?_⟩
    · rcases hx with rfl | ⟨c, _, rfl⟩
      · decide
      · simp [tw]
    · simpa [tw] using hx
  · obtain ⟨e, rfl⟩ : ∃ e, b = e + 1 := ⟨b - 1, by omega⟩
    refine .inl ⟨?_, ?_⟩
    · rw [tw_succ, ← List.append_assoc, List.getLast?_concat]
    · rw [List.append_assoc, ← tw_succ]
      exact core_of hx (by omega)
/-! ### a turn taken -/
theorem take_R {d : D} {n : Nat} (h : NFs d n) :
    (∃ d0 n0, d = d0 ++ [R] ∧ NFs d0 n0 ∧ n0 ≤ n) ∨ (∃ k, d = uw (k + 1) ∧ 3 * (k + 1) ≤ n) ∨ (∃ c k, CoreS c ∧ d = c ++ R :: uw (k + 1) ∧ c.length + 1 + 3 * (k + 1) ≤ n) ∨
    (d = [T] ∧ 1 ≤ n) ∨ (∃ c, CoreS c ∧ d = c ++ [R, T] ∧ c.length + 2 ≤ n) ∨
    (∃ n', NFs (d ++ [R]) n' ∧ n' ≤ n + 1 ∧ d.getLast? ≠ some R ∧ d.getLast? ≠ some U ∧ d ≠ [T] ∧ ¬ [R, T] <:+ d) := by
  cases h with
  | inf => exact .inl ⟨[], 0, rfl, NFs.int 0, by decide⟩
  | int a =>
    rcases run_cases a with ⟨k, rfl, e⟩ | ⟨k, rfl, e⟩
    · have nRT : ¬ [R, T] <:+ tw k := fun q => by
        have : R ∈ tw k := q.subset (by decide)
        exact absurd (List.eq_of_mem_replicate this) (by decide)
      match k, e, nRT with
      | 0, e, nRT => refine .inr (.inr (.inr (.inr (.inr ⟨1, ?_, by decide, ?_, ?_, ?_, ?_⟩)))) <;> rw [e]
                     · exact .inf
                     · decide
                     · decide
                     · decide
                     · exact nRT
      | 1, e, nRT => exact .inr (.inr (.inr (.inl ⟨e, by decide⟩)))
      | k + 2, e, nRT =>
        refine .inr (.inr (.inr (.inr (.inr ⟨(tw (k + 2)).length + 1 + pot 0, ?_, ?_, ?_, ?_, ?_, ?_⟩))))
        · rw [e]
          exact .frac 0 ⟨_, _, .one _ (by omega)⟩
        · rw [tw_len, pot_nat, show pot 0 = 0 from rfl]
          omega
        · rw [e, last_tw0]
          simp
        · rw [e, last_tw0]
          simp
        · rw [e]
          intro q
          have := congrArg List.length q
          simp [tw_len] at this
        · rw [e]
          exact nRT
    · exact .inr (.inl ⟨k, e, by rw [pot_neg]; exact Nat.le_refl _⟩)
  | @frac c a h =>
    rcases run_cases a with ⟨k, rfl, e⟩ | ⟨k, rfl, e⟩
    · match k, e with
      | 0, e => exact .inl ⟨c, _, by rw [e]; rfl, core_nfs h, by omega⟩
      | 1, e => exact .inr (.inr (.inr (.inr (.inl ⟨c, h, by rw [e]; rfl, by rw [pot_nat]; omega⟩))))
      | k + 2, e =>
        refine .inr (.inr (.inr (.inr (.inr ⟨(c ++ R :: tw (k + 2)).length + 1 + pot 0, ?_, ?_, ?_, ?_, ?_, ?_⟩))))
        · rw [e]
          exact .frac 0 (core_tw h (by omega))
        · rw [pot_nat, show pot 0 = 0 from rfl]
          simp only [List.length_append, List.length_cons, tw_len]
          omega
        · rw [e, last_tw]
          simp
        · rw [e, last_tw]
          simp
        · rw [e]
          intro q
          have := congrArg List.length q
          simp [tw_len] at this
          omega
        · rw [e]
          rintro ⟨z, q⟩
          have q2 : z ++ [R] ++ [T] = c ++ R :: tw k ++ [T] ++ [T] := by
            rw [tw_succ, tw_succ] at q
            simpa using q
          have q3 := List.append_cancel_right q2
          have q4 := congrArg List.getLast? q3
          rw [List.getLast?_concat, List.getLast?_concat] at q4
          exact absurd (Option.some.inj q4) (by decide)
    · exact .inr (.inr (.inl ⟨c, k, h, by rw [e], by rw [pot_neg]; exact Nat.le_refl _⟩))
/-! ### the untwists settled -/
def trt : Nat → D
  | 0 => []
  | n + 1 => trt n ++ [T, R, T]
theorem trt_len (n : Nat) : (trt n).length = 3 * n := by
  induction n with
  | zero => rfl
  | succ n ih =>
    rw [trt, List.length_append, ih]
    show 3 * n + 3 = 3 * (n + 1)
    omega
theorem trt_cons (n : Nat) : trt (n + 1) = [T, R, T] ++ trt n := by
  induction n with
  | zero => rfl
  | succ n ih =>
    show trt (n + 1) ++ [T, R, T] = [T, R, T] ++ (trt n ++ [T, R, T])
    rw [ih, List.append_assoc]
/-- what is left of the untwists: R U .. U R, or nothing more -/
def rest : Nat → D
  | 0 => []
  | n + 1 => R :: uw (n + 1) ++ [R]
theorem rest_one (n : Nat) : rest (n + 2) = [R, U] ++ (uw (n + 1) ++ [R]) := by
  show R :: uw (n + 2) ++ [R] = _
  rfl
theorem ut0 (Z : D) (n : Nat) : Step (Z ++ rest (n + 2)) ⟨Z.length + 2, [], [R, R]⟩ (Z ++ [R, U, R] ++ rest (n + 1)) :=
  ins_step (x := Z ++ [R, U]) (y := uw (n + 1) ++ [R]) in_RR (by rw [rest_one]; simp) (by simp [rest]) (by simp)
theorem ut0' (Z : D) : Z ++ rest 1 = Z ++ [R, U, R] ++ rest 0 := by simp [rest, uw, List.replicate]
theorem ut1 (Z Y : D) : Step (Z ++ [R, U, R] ++ Y) ⟨Z.length, [], w6⟩ (Z ++ w6 ++ [R, U, R] ++ Y) :=
  ins_step (x := Z) (y := [R, U, R] ++ Y) in_w6 (by simp) (by simp) rfl
theorem ut2 (Z Y : D) : Step (Z ++ w6 ++ [R, U, R] ++ Y) ⟨Z.length + 5, [R, R], []⟩ (Z ++ [T, R, T, R, T, U, R] ++ Y) :=
  del_step (x := Z ++ [T, R, T, R, T]) (y := [U, R] ++ Y) in_RR (by simp) (by simp) (by simp)
theorem ut3 (Z Y : D) : Step (Z ++ [T, R, T, R, T, U, R] ++ Y) ⟨Z.length + 4, [T, U], []⟩ (Z ++ [T, R, T, R, R] ++ Y) :=
  del_step (x := Z ++ [T, R, T, R]) (y := [R] ++ Y) in_TU (by simp) (by simp) (by simp)
theorem ut4 (Z Y : D) : Step (Z ++ [T, R, T, R, R] ++ Y) ⟨Z.length + 3, [R, R], []⟩ (Z ++ [T, R, T] ++ Y) :=
  del_step (x := Z ++ [T, R, T]) (y := Y) in_RR (by simp) (by simp) (by simp)
theorem utB (n : Nat) : Step (uw (n + 1) ++ [R]) ⟨0, [], [R, R]⟩ ([R] ++ trt 0 ++ rest (n + 1)) :=
  ins_step (x := []) (y := uw (n + 1) ++ [R]) in_RR (by simp) (by simp [trt, rest]) rfl
theorem utE (n : Nat) : Step ([R] ++ trt (n + 1)) ⟨0, [R, T, R], []⟩ ([T] ++ trt n) :=
  del0_step (by rw [trt_cons]; simp)
theorem trt_nf1 (n : Nat) : ∀ {c : D}, CoreS c → NFs (c ++ [R, T] ++ trt n) (c.length + 2 + 3 * n) := by
  induction n with
  | zero =>
    intro c h
    have := NFs.frac 1 h
    simpa [trt, run, tw, pot] using this
  | succ n ih =>
    intro c h
    have := ih (core_tw h (Nat.le_refl 2))
    rw [trt_cons]
    have e1 : c ++ R :: tw 2 ++ [R, T] ++ trt n = c ++ [R, T] ++ ([T, R, T] ++ trt n) := by simp [tw, List.replicate]
    have e2 : (c ++ R :: tw 2).length + 2 + 3 * n = c.length + 2 + 3 * (n + 1) := by
      rw [List.length_append, List.length_cons, tw_len]
      omega
    rw [e1, e2] at this
    exact this
theorem trt_nf (n : Nat) {c : D} (h : CoreS c) : NFs (c ++ trt (n + 1)) (c.length + 3 * (n + 1)) := by
  have := trt_nf1 n (core_T h)
  rw [trt_cons]
  have e1 : c ++ [T] ++ [R, T] ++ trt n = c ++ ([T, R, T] ++ trt n) := by simp
  have e2 : (c ++ [T]).length + 2 + 3 * n = c.length + 3 * (n + 1) := by
    rw [List.length_append, List.length_singleton]
    omega
  rw [e1, e2] at this
  exact this
theorem trt_nf0 (n : Nat) : NFs ([T] ++ trt n) (3 * n + 1) := by
  cases n with
  | zero => exact NFs.int 1
  | succ n =>
    have := trt_nf1 n (c := tw 2) ⟨_, _, .one 2 (Nat.le_refl 2)⟩
    rw [trt_cons]
    have e1 : tw 2 ++ [R, T] ++ trt n = [T] ++ ([T, R, T] ++ trt n) := by simp [tw, List.replicate]
    have e2 : (tw 2).length + 2 + 3 * n = 3 * (n + 1) + 1 := by
      rw [tw_len]
      omega
    rw [e1, e2] at this
    exact this
/-! ### a single twist settled -/
def Pre (P : D) : Prop := P = [] ∨ ∃ c, CoreS c ∧ P = c ++ [R]
theorem st1 (c : D) (m : Nat) : Step (c ++ [R] ++ [T, R] ++ uw m) ⟨c.length, [], [U, T]⟩ (c ++ [U, T, R, T, R] ++ uw m) :=
  ins_step (x := c) (y := [R, T, R] ++ uw m) in_UT (by simp) (by simp) rfl
theorem st2 (c : D) (m : Nat) : Step (c ++ [U, T, R, T, R] ++ uw m) ⟨c.length + 5, [], [T, U]⟩ (c ++ [U, T, R, T, R, T] ++ uw (m + 1)) :=
  ins_step (x := c ++ [U, T, R, T, R]) (y := uw m) in_TU rfl (by simp [uw, List.replicate]) (by simp)
theorem st3 (c : D) (m : Nat) : Step (c ++ [U, T, R, T, R, T] ++ uw (m + 1)) ⟨c.length + 6, [], [R, R]⟩ (c ++ [U] ++ w6 ++ [R] ++ uw (m + 1)) :=
  ins_step (x := c ++ [U, T, R, T, R, T]) (y := uw (m + 1)) in_RR rfl (by simp) (by simp)
theorem st4 (c : D) (m : Nat) : Step (c ++ [U] ++ w6 ++ [R] ++ uw (m + 1)) ⟨c.length + 1, w6, []⟩ (c ++ [U, R] ++ uw (m + 1)) :=
  del_step (x := c ++ [U]) (y := [R] ++ uw (m + 1)) in_w6 (by simp) (by simp) (by simp)
theorem st5 (c2 : D) (m : Nat) : Step (c2 ++ [T, T] ++ [U, R] ++ uw (m + 1)) ⟨c2.length + 1, [T, U], []⟩ (c2 ++ [T, R] ++ uw (m + 1)) :=
  del_step (x := c2 ++ [T]) (y := [R] ++ uw (m + 1)) in_TU (by simp) (by simp) (by simp)
theorem se1 (m : Nat) : Step ([T, R] ++ uw m) ⟨0, [], [R, T, R]⟩ ([R, T, R, T, R] ++ uw m) := ins0_step (by simp)
theorem se2 (m : Nat) : Step ([R, T, R, T, R] ++ uw m) ⟨0, [], [U, T]⟩ ([U] ++ w6 ++ uw m) :=
  ins_step (x := []) (y := [R, T, R, T, R] ++ uw m) in_UT (by simp) (by simp) rfl
theorem se3 (m : Nat) : Step ([U] ++ w6 ++ uw m) ⟨1, w6, []⟩ (uw (m + 1)) :=
  del_step (x := [U]) (y := uw m) in_w6 (by simp) (by simp [uw, List.replicate]) rfl
theorem uw_nf (m : Nat) : NFs (uw (m + 1)) (3 * (m + 1)) := by
  have := NFs.int (-((m : Int) + 1))
  rwa [run_neg, pot_neg] at this
theorem single_nf {c2 : D} (h : CoreS (c2 ++ [T])) (m : Nat) : NFs (c2 ++ [T, R] ++ uw (m + 1)) (c2.length + 2 + 3 * (m + 1)) := by
  have := NFs.frac (-((m : Int) + 1)) h
  rw [run_neg, pot_neg] at this
  have e1 : c2 ++ [T] ++ R :: uw (m + 1) = c2 ++ [T, R] ++ uw (m + 1) := by simp
  rw [e1, List.length_append, List.length_singleton] at this
  exact this
/-! ### the few moves of the other letters -/
theorem rt1 : Step [R, T] ⟨2, [], [R, R]⟩ [R, T, R, R] := ins_step (x := [R, T]) (y := []) in_RR rfl rfl rfl
theorem rt2 : Step [R, T, R, R] ⟨0, [R, T, R], []⟩ [R] := del0_step rfl
theorem ru1 : Step [R, U] ⟨0, [], [R, T, R]⟩ [R, T, R, R, U] := ins0_step rfl
theorem ru2 : Step [R, T, R, R, U] ⟨2, [R, R], []⟩ [R, T, U] := del_step (x := [R, T]) (y := [U]) in_RR rfl rfl rfl
theorem ru3 : Step [R, T, U] ⟨1, [T, U], []⟩ [R] := del_step (x := [R]) (y := []) in_TU rfl rfl rfl
theorem ends2 (d w : D) (h : w ∈ anywhere) (hw : w.length = 2) : Step (d ++ w) ⟨(d ++ w).length - 2, w, []⟩ d :=
  del_step (x := d) (y := []) h (by simp) (by simp) (by simp [hw])
/-! ### each dance can be settled -/
theorem untwists {X : D} (n : Nat) : ∀ i : Nat, ∃ ms, Leads (X ++ trt i ++ rest n) ms (X ++ trt (i + n)) := by
  induction n with
  | zero => exact fun i => ⟨[], by simpa [rest] using Leads.nil _⟩
  | succ n ih =>
    intro i
    obtain ⟨ms, h⟩ := ih (i + 1)
    rw [show i + 1 + n = i + (n + 1) by omega] at h
    have e : X ++ trt (i + 1) ++ rest n = X ++ trt i ++ [T, R, T] ++ rest n := by simp [trt]
    rw [e] at h
    have k := Leads.cons (ut1 (X ++ trt i) (rest n)) (.cons (ut2 _ _) (.cons (ut3 _ _) (.cons (ut4 _ _) h)))
    cases n with
    | zero => exact ⟨_, by rw [ut0']; exact k⟩
    | succ n => exact ⟨_, .cons (ut0 _ n) k⟩
theorem single (n : Nat) : ∀ (P : D) (m : Nat), P.length ≤ n → Pre P → ∃ ms d' n', Leads (P ++ [T, R] ++ uw m) ms d' ∧ NFs d' n' ∧ n' ≤ P.length + 3 + 3 * m := by
  induction n with
  | zero =>
    intro P m hl hP
    have : P = [] := List.eq_nil_of_length_eq_zero (by omega)
    subst this
    exact ⟨_, _, _, .cons (se1 m) (.cons (se2 m) (.one (se3 m))), uw_nf m, by simp; omega⟩
  | succ n ih =>
    intro P m hl hP
    rcases hP with rfl | ⟨c, hc, rfl⟩
    · exact ⟨_, _, _, .cons (se1 m) (.cons (se2 m) (.one (se3 m))), uw_nf m, by simp; omega⟩
    · obtain ⟨c2, rfl, h⟩ := core_end hc
      have k : ∀ {ms d'}, Leads (c2 ++ [T, R] ++ uw (m + 1)) ms d' → Leads (c2 ++ [T, T] ++ [R] ++ [T, R] ++ uw m) _ d' := fun q =>
        .cons (st1 _ m) (.cons (st2 _ m) (.cons (st3 _ m) (.cons (st4 _ m) (.cons (st5 c2 m) q))))
      simp only [List.length_append, List.length_cons, List.length_nil] at hl ⊢
      rcases h with ⟨_, h⟩ | ⟨_, h⟩
      · exact ⟨_, _, _, k (.nil _), single_nf h m, by omega⟩
      · obtain ⟨ms, d', n', h1, h2, h3⟩ := ih c2 (m + 1) (by omega) h
        exact ⟨_, _, _, k h1, h2, by omega⟩
theorem settle {d : D} {n : Nat} (h : NFs d n) (l : L) : ∃ ms d' n', Leads (d ++ [l]) ms d' ∧ NFs d' n' ∧ n' ≤ n + 3 := by
  cases l with
  | T =>
    rcases take_T h with rfl | ⟨d0, n0, rfl, h0, hn⟩ | ⟨n', h', hn, _⟩
    · exact ⟨_, _, _, .cons rt1 (.one rt2), .inf, by omega⟩
    · exact ⟨_, _, _, by rw [List.append_assoc]; exact .one (ends2 d0 [U, T] in_UT rfl), h0, by omega⟩
    · exact ⟨_, _, _, .nil _, h', by omega⟩
  | U =>
    rcases take_U h with rfl | ⟨d0, n0, rfl, h0, hn⟩ | ⟨n', h', hn, _⟩
    · exact ⟨_, _, _, .cons ru1 (.cons ru2 (.one ru3)), .inf, by omega⟩
    · exact ⟨_, _, _, by rw [List.append_assoc]; exact .one (ends2 d0 [T, U] in_TU rfl), h0, by omega⟩
    · exact ⟨_, _, _, .nil _, h', by omega⟩
  | R =>
    rcases take_R h with ⟨d0, n0, rfl, h0, hn⟩ | ⟨k, rfl, hk⟩ | ⟨c, k, hc, rfl, hk⟩ | ⟨rfl, hk⟩ | ⟨c, hc, rfl, hk⟩ | ⟨n', h', hn, _⟩
    · exact ⟨_, _, _, by rw [List.append_assoc]; exact .one (ends2 d0 [R, R] in_RR rfl), h0, by omega⟩
    · obtain ⟨ms, hm⟩ := untwists (X := [R]) (k + 1) 0
      rw [Nat.zero_add] at hm
      exact ⟨_, _, _, .cons (utB k) (hm.snoc (utE k)), trt_nf0 k, by omega⟩
    · obtain ⟨ms, hm⟩ := untwists (X := c) (k + 1) 0
      rw [Nat.zero_add] at hm
      have e : c ++ trt 0 ++ rest (k + 1) = c ++ R :: uw (k + 1) ++ [R] := by simp [trt, rest]
      rw [e] at hm
      exact ⟨_, _, _, hm, trt_nf k hc, by omega⟩
    · obtain ⟨ms, d', n', h1, h2, h3⟩ := single 0 [] 0 (by decide) (.inl rfl)
      exact ⟨_, _, _, h1, h2, by simp at h3; omega⟩
    · obtain ⟨ms, d', n', h1, h2, h3⟩ := single _ (c ++ [R]) 0 (Nat.le_refl _) (.inr ⟨c, hc, rfl⟩)
      have e : c ++ [R] ++ [T, R] ++ uw 0 = c ++ [R, T] ++ [R] := by simp [uw]
      rw [e] at h1
      exact ⟨_, _, _, h1, h2, by simp at h3; omega⟩
    · exact ⟨_, _, _, .nil _, h', by omega⟩
theorem settled (d : D) : ∃ ms s n, Leads d ms s ∧ NFs s n ∧ n ≤ 3 * d.length := by
  have key : ∀ (k : Nat), k ≤ d.length → ∃ ms s n, Leads (d.take k) ms s ∧ NFs s n ∧ n ≤ 3 * k := by
    intro k
    induction k with
    | zero => exact fun _ => ⟨[], [], 0, .nil _, NFs.int 0, by omega⟩
    | succ k ih =>
      intro hk
      obtain ⟨ms, s, n, h1, h2, h3⟩ := ih (by omega)
      have e : d.take (k + 1) = d.take k ++ [d[k]] := by
        rw [List.take_succ_eq_append_getElem (by omega)]
      obtain ⟨ms', s', n', k1, k2, k3⟩ := settle h2 d[k]
      exact ⟨ms ++ ms', s', n', by rw [e]; exact (h1.behind _).append k1, k2, by omega⟩
  have := key d.length (Nat.le_refl _)
  rwa [List.take_length] at this
end RM
/-! The plain law, third part: diagrams and colours, divisors, the standard dance's loop. -/
namespace RM
open L
structure Dg where
  cnt : Nat
  crs : List (Nat × Nat × Nat)
  nw : Nat
  ne : Nat
  sw : Nat
  se : Nat
def dstep (g : Dg) : L → Dg
  | R => ⟨g.cnt, g.crs, g.sw, g.nw, g.se, g.ne⟩
  | T => ⟨g.cnt + 1, g.crs ++ [(g.ne, g.se, g.cnt)], g.nw, g.cnt, g.sw, g.ne⟩
  | U => ⟨g.cnt + 1, g.crs ++ [(g.se, g.ne, g.cnt)], g.nw, g.se, g.sw, g.cnt⟩
def dg (d : D) : Dg := d.foldl dstep ⟨2, [], 0, 0, 1, 1⟩
theorem dg_snoc (d : D) (l : L) : dg (d ++ [l]) = dstep (dg d) l := by
  unfold dg
  rw [List.foldl_append]
  rfl
def at0 (c : List Int) (i : Nat) : Int := c.getD i 0
def cstep (c : List Int) (x : Nat × Nat × Nat) : List Int := c ++ [2 * at0 c x.1 - at0 c x.2.1]
def colsOf (crs : List (Nat × Nat × Nat)) : List Int := crs.foldl cstep [0, 1]
theorem colsOf_snoc (crs : List (Nat × Nat × Nat)) (x : Nat × Nat × Nat) : colsOf (crs ++ [x]) = cstep (colsOf crs) x := by
  unfold colsOf
  rw [List.foldl_append]
  rfl
def cols (d : D) : List Int := colsOf (dg d).crs
theorem colsOf_len (crs : List (Nat × Nat × Nat)) : (colsOf crs).length = crs.length + 2 := by
  have key : ∀ (crs : List (Nat × Nat × Nat)) (c : List Int), (crs.foldl cstep c).length = crs.length + c.length := by
    intro crs
    induction crs with
    | nil => intro c; simp
    | cons x crs ih =>
      intro c
      rw [List.foldl_cons, ih]
      simp only [cstep, List.length_append, List.length_cons, List.length_nil]
      omega
  exact key crs [0, 1]
theorem at0_app {c e : List Int} {i : Nat} (h : i < c.length) : at0 (c ++ e) i = at0 c i := by
  unfold at0
  rw [List.getD_eq_getElem?_getD, List.getD_eq_getElem?_getD, List.getElem?_append_left h]
theorem at0_new {c : List Int} {z : Int} : at0 (c ++ [z]) c.length = z := by
  unfold at0
  rw [List.getD_eq_getElem?_getD, List.getElem?_concat_length]
  rfl
theorem at0_some {c : List Int} {i : Nat} (h : i < c.length) : c[i]? = some (at0 c i) := by
  unfold at0
  rw [List.getD_eq_getElem?_getD, List.getElem?_eq_getElem h]
  rfl
structure Ok (g : Dg) (c : List Int) (v : P2) : Prop where
  cnt : g.cnt = c.length
  two : 2 ≤ c.length
  nw : g.nw < c.length
  ne : g.ne < c.length
  sw : g.sw < c.length
  se : g.se < c.length
  crs : ∀ x ∈ g.crs, x.1 < c.length ∧ x.2.1 < c.length ∧ x.2.2 < c.length ∧ at0 c x.2.1 + at0 c x.2.2 = 2 * at0 c x.1
  flat : at0 c g.nw + at0 c g.se = at0 c g.ne + at0 c g.sw
  val : v = (at0 c g.ne - at0 c g.nw, at0 c g.ne - at0 c g.se)
  z0 : at0 c 0 = 0
  z1 : at0 c 1 = 1
theorem Ok.step {g : Dg} {c : List Int} {v : P2} (h : Ok g c v) (hc : c = colsOf g.crs) (l : L) : Ok (dstep g l) (colsOf (dstep g l).crs) (stp v l) := by
  obtain ⟨h1, h2, h3, h4, h5, h6, h7, h8, h9, h10, h11⟩ := h
  have old : ∀ {z : Int} {i : Nat}, i < c.length → at0 (c ++ [z]) i = at0 c i := fun q => at0_app q
  cases l with
  | R =>
    show Ok ⟨g.cnt, g.crs, g.sw, g.nw, g.se, g.ne⟩ (colsOf g.crs) (v.2, -v.1)
    rw [← hc]
    refine ⟨h1, h2, h5, h3, h6, h4, h7, ?_, ?_, h10, h11⟩
    · show at0 c g.sw + at0 c g.ne = at0 c g.nw + at0 c g.se
      omega
    · rw [h9]
      refine Prod.ext ?_ ?_ <;> simp only <;> omega
  | T =>
    show Ok ⟨g.cnt + 1, g.crs ++ [(g.ne, g.se, g.cnt)], g.nw, g.cnt, g.sw, g.ne⟩ (colsOf (g.crs ++ [(g.ne, g.se, g.cnt)])) (v.1 + v.2, v.2)
    rw [colsOf_snoc, ← hc]
    unfold cstep
    have hl : (c ++ [2 * at0 c g.ne - at0 c g.se]).length = c.length + 1 := by simp
    have hn : at0 (c ++ [2 * at0 c g.ne - at0 c g.se]) g.cnt = 2 * at0 c g.ne - at0 c g.se := by rw [h1]; exact at0_new
    simp only
    refine ⟨?_, ?_, ?_, ?_, ?_, ?_, ?_, ?_, ?_, ?_, ?_⟩
    · simp only [hl]; omega
    · rw [hl]; omega
    · rw [hl]; exact Nat.lt_succ_of_lt h3
    · simp only [hl]; omega
    · rw [hl]; exact Nat.lt_succ_of_lt h5
    · rw [hl]; exact Nat.lt_succ_of_lt h4
    · intro x hx
      rw [hl]
      rcases List.mem_append.mp hx with hx | hx
      · obtain ⟨a, b, d, e⟩ := h7 x hx
        rw [old a, old b, old d]
        exact ⟨by omega, by omega, by omega, e⟩
      · rw [List.mem_singleton.mp hx]
        simp only
        rw [old h4, old h6, hn]
        refine ⟨by omega, by omega, by omega, by omega⟩
    · simp only
      rw [old h3, old h4, hn, old h5]
      omega
    · simp only
      rw [old h3, old h4, hn, h9]
      refine Prod.ext ?_ ?_ <;> simp only <;> omega
    · rw [old (by omega)]; exact h10
    · rw [old (by omega)]; exact h11
  | U =>
    show Ok ⟨g.cnt + 1, g.crs ++ [(g.se, g.ne, g.cnt)], g.nw, g.se, g.sw, g.cnt⟩ (colsOf (g.crs ++ [(g.se, g.ne, g.cnt)])) (v.1 - v.2, v.2)
    rw [colsOf_snoc, ← hc]
    unfold cstep
    have hl : (c ++ [2 * at0 c g.se - at0 c g.ne]).length = c.length + 1 := by simp
    have hn : at0 (c ++ [2 * at0 c g.se - at0 c g.ne]) g.cnt = 2 * at0 c g.se - at0 c g.ne := by rw [h1]; exact at0_new
    simp only
    refine ⟨?_, ?_, ?_, ?_, ?_, ?_, ?_, ?_, ?_, ?_, ?_⟩
    · simp only [hl]; omega
    · rw [hl]; omega
    · rw [hl]; exact Nat.lt_succ_of_lt h3
    · rw [hl]; exact Nat.lt_succ_of_lt h6
    · rw [hl]; exact Nat.lt_succ_of_lt h5
    · simp only [hl]; omega
    · intro x hx
      rw [hl]
      rcases List.mem_append.mp hx with hx | hx
      · obtain ⟨a, b, d, e⟩ := h7 x hx
        rw [old a, old b, old d]
        exact ⟨by omega, by omega, by omega, e⟩
      · rw [List.mem_singleton.mp hx]
        simp only
        rw [old h4, old h6, hn]
        refine ⟨by omega, by omega, by omega, by omega⟩
    · simp only
      rw [old h3, old h6, hn, old h5]
      omega
    · simp only
      rw [old h3, old h6, hn, h9]
      refine Prod.ext ?_ ?_ <;> simp only <;> omega
    · rw [old (by omega)]; exact h10
    · rw [old (by omega)]; exact h11
theorem ok_take (d : D) : ∀ k, k ≤ d.length → Ok (dg (d.take k)) (cols (d.take k)) (raw (d.take k)) := by
  intro k
  induction k with
  | zero =>
    intro _
    rw [List.take_zero]
    refine ⟨rfl, by decide, by decide, by decide, by decide, by decide, ?_, by decide, by decide, by decide, by decide⟩
    intro x hx
    have hx' : x ∈ ([] : List (Nat × Nat × Nat)) := hx
    exact absurd hx' (by simp)
  | succ k ih =>
    intro hk
    have e : d.take (k + 1) = d.take k ++ [d[k]] := by
      rw [List.take_succ_eq_append_getElem (by omega)]
    have h := (ih (by omega)).step rfl d[k]
    have e1 : dg (d.take (k + 1)) = dstep (dg (d.take k)) d[k] := by rw [e, dg_snoc]
    have e2 : raw (d.take (k + 1)) = stp (raw (d.take k)) d[k] := by
      rw [e]
      show rawF _ _ = _
      rw [rawF_append]
      rfl
    rw [e2]
    unfold cols
    rw [e1]
    exact h
theorem ok (d : D) : Ok (dg d) (cols d) (raw d) := by
  have := ok_take d d.length (Nat.le_refl _)
  rwa [List.take_length] at this
theorem cols_len (d : D) : (cols d).length = (dg d).cnt := (ok d).cnt.symm
theorem crs_len (d : D) : (dg d).crs.length + 2 = (dg d).cnt := by
  rw [(ok d).cnt]
  exact (colsOf_len _).symm
theorem crs_le (d : D) : (dg d).crs.length ≤ d.length := by
  have key : ∀ (d : D) (g : Dg), (d.foldl dstep g).crs.length ≤ g.crs.length + d.length := by
    intro d
    induction d with
    | nil => intro g; simp
    | cons l d ih =>
      intro g
      rw [List.foldl_cons, List.length_cons]
      have h1 := ih (dstep g l)
      have h2 : (dstep g l).crs.length ≤ g.crs.length + 1 := by
        cases l <;> simp [dstep]
      omega
  have := key d ⟨2, [], 0, 0, 1, 1⟩
  rw [List.length_nil, Nat.zero_add] at this
  exact this
/-- a crossing's third arc is its own place among the arcs; its first two lie before -/
theorem crs_third (d : D) : ∀ (i : Nat) (x : Nat × Nat × Nat), (dg d).crs[i]? = some x → x.1 < i + 2 ∧ x.2.1 < i + 2 ∧ x.2.2 = i + 2 := by
  have key : ∀ k, k ≤ d.length → ∀ (i : Nat) (x : Nat × Nat × Nat), (dg (d.take k)).crs[i]? = some x → x.1 < i + 2 ∧ x.2.1 < i + 2 ∧ x.2.2 = i + 2 := by
    intro k
    induction k with
    | zero => intro _ i x h; simp [dg] at h
    | succ k ih =>
      intro hk i x h
      have e : d.take (k + 1) = d.take k ++ [d[k]] := by
        rw [List.take_succ_eq_append_getElem (by omega)]
      rw [e, dg_snoc] at h
      have o := ok_take d k (by omega)
      have hl : (dg (d.take k)).crs.length + 2 = (dg (d.take k)).cnt := crs_len _
      have hc := o.cnt
      have h4 := o.ne
      have h6 := o.se
      have app : ∀ y : Nat × Nat × Nat, ((dg (d.take k)).crs ++ [y])[i]? = some x → (y.1 < (dg (d.take k)).crs.length + 2 ∧ y.2.1 < (dg (d.take k)).crs.length + 2 ∧ y.2.2 = (dg (d.take k)).crs.length + 2) → x.1 < i + 2 ∧ x.2.1 < i + 2 ∧ x.2.2 = i + 2 := by
        intro y hy hq
        by_cases hi : i < (dg (d.take k)).crs.length
        · rw [List.getElem?_append_left hi] at hy
          exact ih (by omega) i x hy
        · have hi2 : i < ((dg (d.take k)).crs ++ [y]).length := (List.getElem?_eq_some_iff.mp hy).1
          rw [List.length_append, List.length_singleton] at hi2
          have hi3 : i = (dg (d.take k)).crs.length := by omega
          rw [hi3, List.getElem?_concat_length] at hy
          have := Option.some.inj hy
          subst this
          rw [hi3]
          exact hq
      cases hd : d[k] with
      | R =>
        rw [hd] at h
        exact ih (by omega) i x h
      | T =>
        rw [hd] at h
        refine app _ h ⟨?_, ?_, ?_⟩ <;> simp only <;> omega
      | U =>
        rw [hd] at h
        refine app _ h ⟨?_, ?_, ?_⟩ <;> simp only <;> omega
  have := key d.length (Nat.le_refl _)
  rwa [List.take_length] at this
/-! ### divisors -/
theorem gcd_turn {a b : Int} (h : Int.gcd a b = 1) : Int.gcd b (a.fmod b) = 1 := by
  refine gcd_dvd fun d h1 h2 => ?_
  refine dvd_one_of_gcd h d ?_ h1
  have e : a = a.fmod b + b * a.fdiv b := (Int.fmod_add_mul_fdiv a b).symm
  rw [e]
  exact Int.dvd_add h2 (Int.dvd_trans h1 (Int.dvd_mul_right _ _))
theorem gcd_turn' {a b : Int} (h : Int.gcd a b = 1) : Int.gcd b (a % b) = 1 := by
  refine gcd_dvd fun d h1 h2 => ?_
  refine dvd_one_of_gcd h d ?_ h1
  have e : a = a % b + b * (a / b) := (Int.emod_add_mul_ediv a b).symm
  rw [e]
  exact Int.dvd_add h2 (Int.dvd_trans h1 (Int.dvd_mul_right _ _))
theorem fmod_less {a b : Int} (h : b ≠ 0) : (a.fmod b).natAbs < b.natAbs := by
  rw [Int.fmod_eq_emod]
  have h1 := Int.emod_nonneg a h
  have h2 : a % b < b.natAbs := by
    rcases Int.lt_or_gt_of_ne h with q | q
    · have := Int.emod_lt_of_neg a q
      omega
    · have := Int.emod_lt_of_pos a q
      omega
  split
  · omega
  · rename_i h3
    have h4 : ¬ 0 ≤ b := fun q => h3 (.inl q)
    have h5 : a % b ≠ 0 := fun q => h3 (.inr (Int.dvd_of_emod_eq_zero q))
    omega
theorem gcd_abs {a b : Int} (h : Int.gcd a b = 1) : Int.gcd (a.natAbs : Int) (b.natAbs : Int) = 1 := by
  have e : Int.gcd (a.natAbs : Int) (b.natAbs : Int) = Int.gcd a b := by
    simp [Int.gcd]
  rw [e]
  exact h
theorem gcd_end {a : Int} (h : Int.gcd a 0 = 1) : a.natAbs = 1 := by
  rw [Int.gcd_zero_right] at h
  exact h
/-! ### the standard dance's loop -/
theorem std_turn {s : D} {p q : Int} (h : NF s p q) (hq : 1 < q) : ∃ s', NF s' q ((p / q + 1) * q - p) ∧ s = s' ++ R :: run (p / q + 1) ∧ 0 < (p / q + 1) * q - p ∧ (p / q + 1) * q - p < q := by
  cases h with
  | inf => omega
  | int a => omega
  | @frac c p' q' a h =>
    have l := h.lt
    have e : (a * q - q') / q = a - 1 := by
      have e1 : a * q - q' = (q - q') + (a - 1) * q := by
        rw [Int.sub_mul]
        omega
      rw [e1, Int.add_mul_ediv_right _ _ (by omega), Int.ediv_eq_zero_of_lt (by omega) (by omega)]
      omega
    rw [e, Int.sub_add_cancel]
    have e2 : a * q - (a * q - q') = q' := by omega
    rw [e2]
    exact ⟨c, h.nf, rfl, by omega, by omega⟩
theorem std_end {s : D} {p q : Int} (h : NF s p q) (hq : ¬ 1 < q) (h0 : q ≠ 0) : q = 1 ∧ s = run p := by
  cases h with
  | inf => exact absurd rfl h0
  | int a => exact ⟨rfl, rfl⟩
  | frac a h =>
    have := h.lt
    omega
theorem std_inf {s : D} {p : Int} (h : NF s p 0) : s = [R] := by
  generalize e : (0 : Int) = q at h
  cases h with
  | inf => rfl
  | int a => omega
  | frac a h =>
    have := h.lt
    omega
theorem std_has (d : D) : ∃ s, NF s (num d).1 (num d).2 ∧ s.length ≤ 3 * d.length := by
  obtain ⟨ms, s, n, h1, h2, h3⟩ := settled d
  obtain ⟨p, q, h⟩ := h2.nf
  have e := nf_num h
  have e2 := h1.num
  rw [e] at e2
  rw [e2]
  exact ⟨s, h, Nat.le_trans h2.len h3⟩
end RM
/-! Dances as texts; two rules that the layer lacks. -/
namespace RB
open PySem L2 PyProof.Rows
abbrev Dn := RM.D
def cod : RM.L → Nat
  | .T => 84
  | .U => 85
  | .R => 82
theorem cod_inj {a b : RM.L} (h : cod a = cod b) : a = b := by
  cases a <;> cases b <;> first | rfl | (exact absurd h (by decide))
def tx (d : Dn) : Str := ⟨(d.map cod).toArray⟩
theorem tx_tl (d : Dn) : (tx d).cps.toList = d.map cod := rfl
theorem tx_size (d : Dn) : (tx d).cps.size = d.length := by simp [tx]
theorem tx_len (d : Dn) : (tx d).length = d.length := tx_size d
theorem map_cod_inj : ∀ {a b : Dn}, a.map cod = b.map cod → a = b
  | [], [], _ => rfl
  | [], _ :: _, h => by simp at h
  | _ :: _, [], h => by simp at h
  | x :: a, y :: b, h => by
    rw [List.map_cons, List.map_cons] at h
    injection h with h1 h2
    rw [cod_inj h1, map_cod_inj h2]
theorem tx_inj {a b : Dn} (h : tx a = tx b) : a = b := by
  have : (tx a).cps.toList = (tx b).cps.toList := by rw [h]
  exact map_cod_inj this
theorem str_ext {x y : Str} (h : x.cps.toList = y.cps.toList) : x = y := Str.ext' (Array.toList_inj.mp h)
theorem tx_app (a b : Dn) : tx a ++ tx b = tx (a ++ b) := by
  refine str_ext ?_
  rw [Str.cps_append, Array.toList_append, tx_tl, tx_tl, tx_tl, List.map_append]
theorem tx_cut (d : Dn) (lo hi : Option Int) : cutS (tx d) lo hi = tx ((d.drop (HT.sIx d.length 0 lo)).take (HT.sIx d.length d.length hi - HT.sIx d.length 0 lo)) := by
  refine str_ext ?_
  rw [tx_tl, List.map_take, List.map_drop]
  unfold cutS
  rw [tx_len]
  rfl
theorem tx_nil : tx [] = Str.empty := rfl
theorem pre_map {a b : Dn} : (a.map cod <+: b.map cod) ↔ a <+: b := by
  constructor
  · intro h
    have := List.prefix_iff_eq_take.mp h
    rw [List.length_map, ← List.map_take] at this
    rw [map_cod_inj this]
    exact List.take_prefix _ _
  · intro h
    exact h.map cod
theorem take_beq (a b : List Nat) : (b.take a.length == a) = decide (a <+: b) := by
  by_cases h : a <+: b
  · rw [decide_eq_true h, ← List.prefix_iff_eq_take.mp h]
    exact beq_self_eq_true _
  · rw [decide_eq_false h]
    refine beq_eq_false_iff_ne.mpr fun e => h ?_
    rw [← e]
    exact List.take_prefix _ _
theorem tx_starts (d w : Dn) : Txt.startswith (tx d) (tx w) = decide (w <+: d) := by
  unfold Txt.startswith
  rw [StrLaws.subAt_eq, tx_len, tx_len, tx_tl, tx_tl, List.drop_zero]
  have e := take_beq (w.map cod) (d.map cod)
  rw [List.length_map] at e
  rw [e]
  by_cases h : w <+: d
  · have := h.length_le
    rw [decide_eq_true h, decide_eq_true (pre_map.mpr h), decide_eq_true (by omega)]
    rfl
  · rw [decide_eq_false h, decide_eq_false (fun q => h (pre_map.mp q)), Bool.and_false]
theorem tx_ends (d w : Dn) : Txt.endswith (tx d) (tx w) = decide (w <:+ d) := by
  unfold Txt.endswith
  rw [StrLaws.subAt_eq, tx_len, tx_len, tx_tl, tx_tl, ← List.map_drop, ← List.map_take]
  by_cases h : w <:+ d
  · obtain ⟨z, rfl⟩ := h
    have e : ((z ++ w).drop ((z ++ w).length - w.length)).take w.length = w := by
      rw [List.length_append, Nat.add_sub_cancel, List.drop_left, List.take_length]
    rw [e, decide_eq_true (List.suffix_append z w), decide_eq_true (by rw [List.length_append]; omega)]
    simp
  · rw [decide_eq_false h]
    by_cases hl : 0 + w.length ≤ d.length
    · rw [decide_eq_true hl, Bool.true_and]
      refine beq_eq_false_iff_ne.mpr fun e => h ?_
      have e2 := map_cod_inj e
      rw [List.take_of_length_le (by rw [List.length_drop]; omega)] at e2
      rw [← e2]
      exact List.drop_suffix _ _
    · rw [decide_eq_false hl, Bool.false_and]
theorem last_suf (d : Dn) (l : RM.L) : ([l] <:+ d) ↔ d.getLast? = some l := by
  constructor
  · rintro ⟨z, rfl⟩
    exact List.getLast?_concat ..
  · intro h
    obtain ⟨z, e⟩ := List.getLast?_eq_some_iff.mp h
    exact ⟨z, e.symm⟩
/-- the untwists taken off behind -/
theorem tx_rstrip (x : Dn) (k : Nat) (h : x.getLast? ≠ some .U) : Txt.rstripChars (tx (x ++ RM.uw k)) (tx [.U]) = tx x := by
  unfold Txt.rstripChars
  rw [stripBy_eq]
  refine str_ext ?_
  rw [StrLaws.strSub_toList]
  have g : ∀ l : RM.L, (tx [RM.L.U]).cps.contains (cod l) = decide (l = .U) := by
    intro l
    cases l <;> decide +kernel
  show List.take (stripHi _ true _ 0 - 0) (List.drop 0 (tx (x ++ RM.uw k)).cps.toList) = (tx x).cps.toList
  unfold stripHi
  rw [if_pos rfl, List.drop_zero, Nat.sub_zero, tx_len, tx_tl, tx_tl, ← List.map_reverse, List.reverse_append]
  have e1 : (RM.uw k).reverse = RM.uw k := List.reverse_replicate ..
  rw [e1, List.map_append]
  have e2 : ((List.map cod (RM.uw k) ++ List.map cod x.reverse).takeWhile (tx [RM.L.U]).cps.contains).length = k := by
    have e3 : ∀ c ∈ List.map cod (RM.uw k), (tx [RM.L.U]).cps.contains c = true := by
      intro c hc
      obtain ⟨l, hl, rfl⟩ := List.mem_map.mp hc
      rw [g, List.eq_of_mem_replicate hl]
      decide
    rw [List.takeWhile_append_of_pos e3, List.length_append, List.length_map, RM.uw_len]
    have e4 : (List.map cod x.reverse).takeWhile (tx [RM.L.U]).cps.contains = [] := by
      cases hx : x.reverse with
      | nil => rfl
      | cons l r =>
        have : x.getLast? = some l := by
          rw [← List.head?_reverse, hx]
          rfl
        have hl : l ≠ .U := fun q => h (by rw [this, q])
        rw [List.map_cons, List.takeWhile_cons_of_neg (by rw [g]; simpa using hl)]
    rw [e4]
    rfl
  rw [e2, List.length_append, RM.uw_len, Nat.add_sub_cancel, List.map_append, List.take_left' (List.length_map ..)]
/-! ### written texts -/
theorem s_e : ("" : Str) = tx [] := by decide +kernel
theorem s_T : ("T" : Str) = tx [.T] := by decide +kernel
theorem s_U : ("U" : Str) = tx [.U] := by decide +kernel
theorem s_R : ("R" : Str) = tx [.R] := by decide +kernel
theorem s_TU : ("TU" : Str) = tx [.T, .U] := by decide +kernel
theorem s_UT : ("UT" : Str) = tx [.U, .T] := by decide +kernel
theorem s_RR : ("RR" : Str) = tx [.R, .R] := by decide +kernel
theorem s_RT : ("RT" : Str) = tx [.R, .T] := by decide +kernel
theorem s_RU : ("RU" : Str) = tx [.R, .U] := by decide +kernel
theorem s_RTR : ("RTR" : Str) = tx [.R, .T, .R] := by decide +kernel
theorem s_w6 : ("TRTRTR" : Str) = tx RM.w6 := by decide +kernel
theorem s_TTUURR : ("TTUURR" : Str) = tx [.T, .T, .U, .U, .R, .R] := by decide +kernel
theorem s_TUR : ("TUR" : Str) = tx [.T, .U, .R] := by decide +kernel
theorem tx_at {d : Dn} {i c : Nat} (h : (tx d).cps[i]? = some c) : ∃ l, d[i]? = some l ∧ (⟨#[c]⟩ : Str) = tx [l] := by
  have h1 : (d.map cod)[i]? = some c := by
    rw [← tx_tl, Array.getElem?_toList]
    exact h
  rw [List.getElem?_map] at h1
  obtain ⟨l, h2, rfl⟩ := Option.map_eq_some_iff.mp h1
  exact ⟨l, h2, rfl⟩
theorem tx_atI {d : Dn} {i : Int} {j : Nat} {l : RM.L} (e : i = (j : Int)) (h : d[j]? = some l) : atI (tx d).cps.toList i = some (cod l) := by
  rw [e, tx_tl]
  exact atI_nat (by rw [List.getElem?_map, h]; rfl)
theorem tx_one (l : RM.L) : (⟨#[cod l]⟩ : Str) = tx [l] := rfl
theorem v_tx (a b : Dn) : decide (V.str (tx a) = V.str (tx b)) = decide (a = b) := by
  by_cases h : a = b
  · rw [h, decide_eq_true rfl, decide_eq_true rfl]
  · rw [decide_eq_false h, decide_eq_false fun q => h (tx_inj (V.str.inj q))]
/-! ### a text times a number -/
theorem fold_one (c : Nat) : ∀ (n : Nat) (acc : Array Nat), (List.replicate n #[c]).foldl (· ++ ·) acc = acc ++ (List.replicate n c).toArray
  | 0, acc => by simp
  | n + 1, acc => by
    rw [List.replicate_succ, List.foldl_cons, fold_one c n, List.replicate_succ]
    refine Array.toList_inj.mp ?_
    simp
theorem tx_mul (l : RM.L) (n : Int) : Txt.mul (tx [l]) n = tx (List.replicate n.toNat l) := by
  unfold Txt.mul
  by_cases h1 : n < 1
  · rw [if_pos h1, show n.toNat = 0 by omega]
    rfl
  · rw [if_neg h1]
    by_cases h2 : n = 1
    · subst h2
      rfl
    · rw [if_neg (by simp [tx_len, h2])]
      refine str_ext ?_
      show ((List.replicate n.toNat #[cod l]).foldl (· ++ ·) #[]).toList = _
      rw [fold_one, tx_tl, List.map_replicate]
      simp
section
variable {X : Cx}
theorem op_mul_tx : OpR X (binaryOp .Mult) (fun x y H Q => ∃ (l : RM.L) (n : Int), x = .str (tx [l]) ∧ y = .int n ∧ -(2 ^ 62) ≤ n ∧ n ≤ 1000000 ∧ Q (.str (tx (List.replicate n.toNat l))) H) := by
  rintro pins s sg H x y v u Q I rx ry ⟨l, n, rfl, rfl, h1, h2, q⟩
  obtain ⟨t, rfl⟩ := rx
  obtain ⟨t', rfl⟩ := ry
  refine SB.mul ⟨?_, fun h3 _ => ?_, fun h3 _ => ?_⟩ fun t' k => ⟨.str (tx (List.replicate n.toNat l)), H, I.tok _, ⟨_, by rw [tx_mul]⟩, q⟩
  · rw [decide_eq_false (by omega), decide_eq_false (by omega)]
    rfl
  · have e : (tx [l]).length = 1 := rfl
    rw [e]
    have : (2 ^ 63 - 1) / n ≥ 1 := Int.le_ediv_of_mul_le (by omega) (by omega)
    omega
  · have e : (tx [l]).length = 1 := rfl
    rw [e, Nat.one_mul]
    have h4 : n.toNat ≤ 1000000 := by omega
    unfold Builtin.Str.tooLong
    exact decide_eq_false (by unfold sizeLine; omega)
end
/-! ### len(set(numbers)) -/
theorem met_mem (f : Nat → Int) : ∀ (n i : Nat), i < n → f i ∈ firstMet f n
  | n + 1, i, h => by
    rw [firstMet_succ]
    show f i ∈ (if (firstMet f n).any (· == f n) then firstMet f n else firstMet f n ++ [f n])
    by_cases hi : i < n
    · have := met_mem f n i hi
      split
      · exact this
      · exact List.mem_append_left _ this
    · have e : i = n := by omega
      subst e
      split
      · rename_i q
        obtain ⟨y, hy, ey⟩ := List.any_eq_true.mp q
        rw [← eq_of_beq ey]
        exact hy
      · exact List.mem_append_right _ (List.mem_singleton_self _)
theorem met_two {ns : List Int} {i j : Nat} (hi : i < ns.length) (hj : j < ns.length) (h : ns.getD i 0 ≠ ns.getD j 0) : (firstMet (fun i => ns.getD i 0) ns.length).length ≠ 1 := by
  intro e
  have h1 := met_mem (fun i => ns.getD i 0) ns.length i hi
  have h2 := met_mem (fun i => ns.getD i 0) ns.length j hj
  obtain ⟨y, ey⟩ := List.length_eq_one_iff.mp e
  rw [ey] at h1 h2
  exact h ((List.mem_singleton.mp h1).trans (List.mem_singleton.mp h2).symm)
/-- how many a set of the list's numbers has -/
def tLenSetN (K : PySem.W.Frag) (ta : TE) : TE := fun sg H Q => ta sg H fun x H1 => ∃ (l : Addr) (ns : List Int), x = .ref l ∧ SqL K H1 l (ns.map V.int) ∧ ns.length ≤ 4000 ∧
  Q (.int ((firstMet (fun i => ns.getD i 0) ns.length).length : Nat)) H1
theorem pe_lenSetN {X : Cx} {a : Expr} {ta : TE} {p p2 q pos : Pos} (hg : Gl X "len") (hm : X.mg "len" = none) (hg2 : Gl X "set") (hm2 : X.mg "set" = none) (ha : PE X a ta)
    (hc : X.calm = true := by rfl) (na : starEach [a] X.env = (false, eval a X.env) :: starEach [] X.env := by rfl) :
    PE X (.Call (.Name "len" p) [.Call (.Name "set" p2) [a] [] q] [] pos) (tLenSetN X.K ta) := by
  constructor
  intro pins s sg H Q I h
  refine Call_ (ld_blt I hg hm PySem.boot_len (callWith_builtin1 (args_cons (Call_ (ld_blt I hg2 hm2 boot_set
    (callWith_type1 (args_cons (thn (ha.run pins s sg H _ I h) fun v s1 z => ?_) na) na rfl))) rfl) rfl rfl))
  obtain ⟨x, H1, I1, r1, l, ns, rfl, hq, hl, q1⟩ := z
  obtain rfl := r1
  obtain ⟨its, rv, pl, _⟩ := I1.list hq
  have hsz : its.toArray.size = ns.length := by
    have e := rv.length
    rw [List.length_map] at e
    rw [List.size_toArray, e]
  have hle : ∀ n, (firstMet (fun i => ns.getD i 0) n).length ≤ n := by
    intro n
    induction n with
    | zero => exact Nat.le_refl _
    | succ n ih =>
      rw [firstMet_succ]
      show (if (firstMet (fun i => ns.getD i 0) n).any (· == ns.getD n 0) then firstMet (fun i => ns.getD i 0) n else firstMet (fun i => ns.getD i 0) n ++ [ns.getD n 0]).length ≤ n + 1
      split
      · omega
      · rw [List.length_append, List.length_singleton]
        omega
  refine args_nil (call_set_list (ns := ns) (I1.ok.hd hc) pl.isList (RZ.intsAre_vals rv) (by unfold scanBound; omega) fun h' tk hS hk => args_nil ?_)
  rw [hsz] at hS
  obtain ⟨o, es, ep, t, ho, hex, hd, _, _, _, hf, hn⟩ := hS
  have I2 : Inv X pins sg H1 { s1 with heap := h', toks := tk } := I1.kept fun b u e => hk b u (Heap.lt_size e) e
  have hb := hle ns.length
  exact call_len_set ho hex hd hf (by omega) ⟨.int ((firstMet (fun i => ns.getD i 0) ns.length).length : Nat), H1, I2.tok _, ⟨_, by rw [hn]⟩, q1⟩
end RB
/-! The text by places; a def of it; the walks of the fractions' defs. -/
namespace RB
open PySem L2 PyProof.Rows
def top (i : Nat) : Stmt := PySem.Challenge.pw_ropedance_k14_whole_judge.main.body.getD i (.Pass ⟨0, 0, 0, 0⟩)
/-- a def of the module as it stands behind the top -/
def Def (K : PySem.W.Frag) (mg : Str → Option Value) (x : Str) (st : Stmt) (ps : List Str) : Prop :=
  ∃ (f : Addr) (fd : FuncData), Fun K x x st f fd ∧ mg x = some (.ref f) ∧ Binds K fd ps []
/-- such a def keeps a promise -/
def Fn (P : Program) (w : World) (K : PySem.W.Frag) (mg : Str → Option Value) (base : Heap) (k : Nat) (x : Str) (ps : List Str) (sp : Sp) : Prop :=
  ∃ (f : Addr) (fd : FuncData), mg x = some (.ref f) ∧ PySem.W.keepIn K (.ref f) = true ∧ Binds K fd ps [] ∧ FnOk P w K mg base CX0 k f fd ps sp
/-- the names that are still the built-ins -/
structure Bl (mg : Str → Option Value) : Prop where
  abs : mg "abs" = none
  len : mg "len" = none
  set : mg "set" = none
  rng : mg "range" = none
  rev : mg "reversed" = none
  isi : mg "isinstance" = none
  int : mg "int" = none
  str : mg "str" = none
  bool : mg "bool" = none
  lst : mg "list" = none
  tup : mg "tuple" = none
section
variable {P : Program} {w : World} {K : PySem.W.Frag} {mg : Str → Option Value} {base : Heap}
theorem Def.ok {x : Str} {st : Stmt} {ps N : List Str} {k : Nat} {sp : Sp} (F : Def K mg x st ps) (S : FnScope N ps (defScope st)) (len : ∀ vs H Q E, sp vs H Q E → vs.length = ps.length)
    (hbody : ∀ (f : Addr) (cdv : Value) (A : Around) (outer : List Env) (s : Shared) (H : Hp) (vs : List V) (Q : VK) (E : XK), Room k (A.deeper (envOfC x (defScope st) s.heap.objs.size f cdv)) → sp vs H Q E →
      ∃ t, PSs (cxOf CX0 P w K mg base N x (defScope st) f cdv A outer s H E).nox (defBody st) t ∧ t { nx := fun _ H' => Q .non H', rt := Q } (start N vs) H) : Fn P w K mg base (k + 1) x ps sp := by
  obtain ⟨f, fd, h, m, b⟩ := F
  exact ⟨f, fd, m, h.kp, b, h.ok S len (hbody f)⟩
end
theorem pe_fn {X : Cx} {x : Str} {ps : List Str} {k : Nat} {sp : Sp} {e : Expr} {es : List Expr} {t : TA} {p pos : Pos} (G : Fn X.prog X.w X.K X.mg X.base k x ps sp) (hr : Room k X.A) (hg : Gl X x) (ha : PA X (e :: es) t)
    (hx : Passes CX0 X E0) (hdb : (x == ("__debug__" : Str)) = false := by decide) (he : starEach (e :: es) X.env = (false, eval e X.env) :: starEach es X.env := by rfl)
    (hpl : (backTo pos (starEach es X.env)).any (·.1) = false := by rfl) : PE X (.Call (.Name x p) (e :: es) [] pos) (tCall sp [] E0 t) := by
  obtain ⟨f, fd, m, kp, b, h⟩ := G
  exact pe_call h hr hg m kp b .nil hx ha hdb he hpl
theorem Same.seqT {K : PySem.W.Frag} {H H' : Hp} {a : Addr} {xs : List V} (e : Same H H') (h : SqT K H a xs) : SqT K H' a xs := by
  rcases h with (h | ⟨o, h⟩) | h
  · exact .inl (.inl (e _ _ h))
  · exact .inl (.inr ⟨o, e _ _ h⟩)
  · exact .inr h
theorem Same.new {H : Hp} {p : Addr} {o : HO} (h : H p = none) : Same H (upd H p o) := fun b u e => by
  rw [upd_ne (ne_of_none e h)]
  exact e
/-- a fraction as a value -/
def FrV (K : PySem.W.Frag) (H : Hp) (v : V) (f : RM.P2) : Prop := ∃ p, v = .ref p ∧ SqT K H p [.int f.1, .int f.2]
theorem FrV.same {K : PySem.W.Frag} {H H' : Hp} {v : V} {f : RM.P2} (h : FrV K H v f) (e : Same H H') : FrV K H' v f := by
  obtain ⟨p, rfl, h⟩ := h
  exact ⟨p, rfl, Same.seqT e h⟩
theorem iteL {p : Prop} [Decidable p] {A B : Prop} (h1 : p → A) (h2 : ¬ p → B) : if decide p = true then A else B := by
  by_cases h : p
  · rw [decide_eq_true h]
    exact iteT (h1 h)
  · rw [decide_eq_false h]
    exact iteF (h2 h)
theorem iteI {a b : Int} {A B : Prop} (h1 : a = b → A) (h2 : a ≠ b → B) : if decide (V.int a = V.int b) = true then A else B :=
  iteL (fun e => h1 (V.int.inj e)) fun e => h2 fun q => e (by rw [q])
theorem iteS {a b : Dn} {A B : Prop} (h1 : a = b → A) (h2 : a ≠ b → B) : if decide (V.str (tx a) = V.str (tx b)) = true then A else B :=
  iteL (fun e => h1 (tx_inj (V.str.inj e))) fun e => h2 fun q => e (by rw [q])
theorem iteW {a b : Dn} {z : Str} {A B : Prop} (e : z = tx b) (h1 : a = b → A) (h2 : a ≠ b → B) : if decide (V.str (tx a) = V.str z) = true then A else B := by
  rw [e]
  exact iteS h1 h2
theorem take_at {d : Dn} {i : Nat} {l : RM.L} (h : d[i]? = some l) : d.take (i + 1) = d.take i ++ [l] := by
  rw [List.take_add_one, h]
  rfl
/-- the module's constants -/
structure Cn (K : PySem.W.Frag) (mg : Str → Option Value) : Prop where
  zero : ∃ a, mg "ZERO" = some (.ref a) ∧ ∀ H, SqT K H a [.int 0, .int 1]
  inf : ∃ a, mg "INFINITE" = some (.ref a) ∧ ∀ H, SqT K H a [.int 1, .int 0]
  any : ∃ a, mg "ANYWHERE" = some (.ref a) ∧ ∀ H, SqT K H a [.str (tx [.T, .U]), .str (tx [.U, .T]), .str (tx [.R, .R]), .str (tx RM.w6)]
  beg : ∃ t, mg "AT_THE_BEGINNING" = some (.str (tx [.R, .T, .R]) t)
/-! ### promises -/
def spDivisor : Sp := fun vs H Q _ => ∃ a b : Int, vs = [.int a, .int b] ∧ Int.gcd a b = 1 ∧ Q (.int 1) H
def spFraction (K : PySem.W.Frag) : Sp := fun vs H Q _ => ∃ v : RM.P2, vs = [.int v.1, .int v.2] ∧ RM.Cop v ∧ ∀ u H', Same H H' → FrV K H' u (RM.norm v) → Q u H'
def spCalled (K : PySem.W.Frag) : Sp := fun vs H Q _ => ∃ (x : V) (v : RM.P2) (l : RM.L), vs = [x, .str (tx [l])] ∧ FrV K H x v ∧ ∀ u H', Same H H' → FrV K H' u (RM.called v l) → Q u H'
def spAfter (K : PySem.W.Frag) : Sp := fun vs H Q _ => ∃ (x : V) (d : Dn), vs = [x, .str (tx d)] ∧ FrV K H x (0, 1) ∧ ∀ u H', Same H H' → FrV K H' u (RM.num d) → Q u H'
def spNumber (K : PySem.W.Frag) : Sp := fun vs H Q _ => ∃ d : Dn, vs = [.str (tx d)] ∧ ∀ u H', Same H H' → FrV K H' u (RM.num d) → Q u H'
section
variable {P : Program} {w : World} {K : PySem.W.Frag} {mg : Str → Option Value} {base : Heap}
theorem sc7 : FnScope ["one", "other"] ["one", "other"] (defScope (top 7)) := ⟨rfl, rfl, rfl, by decide +kernel, rfl, by decide +kernel, by decide +kernel⟩
theorem ok_divisor (F : Def K mg "common_divisor" (top 7) ["one", "other"]) (B : Bl mg) : Fn P w K mg base 1 "common_divisor" ["one", "other"] spDivisor := by
  refine F.ok sc7 (fun vs H Q E h => ?_) (fun f cdv A outer s H vs Q E hr h => ?_)
  · obtain ⟨a, b, rfl, _⟩ := h
    rfl
  · obtain ⟨a, b, rfl, hg, k⟩ := h
    refine ⟨_, pss_cons (ps_par (i := 0) (j := 1) rfl sc7.nd rfl rfl (by decide) rfl rfl (pa_cons (pe_callB call_abs (by rfl) B.abs (by decide +kernel) (pa_cons (pv 0) pa_nil))
        (pa_cons (pe_callB call_abs (by rfl) B.abs (by decide +kernel) (pa_cons (pv 1) pa_nil)) pa_nil)) (by rfl))
      (pss_cons (ps_while PassesOwn.never (pt_cmpR op_gt (pv 1) pe_int (nomark _))
        (pss_one (ps_par (i := 0) (j := 1) rfl sc7.nd rfl rfl (by decide) rfl rfl (pa_cons (pv 1) (pa_cons (pe_op op_mod (pv 0) (pv 1)) pa_nil)) (by rfl))))
      (pss_one (ps_ret (pv 0)))), ?_⟩
    refine ⟨_, rfl, _, rfl, _, rfl, _, rfl, _, _, rfl, ?_⟩
    have e1 : ∀ x : Int, (if x < 0 then -x else x) = (x.natAbs : Int) := fun x => by split <;> omega
    rw [e1, e1]
    refine while_by (fun sg H1 => H1 = H ∧ ∃ x y : Int, sg = [some (.int x), some (.int y)] ∧ 0 ≤ x ∧ 0 ≤ y ∧ Int.gcd x y = 1)
      (fun sg _ => match sg with | [_, some (.int y)] => y.toNat | _ => 0) ⟨rfl, _, _, rfl, Int.natCast_nonneg _, Int.natCast_nonneg _, RM.gcd_abs hg⟩ ?_ ?_
    · rintro sg H1 ⟨rfl, x, y, rfl, hx, hy, hg⟩
      refine ⟨_, rfl, _, _, rfl, rfl, _, rfl, ?_⟩
      refine ite2 (fun hc => ?_) (fun hc => ?_)
      · have hy0 : 0 < y := of_decide_eq_true hc
        refine ⟨_, rfl, _, rfl, _, rfl, _, _, rfl, rfl, hy0, _, _, rfl, ?_⟩
        refine ⟨⟨rfl, _, _, rfl, hy, Int.emod_nonneg _ (by omega), RM.gcd_turn' hg⟩, ?_⟩
        have := Int.emod_lt_of_pos x hy0
        have := Int.emod_nonneg x (show y ≠ 0 by omega)
        show (x % y).toNat < y.toNat
        omega
      · have hy0 : y = 0 := by
          have : ¬ 0 < y := fun q => hc (decide_eq_true q)
          omega
        subst hy0
        have := RM.gcd_end hg
        have hx1 : x = 1 := by omega
        subst hx1
        exact ⟨_, rfl, k⟩
    · rintro sg H1 Q1 Q2 hm ⟨v, e, i, j, e1, e2, kk, e3, q⟩
      exact ⟨v, e, i, j, e1, e2, kk, e3, hm _ _ q⟩
theorem sc8 : FnScope ["p", "q", "divisor"] ["p", "q"] (defScope (top 8)) := ⟨rfl, rfl, rfl, by decide +kernel, rfl, by decide +kernel, by decide +kernel⟩
theorem ok_fraction (F : Def K mg "fraction" (top 8) ["p", "q"]) (G : Fn P w K mg base 1 "common_divisor" ["one", "other"] spDivisor) : Fn P w K mg base 2 "fraction" ["p", "q"] (spFraction K) := by
  refine F.ok sc8 (fun vs H Q E h => ?_) (fun f cdv A outer s H vs Q E hr h => ?_)
  · obtain ⟨v, rfl, _⟩ := h
    rfl
  · obtain ⟨⟨p, q⟩, rfl, hg, k⟩ := h
    refine ⟨_, pss_cons (ps_set (i := 2) sc8.nd rfl (Or.inl rfl) (pe_fn G hr (by rfl) (pa_cons (pv 0) (pa_cons (pv 1) pa_nil)) pass0))
      (pss_cons (ps_if (pt_cmpR op_eq (pv 2) pe_int (nomark _)) pss_never pss_nil)
      (pss_cons (ps_par (i := 0) (j := 1) rfl sc8.nd rfl rfl (by decide) rfl rfl (pa_cons (pe_op op_fdiv (pv 0) (pv 2)) (pa_cons (pe_op op_fdiv (pv 1) (pv 2)) pa_nil)) (by rfl))
      (pss_cons (ps_if (PW.pt (pw_or (pt_cmpR op_lt (pv 1) pe_int (nomark _)) (pw_or1 (PW.pt (pw_and (pt_cmpR op_eq (pv 1) pe_int (nomark _)) (pw_and1 (pt_cmpR op_lt (pv 0) pe_int (nomark _))))))))
        (pss_one (ps_ret (pe_tup (pa_cons (pe_un un_neg (pv 0)) (pa_cons (pe_un un_neg (pv 1)) pa_nil))))) pss_nil)
      (pss_one (ps_ret (pe_tup (pa_cons (pv 0) (pa_cons (pv 1) pa_nil)))))))), ?_⟩
    refine ⟨_, rfl, _, rfl, _, _, rfl, hg, ?_⟩
    refine ⟨_, rfl, rfl, _, rfl, ?_⟩
    refine iteI (fun e => absurd e (by decide)) (fun _ => ?_)
    refine ⟨_, rfl, _, rfl, _, _, rfl, rfl, ⟨by decide, by decide⟩, _, rfl, _, rfl, _, _, rfl, rfl, ⟨by decide, by decide⟩, _, _, rfl, ?_⟩
    simp only [Int.ediv_one]
    have en : (q < 0 ∨ (q = 0 ∧ p < 0)) → RM.norm (p, q) = (-p, -q) := fun z => if_pos z
    have ep : ¬ (q < 0 ∨ (q = 0 ∧ p < 0)) → RM.norm (p, q) = (p, q) := fun z => if_neg z
    have way1 : (q < 0 ∨ (q = 0 ∧ p < 0)) → ∀ t, H t = none → Q (.ref t) (upd H t (.tup [.int (-p), .int (-q)])) := fun z t ht =>
      k _ _ (Same.new ht) ⟨t, rfl, by rw [en z]; exact SqT.of upd_same⟩
    have way2 : ¬ (q < 0 ∨ (q = 0 ∧ p < 0)) → ∀ t, H t = none → Q (.ref t) (upd H t (.tup [.int p, .int q])) := fun z t ht =>
      k _ _ (Same.new ht) ⟨t, rfl, by rw [ep z]; exact SqT.of upd_same⟩
    refine ⟨_, rfl, _, _, rfl, rfl, _, rfl, ?_⟩
    refine iteL (fun h1 => ?_) (fun h1 => ?_)
    · refine iteT ⟨_, rfl, _, rfl, _, rfl, _, rfl, (by show 2 ≤ sizeLine; decide), way1 (.inl h1)⟩
    · refine ⟨_, rfl, rfl, _, rfl, ?_⟩
      refine iteI (fun h2 => ?_) (fun h2 => ?_)
      · refine ⟨_, rfl, _, _, rfl, rfl, _, rfl, ?_⟩
        refine iteL (fun h3 => ?_) (fun h3 => ?_)
        · exact ⟨_, rfl, _, rfl, _, rfl, _, rfl, (by show 2 ≤ sizeLine; decide), way1 (.inr ⟨h2, h3⟩)⟩
        · exact ⟨_, rfl, _, rfl, (by show 2 ≤ sizeLine; decide), way2 (by omega)⟩
      · exact iteF ⟨_, rfl, _, rfl, (by show 2 ≤ sizeLine; decide), way2 (by omega)⟩
theorem sc9 : FnScope ["value", "letter", "p", "q"] ["value", "letter"] (defScope (top 9)) := ⟨rfl, rfl, rfl, by decide +kernel, rfl, by decide +kernel, by decide +kernel⟩
theorem ok_called (F : Def K mg "called" (top 9) ["value", "letter"]) (C : Cn K mg) : Fn P w K mg base 1 "called" ["value", "letter"] (spCalled K) := by
  obtain ⟨aI, mI, hI⟩ := C.inf
  refine F.ok sc9 (fun vs H Q E h => ?_) (fun f cdv A outer s H vs Q E hr h => ?_)
  · obtain ⟨x, v, l, rfl, _⟩ := h
    rfl
  · obtain ⟨x, ⟨p, q⟩, l, rfl, ⟨a, rfl, ha⟩, k⟩ := h
    refine ⟨_, pss_cons (ps_asg (pv 0) (pg_tup rfl (pgs_cons (pg_name (i := 2) sc9.nd rfl (Or.inl rfl)) (pgs_cons (pg_name (i := 3) sc9.nd rfl (Or.inl rfl)) pgs_nil))))
      (pss_cons (ps_if (pt_cmpR op_eq (pv 1) pe_str (nomark _)) (pss_one (ps_ret (pe_tup (pa_cons (pe_op op_add (pv 2) (pv 3)) (pa_cons (pv 3) pa_nil))))) pss_nil)
      (pss_cons (ps_if (pt_cmpR op_eq (pv 1) pe_str (nomark _)) (pss_one (ps_ret (pe_tup (pa_cons (pe_op op_sub (pv 2) (pv 3)) (pa_cons (pv 3) pa_nil))))) pss_nil)
      (pss_cons (ps_if (pt_cmpR op_eq (pv 2) pe_int (nomark _)) (pss_one (ps_ret (pe_glob (v := .ref aI) rfl mI rfl))) pss_nil)
      (pss_cons (ps_if (pt_cmpR op_lt (pv 2) pe_int (nomark _)) (pss_one (ps_ret (pe_tup (pa_cons (pv 3) (pa_cons (pe_un un_neg (pv 2)) pa_nil))))) pss_nil)
      (pss_one (ps_ret (pe_tup (pa_cons (pe_un un_neg (pv 3)) (pa_cons (pv 2) pa_nil))))))))), ?_⟩
    refine ⟨_, rfl, a, _, rfl, ha, rfl, _, _, rfl, _, _, rfl, rfl, ?_⟩
    have give : ∀ y z : Int, RM.called (p, q) l = (y, z) → ∀ t, H t = none → Q (.ref t) (upd H t (.tup [.int y, .int z])) := fun y z e t ht =>
      k _ _ (Same.new ht) ⟨t, rfl, by rw [e]; exact SqT.of upd_same⟩
    have two : 2 ≤ sizeLine := by decide
    refine ⟨_, rfl, rfl, _, rfl, iteW s_T (fun e => ?_) (fun nT => ?_)⟩
    · cases e
      exact ⟨_, rfl, _, rfl, _, _, rfl, rfl, _, rfl, two, give _ _ rfl⟩
    refine ⟨_, rfl, rfl, _, rfl, iteW s_U (fun e => ?_) (fun nU => ?_)⟩
    · cases e
      exact ⟨_, rfl, _, rfl, _, _, rfl, rfl, _, rfl, two, give _ _ rfl⟩
    obtain rfl : l = .R := by
      cases l
      · exact absurd rfl nT
      · exact absurd rfl nU
      · rfl
    refine ⟨_, rfl, rfl, _, rfl, iteI (fun e => ?_) (fun np => ?_)⟩
    · refine k _ _ (Same.refl _) ⟨aI, rfl, ?_⟩
      have e2 : RM.called (p, q) .R = (1, 0) := if_pos e
      rw [e2]
      exact hI _
    refine ⟨_, rfl, _, _, rfl, rfl, _, rfl, iteL (fun e => ?_) (fun nn => ?_)⟩
    · exact ⟨_, rfl, _, rfl, _, rfl, two, give _ _ ((if_neg np).trans (if_pos e))⟩
    · exact ⟨_, rfl, _, rfl, _, rfl, two, give _ _ ((if_neg np).trans (if_neg nn))⟩
theorem sc10 : FnScope ["value", "dance", "letter"] ["value", "dance"] (defScope (top 10)) := ⟨rfl, rfl, rfl, by decide +kernel, rfl, by decide +kernel, by decide +kernel⟩
theorem ok_after (F : Def K mg "after" (top 10) ["value", "dance"]) (G : Fn P w K mg base 1 "called" ["value", "letter"] (spCalled K)) : Fn P w K mg base 2 "after" ["value", "dance"] (spAfter K) := by
  refine F.ok sc10 (fun vs H Q E h => ?_) (fun f cdv A outer s H vs Q E hr h => ?_)
  · obtain ⟨x, d, rfl, _⟩ := h
    rfl
  · obtain ⟨x, d, rfl, hx, k⟩ := h
    refine ⟨_, pss_cons (ps_for PassesOwn.never rfl (pi_str (pv 1)) (pg_name (i := 2) sc10.nd rfl (Or.inl rfl))
      (pss_one (ps_set (i := 0) sc10.nd rfl (Or.inl rfl) (pe_fn G hr (by rfl) (pa_cons (pv 0) (pa_cons (pv 2) pa_nil)) pass0)))) (pss_one (ps_ret (pv 0))), ?_⟩
    refine ⟨_, rfl, _, rfl, for_it (walk_str (z := tx d)) (fun i sg H1 => Same H H1 ∧ ∃ u l, sg = [some u, some (.str (tx d)), l] ∧ FrV K H1 u (RM.num (d.take i)))
      ⟨Same.refl _, x, none, rfl, by rw [List.take_zero, RM.num_nil]; exact hx⟩ (fun _ _ _ _ _ => trivial) ?_ ?_⟩
    · rintro i y sg H0 H1 hi ⟨s1, u, l, rfl, hu⟩ ⟨rfl, c, hc, rfl⟩
      obtain ⟨m, hm, em⟩ := tx_at hc
      rw [em]
      refine ⟨_, rfl, _, rfl, u, _, m, rfl, hu, fun u2 H2 s2 h2 => ?_⟩
      exact ⟨s1.trans s2, u2, _, rfl, by rw [take_at hm, RM.num_snoc]; exact h2⟩
    · rintro sg H1 ⟨s1, u, l, rfl, hu⟩
      rw [tx_size, List.take_length] at hu
      exact ⟨_, rfl, k _ _ s1 hu⟩
theorem sc12 : FnScope ["dance"] ["dance"] (defScope (top 12)) := ⟨rfl, rfl, rfl, by decide +kernel, rfl, by decide +kernel, by decide +kernel⟩
theorem ok_number (F : Def K mg "number" (top 12) ["dance"]) (C : Cn K mg) (G : Fn P w K mg base 2 "after" ["value", "dance"] (spAfter K)) : Fn P w K mg base 3 "number" ["dance"] (spNumber K) := by
  obtain ⟨aZ, mZ, hZ⟩ := C.zero
  refine F.ok sc12 (fun vs H Q E h => ?_) (fun f cdv A outer s H vs Q E hr h => ?_)
  · obtain ⟨d, rfl, _⟩ := h
    rfl
  · obtain ⟨d, rfl, k⟩ := h
    refine ⟨_, pss_one (ps_ret (pe_fn G hr (by rfl) (pa_cons (pe_glob (v := .ref aZ) rfl mZ rfl) (pa_cons (pv 0) pa_nil)) pass0)), ?_⟩
    exact ⟨_, rfl, _, d, rfl, ⟨aZ, rfl, hZ _⟩, k⟩
end
end RB
/-! The walks of the diagrams' defs. -/
namespace RB
open PySem L2 PyProof.Rows
def All2 {A B : Type} (R : A → B → Prop) (xs : List A) (ys : List B) : Prop := xs.length = ys.length ∧ ∀ (i : Nat) (x : A) (y : B), xs[i]? = some x → ys[i]? = some y → R x y
section
variable {A B : Type} {R : A → B → Prop} {xs us : List A} {ys vs : List B}
theorem All2.nil : All2 R [] [] := ⟨rfl, fun i x y h => by simp at h⟩
theorem All2.get (h : All2 R xs ys) {i : Nat} {x : A} (e : xs[i]? = some x) : ∃ y, ys[i]? = some y ∧ R x y := by
  have hi : i < ys.length := by
    rw [← h.1]
    exact (List.getElem?_eq_some_iff.mp e).1
  exact ⟨ys[i], List.getElem?_eq_getElem hi, h.2 i x _ e (List.getElem?_eq_getElem hi)⟩
theorem All2.mono {R' : A → B → Prop} (h : All2 R xs ys) (k : ∀ x y, R x y → R' x y) : All2 R' xs ys := ⟨h.1, fun i x y a b => k x y (h.2 i x y a b)⟩
theorem All2.append (h : All2 R xs ys) (k : All2 R us vs) : All2 R (xs ++ us) (ys ++ vs) := by
  refine ⟨by rw [List.length_append, List.length_append, h.1, k.1], fun i x y a b => ?_⟩
  by_cases hi : i < xs.length
  · rw [List.getElem?_append_left hi] at a
    rw [List.getElem?_append_left (by rw [← h.1]; exact hi)] at b
    exact h.2 i x y a b
  · rw [List.getElem?_append_right (by omega)] at a
    rw [List.getElem?_append_right (by rw [← h.1]; omega), ← h.1] at b
    exact k.2 _ x y a b
theorem All2.one {x : A} {y : B} (h : R x y) : All2 R [x] [y] := ⟨rfl, fun i u v a b => by
  cases i with
  | zero =>
    cases a
    cases b
    exact h
  | succ i => simp at a⟩
end
/-- the values are new tuples with these items -/
def TupL (H : Hp) (xs : List V) (ts : List (List V)) : Prop := All2 (fun v t => ∃ a, v = V.ref a ∧ H a = some (.tup t)) xs ts
theorem TupL.keep {H H' : Hp} {xs : List V} {ts : List (List V)} (h : TupL H xs ts) (k : ∀ b t, H b = some (.tup t) → H' b = some (.tup t)) : TupL H' xs ts :=
  All2.mono h fun _ _ ⟨a, e, q⟩ => ⟨a, e, k _ _ q⟩
theorem TupL.same {H H' : Hp} {xs : List V} {ts : List (List V)} (h : TupL H xs ts) (k : Same H H') : TupL H' xs ts := h.keep fun b t e => k b _ e
theorem TupL.snoc {H : Hp} {xs : List V} {ts : List (List V)} {a : Addr} {t : List V} (h : TupL H xs ts) (e : H a = some (.tup t)) : TupL H (xs ++ [.ref a]) (ts ++ [t]) :=
  All2.append h (All2.one ⟨a, rfl, e⟩)
def crT (c : Nat × Nat × Nat) : List V := [.int (c.1 : Nat), .int (c.2.1 : Nat), .int (c.2.2 : Nat)]
/-! ### promises -/
/-- a diagram as a value -/
def DgV (H : Hp) (p lc : Addr) (g : RM.Dg) : Prop := ∃ (e : Addr) (xs : List V), H p = some (.tup [.int (g.cnt : Nat), .ref lc, .ref e]) ∧ H lc = some (.lst xs) ∧ TupL H xs (g.crs.map crT) ∧
  H e = some (.tup [.int (g.nw : Nat), .int (g.ne : Nat), .int (g.sw : Nat), .int (g.se : Nat)])
def spDiagram : Sp := fun vs H Q _ => ∃ d : Dn, vs = [.str (tx d)] ∧ d.length ≤ 1000 ∧ ∀ p lc H', Same H H' → H lc = none → DgV H' p lc (RM.dg d) → Q (.ref p) H'
def spIsCol (K : PySem.W.Frag) : Sp := fun vs H Q _ => ∃ (d : Dn) (l : Addr), vs = [.str (tx d), .ref l] ∧ d.length ≤ 1000 ∧ SqL K H l ((RM.cols d).map V.int) ∧ ∀ H', Same H H' → Q (.bl true) H'
def spColouring : Sp := fun vs H Q _ => ∃ d : Dn, vs = [.str (tx d), .int 0, .int 1] ∧ d.length ≤ 1000 ∧ ∀ l H', Same H H' → H' l = some (.lst ((RM.cols d).map V.int)) → Q (.ref l) H'
def spReading (K : PySem.W.Frag) : Sp := fun vs H Q _ => ∃ (d : Dn) (l : Addr), vs = [.str (tx d), .ref l] ∧ d.length ≤ 1000 ∧ SqL K H l ((RM.cols d).map V.int) ∧ ∀ u H', Same H H' → FrV K H' u (RM.num d) → Q u H'
section
variable {P : Program} {w : World} {K : PySem.W.Frag} {mg : Str → Option Value} {base : Heap}
theorem sc14 : FnScope ["dance", "count", "crossings", "nw", "ne", "sw", "se", "letter"] ["dance"] (defScope (top 14)) := ⟨rfl, rfl, rfl, by decide +kernel, rfl, by decide +kernel, by decide +kernel⟩
/-- the slots of the diagram's loop -/
def dgSlots (d : Dn) (g : RM.Dg) (lc : Addr) (l : Option V) : L2.St :=
  [some (.str (tx d)), some (.int (g.cnt : Nat)), some (.ref lc), some (.int (g.nw : Nat)), some (.int (g.ne : Nat)), some (.int (g.sw : Nat)), some (.int (g.se : Nat)), l]
theorem ok_diagram (F : Def K mg "diagram" (top 14) ["dance"]) : Fn P w K mg base 1 "diagram" ["dance"] spDiagram := by
  refine F.ok sc14 (fun vs H Q E h => ?_) (fun f cdv A outer s H vs Q E hr h => ?_)
  · obtain ⟨d, rfl, _⟩ := h
    rfl
  · obtain ⟨d, rfl, hd, k⟩ := h
    have nd := sc14.nd
    refine ⟨_, pss_cons (ps_set (i := 1) nd rfl (Or.inl rfl) pe_int) (pss_cons (ps_set (i := 2) nd rfl (Or.inl rfl) (pe_lst pa_nil))
      (pss_cons (ps_asg (pe_tup (pa_cons pe_int (pa_cons pe_int (pa_cons pe_int (pa_cons pe_int pa_nil)))))
        (pg_tup rfl (pgs_cons (pg_name (i := 3) nd rfl (Or.inl rfl)) (pgs_cons (pg_name (i := 4) nd rfl (Or.inl rfl)) (pgs_cons (pg_name (i := 5) nd rfl (Or.inl rfl)) (pgs_cons (pg_name (i := 6) nd rfl (Or.inl rfl)) pgs_nil))))))
      (pss_cons (ps_for PassesOwn.never rfl (pi_str (pv 0)) (pg_name (i := 7) nd rfl (Or.inl rfl))
        (pss_one (ps_if (pt_cmpR op_eq (pv 7) pe_str (nomark _))
          (pss_one (ps_asg (pe_tup (pa_cons (pv 5) (pa_cons (pv 3) (pa_cons (pv 6) (pa_cons (pv 4) pa_nil)))))
            (pg_tup rfl (pgs_cons (pg_name (i := 3) nd rfl (Or.inl rfl)) (pgs_cons (pg_name (i := 4) nd rfl (Or.inl rfl)) (pgs_cons (pg_name (i := 5) nd rfl (Or.inl rfl)) (pgs_cons (pg_name (i := 6) nd rfl (Or.inl rfl)) pgs_nil)))))))
          (pss_one (ps_if (pt_cmpR op_eq (pv 7) pe_str (nomark _))
            (pss_cons (ps_expr (pe_bm PySem.F.plainAttrs_list PySem.F.slot_list_append PySem.F.type_list_append mt_append (pv 2) (pa_cons (pe_tup (pa_cons (pv 4) (pa_cons (pv 6) (pa_cons (pv 1) pa_nil)))) pa_nil)))
              (pss_cons (ps_par (i := 4) (j := 6) rfl nd rfl rfl (by decide) rfl rfl (pa_cons (pv 1) (pa_cons (pv 4) pa_nil)) (by rfl))
              (pss_one (ps_aug (i := 1) nd rfl (Or.inl rfl) pe_int ip_add))))
            (pss_cons (ps_expr (pe_bm PySem.F.plainAttrs_list PySem.F.slot_list_append PySem.F.type_list_append mt_append (pv 2) (pa_cons (pe_tup (pa_cons (pv 6) (pa_cons (pv 4) (pa_cons (pv 1) pa_nil)))) pa_nil)))
              (pss_cons (ps_par (i := 4) (j := 6) rfl nd rfl rfl (by decide) rfl rfl (pa_cons (pv 6) (pa_cons (pv 1) pa_nil)) (by rfl))
              (pss_one (ps_aug (i := 1) nd rfl (Or.inl rfl) pe_int ip_add)))))))))
      (pss_one (ps_ret (pe_tup (pa_cons (pv 1) (pa_cons (pv 2) (pa_cons (pe_tup (pa_cons (pv 3) (pa_cons (pv 4) (pa_cons (pv 5) (pa_cons (pv 6) pa_nil))))) pa_nil))))))))), ?_⟩
    have three : 3 ≤ sizeLine := by decide
    have four : 4 ≤ sizeLine := by decide
    refine ⟨Nat.zero_le _, fun lc hlc => ?_⟩
    refine ⟨four, fun t0 ht0 => ⟨t0, _, rfl, SqT.of upd_same, rfl, _, _, rfl, _, _, rfl, _, _, rfl, _, _, rfl, rfl, ?_⟩⟩
    have nt0 : lc ≠ t0 := fun q => by rw [← q, upd_same] at ht0; cases ht0
    refine ⟨_, rfl, _, rfl, for_it (walk_str (z := tx d)) (fun i sg H1 => Same H H1 ∧ ∃ (l : Option V) (xs : List V), sg = dgSlots d (RM.dg (d.take i)) lc l ∧ H1 lc = some (.lst xs) ∧ TupL H1 xs ((RM.dg (d.take i)).crs.map crT))
      ⟨?_, none, [], rfl, by rw [upd_ne nt0]; exact upd_same, All2.nil⟩ (fun _ _ _ _ _ => trivial) ?_ ?_⟩
    · exact (Same.new hlc).trans (Same.new ht0)
    · rintro i y sg H0 H1 hi ⟨s1, l, xs, rfl, hL, hT⟩ ⟨rfl, c, hc, rfl⟩
      obtain ⟨m, hm, em⟩ := tx_at hc
      rw [em, take_at hm, RM.dg_snoc]
      have hcr : (RM.dg (d.take i)).crs.length ≤ 1000 := by
        have h1 := RM.crs_le (d.take i)
        rw [List.length_take] at h1
        omega
      generalize RM.dg (d.take i) = g at hcr hT ⊢
      have hxs : xs.length ≤ 1000 := by rw [hT.1, List.length_map]; exact hcr
      have push : ∀ (t : Addr) (o : List V), H1 t = none → Same H (upd (upd H1 t (.tup o)) lc (.lst (xs ++ [.ref t]))) ∧ TupL (upd (upd H1 t (.tup o)) lc (.lst (xs ++ [.ref t]))) (xs ++ [.ref t]) (g.crs.map crT ++ [o]) := by
        intro t o ht
        have n1 : lc ≠ t := ne_of_none hL ht
        refine ⟨fun b u e => ?_, ?_⟩
        · rw [upd_ne (ne_of_none e hlc), upd_ne (ne_of_none (s1 _ _ e) ht)]
          exact s1 _ _ e
        · refine TupL.snoc (TupL.keep hT fun b u e => ?_) (by rw [upd_ne n1.symm]; exact upd_same)
          rw [upd_ne (ne_of e hL (by intro z; cases z)), upd_ne (ne_of_none e ht)]
          exact e
      cases m with
      | R =>
        refine ⟨_, rfl, rfl, _, rfl, iteW s_R (fun _ => ?_) (fun n => absurd rfl n)⟩
        refine ⟨_, rfl, _, rfl, _, rfl, _, rfl, four, fun t ht => ⟨t, _, rfl, SqT.of upd_same, rfl, _, _, rfl, _, _, rfl, _, _, rfl, _, _, rfl, rfl, ?_⟩⟩
        exact ⟨s1.trans (Same.new ht), _, xs, rfl, by rw [upd_ne (ne_of_none hL ht)]; exact hL, hT.same (Same.new ht)⟩
      | T =>
        refine ⟨_, rfl, rfl, _, rfl, iteW s_R (fun n => by cases n) (fun _ => ?_)⟩
        refine ⟨_, rfl, rfl, _, rfl, iteW s_T (fun _ => ?_) (fun n => absurd rfl n)⟩
        refine ⟨_, rfl, .inl ⟨rfl, _, SqL.of hL⟩, _, rfl, _, rfl, _, rfl, three, fun t ht => ?_⟩
        refine ⟨_, _, _, rfl, rfl, (by rw [upd_ne (ne_of_none hL ht)]; exact hL), Nat.lt_of_le_of_lt hxs (by decide), ?_⟩
        refine ⟨_, rfl, _, rfl, _, _, rfl, _, rfl, _, _, rfl, rfl, ?_⟩
        obtain ⟨p1, p2⟩ := push t (crT (g.ne, g.se, g.cnt)) ht
        exact ⟨p1, _, _, rfl, upd_same, by rw [RM.dstep, List.map_append]; exact p2⟩
      | U =>
        refine ⟨_, rfl, rfl, _, rfl, iteW s_R (fun n => by cases n) (fun _ => ?_)⟩
        refine ⟨_, rfl, rfl, _, rfl, iteW s_T (fun n => by cases n) (fun _ => ?_)⟩
        refine ⟨_, rfl, .inl ⟨rfl, _, SqL.of hL⟩, _, rfl, _, rfl, _, rfl, three, fun t ht => ?_⟩
        refine ⟨_, _, _, rfl, rfl, (by rw [upd_ne (ne_of_none hL ht)]; exact hL), Nat.lt_of_le_of_lt hxs (by decide), ?_⟩
        refine ⟨_, rfl, _, rfl, _, _, rfl, _, rfl, _, _, rfl, rfl, ?_⟩
        obtain ⟨p1, p2⟩ := push t (crT (g.se, g.ne, g.cnt)) ht
        exact ⟨p1, _, _, rfl, upd_same, by rw [RM.dstep, List.map_append]; exact p2⟩
    · rintro sg H1 ⟨s1, l, xs, rfl, hL, hT⟩
      rw [tx_size, List.take_length] at hT ⊢
      refine ⟨_, rfl, _, rfl, _, rfl, _, rfl, _, rfl, _, rfl, four, fun e he => ⟨three, fun p hp => ?_⟩⟩
      have s2 := (Same.new (o := .tup [.int ((RM.dg d).nw : Nat), .int ((RM.dg d).ne : Nat), .int ((RM.dg d).sw : Nat), .int ((RM.dg d).se : Nat)]) he).trans (Same.new (o := .tup [.int ((RM.dg d).cnt : Nat), .ref lc, .ref e]) hp)
      have npe : e ≠ p := fun q => by rw [← q, upd_same] at hp; cases hp
      exact k p lc _ (s1.trans s2) hlc ⟨e, xs, upd_same, s2 _ _ hL, hT.same s2, by rw [upd_ne npe]; exact upd_same⟩
theorem col_at {c : List Int} {i : Nat} (h : i < c.length) : atI (c.map V.int) (i : Nat) = some (V.int (RM.at0 c i)) := by
  refine atI_nat ?_
  rw [List.getElem?_map, RM.at0_some h]
  rfl
theorem two_mul : CMul 2 x := .inl ⟨by decide, by decide⟩
theorem sc15 : FnScope ["dance", "colours", "count", "crossings", "_", "over", "before", "behind"] ["dance", "colours"] (defScope (top 15)) := ⟨rfl, rfl, rfl, by decide +kernel, rfl, by decide +kernel, by decide +kernel⟩
theorem ok_isCol (F : Def K mg "is_colouring" (top 15) ["dance", "colours"]) (B : Bl mg) (G : Fn P w K mg base 1 "diagram" ["dance"] spDiagram) : Fn P w K mg base 2 "is_colouring" ["dance", "colours"] (spIsCol K) := by
  refine F.ok sc15 (fun vs H Q E h => ?_) (fun f cdv A outer s H vs Q E hr h => ?_)
  · obtain ⟨d, l, rfl, _⟩ := h
    rfl
  · obtain ⟨d, l, rfl, hd, hl, k⟩ := h
    have nd := sc15.nd
    refine ⟨_, pss_cons (ps_asg (pe_fn G hr (by rfl) (pa_cons (pv 0) pa_nil) pass0) (pg_tup rfl (pgs_cons (pg_name (i := 2) nd rfl (Or.inl rfl)) (pgs_cons (pg_name (i := 3) nd rfl (Or.inl rfl)) (pgs_cons (pg_name (i := 4) nd rfl (Or.inl rfl)) pgs_nil)))))
      (pss_cons (ps_if (pt_cmpR op_ne (pe_callB call_len_seq (by rfl) B.len PySem.boot_len (pa_cons (pv 1) pa_nil)) (pv 2) (nomark _)) (pss_one (ps_ret pe_bl)) pss_nil)
      (pss_cons (ps_for PassesOwn.never rfl (pi_list (pv 3)) (pg_tup rfl (pgs_cons (pg_name (i := 5) nd rfl (Or.inl rfl)) (pgs_cons (pg_name (i := 6) nd rfl (Or.inl rfl)) (pgs_cons (pg_name (i := 7) nd rfl (Or.inl rfl)) pgs_nil))))
        (pss_one (ps_if (pt_cmpR op_ne (pe_op op_add (pe_ix ix_list (pv 1) (pv 6) (fun _ _ => rfl)) (pe_ix ix_list (pv 1) (pv 7) (fun _ _ => rfl))) (pe_op op_mul pe_int (pe_ix ix_list (pv 1) (pv 5) (fun _ _ => rfl))) (nomark _))
          (pss_one (ps_ret pe_bl)) pss_nil)))
      (pss_one (ps_ret pe_bl)))), ?_⟩
    refine ⟨_, rfl, d, rfl, hd, fun p lc H1 s1 hlc hp => ?_⟩
    obtain ⟨e, xs, h1, h2, h3, h4⟩ := hp
    have hl1 := s1.seq hl
    refine ⟨p, _, rfl, SqT.of h1, rfl, _, _, rfl, _, _, rfl, _, _, rfl, rfl, ?_⟩
    refine ⟨_, rfl, l, _, rfl, .inl hl1, _, rfl, rfl, _, rfl, ?_⟩
    refine iteNS (by rw [List.length_map, RM.cols_len]) ?_
    have ok := RM.ok d
    refine ⟨_, rfl, lc, rfl, ⟨_, SqL.of h2⟩, for_list (K := K) (a := lc) (xs := xs) (fun i sg H2 => H2 = H1 ∧ ∃ o b h : Option V, sg = [some (.str (tx d)), some (.ref l), some (.int ((RM.dg d).cnt : Nat)), some (.ref lc), some (.ref e), o, b, h])
      ⟨rfl, none, none, none, rfl⟩ (fun i sg H2 _ ⟨z, _⟩ => by rw [z]; exact SqL.of h2) ?_ ?_⟩
    · rintro i x sg H2 hx ⟨rfl, o, b, h, rfl⟩
      obtain ⟨t, ht, a, rfl, ha⟩ := h3.get hx
      rw [List.getElem?_map] at ht
      obtain ⟨c, hc, rfl⟩ := Option.map_eq_some_iff.mp ht
      obtain ⟨c1, c2, c3, c4⟩ := ok.crs c (List.mem_of_getElem? hc)
      refine ⟨a, _, rfl, SqT.of ha, rfl, _, _, rfl, _, _, rfl, _, _, rfl, rfl, ?_⟩
      refine ⟨_, rfl, _, rfl, l, _, _, _, rfl, rfl, hl1, col_at c2, _, rfl, _, rfl, l, _, _, _, rfl, rfl, hl1, col_at c3, _, _, rfl, rfl, _, rfl, _, rfl, l, _, _, _, rfl, rfl, hl1, col_at c1, _, _, rfl, rfl, two_mul, rfl, _, rfl, ?_⟩
      refine iteNS (congrArg V.int c4) ?_
      exact ⟨rfl, _, _, _, rfl⟩
    · rintro sg H2 ⟨rfl, o, b, h, rfl⟩
      exact k _ s1
theorem sc16 : FnScope ["dance", "first", "second", "colours", "over", "before", "_"] ["dance", "first", "second"] (defScope (top 16)) := ⟨rfl, rfl, rfl, by decide +kernel, rfl, by decide +kernel, by decide +kernel⟩
theorem ok_colouring (F : Def K mg "colouring" (top 16) ["dance", "first", "second"]) (G : Fn P w K mg base 1 "diagram" ["dance"] spDiagram) : Fn P w K mg base 2 "colouring" ["dance", "first", "second"] spColouring := by
  refine F.ok sc16 (fun vs H Q E h => ?_) (fun f cdv A outer s H vs Q E hr h => ?_)
  · obtain ⟨d, rfl, _⟩ := h
    rfl
  · obtain ⟨d, rfl, hd, k⟩ := h
    have nd := sc16.nd
    refine ⟨_, pss_cons (ps_set (i := 3) nd rfl (Or.inl rfl) (pe_lst (pa_cons (pv 1) (pa_cons (pv 2) pa_nil))))
      (pss_cons (ps_for PassesOwn.never rfl (pi_list (pe_ix ix_tup (pe_fn G hr (by rfl) (pa_cons (pv 0) pa_nil) pass0) pe_int (fun _ _ => rfl)))
        (pg_tup rfl (pgs_cons (pg_name (i := 4) nd rfl (Or.inl rfl)) (pgs_cons (pg_name (i := 5) nd rfl (Or.inl rfl)) (pgs_cons (pg_name (i := 6) nd rfl (Or.inl rfl)) pgs_nil))))
        (pss_one (ps_expr (pe_bm PySem.F.plainAttrs_list PySem.F.slot_list_append PySem.F.type_list_append mt_append (pv 3)
          (pa_cons (pe_op op_sub (pe_op op_mul pe_int (pe_ix ix_list (pv 3) (pv 4) (fun _ _ => rfl))) (pe_ix ix_list (pv 3) (pv 5) (fun _ _ => rfl))) pa_nil)))))
      (pss_one (ps_ret (pv 3)))), ?_⟩
    refine ⟨_, rfl, _, rfl, (by show 2 ≤ sizeLine; decide), fun l hl => ?_⟩
    refine ⟨_, rfl, d, rfl, hd, fun p lc H1 s1 hlc hp => ?_⟩
    obtain ⟨e, xs, h1, h2, h3, h4⟩ := hp
    have s0 := (Same.new (o := .lst [.int 0, .int 1]) hl).trans s1
    have hcr := RM.crs_le d
    have hxl : xs.length = (RM.dg d).crs.length := by rw [h3.1, List.length_map]
    have nll : ∀ b, (∃ t, H1 b = some (.tup t)) → b ≠ l := fun b ⟨t, q⟩ => ne_of q (s1 _ _ upd_same) (by intro z; cases z)
    refine ⟨p, _, _, _, rfl, rfl, SqT.of h1, atI_nat (j := 1) rfl, lc, rfl, ⟨_, SqL.of h2⟩, for_list (K := K) (a := lc) (xs := xs)
      (fun i sg H2 => (∀ b u, H1 b = some u → b ≠ l → H2 b = some u) ∧ H2 l = some (.lst ((RM.colsOf ((RM.dg d).crs.take i)).map V.int)) ∧ ∃ o b h : Option V, sg = [some (.str (tx d)), some (.int 0), some (.int 1), some (.ref l), o, b, h])
      ⟨fun _ _ z _ => z, s1 _ _ upd_same, none, none, none, rfl⟩ (fun i sg H2 _ ⟨z, z2, _⟩ => ?_) ?_ ?_⟩
    · refine SqL.of (z _ _ h2 ?_)
      intro q
      subst q
      rw [upd_same] at hlc
      cases hlc
    · rintro i x sg H2 hx ⟨z, z2, o, b, h, rfl⟩
      obtain ⟨t, ht, a, rfl, ha⟩ := h3.get hx
      have hi : i < xs.length := (List.getElem?_eq_some_iff.mp hx).1
      rw [List.getElem?_map] at ht
      obtain ⟨c, hc, rfl⟩ := Option.map_eq_some_iff.mp ht
      obtain ⟨c1, c2, c3⟩ := RM.crs_third d i c hc
      have hlen : (RM.colsOf ((RM.dg d).crs.take i)).length = i + 2 := by
        rw [RM.colsOf_len, List.length_take]
        omega
      have k1 : c.1 < (RM.colsOf ((RM.dg d).crs.take i)).length := by omega
      have k2 : c.2.1 < (RM.colsOf ((RM.dg d).crs.take i)).length := by omega
      have ek : (RM.dg d).crs.take (i + 1) = (RM.dg d).crs.take i ++ [c] := by
        rw [List.take_add_one, hc]
        rfl
      refine ⟨a, _, rfl, SqT.of (z _ _ ha (nll _ ⟨_, ha⟩)), rfl, _, _, rfl, _, _, rfl, _, _, rfl, rfl, ?_⟩
      refine ⟨_, rfl, .inl ⟨rfl, _, SqL.of z2⟩, _, rfl, _, rfl, l, _, _, _, rfl, rfl, SqL.of z2, col_at k1, _, _, rfl, rfl, two_mul, _, rfl, _, rfl, l, _, _, _, rfl, rfl, SqL.of z2, col_at k2, _, _, rfl, rfl, l, _, _, rfl, rfl, z2, ?_, ?_⟩
      · rw [List.length_map, hlen]
        exact Nat.lt_of_le_of_lt (show i + 2 ≤ 1002 by omega) (by decide)
      · refine ⟨fun b u q n => ?_, ?_, _, _, _, rfl⟩
        · rw [upd_ne n]
          exact z b u q n
        · rw [upd_same, ek, RM.colsOf_snoc, RM.cstep, List.map_append]
          rfl
    · rintro sg H2 ⟨z, z2, o, b, h, rfl⟩
      rw [hxl, List.take_length] at z2
      refine ⟨_, rfl, k l _ (fun b u q => z b u (s0 b u q) (ne_of_none q hl)) z2⟩
theorem two_ways (d : Dn) : (firstMet (fun i => (RM.cols d).getD i 0) (RM.cols d).length).length ≠ 1 := by
  have ok := RM.ok d
  have h2 := ok.two
  refine met_two (i := 0) (j := 1) (by omega) (by omega) ?_
  have z0 : (RM.cols d).getD 0 0 = 0 := ok.z0
  have z1 : (RM.cols d).getD 1 0 = 1 := ok.z1
  rw [z0, z1]
  decide
theorem cols_le (d : Dn) : (RM.cols d).length ≤ d.length + 2 := by
  have h1 := RM.crs_len d
  have h2 := RM.cols_len d
  have h3 := RM.crs_le d
  omega
theorem sc17 : FnScope ["dance", "colours", "nw", "ne", "_", "se"] ["dance", "colours"] (defScope (top 17)) := ⟨rfl, rfl, rfl, by decide +kernel, rfl, by decide +kernel, by decide +kernel⟩
theorem ok_reading (F : Def K mg "reading" (top 17) ["dance", "colours"]) (B : Bl mg) (G : Fn P w K mg base 1 "diagram" ["dance"] spDiagram) (G2 : Fn P w K mg base 2 "is_colouring" ["dance", "colours"] (spIsCol K))
    (G3 : Fn P w K mg base 2 "fraction" ["p", "q"] (spFraction K)) : Fn P w K mg base 3 "reading" ["dance", "colours"] (spReading K) := by
  refine F.ok sc17 (fun vs H Q E h => ?_) (fun f cdv A outer s H vs Q E hr h => ?_)
  · obtain ⟨d, l, rfl, _⟩ := h
    rfl
  · obtain ⟨d, l, rfl, hd, hl, k⟩ := h
    have nd := sc17.nd
    have hr1 : Room 1 _ := hr.mono (by decide)
    refine ⟨_, pss_cons (ps_if (PW.pt (pw_or (pt_not (pt_val (pe_fn G2 hr (by rfl) (pa_cons (pv 0) (pa_cons (pv 1) pa_nil)) pass0)))
        (pw_or1 (pt_cmpR op_eq (pe_lenSetN (by rfl) B.len (by rfl) B.set (pv 1)) pe_int (nomark _))))) (pss_one (ps_ret pe_non)) pss_nil)
      (pss_cons (ps_asg (pe_ix ix_tup (pe_fn G hr1 (by rfl) (pa_cons (pv 0) pa_nil) pass0) pe_int (fun _ _ => rfl))
        (pg_tup rfl (pgs_cons (pg_name (i := 2) nd rfl (Or.inl rfl)) (pgs_cons (pg_name (i := 3) nd rfl (Or.inl rfl)) (pgs_cons (pg_name (i := 4) nd rfl (Or.inl rfl)) (pgs_cons (pg_name (i := 5) nd rfl (Or.inl rfl)) pgs_nil))))))
      (pss_one (ps_ret (pe_fn G3 hr (by rfl) (pa_cons (pe_op op_sub (pe_ix ix_list (pv 1) (pv 3) (fun _ _ => rfl)) (pe_ix ix_list (pv 1) (pv 2) (fun _ _ => rfl)))
        (pa_cons (pe_op op_sub (pe_ix ix_list (pv 1) (pv 3) (fun _ _ => rfl)) (pe_ix ix_list (pv 1) (pv 5) (fun _ _ => rfl))) pa_nil)) pass0)))), ?_⟩
    have hc := cols_le d
    refine ⟨_, rfl, _, rfl, d, l, rfl, hd, hl, fun H1 s1 => ⟨true, rfl, iteF ?_⟩⟩
    refine ⟨_, rfl, l, _, rfl, s1.seq hl, by omega, rfl, _, rfl, iteI (fun e => absurd (by omega) (two_ways d)) (fun _ => ?_)⟩
    refine ⟨_, rfl, d, rfl, hd, fun p lc H2 s2 hlc hp => ?_⟩
    obtain ⟨e, xs, h1, h2, h3, h4⟩ := hp
    have hl2 := s2.seq (s1.seq hl)
    have ok := RM.ok d
    refine ⟨p, _, _, _, rfl, rfl, SqT.of h1, atI_nat (j := 2) rfl, e, _, rfl, SqT.of h4, rfl, _, _, rfl, _, _, rfl, _, _, rfl, _, _, rfl, rfl, ?_⟩
    refine ⟨_, rfl, _, rfl, l, _, _, _, rfl, rfl, hl2, col_at ok.ne, _, rfl, _, rfl, l, _, _, _, rfl, rfl, hl2, col_at ok.nw, _, _, rfl, rfl,
      _, rfl, _, rfl, l, _, _, _, rfl, rfl, hl2, col_at ok.ne, _, rfl, _, rfl, l, _, _, _, rfl, rfl, hl2, col_at ok.se, _, _, rfl, rfl, RM.raw d, ?_, RM.cop_raw d, ?_⟩
    · rw [ok.val]
      rfl
    · exact fun u H3 s3 hu => k u H3 ((s1.trans s2).trans s3) hu
/-! ### the law's own -/
theorem sc47 : FnScope ["_law_dance_here", "_law_count", "_law_crossings", "_law_ends", "_law_letter", "_law_a", "_law_b", "_law_c", "_law_d"] ["_law_dance_here"] (defScope (top 47)) := ⟨rfl, rfl, rfl, by decide +kernel, rfl, by decide +kernel, by decide +kernel⟩
def lgEnds (g : RM.Dg) : List V := [.int (g.nw : Nat), .int (g.ne : Nat), .int (g.sw : Nat), .int (g.se : Nat)]
theorem ok_ldiagram (F : Def K mg "_law_diagram" (top 47) ["_law_dance_here"]) : Fn P w K mg base 1 "_law_diagram" ["_law_dance_here"] spDiagram := by
  refine F.ok sc47 (fun vs H Q E h => ?_) (fun f cdv A outer s H vs Q E hr h => ?_)
  · obtain ⟨d, rfl, _⟩ := h
    rfl
  · obtain ⟨d, rfl, hd, k⟩ := h
    have nd := sc47.nd
    refine ⟨_, pss_cons (ps_set (i := 1) nd rfl (Or.inl rfl) pe_int) (pss_cons (ps_set (i := 2) nd rfl (Or.inl rfl) (pe_lst pa_nil))
      (pss_cons (ps_set (i := 3) nd rfl (Or.inl rfl) (pe_tup (pa_cons pe_int (pa_cons pe_int (pa_cons pe_int (pa_cons pe_int pa_nil))))))
      (pss_cons (ps_for PassesOwn.never rfl (pi_str (pv 0)) (pg_name (i := 4) nd rfl (Or.inl rfl))
        (pss_cons (ps_asg (pv 3) (pg_tup rfl (pgs_cons (pg_name (i := 5) nd rfl (Or.inl rfl)) (pgs_cons (pg_name (i := 6) nd rfl (Or.inl rfl)) (pgs_cons (pg_name (i := 7) nd rfl (Or.inl rfl)) (pgs_cons (pg_name (i := 8) nd rfl (Or.inl rfl)) pgs_nil))))))
        (pss_one (ps_if (pt_cmpR op_eq (pv 4) pe_str (nomark _))
          (pss_one (ps_set (i := 3) nd rfl (Or.inl rfl) (pe_tup (pa_cons (pv 7) (pa_cons (pv 5) (pa_cons (pv 8) (pa_cons (pv 6) pa_nil)))))))
          (pss_one (ps_if (pt_cmpR op_eq (pv 4) pe_str (nomark _))
            (pss_cons (ps_expr (pe_bm PySem.F.plainAttrs_list PySem.F.slot_list_append PySem.F.type_list_append mt_append (pv 2) (pa_cons (pe_tup (pa_cons (pv 6) (pa_cons (pv 8) (pa_cons (pv 1) pa_nil)))) pa_nil)))
              (pss_cons (ps_set (i := 3) nd rfl (Or.inl rfl) (pe_tup (pa_cons (pv 5) (pa_cons (pv 1) (pa_cons (pv 7) (pa_cons (pv 6) pa_nil))))))
              (pss_one (ps_set (i := 1) nd rfl (Or.inl rfl) (pe_op op_add (pv 1) pe_int)))))
            (pss_cons (ps_expr (pe_bm PySem.F.plainAttrs_list PySem.F.slot_list_append PySem.F.type_list_append mt_append (pv 2) (pa_cons (pe_tup (pa_cons (pv 8) (pa_cons (pv 6) (pa_cons (pv 1) pa_nil)))) pa_nil)))
              (pss_cons (ps_set (i := 3) nd rfl (Or.inl rfl) (pe_tup (pa_cons (pv 5) (pa_cons (pv 8) (pa_cons (pv 7) (pa_cons (pv 1) pa_nil))))))
              (pss_one (ps_set (i := 1) nd rfl (Or.inl rfl) (pe_op op_add (pv 1) pe_int)))))))))))
      (pss_one (ps_ret (pe_tup (pa_cons (pv 1) (pa_cons (pv 2) (pa_cons (pv 3) pa_nil))))))))), ?_⟩
    have three : 3 ≤ sizeLine := by decide
    have four : 4 ≤ sizeLine := by decide
    refine ⟨Nat.zero_le _, fun lc hlc => ?_⟩
    refine ⟨four, fun t0 ht0 => ?_⟩
    have nt0 : lc ≠ t0 := fun q => by rw [← q, upd_same] at ht0; cases ht0
    refine ⟨_, rfl, _, rfl, for_it (walk_str (z := tx d)) (fun i sg H1 => Same H H1 ∧ ∃ (l a b c e : Option V) (t : Addr) (xs : List V),
        sg = [some (.str (tx d)), some (.int ((RM.dg (d.take i)).cnt : Nat)), some (.ref lc), some (.ref t), l, a, b, c, e] ∧ H1 lc = some (.lst xs) ∧ TupL H1 xs ((RM.dg (d.take i)).crs.map crT) ∧ H1 t = some (.tup (lgEnds (RM.dg (d.take i)))))
      ⟨?_, none, none, none, none, none, t0, [], rfl, by rw [upd_ne nt0]; exact upd_same, All2.nil, upd_same⟩ (fun _ _ _ _ _ => trivial) ?_ ?_⟩
    · exact (Same.new hlc).trans (Same.new ht0)
    · rintro i y sg H0 H1 hi ⟨s1, l, a, b, c0, e, t, xs, rfl, hL, hT, hE⟩ ⟨rfl, c, hc, rfl⟩
      obtain ⟨m, hm, em⟩ := tx_at hc
      rw [em, take_at hm, RM.dg_snoc]
      have hcr : (RM.dg (d.take i)).crs.length ≤ 1000 := by
        have h1 := RM.crs_le (d.take i)
        rw [List.length_take] at h1
        omega
      generalize RM.dg (d.take i) = g at hcr hT hE ⊢
      have hxs : xs.length ≤ 1000 := by rw [hT.1, List.length_map]; exact hcr
      have push : ∀ (t : Addr) (o : List V), H1 t = none → Same H (upd (upd H1 t (.tup o)) lc (.lst (xs ++ [.ref t]))) ∧ TupL (upd (upd H1 t (.tup o)) lc (.lst (xs ++ [.ref t]))) (xs ++ [.ref t]) (g.crs.map crT ++ [o]) := by
        intro t o ht
        have n1 : lc ≠ t := ne_of_none hL ht
        refine ⟨fun b u e => ?_, ?_⟩
        · rw [upd_ne (ne_of_none e hlc), upd_ne (ne_of_none (s1 _ _ e) ht)]
          exact s1 _ _ e
        · refine TupL.snoc (TupL.keep hT fun b u e => ?_) (by rw [upd_ne n1.symm]; exact upd_same)
          rw [upd_ne (ne_of e hL (by intro z; cases z)), upd_ne (ne_of_none e ht)]
          exact e
      refine ⟨_, rfl, t, _, rfl, SqT.of hE, rfl, _, _, rfl, _, _, rfl, _, _, rfl, _, _, rfl, rfl, ?_⟩
      cases m with
      | R =>
        refine ⟨_, rfl, rfl, _, rfl, iteW s_R (fun _ => ?_) (fun n => absurd rfl n)⟩
        refine ⟨_, rfl, _, rfl, _, rfl, _, rfl, four, fun t2 ht2 => ?_⟩
        exact ⟨s1.trans (Same.new ht2), _, _, _, _, _, t2, xs, rfl, by rw [upd_ne (ne_of_none hL ht2)]; exact hL, hT.same (Same.new ht2), upd_same⟩
      | T =>
        refine ⟨_, rfl, rfl, _, rfl, iteW s_R (fun n => by cases n) (fun _ => ?_)⟩
        refine ⟨_, rfl, rfl, _, rfl, iteW s_T (fun _ => ?_) (fun n => absurd rfl n)⟩
        refine ⟨_, rfl, .inl ⟨rfl, _, SqL.of hL⟩, _, rfl, _, rfl, _, rfl, three, fun t1 ht1 => ?_⟩
        refine ⟨_, _, _, rfl, rfl, (by rw [upd_ne (ne_of_none hL ht1)]; exact hL), Nat.lt_of_le_of_lt hxs (by decide), ?_⟩
        obtain ⟨p1, p2⟩ := push t1 (crT (g.ne, g.se, g.cnt)) ht1
        refine ⟨_, rfl, _, rfl, _, rfl, _, rfl, four, fun t2 ht2 => ⟨_, rfl, _, _, rfl, rfl, ?_⟩⟩
        have s2 := Same.new (o := .tup (lgEnds (RM.dstep g .T))) ht2
        exact ⟨p1.trans s2, _, _, _, _, _, t2, _, rfl, s2 _ _ upd_same, by rw [RM.dstep, List.map_append]; exact p2.same s2, upd_same⟩
      | U =>
        refine ⟨_, rfl, rfl, _, rfl, iteW s_R (fun n => by cases n) (fun _ => ?_)⟩
        refine ⟨_, rfl, rfl, _, rfl, iteW s_T (fun n => by cases n) (fun _ => ?_)⟩
        refine ⟨_, rfl, .inl ⟨rfl, _, SqL.of hL⟩, _, rfl, _, rfl, _, rfl, three, fun t1 ht1 => ?_⟩
        refine ⟨_, _, _, rfl, rfl, (by rw [upd_ne (ne_of_none hL ht1)]; exact hL), Nat.lt_of_le_of_lt hxs (by decide), ?_⟩
        obtain ⟨p1, p2⟩ := push t1 (crT (g.se, g.ne, g.cnt)) ht1
        refine ⟨_, rfl, _, rfl, _, rfl, _, rfl, four, fun t2 ht2 => ⟨_, rfl, _, _, rfl, rfl, ?_⟩⟩
        have s2 := Same.new (o := .tup (lgEnds (RM.dstep g .U))) ht2
        exact ⟨p1.trans s2, _, _, _, _, _, t2, _, rfl, s2 _ _ upd_same, by rw [RM.dstep, List.map_append]; exact p2.same s2, upd_same⟩
    · rintro sg H1 ⟨s1, l, a, b, c0, e, t, xs, rfl, hL, hT, hE⟩
      rw [tx_size, List.take_length] at hT hE ⊢
      refine ⟨_, rfl, _, rfl, _, rfl, three, fun p hp => ?_⟩
      have s2 := Same.new (o := .tup [.int ((RM.dg d).cnt : Nat), .ref lc, .ref t]) hp
      exact k p lc _ (s1.trans s2) (Same.free (Same.refl H) hlc) ⟨t, xs, upd_same, s2 _ _ hL, hT.same s2, s2 _ _ hE⟩
end
end RB
/-! The walks of the law's own number, divisor, colourings. -/
namespace RB
open PySem L2 PyProof.Rows
theorem ix_tupK {X : Cx} {K : PySem.W.Frag} (h : X.K = K) : IxR X (rIxT K) := by
  rw [← h]
  exact ix_tup
theorem ix_listK {X : Cx} {K : PySem.W.Frag} (h : X.K = K) : IxR X (rIxL K) := by
  rw [← h]
  exact ix_list
section
variable {P : Program} {w : World} {K : PySem.W.Frag} {mg : Str → Option Value} {base : Heap}
theorem sc36 : FnScope ["_law_value", "_law_letter", "_law_p", "_law_q"] ["_law_value", "_law_letter"] (defScope (top 36)) := ⟨rfl, rfl, rfl, by decide +kernel, rfl, by decide +kernel, by decide +kernel⟩
/-- the law's call asks a fraction that is in order -/
def spLCalled (K : PySem.W.Frag) : Sp := fun vs H Q _ => ∃ (x : V) (v : RM.P2) (l : RM.L), vs = [x, .str (tx [l])] ∧ FrV K H x v ∧ ∀ u H', Same H H' → FrV K H' u (RM.called v l) → Q u H'
theorem ok_lcalled (F : Def K mg "_law_called" (top 36) ["_law_value", "_law_letter"]) : Fn P w K mg base 1 "_law_called" ["_law_value", "_law_letter"] (spLCalled K) := by
  refine F.ok sc36 (fun vs H Q E h => ?_) (fun f cdv A outer s H vs Q E hr h => ?_)
  · obtain ⟨x, v, l, rfl, _⟩ := h
    rfl
  · obtain ⟨x, ⟨p, q⟩, l, rfl, ⟨a, rfl, ha⟩, k⟩ := h
    have nd := sc36.nd
    refine ⟨_, pss_cons (ps_asg (pv 0) (pg_tup rfl (pgs_cons (pg_name (i := 2) nd rfl (Or.inl rfl)) (pgs_cons (pg_name (i := 3) nd rfl (Or.inl rfl)) pgs_nil))))
      (pss_cons (ps_if (pt_cmpR op_eq (pv 1) pe_str (nomark _)) (pss_one (ps_ret (pe_tup (pa_cons (pe_op op_add (pv 2) (pv 3)) (pa_cons (pv 3) pa_nil))))) pss_nil)
      (pss_cons (ps_if (pt_cmpR op_eq (pv 1) pe_str (nomark _)) (pss_one (ps_ret (pe_tup (pa_cons (pe_op op_sub (pv 2) (pv 3)) (pa_cons (pv 3) pa_nil))))) pss_nil)
      (pss_cons (ps_if (pt_cmpR op_gt (pv 2) pe_int (nomark _)) (pss_one (ps_ret (pe_tup (pa_cons (pe_op op_sub pe_int (pv 3)) (pa_cons (pv 2) pa_nil))))) pss_nil)
      (pss_cons (ps_if (pt_cmpR op_lt (pv 2) pe_int (nomark _)) (pss_one (ps_ret (pe_tup (pa_cons (pv 3) (pa_cons (pe_op op_sub pe_int (pv 2)) pa_nil))))) pss_nil)
      (pss_one (ps_ret (pe_tup (pa_cons pe_int (pa_cons pe_int pa_nil))))))))), ?_⟩
    refine ⟨_, rfl, a, _, rfl, ha, rfl, _, _, rfl, _, _, rfl, rfl, ?_⟩
    have give : ∀ y z : Int, RM.called (p, q) l = (y, z) → ∀ t, H t = none → Q (.ref t) (upd H t (.tup [.int y, .int z])) := fun y z e t ht =>
      k _ _ (Same.new ht) ⟨t, rfl, by rw [e]; exact SqT.of upd_same⟩
    have two : 2 ≤ sizeLine := by decide
    refine ⟨_, rfl, rfl, _, rfl, iteW s_T (fun e => ?_) (fun nT => ?_)⟩
    · cases e
      exact ⟨_, rfl, _, rfl, _, _, rfl, rfl, _, rfl, two, give _ _ rfl⟩
    refine ⟨_, rfl, rfl, _, rfl, iteW s_U (fun e => ?_) (fun nU => ?_)⟩
    · cases e
      exact ⟨_, rfl, _, rfl, _, _, rfl, rfl, _, rfl, two, give _ _ rfl⟩
    obtain rfl : l = .R := by
      cases l
      · exact absurd rfl nT
      · exact absurd rfl nU
      · rfl
    refine ⟨_, rfl, _, _, rfl, rfl, _, rfl, iteL (fun e => ?_) (fun nn => ?_)⟩
    · refine ⟨_, rfl, _, _, rfl, rfl, _, rfl, two, give _ _ ?_⟩
      refine (if_neg (show ¬ p = 0 by omega)).trans ((if_neg (show ¬ p < 0 by omega)).trans ?_)
      rw [Int.zero_sub]
    refine ⟨_, rfl, _, _, rfl, rfl, _, rfl, iteL (fun e => ?_) (fun nm => ?_)⟩
    · refine ⟨_, rfl, _, rfl, _, _, rfl, rfl, two, ?_⟩
      refine give _ _ ((if_neg (show ¬ p = 0 by omega)).trans ((if_pos e).trans ?_))
      rw [Int.zero_sub]
    · exact ⟨two, give _ _ (if_pos (show p = 0 by omega))⟩
theorem sc37 : FnScope ["_law_dance_here", "_law_value", "_law_letter"] ["_law_dance_here"] (defScope (top 37)) := ⟨rfl, rfl, rfl, by decide +kernel, rfl, by decide +kernel, by decide +kernel⟩
theorem ok_lnumber (F : Def K mg "_law_number" (top 37) ["_law_dance_here"]) (G : Fn P w K mg base 1 "_law_called" ["_law_value", "_law_letter"] (spLCalled K)) : Fn P w K mg base 2 "_law_number" ["_law_dance_here"] (spNumber K) := by
  refine F.ok sc37 (fun vs H Q E h => ?_) (fun f cdv A outer s H vs Q E hr h => ?_)
  · obtain ⟨d, rfl, _⟩ := h
    rfl
  · obtain ⟨d, rfl, k⟩ := h
    have nd := sc37.nd
    refine ⟨_, pss_cons (ps_set (i := 1) nd rfl (Or.inl rfl) (pe_tup (pa_cons pe_int (pa_cons pe_int pa_nil))))
      (pss_cons (ps_for PassesOwn.never rfl (pi_str (pv 0)) (pg_name (i := 2) nd rfl (Or.inl rfl))
        (pss_one (ps_set (i := 1) nd rfl (Or.inl rfl) (pe_fn G hr (by rfl) (pa_cons (pv 1) (pa_cons (pv 2) pa_nil)) pass0)))) (pss_one (ps_ret (pv 1)))), ?_⟩
    refine ⟨(by show 2 ≤ sizeLine; decide), fun t ht => ?_⟩
    refine ⟨_, rfl, _, rfl, for_it (walk_str (z := tx d)) (fun i sg H1 => Same H H1 ∧ ∃ u l, sg = [some (.str (tx d)), some u, l] ∧ FrV K H1 u (RM.num (d.take i)))
      ⟨Same.new ht, _, none, rfl, t, rfl, by rw [List.take_zero, RM.num_nil]; exact SqT.of upd_same⟩ (fun _ _ _ _ _ => trivial) ?_ ?_⟩
    · rintro i y sg H0 H1 hi ⟨s1, u, l, rfl, hu⟩ ⟨rfl, c, hc, rfl⟩
      obtain ⟨m, hm, em⟩ := tx_at hc
      rw [em]
      refine ⟨_, rfl, _, rfl, u, _, m, rfl, hu, fun u2 H2 s2 h2 => ?_⟩
      exact ⟨s1.trans s2, u2, _, rfl, by rw [take_at hm, RM.num_snoc]; exact h2⟩
    · rintro sg H1 ⟨s1, u, l, rfl, hu⟩
      rw [tx_size, List.take_length] at hu
      exact ⟨_, rfl, k _ _ s1 hu⟩
theorem sc39 : FnScope ["_law_one", "_law_other_here"] ["_law_one", "_law_other_here"] (defScope (top 39)) := ⟨rfl, rfl, rfl, by decide +kernel, rfl, by decide +kernel, by decide +kernel⟩
theorem ok_ldivisor (F : Def K mg "_law_divisor" (top 39) ["_law_one", "_law_other_here"]) (B : Bl mg) : Fn P w K mg base 1 "_law_divisor" ["_law_one", "_law_other_here"] spDivisor := by
  refine F.ok sc39 (fun vs H Q E h => ?_) (fun f cdv A outer s H vs Q E hr h => ?_)
  · obtain ⟨a, b, rfl, _⟩ := h
    rfl
  · obtain ⟨a, b, rfl, hg, k⟩ := h
    have nd := sc39.nd
    refine ⟨_, pss_cons (ps_while PassesOwn.never (pt_cmpR op_ne (pv 1) pe_int (nomark _))
        (pss_one (ps_par (i := 0) (j := 1) rfl nd rfl rfl (by decide) rfl rfl (pa_cons (pv 1) (pa_cons (pe_op op_modN (pe_callTy call_int1 (by rfl) B.int (by decide +kernel) (pa_cons (pv 0) pa_nil)) (pv 1)) pa_nil)) (by rfl))))
      (pss_one (ps_ret (pe_callB call_abs (by rfl) B.abs (by decide +kernel) (pa_cons (pv 0) pa_nil)))), ?_⟩
    refine while_by (fun sg H1 => H1 = H ∧ ∃ x y : Int, sg = [some (.int x), some (.int y)] ∧ Int.gcd x y = 1)
      (fun sg _ => match sg with | [_, some (.int y)] => y.natAbs | _ => 0) ⟨rfl, _, _, rfl, hg⟩ ?_ ?_
    · rintro sg H1 ⟨rfl, x, y, rfl, hg⟩
      refine ⟨_, rfl, rfl, _, rfl, ?_⟩
      by_cases hy : y = 0
      · subst hy
        refine iteNS rfl ?_
        have hx := RM.gcd_end hg
        refine ⟨_, rfl, _, rfl, ?_⟩
        have e : (if x < 0 then -x else x) = 1 := by split <;> omega
        rw [e]
        exact k
      · rw [decide_eq_false (fun q => hy (V.int.inj q))]
        refine iteT ⟨_, rfl, _, rfl, .inl ⟨_, rfl, _, rfl, _, _, rfl, rfl, hy, _, _, rfl, ?_⟩⟩
        exact ⟨⟨rfl, _, _, rfl, RM.gcd_turn hg⟩, RM.fmod_less hy⟩
    · rintro sg H1 Q1 Q2 hm ⟨v, e, e1, kk, e3, q⟩
      exact ⟨v, e, e1, kk, e3, hm _ _ q⟩
theorem sc48 : FnScope ["_law_dance_here", "_law_colours", "_law_count", "_law_crossings", "_law_ends", "_law_wrong", "_law_one"] ["_law_dance_here", "_law_colours"] (defScope (top 48)) := ⟨rfl, rfl, rfl, by decide +kernel, rfl, by decide +kernel, by decide +kernel⟩
theorem ok_lisCol (F : Def K mg "_law_is_colouring" (top 48) ["_law_dance_here", "_law_colours"]) (B : Bl mg) (G : Fn P w K mg base 1 "_law_diagram" ["_law_dance_here"] spDiagram) :
    Fn P w K mg base 2 "_law_is_colouring" ["_law_dance_here", "_law_colours"] (spIsCol K) := by
  refine F.ok sc48 (fun vs H Q E h => ?_) (fun f cdv A outer s H vs Q E hr h => ?_)
  · obtain ⟨d, l, rfl, _⟩ := h
    rfl
  · obtain ⟨d, l, rfl, hd, hl, k⟩ := h
    have nd := sc48.nd
    refine ⟨_, pss_cons (ps_asg (pe_fn G hr (by rfl) (pa_cons (pv 0) pa_nil) pass0) (pg_tup rfl (pgs_cons (pg_name (i := 2) nd rfl (Or.inl rfl)) (pgs_cons (pg_name (i := 3) nd rfl (Or.inl rfl)) (pgs_cons (pg_name (i := 4) nd rfl (Or.inl rfl)) pgs_nil)))))
      (pss_cons (ps_if (pt_cmpR op_ne (pe_callB call_len_seq (by rfl) B.len PySem.boot_len (pa_cons (pv 1) pa_nil)) (pv 2) (nomark _)) (pss_one (ps_ret pe_bl)) pss_nil)
      (pss_cons (ps_setLc (i := 5) (own := [("_law_one", 6)]) (g := gName 6) rfl nd rfl rfl (sw_true rfl rfl rfl (by decide +kernel)) (pi_list (pv 3))
          (blkOk_by (N := ["_law_dance_here", "_law_colours", "_law_count", "_law_crossings", "_law_ends", "_law_wrong", "_law_one"]) (own := [("_law_one", 6)]) (sc := defScope (top 48)) (by decide +kernel)) (fun _ _ _ _ _ => pg_name (i := 6) nd rfl (Or.inl rfl))
          (fun _ _ _ _ _ => pts_one (pt_cmpR op_ne (pe_op op_add (pe_ix (ix_listK (K := K) rfl) (pv 1) (pe_ix (ix_tupK (K := K) rfl) (pv 6) pe_int (fun _ _ => rfl)) (fun _ _ => rfl)) (pe_ix (ix_listK (K := K) rfl) (pv 1) (pe_ix (ix_tupK (K := K) rfl) (pv 6) pe_int (fun _ _ => rfl)) (fun _ _ => rfl)))
            (pe_op op_mul pe_int (pe_ix (ix_listK (K := K) rfl) (pv 1) (pe_ix (ix_tupK (K := K) rfl) (pv 6) pe_int (fun _ _ => rfl)) (fun _ _ => rfl))) (nomark _)))
          (fun _ _ _ _ _ => pv 6))
      (pss_one (ps_ret (pe_cmpR op_eq (pe_callB call_len_seq (by rfl) B.len PySem.boot_len (pa_cons (pv 5) pa_nil)) pe_int (nomark _)))))), ?_⟩
    refine ⟨_, rfl, d, rfl, hd, fun p lc H1 s1 hlc hp => ?_⟩
    obtain ⟨e, xs, h1, h2, h3, h4⟩ := hp
    have hl1 := s1.seq hl
    refine ⟨p, _, rfl, SqT.of h1, rfl, _, _, rfl, _, _, rfl, _, _, rfl, rfl, ?_⟩
    refine ⟨_, rfl, l, _, rfl, .inl hl1, _, rfl, rfl, _, rfl, ?_⟩
    refine iteNS (by rw [List.length_map, RM.cols_len]) ?_
    have ok := RM.ok d
    refine ⟨_, rfl, lc, rfl, ⟨_, SqL.of h2⟩, fun W hW => ?_⟩
    have sW := Same.new (o := .lst []) hW
    refine lc_list (K := K) (a := lc) (xs := xs) (fun i H2 => H2 = upd H1 W (.lst [])) rfl (fun i H2 _ z => by rw [z]; exact SqL.of (sW _ _ h2)) ?_ ?_
    · rintro i x H2 hx rfl
      obtain ⟨t, ht, a, rfl, ha⟩ := h3.get hx
      rw [List.getElem?_map] at ht
      obtain ⟨c, hc, rfl⟩ := Option.map_eq_some_iff.mp ht
      obtain ⟨c1, c2, c3, c4⟩ := ok.crs c (List.mem_of_getElem? hc)
      have ha2 := sW _ _ ha
      have hl2 := sW.seq hl1
      refine ⟨rfl, ?_⟩
      refine ⟨_, rfl, _, rfl, a, _, _, _, rfl, rfl, SqT.of ha2, atI_nat (j := 1) rfl, l, _, _, _, rfl, rfl, hl2, col_at c2, _, rfl, _, rfl, a, _, _, _, rfl, rfl, SqT.of ha2, atI_nat (j := 2) rfl, l, _, _, _, rfl, rfl, hl2, col_at c3, _, _, rfl, rfl,
        _, rfl, _, rfl, a, _, _, _, rfl, rfl, SqT.of ha2, atI_nat (j := 0) rfl, l, _, _, _, rfl, rfl, hl2, col_at c1, _, _, rfl, rfl, two_mul, rfl, _, rfl, ?_⟩
      exact iteNS (congrArg V.int c4) rfl
    · rintro H2 rfl
      refine ⟨_, rfl, W, _, rfl, .inl (SqL.of upd_same), rfl, ?_⟩
      exact k _ (s1.trans sW)
theorem fdiv_m1 (x : Int) : x.fdiv (-1) = -x := by
  rw [Int.fdiv_eq_ediv_of_dvd ⟨-x, by omega⟩, Int.ediv_neg, Int.ediv_one]
theorem fdiv_1 (x : Int) : x.fdiv 1 = x := by
  rw [Int.fdiv_eq_ediv_of_nonneg x (by decide), Int.ediv_one]
theorem sc49 : FnScope ["_law_dance_here", "_law_colours", "_law_nw", "_law_ne", "_law_sw", "_law_se", "_law_p", "_law_q", "_law_divisor_here", "_law_one"] ["_law_dance_here", "_law_colours"] (defScope (top 49)) :=
  ⟨rfl, rfl, rfl, by decide +kernel, rfl, by decide +kernel, by decide +kernel⟩
theorem ok_lreading (F : Def K mg "_law_reading" (top 49) ["_law_dance_here", "_law_colours"]) (B : Bl mg) (G : Fn P w K mg base 1 "_law_diagram" ["_law_dance_here"] spDiagram)
    (G2 : Fn P w K mg base 2 "_law_is_colouring" ["_law_dance_here", "_law_colours"] (spIsCol K)) (G3 : Fn P w K mg base 1 "_law_divisor" ["_law_one", "_law_other_here"] spDivisor) :
    Fn P w K mg base 3 "_law_reading" ["_law_dance_here", "_law_colours"] (spReading K) := by
  refine F.ok sc49 (fun vs H Q E h => ?_) (fun f cdv A outer s H vs Q E hr h => ?_)
  · obtain ⟨d, l, rfl, _⟩ := h
    rfl
  · obtain ⟨d, l, rfl, hd, hl, k⟩ := h
    have nd := sc49.nd
    have hr1 : Room 1 _ := hr.mono (by decide)
    refine ⟨_, pss_cons (ps_if (PW.pt (pw_or (pt_not (pt_val (pe_fn G2 hr (by rfl) (pa_cons (pv 0) (pa_cons (pv 1) pa_nil)) pass0)))
        (pw_or1 (pt_cmpR op_eq (pe_callB call_len_seq (by rfl) B.len PySem.boot_len (pa_cons (pe_lc (own := [("_law_one", 9)]) (g := gName 9) rfl nd (pi_list (pv 1))
          (blkOk_by (N := ["_law_dance_here", "_law_colours", "_law_nw", "_law_ne", "_law_sw", "_law_se", "_law_p", "_law_q", "_law_divisor_here", "_law_one"]) (own := [("_law_one", 9)]) (sc := defScope (top 49)) (by decide +kernel))
          (fun _ _ _ _ _ => pg_name (i := 9) nd rfl (Or.inl rfl)) (fun _ _ _ _ _ => pts_one (pt_cmpR op_ne (pv 9) (pe_ix (ix_listK (K := K) rfl) (pv 1) pe_int (fun _ _ => rfl)) (nomark _)))
          (fun _ _ _ _ _ => pv 9)) pa_nil)) pe_int (nomark _))))) (pss_one (ps_ret pe_non)) pss_nil)
      (pss_cons (ps_asg (pe_ix ix_tup (pe_fn G hr1 (by rfl) (pa_cons (pv 0) pa_nil) pass0) pe_int (fun _ _ => rfl))
        (pg_tup rfl (pgs_cons (pg_name (i := 2) nd rfl (Or.inl rfl)) (pgs_cons (pg_name (i := 3) nd rfl (Or.inl rfl)) (pgs_cons (pg_name (i := 4) nd rfl (Or.inl rfl)) (pgs_cons (pg_name (i := 5) nd rfl (Or.inl rfl)) pgs_nil))))))
      (pss_cons (ps_set (i := 6) nd rfl (Or.inl rfl) (pe_op op_sub (pe_ix ix_list (pv 1) (pv 3) (fun _ _ => rfl)) (pe_ix ix_list (pv 1) (pv 2) (fun _ _ => rfl))))
      (pss_cons (ps_set (i := 7) nd rfl (Or.inl rfl) (pe_op op_sub (pe_ix ix_list (pv 1) (pv 3) (fun _ _ => rfl)) (pe_ix ix_list (pv 1) (pv 5) (fun _ _ => rfl))))
      (pss_cons (ps_set (i := 8) nd rfl (Or.inl rfl) (pe_fn G3 hr1 (by rfl) (pa_cons (pv 6) (pa_cons (pv 7) pa_nil)) pass0))
      (pss_cons (ps_if (PW.pt (pw_or (pt_cmpR op_lt (pv 7) pe_int (nomark _)) (pw_or1 (PW.pt (pw_and (pt_cmpR op_eq (pv 7) pe_int (nomark _)) (pw_and1 (pt_cmpR op_lt (pv 6) pe_int (nomark _))))))))
        (pss_one (ps_set (i := 8) nd rfl (Or.inl rfl) (pe_op op_sub pe_int (pv 8)))) pss_nil)
      (pss_one (ps_ret (pe_tup (pa_cons (pe_op op_fdivN (pv 6) (pv 8)) (pa_cons (pe_op op_fdivN (pv 7) (pv 8)) pa_nil)))))))))), ?_⟩
    have hc := cols_le d
    have ok := RM.ok d
    refine ⟨_, rfl, _, rfl, d, l, rfl, hd, hl, fun H1 s1 => ⟨true, rfl, iteF ?_⟩⟩
    have hl1 := s1.seq hl
    refine ⟨_, rfl, l, rfl, ⟨_, hl1⟩, fun W hW => ?_⟩
    refine lc_list (K := K) (a := l) (xs := (RM.cols d).map V.int) (fun i H2 => ∃ acc : List V, H2 = upd H1 W (.lst acc) ∧ acc.length ≤ i ∧ (2 ≤ i → 0 < acc.length)) ⟨[], rfl, Nat.le_refl _, fun q => by omega⟩ (fun i H2 _ ⟨acc, z, _⟩ => by rw [z]; exact (Same.new hW).seq hl1) ?_ ?_
    · rintro i x H2 hx ⟨acc, rfl, ha, hp⟩
      have hi : i < (RM.cols d).length := by
        have := (List.getElem?_eq_some_iff.mp hx).1
        rwa [List.length_map] at this
      rw [List.getElem?_map, RM.at0_some hi] at hx
      obtain rfl := Option.some.inj hx
      have z0 : atI ((RM.cols d).map V.int) 0 = some (V.int 0) := by
        have := col_at (c := RM.cols d) (i := 0) (by have := ok.two; omega)
        rw [ok.z0] at this
        exact this
      refine ⟨rfl, ?_⟩
      refine ⟨_, rfl, _, rfl, l, _, _, _, rfl, rfl, (Same.new hW).seq hl1, z0, rfl, _, rfl, ?_⟩
      by_cases hz : RM.at0 (RM.cols d) i = 0
      · refine iteNS (congrArg V.int hz) ⟨acc, rfl, by omega, fun q => ?_⟩
        refine hp ?_
        by_cases h1 : i = 1
        · subst h1
          rw [ok.z1] at hz
          exact absurd hz (by decide)
        · omega
      · rw [decide_eq_false (fun q => hz (V.int.inj q))]
        refine iteT ⟨_, rfl, acc, upd_same, Nat.lt_of_le_of_lt (show acc.length ≤ 1002 by omega) (by decide), acc ++ [_], upd_upd, ?_, fun _ => ?_⟩
        · rw [List.length_append, List.length_singleton]
          omega
        · rw [List.length_append, List.length_singleton]
          omega
    · rintro H2 ⟨acc, rfl, ha, hp⟩
      have h0 : 0 < acc.length := hp (by rw [List.length_map]; exact ok.two)
      refine ⟨W, _, rfl, .inl (SqL.of upd_same), rfl, _, rfl, iteI (fun e => absurd e (by omega)) (fun _ => ?_)⟩
      have s1' := s1.trans (Same.new (o := .lst acc) hW)
      refine ⟨_, rfl, d, rfl, hd, fun p lc H2 s2 hlc hp => ?_⟩
      obtain ⟨e, xs, h1, h2, h3, h4⟩ := hp
      have hl2 := s2.seq (s1'.seq hl)
      have two : 2 ≤ sizeLine := by decide
      refine ⟨p, _, _, _, rfl, rfl, SqT.of h1, atI_nat (j := 2) rfl, e, _, rfl, SqT.of h4, rfl, _, _, rfl, _, _, rfl, _, _, rfl, _, _, rfl, rfl, ?_⟩
      refine ⟨_, rfl, _, rfl, l, _, _, _, rfl, rfl, hl2, col_at ok.ne, _, rfl, _, rfl, l, _, _, _, rfl, rfl, hl2, col_at ok.nw, _, _, rfl, rfl, ?_⟩
      refine ⟨_, rfl, _, rfl, l, _, _, _, rfl, rfl, hl2, col_at ok.ne, _, rfl, _, rfl, l, _, _, _, rfl, rfl, hl2, col_at ok.se, _, _, rfl, rfl, ?_⟩
      have ev := ok.val
      have hcop := RM.cop_raw d
      have hk : ∀ t, H2 t = none → ∀ y z : Int, RM.norm (RM.raw d) = (y, z) → Q (.ref t) (upd H2 t (.tup [.int y, .int z])) := fun t ht y z q =>
        k _ _ ((s1'.trans s2).trans (Same.new ht)) ⟨t, rfl, by unfold RM.num; rw [q]; exact SqT.of upd_same⟩
      dsimp only
      generalize hx : RM.at0 (RM.cols d) (RM.dg d).ne - RM.at0 (RM.cols d) (RM.dg d).nw = x at ev ⊢
      generalize hy : RM.at0 (RM.cols d) (RM.dg d).ne - RM.at0 (RM.cols d) (RM.dg d).se = y at ev ⊢
      rw [ev] at hk hcop
      refine ⟨_, rfl, _, rfl, x, y, rfl, hcop, ?_⟩
      have last : ∀ (j : Int) (a b : Int), j ≠ 0 ∧ j.natAbs < 1073741824 → x.fdiv j = a → y.fdiv j = b → RM.norm (x, y) = (a, b) → ∀ t, H2 t = none → Q (.ref t) (upd H2 t (.tup [.int (x.fdiv j), .int (y.fdiv j)])) := by
        intro j a b _ e1 e2 e3 t ht
        rw [e1, e2]
        exact hk t ht a b e3
      refine ⟨_, rfl, _, _, rfl, rfl, _, rfl, ?_⟩
      refine iteL (fun h1 => ?_) (fun h1 => ?_)
      · refine iteT ⟨_, rfl, _, _, rfl, rfl, ?_⟩
        exact ⟨_, rfl, _, rfl, _, _, rfl, rfl, ⟨by decide, by decide⟩, _, rfl, _, rfl, _, _, rfl, rfl, ⟨by decide, by decide⟩, two, last (-1) (-x) (-y) ⟨by decide, by decide⟩ (fdiv_m1 x) (fdiv_m1 y) (if_pos (.inl h1))⟩
      · refine ⟨_, rfl, rfl, _, rfl, ?_⟩
        refine iteI (fun h2 => ?_) (fun h2 => ?_)
        · refine ⟨_, rfl, _, _, rfl, rfl, _, rfl, ?_⟩
          refine iteL (fun h3 => ?_) (fun h3 => ?_)
          · refine ⟨_, rfl, _, _, rfl, rfl, ?_⟩
            exact ⟨_, rfl, _, rfl, _, _, rfl, rfl, ⟨by decide, by decide⟩, _, rfl, _, rfl, _, _, rfl, rfl, ⟨by decide, by decide⟩, two, last (-1) (-x) (-y) ⟨by decide, by decide⟩ (fdiv_m1 x) (fdiv_m1 y) (if_pos (.inr ⟨h2, h3⟩))⟩
          · exact ⟨_, rfl, _, rfl, _, _, rfl, rfl, ⟨by decide, by decide⟩, _, rfl, _, rfl, _, _, rfl, rfl, ⟨by decide, by decide⟩, two, last 1 x y ⟨by decide, by decide⟩ (fdiv_1 x) (fdiv_1 y) (if_neg (by simp only; omega))⟩
        · refine iteF ?_
          exact ⟨_, rfl, _, rfl, _, _, rfl, rfl, ⟨by decide, by decide⟩, _, rfl, _, rfl, _, _, rfl, rfl, ⟨by decide, by decide⟩, two, last 1 x y ⟨by decide, by decide⟩ (fdiv_1 x) (fdiv_1 y) (if_neg (by simp only; omega))⟩
end
end RB
/-! The walks of the moves' defs. -/
namespace RB
open PySem L2 PyProof.Rows
theorem iteNW {a b : Dn} {z : Str} {A B : Prop} (e : z = tx b) (h1 : a = b → B) (h2 : a ≠ b → A) : if (!decide (V.str (tx a) = V.str z)) = true then A else B := by
  rw [e, v_tx]
  by_cases h : a = b
  · rw [decide_eq_true h]
    exact iteF (h1 h)
  · rw [decide_eq_false h]
    exact iteT (h2 h)
theorem iteE {g : Bool} {p : Prop} [Decidable p] {A B : Prop} (e : g = decide p) (h1 : p → A) (h2 : ¬ p → B) : if g = true then A else B := by
  rw [e]
  exact iteL h1 h2
theorem cut_from (d : Dn) (p : Nat) : cutS (tx d) (some (p : Int)) none = tx (d.drop p) := by
  rw [tx_cut, HT.sIx_nat, HT.sIx_none]
  congr 1
  by_cases h : p ≤ d.length
  · rw [Nat.min_eq_left h, List.take_of_length_le (by rw [List.length_drop]; exact Nat.le_refl _)]
  · rw [Nat.min_eq_right (by omega), List.drop_eq_nil_of_le (show d.length ≤ p by omega), Nat.sub_self]
    rfl
theorem cut_to (d : Dn) (p : Nat) : cutS (tx d) none (some (p : Int)) = tx (d.take p) := by
  rw [tx_cut, HT.sIx_nat, HT.sIx_none, Nat.sub_zero, List.drop_zero]
  congr 1
  by_cases h : p ≤ d.length
  · rw [Nat.min_eq_left h]
  · rw [Nat.min_eq_right (by omega), List.take_length, List.take_of_length_le (by omega)]
/-- a move's tuple -/
def mvT (m : RM.Mv) : List V := [.int (m.place : Nat), .str (tx m.old), .str (tx m.new)]
def anyV : List V := [.str (tx [.T, .U]), .str (tx [.U, .T]), .str (tx [.R, .R]), .str (tx RM.w6)]
theorem inV_any (z : Dn) : inV (.str (tx z)) anyV = decide (z ∈ RM.anywhere) := by
  by_cases h : z ∈ RM.anywhere
  · rw [decide_eq_true h]
    simp only [RM.anywhere, List.mem_cons, List.not_mem_nil, or_false] at h
    rcases h with rfl | rfl | rfl | rfl <;> decide +kernel
  · rw [decide_eq_false h]
    refine List.any_eq_false.mpr fun y hy => ?_
    have key : ∀ u : Dn, u ∈ RM.anywhere → ¬ (tx u == tx z) = true := fun u hu e => h (by rw [← tx_inj (eq_of_beq e)]; exact hu)
    simp only [anyV, List.mem_cons, List.not_mem_nil, or_false] at hy
    rcases hy with rfl | rfl | rfl | rfl
    · exact key _ (by decide)
    · exact key _ (by decide)
    · exact key _ (by decide)
    · exact key _ (by decide)
theorem anyV_flat : anyV.all flatV = true := by decide +kernel
theorem mv_short {m : RM.Mv} (h : RM.IsMv m) : m.old.length + m.new.length ≤ 6 := by
  have e : m.old.length + m.new.length = (m.old ++ m.new).length := (List.length_append ..).symm
  rw [e]
  rcases h.2 with h | ⟨_, h⟩
  · simp only [RM.anywhere, List.mem_cons, List.not_mem_nil, or_false] at h
    rcases h with h | h | h | h <;> rw [h] <;> decide
  · rw [h]
    decide
theorem step_len {a b : Dn} {m : RM.Mv} (h : RM.Step a m b) : b.length ≤ a.length + 6 := by
  obtain ⟨h1, x, y, rfl, rfl, _⟩ := h
  have := mv_short h1
  simp only [List.length_append]
  omega
/-! ### promises -/
def spIsMove (K : PySem.W.Frag) : Sp := fun vs H Q _ => ∃ (a : Addr) (m : RM.Mv), vs = [.ref a] ∧ SqT K H a (mvT m) ∧ RM.IsMv m ∧ Q (.bl true) H
def spCanBe (K : PySem.W.Frag) : Sp := fun vs H Q _ => ∃ (a : Addr) (m : RM.Mv) (d e : Dn), vs = [.str (tx d), .ref a] ∧ SqT K H a (mvT m) ∧ RM.Step d m e ∧ d.length ≤ 10000000 ∧ Q (.bl true) H
def spMade (K : PySem.W.Frag) : Sp := fun vs H Q _ => ∃ (a : Addr) (m : RM.Mv) (d e : Dn), vs = [.str (tx d), .ref a] ∧ SqT K H a (mvT m) ∧ RM.Step d m e ∧ d.length ≤ 10000000 ∧ Q (.str (tx e)) H
section
variable {P : Program} {w : World} {K : PySem.W.Frag} {mg : Str → Option Value} {base : Heap}
theorem sc21 : FnScope ["move", "place", "old", "new", "letters"] ["move"] (defScope (top 21)) := ⟨rfl, rfl, rfl, by decide +kernel, rfl, by decide +kernel, by decide +kernel⟩
theorem ok_isMove (F : Def K mg "is_move" (top 21) ["move"]) (C : Cn K mg) : Fn P w K mg base 1 "is_move" ["move"] (spIsMove K) := by
  obtain ⟨aA, mA, hA⟩ := C.any
  obtain ⟨tB, mB⟩ := C.beg
  refine F.ok sc21 (fun vs H Q E h => ?_) (fun f cdv A outer s H vs Q E hr h => ?_)
  · obtain ⟨a, m, rfl, _⟩ := h
    rfl
  · obtain ⟨a, ⟨place, old, new⟩, rfl, ha, hm, k⟩ := h
    have nd := sc21.nd
    refine ⟨_, pss_cons (ps_asg (pv 0) (pg_tup rfl (pgs_cons (pg_name (i := 1) nd rfl (Or.inl rfl)) (pgs_cons (pg_name (i := 2) nd rfl (Or.inl rfl)) (pgs_cons (pg_name (i := 3) nd rfl (Or.inl rfl)) pgs_nil)))))
      (pss_cons (ps_if (PW.pt (pw_and (pt_cmpR op_ne (pv 2) pe_str (nomark _)) (pw_and1 (pt_cmpR op_ne (pv 3) pe_str (nomark _))))) (pss_one (ps_ret pe_bl)) pss_nil)
      (pss_cons (ps_set (i := 4) nd rfl (Or.inl rfl) (pe_op op_add_str (pv 2) (pv 3)))
      (pss_one (ps_ret (pe_or (pe_cmpR op_in_seq (pv 4) (pe_glob (v := .ref aA) rfl mA rfl) (by rfl))
        (pe_one (pe_and (pe_cmpR op_eq (pv 1) pe_int (nomark _)) (pe_one (pe_cmpR op_eq (pv 4) (pe_glob (v := .str (tx [.R, .T, .R])) rfl mB ⟨_, rfl⟩) (nomark _)))))))))), ?_⟩
    have hs : old.length + new.length ≤ 6 := mv_short hm
    obtain ⟨h1, h2⟩ := hm
    simp only at h1 h2
    refine ⟨_, rfl, a, _, rfl, ha, rfl, _, _, rfl, _, _, rfl, _, _, rfl, rfl, ?_⟩
    refine ⟨_, rfl, rfl, _, rfl, iteNW s_e (fun _ => ?_) (fun ho => ⟨_, rfl, rfl, _, rfl, iteNW s_e (fun _ => ?_) (fun hn => absurd h1 (fun q => q.elim ho hn))⟩)⟩
    all_goals
      refine ⟨_, rfl, _, rfl, _, _, rfl, rfl, by rw [tx_len, tx_len]; exact Nat.le_trans hs (by decide), ?_⟩
      rw [tx_app]
      refine ⟨_, rfl, aA, anyV, rfl, .inr (hA H), rfl, anyV_flat, _, rfl, iteE (inV_any _) (fun _ => k) (fun hn => ?_)⟩
      rcases h2 with h2 | ⟨h3, h4⟩
      · exact absurd h2 hn
      · refine ⟨_, rfl, rfl, _, rfl, iteI (fun _ => ⟨_, rfl, rfl, ?_⟩) (fun q => absurd (by rw [h3]; rfl) q)⟩
        show Q (V.bl (decide (V.str (tx (old ++ new)) = V.str (tx [.R, .T, .R])))) H
        rw [h4, decide_eq_true rfl]
        exact k
theorem sc22 : FnScope ["dance", "move", "place", "old", "_"] ["dance", "move"] (defScope (top 22)) := ⟨rfl, rfl, rfl, by decide +kernel, rfl, by decide +kernel, by decide +kernel⟩
theorem big : (10000000 : Nat) ≤ sizeLine := by decide
theorem ok_canBe (F : Def K mg "can_be_made" (top 22) ["dance", "move"]) (B : Bl mg) (G : Fn P w K mg base 1 "is_move" ["move"] (spIsMove K)) : Fn P w K mg base 2 "can_be_made" ["dance", "move"] (spCanBe K) := by
  refine F.ok sc22 (fun vs H Q E h => ?_) (fun f cdv A outer s H vs Q E hr h => ?_)
  · obtain ⟨a, m, d, e, rfl, _⟩ := h
    rfl
  · obtain ⟨a, ⟨place, old, new⟩, d, e, rfl, ha, ⟨hm, x, y, e1, e2, e3⟩, hd, k⟩ := h
    simp only at e1 e2 e3
    have nd := sc22.nd
    refine ⟨_, pss_cons (ps_asg (pv 1) (pg_tup rfl (pgs_cons (pg_name (i := 2) nd rfl (Or.inl rfl)) (pgs_cons (pg_name (i := 3) nd rfl (Or.inl rfl)) (pgs_cons (pg_name (i := 4) nd rfl (Or.inl rfl)) pgs_nil)))))
      (pss_one (ps_ret (pe_and (pe_fn G hr (by rfl) (pa_cons (pv 1) pa_nil) pass0)
        (pe_and (pe_chain op_le op_le pe_int (pv 2) (pe_callB call_len_str (by rfl) B.len PySem.boot_len (pa_cons (pv 0) pa_nil)))
        (pe_one (pe_m1 PySem.F.slot_str_startswith PySem.F.type_str_startswith mt_startswith (pe_slice sl_str (pv 0) (po_some (pv 2)) po_none) (pv 3))))))), ?_⟩
    refine ⟨_, rfl, a, _, rfl, ha, rfl, _, _, rfl, _, _, rfl, _, _, rfl, rfl, ?_⟩
    refine ⟨_, rfl, a, _, rfl, ha, hm, true, rfl, iteT ?_⟩
    have hle : place ≤ d.length := by
      rw [e1, e3, List.append_assoc, List.length_append]
      omega
    refine ⟨_, rfl, _, _, rfl, rfl, _, rfl, ?_⟩
    refine iteL (fun _ => ?_) (fun q => absurd (Int.natCast_nonneg _) q)
    refine ⟨_, rfl, _, rfl, by rw [tx_len]; exact Nat.le_trans hd big, _, _, rfl, rfl, _, rfl, ?_⟩
    rw [tx_len]
    refine iteL (fun _ => ?_) (fun q => absurd (Int.ofNat_le.mpr hle) q)
    refine ⟨_, rfl, _, rfl, _, rfl, _, rfl, by rw [tx_len]; exact Nat.le_trans hd big, ?_⟩
    rw [cut_from]
    refine ⟨⟨_, rfl⟩, _, rfl, _, _, rfl, rfl, ?_⟩
    rw [tx_starts]
    have ed : d.drop place = old ++ y := by rw [e1, e3, List.append_assoc, List.drop_left]
    rw [ed, decide_eq_true (List.prefix_append old y)]
    exact k
theorem sc23 : FnScope ["dance", "move", "place", "old", "new"] ["dance", "move"] (defScope (top 23)) := ⟨rfl, rfl, rfl, by decide +kernel, rfl, by decide +kernel, by decide +kernel⟩
theorem ok_made (F : Def K mg "made" (top 23) ["dance", "move"]) (B : Bl mg) (G : Fn P w K mg base 2 "can_be_made" ["dance", "move"] (spCanBe K)) : Fn P w K mg base 3 "made" ["dance", "move"] (spMade K) := by
  refine F.ok sc23 (fun vs H Q E h => ?_) (fun f cdv A outer s H vs Q E hr h => ?_)
  · obtain ⟨a, m, d, e, rfl, _⟩ := h
    rfl
  · obtain ⟨a, ⟨place, old, new⟩, d, e, rfl, ha, hst, hd, k⟩ := h
    obtain ⟨hm, x, y, e1, e2, e3⟩ := id hst
    simp only at e1 e2 e3
    have nd := sc23.nd
    refine ⟨_, pss_cons (ps_if (pt_not (pt_val (pe_fn G hr (by rfl) (pa_cons (pv 0) (pa_cons (pv 1) pa_nil)) pass0))) pss_never pss_nil)
      (pss_cons (ps_asg (pv 1) (pg_tup rfl (pgs_cons (pg_name (i := 2) nd rfl (Or.inl rfl)) (pgs_cons (pg_name (i := 3) nd rfl (Or.inl rfl)) (pgs_cons (pg_name (i := 4) nd rfl (Or.inl rfl)) pgs_nil)))))
      (pss_one (ps_ret (pe_op op_add_str (pe_op op_add_str (pe_slice sl_str (pv 0) po_none (po_some (pv 2))) (pv 4))
        (pe_slice sl_str (pv 0) (po_some (pe_op op_add (pv 2) (pe_callB call_len_str (by rfl) B.len PySem.boot_len (pa_cons (pv 3) pa_nil)))) po_none))))), ?_⟩
    have hs : old.length + new.length ≤ 6 := mv_short hm
    have hd2 : (tx d).length ≤ sizeLine := by rw [tx_len]; exact Nat.le_trans hd big
    refine ⟨_, rfl, _, rfl, a, _, d, e, rfl, ha, hst, hd, true, rfl, iteF ?_⟩
    refine ⟨_, rfl, a, _, rfl, ha, rfl, _, _, rfl, _, _, rfl, _, _, rfl, rfl, ?_⟩
    have t1 : d.take place = x := by rw [e1, e3, List.append_assoc, List.take_left]
    have t2 : d.drop (place + old.length) = y := by rw [e1, e3, ← List.length_append, List.drop_left]
    have ld : d.length = x.length + old.length + y.length := by rw [e1]; simp only [List.length_append]
    refine ⟨_, rfl, _, rfl, _, rfl, _, rfl, hd2, _, rfl, ?_⟩
    rw [cut_to, t1]
    have sl : x.length + new.length + y.length ≤ sizeLine := Nat.le_trans (show _ ≤ 10000006 by omega) (by decide)
    refine ⟨_, _, rfl, rfl, (by show (tx x).length + (tx new).length ≤ sizeLine; rw [tx_len, tx_len]; omega), ?_⟩
    rw [tx_app]
    refine ⟨_, rfl, _, rfl, _, rfl, _, rfl, (by show (tx old).length ≤ sizeLine; rw [tx_len]; exact Nat.le_trans (show old.length ≤ 6 by omega) (by decide)), _, _, rfl, rfl, _, rfl, _, rfl, hd2, ?_⟩
    have e4 : ((place : Nat) : Int) + ((tx old).length : Nat) = ((place + old.length : Nat) : Int) := by rw [tx_len]; omega
    dsimp only
    rw [e4, cut_from, t2]
    refine ⟨_, _, rfl, rfl, by rw [tx_len, tx_len, List.length_append]; exact sl, ?_⟩
    rw [tx_app, ← e2]
    exact k
theorem leads_at {b : Dn} {ms : List RM.Mv} {i : Nat} {m : RM.Mv} {c : Dn} (hm : ms[i]? = some m) (h : RM.Leads c (ms.drop i) b) : ∃ c', RM.Step c m c' ∧ RM.Leads c' (ms.drop (i + 1)) b := by
  have hi : i < ms.length := (List.getElem?_eq_some_iff.mp hm).1
  have e : ms.drop i = m :: ms.drop (i + 1) := by
    rw [List.drop_eq_getElem_cons hi]
    rw [(List.getElem?_eq_some_iff.mp hm).2]
  rw [e] at h
  cases h with
  | cons s t => exact ⟨_, s, t⟩
theorem leads_end {b : Dn} {ms : List RM.Mv} {c : Dn} (h : RM.Leads c (ms.drop ms.length) b) : c = b := by
  rw [List.drop_length] at h
  cases h
  rfl
/-- a list of moves as a value -/
def MvL (H : Hp) (l : Addr) (ms : List RM.Mv) : Prop := ∃ xs : List V, H l = some (.lst xs) ∧ TupL H xs (ms.map mvT)
theorem MvL.same {H H' : Hp} {l : Addr} {ms : List RM.Mv} (h : MvL H l ms) (k : Same H H') : MvL H' l ms := by
  obtain ⟨xs, h1, h2⟩ := h
  exact ⟨xs, k _ _ h1, h2.same k⟩
def spLeads : Sp := fun vs H Q _ => ∃ (a b : Dn) (l : Addr) (ms : List RM.Mv), vs = [.str (tx a), .ref l, .str (tx b)] ∧ MvL H l ms ∧ RM.Leads a ms b ∧ a.length + 6 * ms.length ≤ 9000000 ∧ ∀ H', Same H H' → Q (.bl true) H'
theorem sc24 : FnScope ["one", "moves", "other", "dance", "move"] ["one", "moves", "other"] (defScope (top 24)) := ⟨rfl, rfl, rfl, by decide +kernel, rfl, by decide +kernel, by decide +kernel⟩
theorem ok_leads (F : Def K mg "leads" (top 24) ["one", "moves", "other"]) (G : Fn P w K mg base 2 "can_be_made" ["dance", "move"] (spCanBe K)) (G2 : Fn P w K mg base 3 "made" ["dance", "move"] (spMade K)) :
    Fn P w K mg base 4 "leads" ["one", "moves", "other"] spLeads := by
  refine F.ok sc24 (fun vs H Q E h => ?_) (fun f cdv A outer s H vs Q E hr h => ?_)
  · obtain ⟨a, b, l, ms, rfl, _⟩ := h
    rfl
  · obtain ⟨a, b, l, ms, rfl, ⟨xs, hx, hT⟩, hL, hlen, k⟩ := h
    have nd := sc24.nd
    have hr2 : Room 2 _ := hr.mono (by decide)
    refine ⟨_, pss_cons (ps_set (i := 3) nd rfl (Or.inl rfl) (pv 0))
      (pss_cons (ps_for PassesOwn.never rfl (pi_list (pv 1)) (pg_name (i := 4) nd rfl (Or.inl rfl))
        (pss_cons (ps_if (pt_not (pt_val (pe_fn G hr2 (by rfl) (pa_cons (pv 3) (pa_cons (pv 4) pa_nil)) pass0))) (pss_one (ps_ret pe_bl)) pss_nil)
        (pss_one (ps_set (i := 3) nd rfl (Or.inl rfl) (pe_fn G2 hr (by rfl) (pa_cons (pv 3) (pa_cons (pv 4) pa_nil)) pass0)))))
      (pss_one (ps_ret (pe_cmpR op_eq (pv 3) (pv 2) (nomark _))))), ?_⟩
    have hxl : xs.length = ms.length := by rw [hT.1, List.length_map]
    refine ⟨_, rfl, _, rfl, l, rfl, ⟨_, SqL.of hx⟩, for_list (K := K) (a := l) (xs := xs) (fun i sg H2 => H2 = H ∧ ∃ (c : Dn) (v : Option V), sg = [some (.str (tx a)), some (.ref l), some (.str (tx b)), some (.str (tx c)), v] ∧ RM.Leads c (ms.drop i) b ∧ c.length ≤ a.length + 6 * i)
      ⟨rfl, a, none, rfl, hL, Nat.le_refl _⟩ (fun i sg H2 _ ⟨z, _⟩ => by rw [z]; exact SqL.of hx) ?_ ?_⟩
    · rintro i x sg H2 hi ⟨rfl, c, v, rfl, hc, hcl⟩
      obtain ⟨t, ht, p, rfl, hp⟩ := hT.get hi
      have hil : i < xs.length := (List.getElem?_eq_some_iff.mp hi).1
      rw [List.getElem?_map] at ht
      obtain ⟨m, hm, rfl⟩ := Option.map_eq_some_iff.mp ht
      obtain ⟨c', hst, hL'⟩ := leads_at hm hc
      refine ⟨_, rfl, _, rfl, p, m, c, c', rfl, SqT.of hp, hst, by omega, true, rfl, iteF ?_⟩
      refine ⟨_, rfl, _, rfl, p, m, c, c', rfl, SqT.of hp, hst, by omega, rfl, c', _, rfl, hL', ?_⟩
      have := step_len hst
      omega
    · rintro sg H2 ⟨rfl, c, v, rfl, hc, hcl⟩
      rw [hxl] at hc
      have := leads_end hc
      subst this
      refine ⟨_, rfl, _, rfl, rfl, ?_⟩
      show Q (V.bl (decide (V.str (tx c) = V.str (tx c)))) _
      rw [decide_eq_true rfl]
      exact k _ (Same.refl _)
def spOpposite : Sp := fun vs H Q _ => ∃ (l : Addr) (ms : List RM.Mv), vs = [.ref l] ∧ MvL H l ms ∧ ms.length ≤ 1000000 ∧ ∀ p H', Same H H' → MvL H' p (ms.reverse.map RM.opp) → Q (.ref p) H'
theorem sc25 : FnScope ["moves", "place", "old", "new"] ["moves"] (defScope (top 25)) := ⟨rfl, rfl, rfl, by decide +kernel, rfl, by decide +kernel, by decide +kernel⟩
theorem ok_opposite (F : Def K mg "opposite" (top 25) ["moves"]) (B : Bl mg) : Fn P w K mg base 1 "opposite" ["moves"] spOpposite := by
  refine F.ok sc25 (fun vs H Q E h => ?_) (fun f cdv A outer s H vs Q E hr h => ?_)
  · obtain ⟨l, ms, rfl, _⟩ := h
    rfl
  · obtain ⟨l, ms, rfl, ⟨xs, hx, hT⟩, hlen, k⟩ := h
    have nd := sc25.nd
    refine ⟨_, pss_one (ps_ret (pe_lc (own := [("place", 1), ("old", 2), ("new", 3)]) (g := gTup K 3 (gCons (gName 1) (gCons (gName 2) (gCons (gName 3) gNil)))) (tt := tYes) rfl nd (pi_reversed (by rfl) B.rev (pa_cons (pv 0) pa_nil))
      (blkOk_by (N := ["moves", "place", "old", "new"]) (own := [("place", 1), ("old", 2), ("new", 3)]) (sc := defScope (top 25)) (by decide +kernel))
      (fun _ _ _ _ _ => pg_tup rfl (pgs_cons (pg_name (i := 1) nd rfl (Or.inl rfl)) (pgs_cons (pg_name (i := 2) nd rfl (Or.inl rfl)) (pgs_cons (pg_name (i := 3) nd rfl (Or.inl rfl)) pgs_nil)))) (fun _ _ _ _ _ => pts_nil)
      (fun _ _ _ _ _ => pe_tup (pa_cons (pv 1) (pa_cons (pv 3) (pa_cons (pv 2) pa_nil)))))), ?_⟩
    refine ⟨_, rfl, l, xs, rfl, SqL.of hx, fun W hW => ?_⟩
    have hxl : xs.length = ms.length := by rw [hT.1, List.length_map]
    refine lc_it (walk_rev (K := K) (a := l) (xs := xs)) (fun i H2 => (∀ b u, H b = some u → H2 b = some u) ∧ ∃ acc, H2 W = some (.lst acc) ∧ TupL H2 acc (((ms.reverse.map RM.opp).take i).map mvT)) ⟨Same.new hW, [], upd_same, by rw [List.take_zero]; exact All2.nil⟩ (fun i H2 _ ⟨z, _⟩ => SqL.of (z _ _ hx)) ?_ ?_
    · rintro i x H2 H3 hi ⟨z, acc, hA, hTa⟩ ⟨rfl, hxi⟩
      obtain ⟨t, ht, p, rfl, hp⟩ := hT.get hxi
      rw [List.getElem?_map, hxl] at ht
      obtain ⟨m, hm, rfl⟩ := Option.map_eq_some_iff.mp ht
      refine ⟨p, _, rfl, SqT.of (z _ _ hp), rfl, _, _, rfl, _, _, rfl, _, _, rfl, rfl, rfl, ?_⟩
      have hi' : i < ms.length := by omega
      have ho : (ms.reverse.map RM.opp)[i]? = some (RM.opp m) := by
        rw [List.getElem?_map, List.getElem?_reverse (by omega), hm]
        rfl
      have hal : acc.length = i := by
        rw [hTa.1, List.length_map, List.length_take, List.length_map, List.length_reverse]
        omega
      refine ⟨_, rfl, _, rfl, _, rfl, (by show 3 ≤ sizeLine; decide), fun q hq => ⟨acc, by rw [upd_ne (ne_of_none hA hq)]; exact hA, Nat.lt_of_le_of_lt (show acc.length ≤ 1000000 by omega) (by decide), ?_, _, upd_same, ?_⟩⟩
      · intro b u e
        rw [upd_ne (ne_of_none e hW), upd_ne (ne_of_none (z _ _ e) hq)]
        exact z _ _ e
      · rw [List.take_add_one, ho, List.map_append]
        refine TupL.snoc (TupL.keep hTa fun b u e => ?_) ?_
        · rw [upd_ne (ne_of e hA (by intro z; cases z)), upd_ne (ne_of_none e hq)]
          exact e
        · rw [upd_ne (ne_of_none hA hq).symm]
          exact upd_same
    · rintro H2 ⟨z, acc, hA, hTa⟩
      refine k W H2 z ⟨acc, hA, ?_⟩
      rw [hxl, List.take_of_length_le (by rw [List.length_map, List.length_reverse]; exact Nat.le_refl _)] at hTa
      exact hTa
end
end RB
/-! The walks of the law's own moves. -/
namespace RB
open PySem L2 PyProof.Rows
theorem vbl_eq (a b : Bool) : decide (V.bl a = V.bl b) = (a == b) := by
  cases a <;> cases b <;> decide
def spLIsMove (K : PySem.W.Frag) : Sp := fun vs H Q _ => ∃ (a : Addr) (m : RM.Mv), vs = [.ref a] ∧ SqT K H a (mvT m) ∧ RM.IsMv m ∧ ∀ H', Same H H' → Q (.bl true) H'
def spLMade (K : PySem.W.Frag) : Sp := fun vs H Q _ => ∃ (a : Addr) (m : RM.Mv) (d e : Dn), vs = [.str (tx d), .ref a] ∧ SqT K H a (mvT m) ∧ RM.Step d m e ∧ d.length ≤ 10000000 ∧ ∀ H', Same H H' → Q (.str (tx e)) H'
/-- of a move one of the two texts is empty, not both -/
theorem mv_one {m : RM.Mv} (h : RM.IsMv m) : (m.old = [] ∧ m.new ≠ []) ∨ (m.old ≠ [] ∧ m.new = []) := by
  have ne : m.old ++ m.new ≠ [] := by
    intro e
    rcases h.2 with h | ⟨_, h⟩
    · rw [e] at h
      exact absurd h (by decide)
    · rw [e] at h
      cases h
  rcases h.1 with e | e
  · refine .inl ⟨e, fun q => ne (by rw [e, q]; rfl)⟩
  · refine .inr ⟨fun q => ne (by rw [e, q]; rfl), e⟩
section
variable {P : Program} {w : World} {K : PySem.W.Frag} {mg : Str → Option Value} {base : Heap}
theorem sc40 : FnScope ["_law_move", "_law_place", "_law_old", "_law_new"] ["_law_move"] (defScope (top 40)) := ⟨rfl, rfl, rfl, by decide +kernel, rfl, by decide +kernel, by decide +kernel⟩
theorem ok_lisMove (F : Def K mg "_law_is_move" (top 40) ["_law_move"]) : Fn P w K mg base 1 "_law_is_move" ["_law_move"] (spLIsMove K) := by
  refine F.ok sc40 (fun vs H Q E h => ?_) (fun f cdv A outer s H vs Q E hr h => ?_)
  · obtain ⟨a, m, rfl, _⟩ := h
    rfl
  · obtain ⟨a, ⟨place, old, new⟩, rfl, ha, hm, k⟩ := h
    have nd := sc40.nd
    refine ⟨_, pss_cons (ps_asg (pv 0) (pg_tup rfl (pgs_cons (pg_name (i := 1) nd rfl (Or.inl rfl)) (pgs_cons (pg_name (i := 2) nd rfl (Or.inl rfl)) (pgs_cons (pg_name (i := 3) nd rfl (Or.inl rfl)) pgs_nil)))))
      (pss_cons (ps_if (pt_cmpR op_eq (pe_cmpR op_eq (pv 2) pe_str (nomark _)) (pe_cmpR op_eq (pv 3) pe_str (nomark _)) (nomark _)) (pss_one (ps_ret pe_bl)) pss_nil)
      (pss_one (ps_ret (pe_or (pe_cmpR op_in_seq (pe_op op_add_str (pv 2) (pv 3)) (pe_tup (pa_cons pe_str (pa_cons pe_str (pa_cons pe_str (pa_cons pe_str pa_nil))))) (by rfl))
        (pe_one (pe_and (pe_cmpR op_eq (pv 1) pe_int (nomark _)) (pe_one (pe_cmpR op_eq (pe_op op_add_str (pv 2) (pv 3)) pe_str (nomark _))))))))), ?_⟩
    have hs : old.length + new.length ≤ 6 := mv_short hm
    have h1 := mv_one hm
    have h2 := hm.2
    simp only at h1 h2
    refine ⟨_, rfl, a, _, rfl, ha, rfl, _, _, rfl, _, _, rfl, _, _, rfl, rfl, ?_⟩
    refine ⟨_, rfl, rfl, _, rfl, rfl, rfl, _, rfl, ?_⟩
    have e0 : decide (V.bl (decide (V.str (tx old) = V.str "")) = V.bl (decide (V.str (tx new) = V.str ""))) = false := by
      rw [s_e, v_tx, v_tx, vbl_eq]
      rcases h1 with ⟨e, n⟩ | ⟨n, e⟩
      · rw [decide_eq_true e, decide_eq_false n]
        rfl
      · rw [decide_eq_false n, decide_eq_true e]
        rfl
    refine iteE (p := False) (by rw [e0]; rfl) (fun z => z.elim) (fun _ => ?_)
    have hz : (tx old).length + (tx new).length ≤ sizeLine := by
      rw [tx_len, tx_len]
      exact Nat.le_trans hs (by decide)
    refine ⟨_, rfl, _, rfl, _, _, rfl, rfl, hz, (by show 4 ≤ sizeLine; decide), fun t ht => ?_⟩
    rw [s_TU, s_UT, s_RR, s_w6] at *
    rw [tx_app]
    refine ⟨t, anyV, rfl, .inr (SqT.of upd_same), rfl, anyV_flat, _, rfl, iteE (inV_any _) (fun _ => k _ (Same.new ht)) (fun hn => ?_)⟩
    rcases h2 with h2 | ⟨h3, h4⟩
    · exact absurd h2 hn
    · refine ⟨_, rfl, rfl, _, rfl, iteI (fun _ => ?_) (fun q => absurd (by rw [h3]; rfl) q)⟩
      refine ⟨_, rfl, _, rfl, _, _, rfl, rfl, hz, rfl, ?_⟩
      show Q (V.bl (decide (V.str (tx old ++ tx new) = V.str "RTR"))) _
      rw [tx_app, s_RTR, h4, decide_eq_true rfl]
      exact k _ (Same.new ht)
theorem sc41 : FnScope ["_law_dance_here", "_law_move", "_law_place", "_law_old", "_law_new"] ["_law_dance_here", "_law_move"] (defScope (top 41)) := ⟨rfl, rfl, rfl, by decide +kernel, rfl, by decide +kernel, by decide +kernel⟩
theorem ok_lmade (F : Def K mg "_law_made" (top 41) ["_law_dance_here", "_law_move"]) (B : Bl mg) (G : Fn P w K mg base 1 "_law_is_move" ["_law_move"] (spLIsMove K)) : Fn P w K mg base 2 "_law_made" ["_law_dance_here", "_law_move"] (spLMade K) := by
  refine F.ok sc41 (fun vs H Q E h => ?_) (fun f cdv A outer s H vs Q E hr h => ?_)
  · obtain ⟨a, m, d, e, rfl, _⟩ := h
    rfl
  · obtain ⟨a, ⟨place, old, new⟩, d, e, rfl, ha, ⟨hm, x, y, e1, e2, e3⟩, hd, k⟩ := h
    simp only at e1 e2 e3
    have nd := sc41.nd
    have len : ∀ {i : Nat}, True := trivial
    refine ⟨_, pss_cons (ps_asg (pv 1) (pg_tup rfl (pgs_cons (pg_name (i := 2) nd rfl (Or.inl rfl)) (pgs_cons (pg_name (i := 3) nd rfl (Or.inl rfl)) (pgs_cons (pg_name (i := 4) nd rfl (Or.inl rfl)) pgs_nil)))))
      (pss_cons (ps_if (PW.pt (pw_or (pt_not (pt_val (pe_fn G hr (by rfl) (pa_cons (pv 1) pa_nil) pass0))) (pw_or (pt_cmpR op_lt (pv 2) pe_int (nomark _)) (pw_or1 (pt_cmpR op_gt (pv 2) (pe_callB call_len_str (by rfl) B.len PySem.boot_len (pa_cons (pv 0) pa_nil)) (nomark _))))))
        (pss_one (ps_ret pe_non)) pss_nil)
      (pss_cons (ps_if (pt_cmpR op_ne (pe_slice sl_str (pv 0) (po_some (pv 2)) (po_some (pe_op op_add (pv 2) (pe_callB call_len_str (by rfl) B.len PySem.boot_len (pa_cons (pv 3) pa_nil))))) (pv 3) (nomark _)) (pss_one (ps_ret pe_non)) pss_nil)
      (pss_one (ps_ret (pe_op op_add_str (pe_op op_add_str (pe_slice sl_str (pv 0) po_none (po_some (pv 2))) (pv 4))
        (pe_slice sl_str (pv 0) (po_some (pe_op op_add (pv 2) (pe_callB call_len_str (by rfl) B.len PySem.boot_len (pa_cons (pv 3) pa_nil)))) po_none)))))), ?_⟩
    have hs : old.length + new.length ≤ 6 := mv_short hm
    have hd2 : (tx d).length ≤ sizeLine := by rw [tx_len]; exact Nat.le_trans hd big
    have ho2 : (tx old).length ≤ sizeLine := by rw [tx_len]; exact Nat.le_trans (show old.length ≤ 6 by omega) (by decide)
    have t1 : d.take place = x := by rw [e1, e3, List.append_assoc, List.take_left]
    have t2 : d.drop (place + old.length) = y := by rw [e1, e3, ← List.length_append, List.drop_left]
    have t3 : (d.drop place).take old.length = old := by rw [e1, e3, List.append_assoc, List.drop_left, List.take_left]
    have ld : d.length = x.length + old.length + y.length := by rw [e1]; simp only [List.length_append]
    have e4 : ((place : Nat) : Int) + ((tx old).length : Nat) = ((place + old.length : Nat) : Int) := by rw [tx_len]; omega
    refine ⟨_, rfl, a, _, rfl, ha, rfl, _, _, rfl, _, _, rfl, _, _, rfl, rfl, ?_⟩
    refine ⟨_, rfl, a, _, rfl, ha, hm, fun H1 s1 => ⟨true, rfl, iteF ?_⟩⟩
    refine ⟨_, rfl, _, _, rfl, rfl, _, rfl, iteL (fun q => absurd (Int.natCast_nonneg place) (Int.not_le.mpr q)) (fun _ => ?_)⟩
    refine ⟨_, rfl, _, rfl, _, rfl, hd2, _, _, rfl, rfl, _, rfl, ?_⟩
    refine iteL (fun q => absurd q (by show ¬ (((tx d).length : Nat) : Int) < (place : Nat); rw [tx_len]; omega)) (fun _ => ?_)
    refine ⟨_, rfl, _, rfl, _, rfl, _, rfl, _, rfl, _, rfl, ho2, _, _, rfl, rfl, _, rfl, _, rfl, hd2, ?_⟩
    dsimp only
    rw [e4, tx_cut, HT.sIx_nat, HT.sIx_nat, Nat.min_eq_left (show place ≤ d.length by omega), Nat.min_eq_left (show place + old.length ≤ d.length by omega), Nat.add_sub_cancel_left, t3]
    refine ⟨_, rfl, rfl, _, rfl, iteNS rfl ?_⟩
    have sl : x.length + new.length + y.length ≤ sizeLine := Nat.le_trans (show _ ≤ 10000006 by omega) (by decide)
    refine ⟨_, rfl, _, rfl, _, rfl, _, rfl, hd2, _, rfl, ?_⟩
    rw [cut_to, t1]
    refine ⟨_, _, rfl, rfl, (by show (tx x).length + (tx new).length ≤ sizeLine; rw [tx_len, tx_len]; omega), ?_⟩
    rw [tx_app]
    refine ⟨_, rfl, _, rfl, _, rfl, _, rfl, ho2, _, _, rfl, rfl, _, rfl, _, rfl, hd2, ?_⟩
    dsimp only
    rw [e4, cut_from, t2]
    refine ⟨_, _, rfl, rfl, by rw [tx_len, tx_len, List.length_append]; exact sl, ?_⟩
    rw [tx_app, ← e2]
    exact k _ s1
theorem sc50 : FnScope ["_law_one", "_law_moves_here", "_law_other_here", "_law_dance_here", "_law_move"] ["_law_one", "_law_moves_here", "_law_other_here"] (defScope (top 50)) := ⟨rfl, rfl, rfl, by decide +kernel, rfl, by decide +kernel, by decide +kernel⟩
theorem ok_lleads (F : Def K mg "_law_leads" (top 50) ["_law_one", "_law_moves_here", "_law_other_here"]) (G : Fn P w K mg base 2 "_law_made" ["_law_dance_here", "_law_move"] (spLMade K)) :
    Fn P w K mg base 3 "_law_leads" ["_law_one", "_law_moves_here", "_law_other_here"] spLeads := by
  refine F.ok sc50 (fun vs H Q E h => ?_) (fun f cdv A outer s H vs Q E hr h => ?_)
  · obtain ⟨a, b, l, ms, rfl, _⟩ := h
    rfl
  · obtain ⟨a, b, l, ms, rfl, ⟨xs, hx, hT⟩, hL, hlen, k⟩ := h
    have nd := sc50.nd
    refine ⟨_, pss_cons (ps_set (i := 3) nd rfl (Or.inl rfl) (pv 0))
      (pss_cons (ps_for PassesOwn.never rfl (pi_list (pv 1)) (pg_name (i := 4) nd rfl (Or.inl rfl))
        (pss_one (ps_if (pt_cmpR op_notN (pv 3) pe_non (nomark _)) (pss_one (ps_set (i := 3) nd rfl (Or.inl rfl) (pe_fn G hr (by rfl) (pa_cons (pv 3) (pa_cons (pv 4) pa_nil)) pass0))) pss_nil)))
      (pss_one (ps_ret (pe_and (pe_cmpR op_notN (pv 3) pe_non (nomark _)) (pe_one (pe_cmpR op_eq (pv 3) (pv 2) (nomark _))))))), ?_⟩
    have hxl : xs.length = ms.length := by rw [hT.1, List.length_map]
    refine ⟨_, rfl, _, rfl, l, rfl, ⟨_, SqL.of hx⟩, for_list (K := K) (a := l) (xs := xs) (fun i sg H2 => Same H H2 ∧ ∃ (c : Dn) (v : Option V), sg = [some (.str (tx a)), some (.ref l), some (.str (tx b)), some (.str (tx c)), v] ∧ RM.Leads c (ms.drop i) b ∧ c.length ≤ a.length + 6 * i)
      ⟨Same.refl _, a, none, rfl, hL, Nat.le_refl _⟩ (fun i sg H2 _ ⟨z, _⟩ => SqL.of (z _ _ hx)) ?_ ?_⟩
    · rintro i x sg H2 hi ⟨s1, c, v, rfl, hc, hcl⟩
      obtain ⟨t, ht, p, rfl, hp⟩ := hT.get hi
      have hil : i < xs.length := (List.getElem?_eq_some_iff.mp hi).1
      rw [List.getElem?_map] at ht
      obtain ⟨m, hm, rfl⟩ := Option.map_eq_some_iff.mp ht
      obtain ⟨c', hst, hL'⟩ := leads_at hm hc
      refine ⟨_, rfl, rfl, _, rfl, ?_⟩
      refine iteE (p := True) (by rw [decide_eq_false (by intro z; cases z)]; rfl) (fun _ => ?_) (fun z => absurd trivial z)
      refine ⟨_, rfl, _, rfl, p, m, c, c', rfl, SqT.of (s1 _ _ hp), hst, by omega, fun H3 s3 => ⟨s1.trans s3, c', _, rfl, hL', ?_⟩⟩
      have := step_len hst
      omega
    · rintro sg H2 ⟨s1, c, v, rfl, hc, hcl⟩
      rw [hxl] at hc
      have := leads_end hc
      subst this
      refine ⟨_, rfl, rfl, _, rfl, ?_⟩
      refine iteE (p := True) (by rw [decide_eq_false (by intro z; cases z)]; rfl) (fun _ => ?_) (fun z => absurd trivial z)
      refine ⟨_, rfl, _, rfl, rfl, ?_⟩
      show Q (V.bl (decide (V.str (tx c) = V.str (tx c)))) _
      rw [decide_eq_true rfl]
      exact k _ s1
end
end RB
/-! The walks of the class that settles a dance. -/
namespace RB
open PySem L2 PyProof.Rows
/-- a method of the class at C as it stands behind the top -/
def MDef (K : PySem.W.Frag) (C : Addr) (m qual : Str) (st : Stmt) (ps : List Str) : Prop := ∃ (f : Addr) (fd : FuncData), Fun K m qual st f fd ∧ Meth K C m f ∧ Binds K fd ps []
def MFn (P : Program) (w : World) (K : PySem.W.Frag) (mg : Str → Option Value) (base : Heap) (C : Addr) (k : Nat) (m : Str) (ps : List Str) (sp : Sp) : Prop :=
  ∃ (f : Addr) (fd : FuncData), Meth K C m f ∧ Binds K fd ps [] ∧ FnOk P w K mg base CX0 k f fd ps sp
section
variable {P : Program} {w : World} {K : PySem.W.Frag} {mg : Str → Option Value} {base : Heap}
theorem MDef.ok {C : Addr} {x qual : Str} {st : Stmt} {ps N : List Str} {k : Nat} {sp : Sp} (F : MDef K C x qual st ps) (S : FnScope N ps (defScope st)) (len : ∀ vs H Q E, sp vs H Q E → vs.length = ps.length)
    (hbody : ∀ (f : Addr) (cdv : Value) (A : Around) (outer : List Env) (s : Shared) (H : Hp) (vs : List V) (Q : VK) (E : XK), Room k (A.deeper (envOfC qual (defScope st) s.heap.objs.size f cdv)) → sp vs H Q E →
      ∃ t, PSs (cxOf CX0 P w K mg base N qual (defScope st) f cdv A outer s H E).nox (defBody st) t ∧ t { nx := fun _ H' => Q .non H', rt := Q } (start N vs) H) : MFn P w K mg base C (k + 1) x ps sp := by
  obtain ⟨f, fd, h, m, b⟩ := F
  exact ⟨f, fd, m, b, h.ok S len (hbody f)⟩
end
theorem pe_mfn {X : Cx} {C : Addr} {o e : Expr} {m : Str} {es : List Expr} {ps : List Str} {k : Nat} {sp : Sp} {ta : TE} {t : TA} {apos pos : Pos} {pl : Sem Bool} (he : PE X o ta) (c : Cls X.K C) (G : MFn X.prog X.w X.K X.mg X.base C k m ps sp) (hr : Room k X.A)
    (hx : Passes CX0 X E0) (ha : PA X (e :: es) t) (hst : starEach (e :: es) X.env = (false, eval e X.env) :: starEach es X.env := by rfl) (hpl : (backTo pos (starEach es X.env)).any (·.1) = false := by rfl)
    (ht : eval (.Call (.Attribute o m apos) (e :: es) [] pos) X.env = (do let ov ← eval o X.env; standAt apos.atName; let (f, first) ← holding [ov] (getMethod ov m pl); callWith pos f first (backTo pos (starEach (e :: es) X.env)) (backToKw pos (keywordEach [] X.env))) := by rfl) : PE X (.Call (.Attribute o m apos) (e :: es) [] pos) (tMeth C m sp [] E0 ta t) := by
  obtain ⟨f, fd, mt, b, h⟩ := G
  exact pe_meth he c mt h hr b .nil hx ha hst hpl ht
theorem pe_mfn0 {X : Cx} {C : Addr} {o : Expr} {m : Str} {ps : List Str} {k : Nat} {sp : Sp} {ta : TE} {apos pos : Pos} {pl : Sem Bool} (he : PE X o ta) (c : Cls X.K C) (G : MFn X.prog X.w X.K X.mg X.base C k m ps sp) (hr : Room k X.A)
    (hx : Passes CX0 X E0) (ht : eval (.Call (.Attribute o m apos) [] [] pos) X.env = (do let ov ← eval o X.env; standAt apos.atName; let (f, first) ← holding [ov] (getMethod ov m pl); callWith pos f first (backTo pos (starEach [] X.env)) (backToKw pos (keywordEach [] X.env))) := by rfl) : PE X (.Call (.Attribute o m apos) [] [] pos) (tMeth C m sp [] E0 ta tNil) := by
  obtain ⟨f, fd, mt, b, h⟩ := G
  exact pe_meth0 he c mt h hr b .nil hx ht
/-! ### the object -/
theorem ndm : ¬ (("dance" : Str) = "moves") := by decide +kernel
theorem nmd : ¬ (("moves" : Str) = "dance") := by decide +kernel
def sf (d : Dn) (l : Addr) : List (Str × V) := putF "moves" (.ref l) (putF "dance" (.str (tx d)) [])
theorem sf_eq (d : Dn) (l : Addr) : sf d l = ([("dance", V.str (tx d)), ("moves", V.ref l)] : List (Str × V)) := by
  show (if ("dance" : Str) = "moves" then [(("dance" : Str), V.ref l)] else (("dance" : Str), V.str (tx d)) :: putF "moves" (V.ref l) []) = ([("dance", V.str (tx d)), ("moves", V.ref l)] : List (Str × V))
  rw [if_neg ndm]
  rfl
theorem sf_dance (d : Dn) (l : Addr) : (sf d l).lookup ("dance" : Str) = some (.str (tx d)) := by
  unfold sf
  rw [lookup_putF, if_neg ndm, lookup_putF, if_pos rfl]
theorem sf_moves (d : Dn) (l : Addr) : (sf d l).lookup ("moves" : Str) = some (.ref l) := by
  unfold sf
  rw [lookup_putF, if_pos rfl]
theorem sf_no (d : Dn) (l : Addr) {m : Str} (h1 : ¬ m = "moves") (h2 : ¬ m = "dance") : (sf d l).lookup m = none := by
  unfold sf
  rw [lookup_putF, if_neg h1, lookup_putF, if_neg h2]
  rfl
theorem sf_put (d e : Dn) (l : Addr) : putF "dance" (.str (tx e)) (sf d l) = sf e l := by
  rw [sf_eq, sf_eq]
  show (if ("dance" : Str) = "dance" then (("dance" : Str), V.str (tx e)) :: [(("moves" : Str), V.ref l)] else _) = _
  rw [if_pos rfl]
theorem sf_len (d : Dn) (l : Addr) : (sf d l).length < 1000 := by
  rw [sf_eq]
  show 2 < 1000
  decide
theorem no_make (d : Dn) (l : Addr) : (sf d l).lookup ("_make" : Str) = none := sf_no _ _ (by decide +kernel) (by decide +kernel)
theorem no_turn (d : Dn) (l : Addr) : (sf d l).lookup ("_settle_turn" : Str) = none := sf_no _ _ (by decide +kernel) (by decide +kernel)
theorem no_unt (d : Dn) (l : Addr) : (sf d l).lookup ("_settle_untwists" : Str) = none := sf_no _ _ (by decide +kernel) (by decide +kernel)
theorem no_sing (d : Dn) (l : Addr) : (sf d l).lookup ("_settle_single_twist" : Str) = none := sf_no _ _ (by decide +kernel) (by decide +kernel)
theorem no_take (d : Dn) (l : Addr) : (sf d l).lookup ("take" : Str) = none := sf_no _ _ (by decide +kernel) (by decide +kernel)
/-- behind the heap H0 the object at p has led a to d, by at most n moves: THE INVARIANT -/
def SetAt (C : Addr) (H0 H : Hp) (p : Addr) (a d : Dn) (n : Nat) : Prop :=
  Same H0 H ∧ H0 p = none ∧ ∃ (dx l : Addr) (ms : List RM.Mv), H0 l = none ∧ H p = some (.ins C dx (sf d l)) ∧ MvL H l ms ∧ RM.Leads a ms d ∧ ms.length ≤ n
theorem SetAt.mono {C : Addr} {H0 H : Hp} {p : Addr} {a d : Dn} {n n' : Nat} (h : SetAt C H0 H p a d n) (hn : n ≤ n') : SetAt C H0 H p a d n' := by
  obtain ⟨s, q, dx, l, ms, h1, h2, h3, h4, h5⟩ := h
  exact ⟨s, q, dx, l, ms, h1, h2, h3, h4, Nat.le_trans h5 hn⟩
theorem SetAt.same {C : Addr} {H0 H H' : Hp} {p : Addr} {a d : Dn} {n : Nat} (h : SetAt C H0 H p a d n) (k : Same H H') : SetAt C H0 H' p a d n := by
  obtain ⟨s, q, dx, l, ms, h1, h2, h3, h4, h5⟩ := h
  exact ⟨s.trans k, q, dx, l, ms, h1, k _ _ h2, h3.same k, h4, h5⟩
theorem SetAt.cast {C : Addr} {H0 H : Hp} {p : Addr} {a d d' : Dn} {n : Nat} (h : SetAt C H0 H p a d n) (e : d = d') : SetAt C H0 H p a d' n := by
  rw [← e]
  exact h
structure Sg (K : PySem.W.Frag) (mg : Str → Option Value) (C : Addr) : Prop where
  cl : Cls K C
  nD : NoAttr K C "dance"
  nM : NoAttr K C "moves"
  mgC : mg "Settling" = some (.ref C)
/-! ### promises -/
def spInit (C : Addr) : Sp := fun vs H Q _ => ∃ (H0 : Hp) (p dx : Addr), vs = [.ref p] ∧ Same H0 H ∧ H0 p = none ∧ H p = some (.ins C dx []) ∧ ∀ H', SetAt C H0 H' p [] [] 0 → Q .non H'
def spMake (C : Addr) : Sp := fun vs H Q _ => ∃ (H0 : Hp) (p : Addr) (a d e : Dn) (m : RM.Mv) (n : Nat), SetAt C H0 H p a d n ∧ RM.Step d m e ∧ vs = [.ref p, .int (m.place : Nat), .str (tx m.old), .str (tx m.new)] ∧ d.length ≤ 1000000 ∧ n ≤ 1000000 ∧
  ∀ H', SetAt C H0 H' p a e (n + 1) → Q .non H'
theorem SetAt.get {C : Addr} {H0 H : Hp} {p : Addr} {a d : Dn} {n : Nat} (h : SetAt C H0 H p a d n) : ∃ dx l, H p = some (.ins C dx (sf d l)) := by
  obtain ⟨_, _, dx, l, _, _, h2, _⟩ := h
  exact ⟨dx, l, h2⟩
theorem mk_eq {p : Addr} {i : Int} {z1 z2 : Str} {m : RM.Mv} (e3 : i = (m.place : Nat)) (e1 : z1 = tx m.old) (e2 : z2 = tx m.new) :
    V.ref p :: ([V.int i, V.str z1, V.str z2] ++ []) = [V.ref p, .int (m.place : Nat), .str (tx m.old), .str (tx m.new)] := by
  rw [e3, e1, e2]
  rfl
section
variable {P : Program} {w : World} {K : PySem.W.Frag} {mg : Str → Option Value} {base : Heap}
theorem sc270 : FnScope ["self"] ["self"] (defScope (inClass (top 27) 0)) := ⟨rfl, rfl, rfl, by decide +kernel, rfl, by decide +kernel, by decide +kernel⟩
theorem sc271 : FnScope ["self", "place", "old", "new", "move"] ["self", "place", "old", "new"] (defScope (inClass (top 27) 1)) := ⟨rfl, rfl, rfl, by decide +kernel, rfl, by decide +kernel, by decide +kernel⟩
theorem ok_make {C : Addr} (F : MDef K C "_make" "Settling._make" (inClass (top 27) 1) ["self", "place", "old", "new"]) (T : Sg K mg C) (G : Fn P w K mg base 3 "made" ["dance", "move"] (spMade K)) :
    MFn P w K mg base C 4 "_make" ["self", "place", "old", "new"] (spMake C) := by
  refine F.ok sc271 (fun vs H Q E h => ?_) (fun f cdv A outer s H vs Q E hr h => ?_)
  · obtain ⟨H0, p, a, d, e, m, n, _, _, rfl, _⟩ := h
    rfl
  · obtain ⟨H0, p, a, d, e, m, n, ⟨s0, p0, dx, l, ms, l0, h1, ⟨xs, hL, hT⟩, hlead, hms⟩, hst, rfl, hd, hn, k⟩ := h
    have nd := sc271.nd
    refine ⟨_, pss_cons (ps_set (i := 4) nd rfl (Or.inl rfl) (pe_tup (pa_cons (pv 1) (pa_cons (pv 2) (pa_cons (pv 3) pa_nil)))))
      (pss_cons (ps_fld (pv 0) (pe_fn G hr (by rfl) (pa_cons (pe_fld (pv 0) rfl) (pa_cons (pv 4) pa_nil)) pass0) rfl)
      (pss_one (ps_expr (pe_bm PySem.F.plainAttrs_list PySem.F.slot_list_append PySem.F.type_list_append mt_append (pe_fld (pv 0) rfl) (pa_cons (pv 4) pa_nil))))), ?_⟩
    refine ⟨_, rfl, _, rfl, _, rfl, (by show 3 ≤ sizeLine; decide), fun t ht => ?_⟩
    have st := Same.new (o := .tup (mvT m)) ht
    have h1' := st _ _ h1
    refine ⟨_, rfl, p, C, dx, _, _, rfl, h1', T.cl, T.nD, sf_dance _ _, _, rfl, t, m, d, e, rfl, SqT.of upd_same, hst, by omega, ?_⟩
    refine ⟨_, rfl, p, C, dx, _, rfl, h1', T.cl, T.nD, sf_len _ _, ?_⟩
    rw [sf_put]
    have npl : l ≠ p := ne_of hL h1 (by intro z; cases z)
    have hL' : upd (upd H t (.tup (mvT m))) p (.ins C dx (sf e l)) l = some (.lst xs) := by
      rw [upd_ne npl]
      exact st _ _ hL
    refine ⟨_, rfl, p, C, dx, _, _, rfl, upd_same, T.cl, T.nM, sf_moves _ _, .inl ⟨rfl, _, SqL.of hL'⟩, _, rfl, l, _, _, rfl, rfl, hL', ?_, ?_⟩
    · rw [hT.1, List.length_map]
      exact Nat.lt_of_le_of_lt (show ms.length ≤ 1000000 by omega) (by decide)
    · refine k _ ⟨fun b u q => ?_, p0, dx, l, ms ++ [m], l0, by rw [upd_ne npl.symm]; exact upd_same, ⟨xs ++ [.ref t], upd_same, ?_⟩, hlead.snoc hst, by rw [List.length_append, List.length_singleton]; omega⟩
      · rw [upd_ne (ne_of_none q l0), upd_ne (ne_of_none q p0)]
        exact st _ _ (s0 _ _ q)
      · rw [List.map_append]
        have ntl : t ≠ l := (ne_of_none hL ht).symm
        have ntp : t ≠ p := (ne_of_none h1 ht).symm
        refine TupL.snoc (TupL.keep hT fun b u q => ?_) ?_
        · rw [upd_ne (ne_of q hL (by intro z; cases z)), upd_ne (ne_of q h1 (by intro z; cases z))]
          exact st _ _ q
        · rw [upd_ne ntl, upd_ne ntp]
          exact upd_same
theorem ok_init {C f : Addr} {fd : FuncData} (F : Fun K "__init__" "Settling.__init__" (inClass (top 27) 0) f fd) (T : Sg K mg C) : FnOk P w K mg base CX0 1 f fd ["self"] (spInit C) := by
  refine F.ok sc270 (fun vs H Q E h => ?_) (fun cdv A outer s H vs Q E hr h => ?_)
  · obtain ⟨H0, p, dx, rfl, _⟩ := h
    rfl
  · obtain ⟨H0, p, dx, rfl, s0, p0, hp, k⟩ := h
    refine ⟨_, pss_cons (ps_fld (pv 0) pe_str rfl) (pss_one (ps_fld (pv 0) (pe_lst pa_nil) rfl)), ?_⟩
    refine ⟨_, rfl, p, C, dx, [], rfl, hp, T.cl, T.nD, (by show 0 < 1000; decide), Nat.zero_le _, fun l hl => ?_⟩
    have npl : p ≠ l := fun q => by rw [q, upd_same] at hl; cases hl
    have hl0 : H l = none := by rwa [upd_ne npl.symm] at hl
    refine ⟨_, rfl, p, C, dx, _, rfl, by rw [upd_ne npl]; exact upd_same, T.cl, T.nM, (by show 1 < 1000; decide), ?_⟩
    have e1 : putF "moves" (V.ref l) (putF "dance" (V.str "") []) = sf [] l := by rw [s_e]; rfl
    rw [e1]
    refine k _ ⟨fun b u q => ?_, p0, dx, l, [], s0.free hl0, upd_same, ⟨[], by rw [upd_ne npl.symm]; exact upd_same, All2.nil⟩, .nil _, Nat.le_refl _⟩
    rw [upd_ne (ne_of_none q p0), upd_ne (ne_of_none (s0 _ _ q) hl0), upd_ne (ne_of_none q p0)]
    exact s0 _ _ q
end
end RB
/-! The walks of the class that settles a dance: turns. -/
namespace RB
open PySem L2 PyProof.Rows
theorem tu_flat (a b : Str) : [V.str a, V.str b].all flatV = true := rfl
def spUnt (C : Addr) : Sp := fun vs H Q _ => ∃ (H0 : Hp) (p : Addr) (a d e : Dn) (c n : Nat), vs = [.ref p, .int ((c + 1 : Nat) : Int)] ∧ SetAt C H0 H p a d n ∧ d.length ≤ 100000 ∧ n ≤ 400000 ∧
  ((d = RM.uw (c + 1) ++ [.R] ∧ e = [.T] ++ RM.trt c) ∨ ∃ X, d = X ++ RM.rest (c + 1) ∧ e = X ++ RM.trt (c + 1)) ∧ ∀ H', SetAt C H0 H' p a e (n + 5 * (c + 1) + 2) → Q .non H'
def spSing (C : Addr) : Sp := fun vs H Q _ => ∃ (H0 : Hp) (p : Addr) (a X : Dn) (n : Nat), vs = [.ref p, .int (X.length : Nat)] ∧ SetAt C H0 H p a (X ++ [.T, .R]) n ∧ X.length ≤ 10000 ∧ n ≤ 400000 ∧ RM.Pre X ∧
  ∀ d m H', SetAt C H0 H' p a d (n + 5 * X.length + 3) → RM.NFs d m → m ≤ X.length + 3 → Q .non H'
theorem rest_len (n : Nat) : (RM.rest n).length ≤ n + 2 := by
  cases n with
  | zero => exact Nat.zero_le _
  | succ n =>
    show (RM.L.R :: RM.uw (n + 1) ++ [RM.L.R]).length ≤ _
    rw [List.length_append, List.length_cons, RM.uw_len, List.length_singleton]
    omega
theorem rest_len1 (n : Nat) : (RM.rest (n + 1)).length = n + 3 := by
  show (RM.L.R :: RM.uw (n + 1) ++ [RM.L.R]).length = _
  rw [List.length_append, List.length_cons, RM.uw_len, List.length_singleton]
/-- what the untwists' loop goes on from, and what it comes to -/
structure UntGo (C : Addr) (H0 H1 : Hp) (p : Addr) (a e X : Dn) (c n n1 : Nat) (b : Bool) : Prop where
  at_ : SetAt C H0 H1 p a (X ++ RM.trt 0 ++ RM.rest (c + 1)) n1
  lx : X.length ≤ 100000
  lc : c ≤ 100000
  ln : n1 ≤ n + 1
  yes : b = true → X = [.R] ∧ e = [.T] ++ RM.trt c
  no : ¬ b = true → n1 ≤ n ∧ e = X ++ RM.trt (c + 1)
section
variable {P : Program} {w : World} {K : PySem.W.Frag} {mg : Str → Option Value} {base : Heap}
theorem sc274 : FnScope ["self", "count", "place", "at_the_beginning", "left"] ["self", "count"] (defScope (inClass (top 27) 4)) := ⟨rfl, rfl, rfl, by decide +kernel, rfl, by decide +kernel, by decide +kernel⟩
theorem ok_unt {C : Addr} (F : MDef K C "_settle_untwists" "Settling._settle_untwists" (inClass (top 27) 4) ["self", "count"]) (B : Bl mg) (T : Sg K mg C) (G : MFn P w K mg base C 4 "_make" ["self", "place", "old", "new"] (spMake C)) :
    MFn P w K mg base C 5 "_settle_untwists" ["self", "count"] (spUnt C) := by
  refine F.ok sc274 (fun vs H Q E h => ?_) (fun f cdv A outer s H vs Q E hr h => ?_)
  · obtain ⟨H0, p, a, d, e, c, n, rfl, _⟩ := h
    rfl
  · obtain ⟨H0, p, a, d, e, c, n, rfl, hS, hd, hn, hde, k⟩ := h
    have nd := sc274.nd
    refine ⟨_, pss_cons (ps_set (i := 2) nd rfl (Or.inl rfl) (pe_op op_sub (pe_op op_sub (pe_callB call_len_str (by rfl) B.len PySem.boot_len (pa_cons (pe_fld (pv 0) rfl) pa_nil)) (pv 1)) pe_int))
      (pss_cons (ps_set (i := 3) nd rfl (Or.inl rfl) (pe_cmpR op_lt (pv 2) pe_int (nomark _)))
      (pss_cons (ps_if (pt_val (pv 3)) (pss_cons (ps_expr (pe_mfn (pv 0) T.cl G hr pass0 (pa_cons pe_int (pa_cons pe_str (pa_cons pe_str pa_nil))))) (pss_one (ps_set (i := 2) nd rfl (Or.inl rfl) pe_int))) pss_nil)
      (pss_cons (ps_for PassesOwn.never rfl (pi_range3 rfl B.rng (pa_cons (pv 1) (pa_cons pe_int (pa_cons (pe_un un_neg pe_int) pa_nil)))) (pg_name (i := 4) nd rfl (Or.inl rfl))
        (pss_cons (ps_if (pt_cmpR op_gt (pv 4) pe_int (nomark _)) (pss_one (ps_expr (pe_mfn (pv 0) T.cl G hr pass0 (pa_cons (pe_op op_add (pv 2) pe_int) (pa_cons pe_str (pa_cons pe_str pa_nil)))))) pss_nil)
        (pss_cons (ps_expr (pe_mfn (pv 0) T.cl G hr pass0 (pa_cons (pv 2) (pa_cons pe_str (pa_cons pe_str pa_nil)))))
        (pss_cons (ps_expr (pe_mfn (pv 0) T.cl G hr pass0 (pa_cons (pe_op op_add (pv 2) pe_int) (pa_cons pe_str (pa_cons pe_str pa_nil)))))
        (pss_cons (ps_expr (pe_mfn (pv 0) T.cl G hr pass0 (pa_cons (pe_op op_add (pv 2) pe_int) (pa_cons pe_str (pa_cons pe_str pa_nil)))))
        (pss_cons (ps_expr (pe_mfn (pv 0) T.cl G hr pass0 (pa_cons (pe_op op_add (pv 2) pe_int) (pa_cons pe_str (pa_cons pe_str pa_nil)))))
        (pss_one (ps_aug (i := 2) nd rfl (Or.inl rfl) pe_int ip_add))))))))
      (pss_one (ps_if (pt_val (pv 3)) (pss_one (ps_expr (pe_mfn (pv 0) T.cl G hr pass0 (pa_cons pe_int (pa_cons pe_str (pa_cons pe_str pa_nil)))))) pss_nil))))), ?_⟩
    obtain ⟨dx, l, h1⟩ := hS.get
    refine ⟨_, rfl, p, C, dx, _, _, rfl, h1, T.cl, T.nD, sf_dance _ _, _, rfl, by rw [tx_len]; exact Nat.le_trans hd (by decide), _, rfl, _, _, rfl, rfl, _, _, rfl, rfl, ?_⟩
    refine ⟨_, rfl, _, _, rfl, rfl, ?_⟩
    dsimp only
    rw [tx_len]
    generalize hpl : (d.length : Int) - ((c + 1 : Nat) : Int) - 2 = pl
    generalize hb : decide (pl < 0) = b
    refine ⟨_, rfl, _, rfl, ite2 (fun hbt => ?yes) (fun hbf => ?no)⟩
    case' yes =>
      rw [hbt] at hb
      have hb' : pl < 0 := of_decide_eq_true hb
      have hde' : d = RM.uw (c + 1) ++ [.R] ∧ e = [.T] ++ RM.trt c := by
        rcases hde with h | ⟨X, rfl, _⟩
        · exact h
        · rw [List.length_append, rest_len1] at hpl
          omega
      obtain ⟨rfl, he⟩ := hde'
      have hc : c + 2 ≤ 100000 := by
        rw [List.length_append, RM.uw_len, List.length_singleton] at hd
        exact hd
      refine ⟨_, rfl, p, dx, _, rfl, h1, no_make _ _, H0, p, a, _, _, _, n, hS, RM.utB c, mk_eq rfl s_e s_RR, by omega, by omega, fun H1 S1 => ?_⟩
      obtain ⟨X, n1, esl, U⟩ : ∃ (X : Dn) (n1 : Nat), (1 : Int) = (X.length + 3 * 0 : Nat) ∧ UntGo C H0 H1 p a e X c n n1 b :=
        ⟨[.R], n + 1, rfl, S1, by decide, by omega, Nat.le_refl _, fun _ => ⟨rfl, he⟩, fun q => absurd hbt q⟩
    case' no =>
      have hb' : ¬ pl < 0 := fun q => hbf (by rw [← hb]; exact decide_eq_true q)
      obtain ⟨X, rfl, he⟩ : ∃ X, d = X ++ RM.rest (c + 1) ∧ e = X ++ RM.trt (c + 1) := by
        rcases hde with ⟨rfl, _⟩ | h
        · rw [List.length_append, RM.uw_len, List.length_singleton] at hpl
          omega
        · exact h
      have hd' := hd
      rw [List.length_append, rest_len1] at hpl hd'
      obtain ⟨H1, n1, esl, eH, U⟩ : ∃ (H1 : Hp) (n1 : Nat), pl = (X.length + 3 * 0 : Nat) ∧ H = H1 ∧ UntGo C H0 H1 p a e X c n n1 b :=
        ⟨H, n, by omega, rfl, hS.cast (by simp [RM.trt]), by omega, by omega, by omega, fun q => absurd q hbf, fun _ => ⟨Nat.le_refl _, he⟩⟩
      rw [eH]
    all_goals
      have hrg : RgC ((c + 1 : Nat) : Int) 0 (-1) (c + 1) := by
        have lc := U.lc
        have q := RgC.neg (i := ((c + 1 : Nat) : Int)) (j := 0) (by omega) (by omega) (by omega) (by omega)
        rwa [show (((c + 1 : Nat) : Int) - 0).toNat = c + 1 by omega] at q
      refine ⟨_, rfl, _, rfl, _, _, _, _, rfl, hrg, for_rangeC (fun i sg H2 => ∃ v : Option V, sg = [some (.ref p), some (.int ((c + 1 : Nat) : Int)), some (.int ((X.length + 3 * i : Nat) : Int)), some (.bl b), v] ∧
        SetAt C H0 H2 p a (X ++ RM.trt i ++ RM.rest (c + 1 - i)) (n1 + 5 * i)) ⟨none, by rw [← esl]; rfl, U.at_⟩ ?_ ?_⟩
      · rintro i sg H2 hi ⟨v, rfl, S2⟩
        obtain ⟨j, hj⟩ : ∃ j, c + 1 - i = j + 1 := ⟨c - i, by omega⟩
        rw [hj] at S2
        have lx := U.lx
        have lc := U.lc
        have ln := U.ln
        have hZ : (X ++ RM.trt i).length = X.length + 3 * i := by rw [List.length_append, RM.trt_len]
        generalize hZe : X ++ RM.trt i = Z at S2 hZ ⊢
        have hrl := rest_len j
        obtain ⟨dx2, l2, h2⟩ := S2.get
        refine ⟨_, rfl, _, _, rfl, rfl, _, rfl, iteL (fun hgt => ?_) (fun hle => ?_)⟩
        all_goals first
          | (have hgt' : (1 : Int) < ((c + 1 : Nat) : Int) + (i : Nat) * (-1) := hgt
             obtain ⟨j', rfl⟩ : ∃ j', j = j' + 1 := ⟨j - 1, by omega⟩
             have hr2 := rest_len (j' + 1 + 1)
             refine ⟨_, rfl, p, dx2, _, rfl, h2, no_make _ _, _, rfl, _, _, rfl, rfl, H0, p, a, _, _, _, _, S2, RM.ut0 Z j', mk_eq (by show ((X.length + 3 * i : Nat) : Int) + 2 = ((Z.length + 2 : Nat) : Int); omega) s_e s_RR,
               (by rw [List.length_append]; omega), by omega, fun H3 S3 => ?_⟩)
          | (have hle' : ¬ (1 : Int) < ((c + 1 : Nat) : Int) + (i : Nat) * (-1) := hle
             obtain rfl : j = 0 := by omega
             obtain ⟨H3, eH3, S3⟩ : ∃ H3, H2 = H3 ∧ SetAt C H0 H3 p a (Z ++ [.R, .U, .R] ++ RM.rest 0) (n1 + 5 * i + 1) := ⟨H2, rfl, (S2.cast (RM.ut0' Z)).mono (by omega)⟩
             rw [eH3])
        all_goals
          obtain ⟨dx3, l3, h3⟩ := S3.get
          have ze : ∀ z : Int, ((X.length + 3 * i : Nat) : Int) + z = (Z.length : Nat) + z := fun z => by omega
          refine ⟨_, rfl, p, dx3, _, rfl, h3, no_make _ _, _, rfl, H0, p, a, _, _, _, _, S3, RM.ut1 Z _, mk_eq (by show ((X.length + 3 * i : Nat) : Int) = (Z.length : Nat); omega) s_e s_w6, ?_, by omega, fun H4 S4 => ?_⟩
          · simp only [List.length_append, List.length_cons, List.length_nil]
            omega
          obtain ⟨dx4, l4, h4⟩ := S4.get
          refine ⟨_, rfl, p, dx4, _, rfl, h4, no_make _ _, _, rfl, _, _, rfl, rfl, H0, p, a, _, _, _, _, S4, RM.ut2 Z _, mk_eq (ze 5) s_RR s_e, ?_, by omega, fun H5 S5 => ?_⟩
          · simp only [List.length_append, List.length_cons, List.length_nil]
            omega
          obtain ⟨dx5, l5, h5⟩ := S5.get
          refine ⟨_, rfl, p, dx5, _, rfl, h5, no_make _ _, _, rfl, _, _, rfl, rfl, H0, p, a, _, _, _, _, S5, RM.ut3 Z _, mk_eq (ze 4) s_TU s_e, ?_, by omega, fun H6 S6 => ?_⟩
          · simp only [List.length_append, List.length_cons, List.length_nil]
            omega
          obtain ⟨dx6, l6, h6⟩ := S6.get
          refine ⟨_, rfl, p, dx6, _, rfl, h6, no_make _ _, _, rfl, _, _, rfl, rfl, H0, p, a, _, _, _, _, S6, RM.ut4 Z _, mk_eq (ze 3) s_RR s_e, ?_, by omega, fun H7 S7 => ?_⟩
          · simp only [List.length_append, List.length_cons, List.length_nil]
            omega
          refine ⟨_, rfl, _, _, rfl, rfl, some (.int (((c + 1 : Nat) : Int) + (i : Nat) * (-1))), ?_, SetAt.mono (S7.cast ?_) (show _ ≤ n1 + 5 * (i + 1) by omega)⟩
          · show [_, _, some (V.int (((X.length + 3 * i : Nat) : Int) + 3)), _, _] = _
            rw [show ((X.length + 3 * i : Nat) : Int) + 3 = ((X.length + 3 * (i + 1) : Nat) : Int) by omega]
          · have ej : c + 1 - (i + 1) = c - i := by omega
            rw [ej, RM.trt, ← List.append_assoc, hZe]
            congr 2
            omega
      · rintro sg H2 ⟨v, rfl, S2⟩
        rw [Nat.sub_self] at S2
        have S3 : SetAt C H0 H2 p a (X ++ RM.trt (c + 1)) (n1 + 5 * (c + 1)) := S2.cast (by simp [RM.rest])
        obtain ⟨dx2, l2, h2⟩ := S2.get
        have lx := U.lx
        have lc := U.lc
        have ln := U.ln
        refine ⟨_, rfl, _, rfl, ite2 (fun h => ?_) (fun h => ?_)⟩
        · obtain ⟨rfl, rfl⟩ := U.yes h
          refine ⟨_, rfl, p, dx2, _, rfl, h2, no_make _ _, H0, p, a, _, _, _, _, S3, RM.utE c, mk_eq rfl s_RTR s_e, ?_, by omega, fun H3 S4 => k _ (S4.mono (by omega))⟩
          rw [List.length_append, RM.trt_len, List.length_singleton]
          omega
        · obtain ⟨hn1, rfl⟩ := U.no h
          exact k _ (S3.mono (by omega))
theorem sc275 : FnScope ["self", "place"] ["self", "place"] (defScope (inClass (top 27) 5)) := ⟨rfl, rfl, rfl, by decide +kernel, rfl, by decide +kernel, by decide +kernel⟩
theorem ok_sing {C : Addr} (F : MDef K C "_settle_single_twist" "Settling._settle_single_twist" (inClass (top 27) 5) ["self", "place"]) (T : Sg K mg C) (G : MFn P w K mg base C 4 "_make" ["self", "place", "old", "new"] (spMake C)) :
    MFn P w K mg base C 5 "_settle_single_twist" ["self", "place"] (spSing C) := by
  refine F.ok sc275 (fun vs H Q E h => ?_) (fun f cdv A outer s H vs Q E hr h => ?_)
  · obtain ⟨H0, p, a, X, n, rfl, _⟩ := h
    rfl
  · obtain ⟨H0, p, a, X, n, rfl, hS, hX, hn, hP, k⟩ := h
    have nd := sc275.nd
    refine ⟨_, pss_cons (ps_while PassesOwn.never (pt_cmpR op_gt (pv 1) pe_int (nomark _))
        (pss_cons (ps_expr (pe_mfn (pv 0) T.cl G hr pass0 (pa_cons (pe_op op_sub (pv 1) pe_int) (pa_cons pe_str (pa_cons pe_str pa_nil)))))
        (pss_cons (ps_expr (pe_mfn (pv 0) T.cl G hr pass0 (pa_cons (pe_op op_add (pv 1) pe_int) (pa_cons pe_str (pa_cons pe_str pa_nil)))))
        (pss_cons (ps_expr (pe_mfn (pv 0) T.cl G hr pass0 (pa_cons (pe_op op_add (pv 1) pe_int) (pa_cons pe_str (pa_cons pe_str pa_nil)))))
        (pss_cons (ps_expr (pe_mfn (pv 0) T.cl G hr pass0 (pa_cons (pv 1) (pa_cons pe_str (pa_cons pe_str pa_nil)))))
        (pss_cons (ps_expr (pe_mfn (pv 0) T.cl G hr pass0 (pa_cons (pe_op op_sub (pv 1) pe_int) (pa_cons pe_str (pa_cons pe_str pa_nil)))))
        (pss_cons (ps_aug (i := 1) nd rfl (Or.inl rfl) pe_int ip_sub)
        (pss_one (ps_if (PW.pt (pw_and (pt_cmpR op_gt (pv 1) pe_int (nomark _)) (pw_and1 (pt_cmpR op_eq (pe_ix ix_str (pe_fld (pv 0) rfl) (pe_op op_sub (pv 1) pe_int) (fun _ _ => rfl)) pe_str (nomark _))))) (pss_one ps_retN) pss_nil)))))))))
      (pss_cons (ps_expr (pe_mfn (pv 0) T.cl G hr pass0 (pa_cons pe_int (pa_cons pe_str (pa_cons pe_str pa_nil)))))
      (pss_cons (ps_expr (pe_mfn (pv 0) T.cl G hr pass0 (pa_cons pe_int (pa_cons pe_str (pa_cons pe_str pa_nil)))))
      (pss_one (ps_expr (pe_mfn (pv 0) T.cl G hr pass0 (pa_cons pe_int (pa_cons pe_str (pa_cons pe_str pa_nil)))))))), ?_⟩
    refine while_by (fun sg H1 => ∃ (Y : Dn) (m q : Nat), sg = [some (.ref p), some (.int (Y.length : Nat))] ∧ SetAt C H0 H1 p a (Y ++ [.T, .R] ++ RM.uw m) q ∧ RM.Pre Y ∧ Y.length + 3 * m ≤ X.length ∧ q + 5 * Y.length ≤ n + 5 * X.length)
      (fun sg _ => match sg with | [_, some (.int y)] => y.toNat | _ => 0) ⟨X, 0, n, rfl, hS.cast (by simp [RM.uw]), hP, by omega, by omega⟩ ?_ ?_
    · rintro sg H1 ⟨Y, m, q, rfl, S1, hY, hm, hq⟩
      refine ⟨_, rfl, _, _, rfl, rfl, _, rfl, iteL (fun hpos => ?_) (fun hz => ?_)⟩
      · have hpos' : (0 : Int) < (Y.length : Nat) := hpos
        obtain ⟨c, hc, rfl⟩ : ∃ c, RM.CoreS c ∧ Y = c ++ [.R] := by
          rcases hY with rfl | h
          · exact absurd hpos' (by decide)
          · exact h
        obtain ⟨c2, rfl, hend⟩ := RM.core_end hc
        have ul := RM.uw_len m
        have ul1 := RM.uw_len (m + 1)
        have lY : (c2 ++ [RM.L.T, RM.L.T] ++ [RM.L.R]).length = c2.length + 3 := by simp only [List.length_append, List.length_cons, List.length_nil]
        have lc : (c2 ++ [RM.L.T, RM.L.T]).length = c2.length + 2 := by simp only [List.length_append, List.length_cons, List.length_nil]
        rw [lY] at hm hq hpos'
        obtain ⟨dx1, l1, h1⟩ := S1.get
        refine ⟨_, rfl, p, dx1, _, rfl, h1, no_make _ _, _, rfl, _, _, rfl, rfl, H0, p, a, _, _, _, _, S1, RM.st1 _ m, mk_eq (by show (((c2 ++ [RM.L.T, RM.L.T] ++ [RM.L.R]).length : Nat) : Int) - 1 = ((c2 ++ [RM.L.T, RM.L.T]).length : Nat); rw [lY, lc]; omega) s_e s_UT, ?_, by omega, fun H2 S2 => ?_⟩
        · simp only [List.length_append, List.length_cons, List.length_nil] at *
          omega
        obtain ⟨dx2, l2, h2⟩ := S2.get
        refine ⟨_, rfl, p, dx2, _, rfl, h2, no_make _ _, _, rfl, _, _, rfl, rfl, H0, p, a, _, _, _, _, S2, RM.st2 _ m, mk_eq (by show (((c2 ++ [RM.L.T, RM.L.T] ++ [RM.L.R]).length : Nat) : Int) + 4 = ((c2 ++ [RM.L.T, RM.L.T]).length + 5 : Nat); rw [lY, lc]; omega) s_e s_TU, ?_, by omega, fun H3 S3 => ?_⟩
        · simp only [List.length_append, List.length_cons, List.length_nil] at *
          omega
        obtain ⟨dx3, l3, h3⟩ := S3.get
        refine ⟨_, rfl, p, dx3, _, rfl, h3, no_make _ _, _, rfl, _, _, rfl, rfl, H0, p, a, _, _, _, _, S3, RM.st3 _ m, mk_eq (by show (((c2 ++ [RM.L.T, RM.L.T] ++ [RM.L.R]).length : Nat) : Int) + 5 = ((c2 ++ [RM.L.T, RM.L.T]).length + 6 : Nat); rw [lY, lc]; omega) s_e s_RR, ?_, by omega, fun H4 S4 => ?_⟩
        · simp only [List.length_append, List.length_cons, List.length_nil] at *
          omega
        obtain ⟨dx4, l4, h4⟩ := S4.get
        refine ⟨_, rfl, p, dx4, _, rfl, h4, no_make _ _, _, rfl, H0, p, a, _, _, _, _, S4, RM.st4 _ m, mk_eq (by show (((c2 ++ [RM.L.T, RM.L.T] ++ [RM.L.R]).length : Nat) : Int) = ((c2 ++ [RM.L.T, RM.L.T]).length + 1 : Nat); rw [lY, lc]) s_w6 s_e, ?_, by omega, fun H5 S5 => ?_⟩
        · simp only [List.length_append, List.length_cons, List.length_nil] at *
          omega
        obtain ⟨dx5, l5, h5⟩ := S5.get
        refine ⟨_, rfl, p, dx5, _, rfl, h5, no_make _ _, _, rfl, _, _, rfl, rfl, H0, p, a, _, _, _, _, S5, RM.st5 c2 m, mk_eq (by show (((c2 ++ [RM.L.T, RM.L.T] ++ [RM.L.R]).length : Nat) : Int) - 2 = (c2.length + 1 : Nat); rw [lY]; omega) s_TU s_e, ?_, by omega, fun H6 S6 => ?_⟩
        · simp only [List.length_append, List.length_cons, List.length_nil] at *
          omega
        obtain ⟨dx6, l6, h6⟩ := S6.get
        have ep : (((c2 ++ [RM.L.T, RM.L.T] ++ [RM.L.R]).length : Nat) : Int) - 3 = (c2.length : Nat) := by rw [lY]; omega
        refine ⟨_, rfl, _, _, rfl, rfl, ?_⟩
        dsimp only
        rw [ep]
        have dl : (c2 ++ [RM.L.T, RM.L.R] ++ RM.uw (m + 1)).length ≤ 100000 := by
          simp only [List.length_append, List.length_cons, List.length_nil]
          omega
        have goOn : RM.Pre c2 → ((∃ (Y : Dn) (m q : Nat), [some (V.ref p), some (V.int (c2.length : Nat))] = [some (V.ref p), some (V.int (Y.length : Nat))] ∧ SetAt C H0 H6 p a (Y ++ [.T, .R] ++ RM.uw m) q ∧ RM.Pre Y ∧ Y.length + 3 * m ≤ X.length ∧ q + 5 * Y.length ≤ n + 5 * X.length) ∧ c2.length < (c2 ++ [RM.L.T, RM.L.T] ++ [RM.L.R]).length) := fun hpre =>
          ⟨⟨c2, m + 1, _, rfl, S6, hpre, by omega, by omega⟩, by rw [lY]; omega⟩
        refine ⟨_, rfl, _, _, rfl, rfl, _, rfl, iteL (fun hp2 => ?_) (fun hz2 => ?_)⟩
        · have hp2' : (0 : Int) < (c2.length : Nat) := hp2
          obtain ⟨lst, hl⟩ : ∃ x, c2.getLast? = some x := by
            cases e : c2.getLast? with
            | none =>
              rw [List.getLast?_eq_none_iff] at e
              rw [e] at hp2'
              exact absurd hp2' (by decide)
            | some x => exact ⟨x, rfl⟩
          have hget : (c2 ++ [RM.L.T, RM.L.R] ++ RM.uw (m + 1))[c2.length - 1]? = some lst := by
            rw [List.append_assoc, List.getElem?_append_left (by omega), ← List.getLast?_eq_getElem?]
            exact hl
          refine ⟨_, rfl, p, C, dx6, _, _, rfl, h6, T.cl, T.nD, sf_dance _ _, _, rfl, _, _, rfl, rfl, _, _, _, rfl, rfl, by rw [tx_len]; exact Nat.le_trans dl (by decide), tx_atI (j := c2.length - 1) (by show ((c2.length : Nat) : Int) - 1 = _; omega) hget, rfl, _, rfl, ?_⟩
          rw [tx_one]
          refine iteW s_T (fun e => ?_) (fun ne => ?_)
          · have el : lst = .T := by
              injection e
            rcases hend with ⟨_, hcore⟩ | ⟨hno, _⟩
            · exact k _ _ _ (S6.mono (by omega)) (RM.single_nf hcore m) (by omega)
            · exact absurd (by rw [hl, el]) hno
          · rcases hend with ⟨hyes, _⟩ | ⟨_, hpre⟩
            · rw [hl] at hyes
              exact absurd (by rw [Option.some.inj hyes]) ne
            · exact goOn hpre
        · have hz2' : ¬ (0 : Int) < (c2.length : Nat) := hz2
          obtain rfl : c2 = [] := List.eq_nil_of_length_eq_zero (by omega)
          exact iteF (goOn (.inl rfl))
      · have hz' : ¬ (0 : Int) < (Y.length : Nat) := hz
        obtain rfl : Y = [] := List.eq_nil_of_length_eq_zero (by omega)
        have ul := RM.uw_len m
        obtain ⟨dx1, l1, h1⟩ := S1.get
        refine ⟨_, rfl, p, dx1, _, rfl, h1, no_make _ _, H0, p, a, _, _, _, _, S1, RM.se1 m, mk_eq rfl s_e s_RTR, ?_, by omega, fun H2 S2 => ?_⟩
        · simp only [List.length_append, List.length_cons, List.length_nil] at *
          omega
        obtain ⟨dx2, l2, h2⟩ := S2.get
        refine ⟨_, rfl, p, dx2, _, rfl, h2, no_make _ _, H0, p, a, _, _, _, _, S2, RM.se2 m, mk_eq rfl s_e s_UT, ?_, by omega, fun H3 S3 => ?_⟩
        · simp only [List.length_append, List.length_cons, List.length_nil] at *
          omega
        obtain ⟨dx3, l3, h3⟩ := S3.get
        refine ⟨_, rfl, p, dx3, _, rfl, h3, no_make _ _, H0, p, a, _, _, _, _, S3, RM.se3 m, mk_eq rfl s_w6 s_e, ?_, by omega, fun H4 S4 => ?_⟩
        · simp only [List.length_append, List.length_cons, List.length_nil] at *
          omega
        simp only [List.length_nil] at hm hq
        exact k _ _ _ (S4.mono (by omega)) (RM.uw_nf m) (by omega)
    · rintro sg H1 Q1 Q2 hm ⟨v, e, i, j, e1, e2, kk, e3, q⟩
      exact ⟨v, e, i, j, e1, e2, kk, e3, hm _ _ q⟩
end
end RB
/-! The walks of the class that settles a dance: a letter, a whole dance. -/
namespace RB
open PySem L2 PyProof.Rows
theorem cut_last (d : Dn) (l : RM.L) : cutS (tx (d ++ [l])) none (some (-1)) = tx d := by
  rw [tx_cut, HT.sIx_none, List.drop_zero, Nat.sub_zero]
  have e : HT.sIx (d ++ [l]).length (d ++ [l]).length (some (-1)) = d.length := by
    show (if (-1 : Int) < 0 then ((-1 : Int) + ((d ++ [l]).length : Int)).toNat else min (-1 : Int).toNat (d ++ [l]).length) = d.length
    rw [if_pos (by decide), List.length_append, List.length_singleton]
    omega
  rw [e, List.take_left]
theorem cut_two (e : Dn) : cutS (tx e) (some (-2)) none = tx (e.drop (e.length - 2)) := by
  rw [tx_cut, HT.sIx_none]
  have h : HT.sIx e.length 0 (some (-2)) = e.length - 2 := by
    show (if (-2 : Int) < 0 then ((-2 : Int) + (e.length : Int)).toNat else min (-2 : Int).toNat e.length) = _
    rw [if_pos (by decide)]
    omega
  rw [h, List.take_of_length_le (by rw [List.length_drop]; exact Nat.le_refl _)]
theorem last_two (d : Dn) (x l : RM.L) : (d ++ [x] ++ [l]).drop ((d ++ [x] ++ [l]).length - 2) = [x, l] := by
  have : (d ++ [x] ++ [l]).length - 2 = d.length := by
    simp only [List.length_append, List.length_cons, List.length_nil]
    omega
  rw [this, List.append_assoc, List.drop_left]
  rfl
theorem last_cases (d : Dn) (l : RM.L) : (d = [] ∧ (d ++ [l]).drop ((d ++ [l]).length - 2) = [l]) ∨ ∃ x, d.getLast? = some x ∧ (d ++ [l]).drop ((d ++ [l]).length - 2) = [x, l] := by
  cases e : d.getLast? with
  | none =>
    rw [List.getLast?_eq_none_iff] at e
    subst e
    exact .inl ⟨rfl, rfl⟩
  | some x =>
    obtain ⟨z, rfl⟩ := List.getLast?_eq_some_iff.mp e
    exact .inr ⟨x, rfl, last_two z x l⟩
theorem inV_two (z : Dn) : inV (.str (tx z)) [.str (tx [.T, .U]), .str (tx [.U, .T])] = decide (z = [.T, .U] ∨ z = [.U, .T]) := by
  by_cases h : z = [.T, .U] ∨ z = [.U, .T]
  · rw [decide_eq_true h]
    rcases h with rfl | rfl <;> decide +kernel
  · rw [decide_eq_false h]
    refine List.any_eq_false.mpr fun y hy => ?_
    simp only [List.mem_cons, List.not_mem_nil, or_false] at hy
    rcases hy with rfl | rfl
    · exact fun e => h (.inl (tx_inj (eq_of_beq e)).symm)
    · exact fun e => h (.inr (tx_inj (eq_of_beq e)).symm)
def spTurn (C : Addr) : Sp := fun vs H Q _ => ∃ (H0 : Hp) (p : Addr) (a d : Dn) (n k : Nat), vs = [.ref p] ∧ SetAt C H0 H p a (d ++ [.R]) k ∧ RM.NFs d n ∧ n ≤ 2000 ∧ k ≤ 300000 ∧
  ∀ d' n' H', SetAt C H0 H' p a d' (k + 5 * n + 10) → RM.NFs d' n' → n' ≤ n + 3 → Q .non H'
def spTake (C : Addr) : Sp := fun vs H Q _ => ∃ (H0 : Hp) (p : Addr) (a d : Dn) (l : RM.L) (n k : Nat), vs = [.ref p, .str (tx [l])] ∧ SetAt C H0 H p a d k ∧ RM.NFs d n ∧ n ≤ 2000 ∧ k ≤ 300000 ∧
  ∀ d' n' H', SetAt C H0 H' p (a ++ [l]) d' (k + 5 * n + 10) → RM.NFs d' n' → n' ≤ n + 3 → Q .non H'
section
variable {P : Program} {w : World} {K : PySem.W.Frag} {mg : Str → Option Value} {base : Heap}
theorem sc273 : FnScope ["self", "before"] ["self"] (defScope (inClass (top 27) 3)) := ⟨rfl, rfl, rfl, by decide +kernel, rfl, by decide +kernel, by decide +kernel⟩
theorem ok_turn {C : Addr} (F : MDef K C "_settle_turn" "Settling._settle_turn" (inClass (top 27) 3) ["self"]) (B : Bl mg) (T : Sg K mg C) (G : MFn P w K mg base C 4 "_make" ["self", "place", "old", "new"] (spMake C))
    (G2 : MFn P w K mg base C 5 "_settle_untwists" ["self", "count"] (spUnt C)) (G3 : MFn P w K mg base C 5 "_settle_single_twist" ["self", "place"] (spSing C)) :
    MFn P w K mg base C 6 "_settle_turn" ["self"] (spTurn C) := by
  refine F.ok sc273 (fun vs H Q E h => ?_) (fun f cdv A outer s H vs Q E hr h => ?_)
  · obtain ⟨H0, p, a, d, n, k, rfl, _⟩ := h
    rfl
  · obtain ⟨H0, p, a, d, n, kk, rfl, hS, hN, hn, hk, k⟩ := h
    have nd := sc273.nd
    have hr4 : Room 4 _ := hr.mono (by decide)
    refine ⟨_, pss_cons (ps_set (i := 1) nd rfl (Or.inl rfl) (pe_slice sl_str (pe_fld (pv 0) rfl) po_none (po_some (pe_un un_neg pe_int))))
      (pss_one (ps_if (pt_val (pe_m1 PySem.F.slot_str_endswith PySem.F.type_str_endswith mt_endswith (pv 1) pe_str))
        (pss_one (ps_expr (pe_mfn (pv 0) T.cl G hr4 pass0 (pa_cons (pe_op op_sub (pe_callB call_len_str (by rfl) B.len PySem.boot_len (pa_cons (pv 1) pa_nil)) pe_int) (pa_cons pe_str (pa_cons pe_str pa_nil))))))
      (pss_one (ps_if (pt_val (pe_m1 PySem.F.slot_str_endswith PySem.F.type_str_endswith mt_endswith (pv 1) pe_str))
        (pss_one (ps_expr (pe_mfn (pv 0) T.cl G2 hr pass0 (pa_cons (pe_op op_sub (pe_callB call_len_str (by rfl) B.len PySem.boot_len (pa_cons (pv 1) pa_nil))
          (pe_callB call_len_str (by rfl) B.len PySem.boot_len (pa_cons (pe_m1 PySem.F.slot_str_rstrip PySem.F.type_str_rstrip mt_rstripChars (pv 1) pe_str) pa_nil))) pa_nil))))
      (pss_one (ps_if (PW.pt (pw_or (pt_cmpR op_eq (pv 1) pe_str (nomark _)) (pw_or1 (pt_val (pe_m1 PySem.F.slot_str_endswith PySem.F.type_str_endswith mt_endswith (pv 1) pe_str)))))
        (pss_one (ps_expr (pe_mfn (pv 0) T.cl G3 hr pass0 (pa_cons (pe_op op_sub (pe_callB call_len_str (by rfl) B.len PySem.boot_len (pa_cons (pv 1) pa_nil)) pe_int) pa_nil)))) pss_nil)))))), ?_⟩
    obtain ⟨dx, l, h1⟩ := hS.get
    have hl := hN.len
    have hdz : (tx d).length ≤ sizeLine := by rw [tx_len]; exact Nat.le_trans (show d.length ≤ 2000 by omega) (by decide)
    refine ⟨_, rfl, p, C, dx, _, _, rfl, h1, T.cl, T.nD, sf_dance _ _, _, rfl, _, rfl, _, rfl, by rw [tx_len, List.length_append, List.length_singleton]; exact Nat.le_trans (show d.length + 1 ≤ 2001 by omega) (by decide), ?_⟩
    rw [cut_last]
    have eR : Txt.endswith (tx d) "R" = decide ([RM.L.R] <:+ d) := by rw [s_R]; exact tx_ends _ _
    have eU : Txt.endswith (tx d) "U" = decide ([RM.L.U] <:+ d) := by rw [s_U]; exact tx_ends _ _
    have eRT : Txt.endswith (tx d) "RT" = decide ([RM.L.R, RM.L.T] <:+ d) := by rw [s_RT]; exact tx_ends _ _
    have nR : d.getLast? ≠ some .R → ¬ [RM.L.R] <:+ d := fun h q => h ((last_suf _ _).mp q)
    have nU : d.getLast? ≠ some .U → ¬ [RM.L.U] <:+ d := fun h q => h ((last_suf _ _).mp q)
    -- the untwists' case, for either beginning
    refine ⟨_, rfl, ⟨_, rfl⟩, _, _, rfl, rfl, _, rfl, ?_⟩
    rcases RM.take_R hN with ⟨d0, n0, rfl, h0, hn0⟩ | ⟨j, rfl, hj⟩ | ⟨c, j, hc, rfl, hj⟩ | ⟨rfl, hj⟩ | ⟨c, hc, rfl, hj⟩ | ⟨n', h', hn', l1, l2, l3, l4⟩
    · refine iteE eR (fun _ => ?_) (fun q => absurd (List.suffix_append _ _) q)
      have e2 : (d0 ++ [RM.L.R] ++ [RM.L.R]) = d0 ++ [RM.L.R, RM.L.R] := by simp
      refine ⟨_, rfl, p, dx, _, rfl, h1, no_make _ _, _, rfl, _, rfl, hdz, _, _, rfl, rfl, H0, p, a, _, _, _, _, hS.cast e2, RM.ends2 d0 [.R, .R] RM.in_RR rfl, mk_eq ?_ s_RR s_e, ?_, by omega, fun H2 S2 => k _ _ _ (S2.mono (by omega)) h0 (by omega)⟩
      · show (((tx (d0 ++ [RM.L.R])).length : Nat) : Int) - 1 = ((d0 ++ [RM.L.R, RM.L.R]).length - 2 : Nat)
        rw [tx_len, List.length_append, List.length_append]
        simp only [List.length_cons, List.length_nil]
        omega
      · rw [List.length_append] at *
        simp only [List.length_cons, List.length_nil] at *
        omega
    · refine iteE eR (fun q => ?_) (fun _ => ?_)
      · rw [last_suf, RM.uw_succ, List.getLast?_concat] at q
        cases q
      refine ⟨_, rfl, ⟨_, rfl⟩, _, _, rfl, rfl, _, rfl, iteE eU (fun _ => ?_) (fun q => absurd (by rw [last_suf, RM.uw_succ, List.getLast?_concat]) q)⟩
      have es : Txt.rstripChars (tx (RM.uw (j + 1))) "U" = tx [] := by
        rw [s_U]
        exact tx_rstrip [] (j + 1) (by decide)
      refine ⟨_, rfl, p, dx, _, rfl, h1, no_unt _ _, _, rfl, _, rfl, hdz, _, rfl, ⟨_, rfl⟩, _, _, rfl, rfl, hdz, ?_⟩
      rw [es]
      refine ⟨_, rfl, by decide, _, _, rfl, rfl, H0, p, a, _, _, j, kk, ?_, hS, ?_, by omega, .inl ⟨rfl, rfl⟩, fun H2 S2 => k _ _ _ (S2.mono (by omega)) (RM.trt_nf0 j) (by omega)⟩
      · show [V.ref p, V.int ((((tx (RM.uw (j + 1))).length : Nat) : Int) - ((tx []).length : Nat))] = _
        rw [tx_len, tx_len, RM.uw_len, List.length_nil]
        rw [show ((j + 1 : Nat) : Int) - ((0 : Nat) : Int) = ((j + 1 : Nat) : Int) by omega]
      · rw [List.length_append, RM.uw_len, List.length_singleton]
        omega
    · have e0 : c ++ RM.L.R :: RM.uw (j + 1) = (c ++ [RM.L.R]) ++ RM.uw (j + 1) := by simp
      refine iteE eR (fun q => ?_) (fun _ => ?_)
      · rw [last_suf, RM.last_uw] at q
        cases q
      refine ⟨_, rfl, ⟨_, rfl⟩, _, _, rfl, rfl, _, rfl, iteE eU (fun _ => ?_) (fun q => absurd (by rw [last_suf, RM.last_uw]) q)⟩
      have es : Txt.rstripChars (tx (c ++ RM.L.R :: RM.uw (j + 1))) "U" = tx (c ++ [RM.L.R]) := by
        rw [s_U, e0]
        exact tx_rstrip (c ++ [RM.L.R]) (j + 1) (by rw [List.getLast?_concat]; decide)
      have hcl : (c ++ RM.L.R :: RM.uw (j + 1)).length = c.length + 1 + (j + 1) := by
        rw [List.length_append, List.length_cons, RM.uw_len]
        omega
      refine ⟨_, rfl, p, dx, _, rfl, h1, no_unt _ _, _, rfl, _, rfl, hdz, _, rfl, ⟨_, rfl⟩, _, _, rfl, rfl, hdz, ?_⟩
      rw [es]
      refine ⟨_, rfl, ?_, _, _, rfl, rfl, H0, p, a, _, _, j, kk, ?_, hS, ?_, by omega, .inr ⟨c, by simp [RM.rest], rfl⟩, fun H2 S2 => k _ _ _ (S2.mono (by omega)) (RM.trt_nf j hc) (by omega)⟩
      · rw [tx_len, List.length_append, List.length_singleton]
        exact Nat.le_trans (show c.length + 1 ≤ 2001 by omega) (by decide)
      · show [V.ref p, V.int ((((tx (c ++ RM.L.R :: RM.uw (j + 1))).length : Nat) : Int) - ((tx (c ++ [RM.L.R])).length : Nat))] = _
        rw [tx_len, tx_len, hcl, List.length_append, List.length_singleton]
        rw [show ((c.length + 1 + (j + 1) : Nat) : Int) - ((c.length + 1 : Nat) : Int) = ((j + 1 : Nat) : Int) by omega]
      · rw [List.length_append, hcl, List.length_singleton]
        omega
    · refine iteE eR (fun q => ?_) (fun _ => ?_)
      · rw [last_suf] at q
        cases q
      refine ⟨_, rfl, ⟨_, rfl⟩, _, _, rfl, rfl, _, rfl, iteE eU (fun q => ?_) (fun _ => ?_)⟩
      · rw [last_suf] at q
        cases q
      refine ⟨_, rfl, rfl, _, rfl, iteW s_T (fun _ => ?_) (fun q => absurd rfl q)⟩
      refine iteT ⟨_, rfl, p, dx, _, rfl, h1, no_sing _ _, _, rfl, _, rfl, hdz, _, _, rfl, rfl, H0, p, a, [], kk, rfl, hS, by decide, by omega, .inl rfl, fun d2 m2 H2 S2 N2 hm2 => k _ _ _ (S2.mono (by simp only [List.length_nil]; omega)) N2 (by simp only [List.length_nil] at hm2; omega)⟩
    · have e0 : c ++ [RM.L.R, RM.L.T] ++ [RM.L.R] = (c ++ [RM.L.R]) ++ [RM.L.T, RM.L.R] := by simp
      have eT : c ++ [RM.L.R, RM.L.T] = c ++ [RM.L.R] ++ [RM.L.T] := by simp
      have hcl : (c ++ [RM.L.R, RM.L.T]).length = c.length + 2 := by simp
      refine iteE eR (fun q => ?_) (fun _ => ?_)
      · rw [last_suf, eT, List.getLast?_concat] at q
        cases q
      refine ⟨_, rfl, ⟨_, rfl⟩, _, _, rfl, rfl, _, rfl, iteE eU (fun q => ?_) (fun _ => ?_)⟩
      · rw [last_suf, eT, List.getLast?_concat] at q
        cases q
      have hcl2 : (c ++ [RM.L.R]).length = c.length + 1 := by simp
      have fin : ∀ d2 m2 H2, SetAt C H0 H2 p a d2 (kk + 5 * (c ++ [RM.L.R]).length + 3) → RM.NFs d2 m2 → m2 ≤ (c ++ [RM.L.R]).length + 3 → Q .non H2 := fun d2 m2 H2 S2 N2 hm2 => k _ _ _ (S2.mono (by rw [hcl2]; omega)) N2 (by rw [hcl2] at hm2; omega)
      have ez : (((tx (c ++ [RM.L.R, RM.L.T])).length : Nat) : Int) - 1 = ((c ++ [RM.L.R]).length : Nat) := by
        rw [tx_len, hcl, hcl2]
        omega
      refine ⟨_, rfl, rfl, _, rfl, iteW s_T (fun q => ?_) (fun _ => ?_)⟩
      · have := congrArg List.length q
        simp at this
      · refine ⟨_, rfl, ⟨_, rfl⟩, _, _, rfl, rfl, _, rfl, iteE eRT (fun _ => ?_) (fun q => absurd (List.suffix_append _ _) q)⟩
        refine ⟨_, rfl, p, dx, _, rfl, h1, no_sing _ _, _, rfl, _, rfl, hdz, _, _, rfl, rfl, H0, p, a, c ++ [.R], kk, ?_, hS.cast e0, by rw [hcl2]; omega, by omega, .inr ⟨c, hc, rfl⟩, fin⟩
        show [V.ref p, V.int ((((tx (c ++ [RM.L.R, RM.L.T])).length : Nat) : Int) - 1)] = _
        rw [ez]
    · refine iteE eR (fun q => absurd q (nR l1)) (fun _ => ?_)
      refine ⟨_, rfl, ⟨_, rfl⟩, _, _, rfl, rfl, _, rfl, iteE eU (fun q => absurd q (nU l2)) (fun _ => ?_)⟩
      refine ⟨_, rfl, rfl, _, rfl, iteW s_T (fun q => absurd q l3) (fun _ => ?_)⟩
      refine ⟨_, rfl, ⟨_, rfl⟩, _, _, rfl, rfl, _, rfl, iteE eRT (fun q => absurd q l4) (fun _ => ?_)⟩
      exact k _ _ _ (hS.mono (by omega)) h' (by omega)
/-- the letter put behind -/
theorem SetAt.put {C : Addr} {H0 H : Hp} {p dx l : Addr} {a d : Dn} {n : Nat} (h : SetAt C H0 H p a d n) (h1 : H p = some (.ins C dx (sf d l))) (x : RM.L) : SetAt C H0 (upd H p (.ins C dx (sf (d ++ [x]) l))) p (a ++ [x]) (d ++ [x]) n := by
  obtain ⟨s0, p0, dx', l', ms, l0, h2, ⟨xs, hL, hT⟩, hlead, hms⟩ := h
  have e := Option.some.inj (h1.symm.trans h2)
  have e1 := congrArg (fun o => match o with | HO.ins _ _ fs => fs.lookup ("moves" : Str) | _ => none) e
  have e2 : some (V.ref l) = some (V.ref l') := by
    have z : (sf d l).lookup ("moves" : Str) = (sf d l').lookup ("moves" : Str) := e1
    rwa [sf_moves, sf_moves] at z
  obtain rfl : l = l' := by
    injection e2 with e2
    injection e2
  have npl : l ≠ p := ne_of hL h1 (by intro z; cases z)
  refine ⟨fun b u q => ?_, p0, dx, l, ms, l0, upd_same, ⟨xs, by rw [upd_ne npl]; exact hL, TupL.keep hT fun b t q => ?_⟩, hlead.behind [x], hms⟩
  · rw [upd_ne (ne_of_none q p0)]
    exact s0 _ _ q
  · rw [upd_ne (ne_of q h1 (by intro z; cases z))]
    exact q
theorem sc272 : FnScope ["self", "letter"] ["self", "letter"] (defScope (inClass (top 27) 2)) := ⟨rfl, rfl, rfl, by decide +kernel, rfl, by decide +kernel, by decide +kernel⟩
theorem ok_take {C : Addr} (F : MDef K C "take" "Settling.take" (inClass (top 27) 2) ["self", "letter"]) (B : Bl mg) (T : Sg K mg C) (G : MFn P w K mg base C 4 "_make" ["self", "place", "old", "new"] (spMake C))
    (G2 : MFn P w K mg base C 6 "_settle_turn" ["self"] (spTurn C)) : MFn P w K mg base C 7 "take" ["self", "letter"] (spTake C) := by
  refine F.ok sc272 (fun vs H Q E h => ?_) (fun f cdv A outer s H vs Q E hr h => ?_)
  · obtain ⟨H0, p, a, d, l, n, k, rfl, _⟩ := h
    rfl
  · obtain ⟨H0, p, a, d, x, n, kk, rfl, hS, hN, hn, hk, k⟩ := h
    have nd := sc272.nd
    have hr4 : Room 4 _ := hr.mono (by decide)
    refine ⟨_, pss_cons (ps_fld (pv 0) (pe_op op_add_str (pe_fld (pv 0) rfl) (pv 1)) rfl)
      (pss_one (ps_if (pt_cmpR op_eq (pv 1) pe_str (nomark _)) (pss_one (ps_expr (pe_mfn0 (pv 0) T.cl G2 hr pass0)))
      (pss_one (ps_if (pt_cmpR op_in_seq (pe_slice sl_str (pe_fld (pv 0) rfl) (po_some (pe_un un_neg pe_int)) po_none) (pe_tup (pa_cons pe_str (pa_cons pe_str pa_nil))) (by rfl))
        (pss_one (ps_expr (pe_mfn (pv 0) T.cl G hr4 pass0 (pa_cons (pe_op op_sub (pe_callB call_len_str (by rfl) B.len PySem.boot_len (pa_cons (pe_fld (pv 0) rfl) pa_nil)) pe_int)
          (pa_cons (pe_slice sl_str (pe_fld (pv 0) rfl) (po_some (pe_un un_neg pe_int)) po_none) (pa_cons pe_str pa_nil))))))
      (pss_one (ps_if (pt_cmpR op_eq (pe_fld (pv 0) rfl) pe_str (nomark _))
        (pss_cons (ps_expr (pe_mfn (pv 0) T.cl G hr4 pass0 (pa_cons pe_int (pa_cons pe_str (pa_cons pe_str pa_nil))))) (pss_one (ps_expr (pe_mfn (pv 0) T.cl G hr4 pass0 (pa_cons pe_int (pa_cons pe_str (pa_cons pe_str pa_nil)))))))
      (pss_one (ps_if (pt_cmpR op_eq (pe_fld (pv 0) rfl) pe_str (nomark _))
        (pss_cons (ps_expr (pe_mfn (pv 0) T.cl G hr4 pass0 (pa_cons pe_int (pa_cons pe_str (pa_cons pe_str pa_nil))))) (pss_cons (ps_expr (pe_mfn (pv 0) T.cl G hr4 pass0 (pa_cons pe_int (pa_cons pe_str (pa_cons pe_str pa_nil)))))
          (pss_one (ps_expr (pe_mfn (pv 0) T.cl G hr4 pass0 (pa_cons pe_int (pa_cons pe_str (pa_cons pe_str pa_nil))))))))
        pss_nil)))))))), ?_⟩
    obtain ⟨dx, l, h1⟩ := hS.get
    have hl := hN.len
    have hsz : d.length + 1 ≤ sizeLine := Nat.le_trans (show d.length + 1 ≤ 2001 by omega) (by decide)
    refine ⟨_, rfl, p, C, dx, _, _, rfl, h1, T.cl, T.nD, sf_dance _ _, _, rfl, _, _, rfl, rfl, (by rw [tx_len]; exact hsz), _, rfl, p, C, dx, _, rfl, h1, T.cl, T.nD, sf_len _ _, ?_⟩
    rw [tx_app, sf_put]
    have S1 := hS.put h1 x
    have h2 : upd H p (.ins C dx (sf (d ++ [x]) l)) p = some (.ins C dx (sf (d ++ [x]) l)) := upd_same
    generalize upd H p (.ins C dx (sf (d ++ [x]) l)) = H1 at S1 h2 ⊢
    have hdz : (tx (d ++ [x])).length ≤ sizeLine := by rw [tx_len, List.length_append, List.length_singleton]; exact hsz
    refine ⟨_, rfl, rfl, _, rfl, iteW s_R (fun e => ?_) (fun ne => ?_)⟩
    · obtain rfl : x = .R := by injection e
      exact ⟨_, rfl, p, dx, _, rfl, h2, no_turn _ _, H0, p, _, d, n, kk, rfl, S1, hN, hn, hk, fun d2 n2 H2 S2 N2 hn2 => k _ _ _ S2 N2 hn2⟩
    refine ⟨_, rfl, p, C, dx, _, _, rfl, h2, T.cl, T.nD, sf_dance _ _, _, rfl, _, rfl, _, rfl, hdz, (by show 2 ≤ sizeLine; decide), fun t ht => ?_⟩
    have st := Same.new (o := .tup [.str "TU", .str "UT"]) ht
    have S2 := S1.same st
    have h3 := st _ _ h2
    have hdn : (d ++ [x]).length ≤ 1000000 := by rw [List.length_append, List.length_singleton]; omega
    have eTU : V.str "TU" = V.str (tx [.T, .U]) := by rw [s_TU]
    have eUT : V.str "UT" = V.str (tx [.U, .T]) := by rw [s_UT]
    have e2 : cutS (tx (d ++ [x])) (some (-2)) none = tx ((d ++ [x]).drop ((d ++ [x]).length - 2)) := cut_two _
    have ein : inV (.str (cutS (tx (d ++ [x])) (some (-2)) none)) [.str "TU", .str "UT"] = decide ((d ++ [x]).drop ((d ++ [x]).length - 2) = [.T, .U] ∨ (d ++ [x]).drop ((d ++ [x]).length - 2) = [.U, .T]) := by
      rw [eTU, eUT, e2]
      exact inV_two _
    refine ⟨t, _, rfl, .inr (SqT.of upd_same), rfl, rfl, _, rfl, iteE ein (fun hin => ?_) (fun hno => ?_)⟩
    · -- the two last letters go
      obtain ⟨d0, n0, wd, hw, ew, e3, h0, hn0, ed⟩ : ∃ (d0 : Dn) (n0 : Nat) (wd : Dn), wd ∈ RM.anywhere ∧ wd.length = 2 ∧ d ++ [x] = d0 ++ wd ∧ RM.NFs d0 n0 ∧ n0 ≤ n ∧ (d ++ [x]).drop ((d ++ [x]).length - 2) = wd := by
        rcases last_cases d x with ⟨rfl, e⟩ | ⟨y, hy, e⟩
        · rw [e] at hin
          rcases hin with h | h <;> · have := congrArg List.length h; simp at this
        · rw [e] at hin
          rcases hin with h | h
          · injection h with h4 h5
            injection h5 with h5
            subst h4
            subst h5
            rcases RM.take_U hN with rfl | ⟨d0, n0, rfl, h0, hn0⟩ | ⟨_, _, _, _, q⟩
            · cases hy
            · exact ⟨d0, n0, [.T, .U], RM.in_TU, rfl, by simp, h0, hn0, e⟩
            · exact absurd hy q
          · injection h with h4 h5
            injection h5 with h5
            subst h4
            subst h5
            rcases RM.take_T hN with rfl | ⟨d0, n0, rfl, h0, hn0⟩ | ⟨_, _, _, _, q⟩
            · cases hy
            · exact ⟨d0, n0, [.U, .T], RM.in_UT, rfl, by simp, h0, hn0, e⟩
            · exact absurd hy q
      refine ⟨_, rfl, p, dx, _, rfl, h3, no_make _ _, _, rfl, p, C, dx, _, _, rfl, h3, T.cl, T.nD, sf_dance _ _, _, rfl, hdz, _, _, rfl, rfl, _, rfl, p, C, dx, _, _, rfl, h3, T.cl, T.nD, sf_dance _ _, _, rfl, _, rfl, _, rfl, hdz,
        H0, p, _, _, _, _, _, S2.cast e3, RM.ends2 d0 wd hw ew, mk_eq ?_ ?_ s_e, by rw [← e3]; exact hdn, by omega, fun H2 S3 => k _ _ _ (S3.mono (by omega)) h0 (by omega)⟩
      · show (((tx (d ++ [x])).length : Nat) : Int) - 2 = ((d0 ++ wd).length - 2 : Nat)
        have lw : (d ++ [x]).length = d0.length + 2 := by rw [e3, List.length_append, ew]
        rw [tx_len, ← e3, lw]
        omega
      · show cutS (tx (d ++ [x])) (some (-2)) none = tx wd
        rw [e2, ed]
    · refine ⟨_, rfl, p, C, dx, _, _, rfl, h3, T.cl, T.nD, sf_dance _ _, rfl, _, rfl, iteW s_RT (fun e => ?_) (fun nRT => ?_)⟩
      · obtain ⟨rfl, rfl⟩ : d = [.R] ∧ x = .T := by
          have := List.append_inj' (s₁ := d) (t₁ := [x]) (s₂ := [RM.L.R]) (t₂ := [RM.L.T]) e rfl
          exact ⟨this.1, by injection this.2⟩
        refine ⟨_, rfl, p, dx, _, rfl, h3, no_make _ _, H0, p, _, _, _, _, _, S2, RM.rt1, mk_eq rfl s_e s_RR, by decide, by omega, fun H2 S3 => ?_⟩
        obtain ⟨dx2, l2, h4⟩ := S3.get
        refine ⟨_, rfl, p, dx2, _, rfl, h4, no_make _ _, H0, p, _, _, _, _, _, S3, RM.rt2, mk_eq rfl s_RTR s_e, by decide, by omega, fun H3 S4 => ?_⟩
        exact k _ _ _ (S4.mono (by omega)) .inf (by omega)
      refine ⟨_, rfl, p, C, dx, _, _, rfl, h3, T.cl, T.nD, sf_dance _ _, rfl, _, rfl, iteW s_RU (fun e => ?_) (fun nRU => ?_)⟩
      · obtain ⟨rfl, rfl⟩ : d = [.R] ∧ x = .U := by
          have := List.append_inj' (s₁ := d) (t₁ := [x]) (s₂ := [RM.L.R]) (t₂ := [RM.L.U]) e rfl
          exact ⟨this.1, by injection this.2⟩
        refine ⟨_, rfl, p, dx, _, rfl, h3, no_make _ _, H0, p, _, _, _, _, _, S2, RM.ru1, mk_eq rfl s_e s_RTR, by decide, by omega, fun H2 S3 => ?_⟩
        obtain ⟨dx2, l2, h4⟩ := S3.get
        refine ⟨_, rfl, p, dx2, _, rfl, h4, no_make _ _, H0, p, _, _, _, _, _, S3, RM.ru2, mk_eq rfl s_RR s_e, by decide, by omega, fun H3 S4 => ?_⟩
        obtain ⟨dx3, l3, h5⟩ := S4.get
        refine ⟨_, rfl, p, dx3, _, rfl, h5, no_make _ _, H0, p, _, _, _, _, _, S4, RM.ru3, mk_eq rfl s_TU s_e, by decide, by omega, fun H4 S5 => ?_⟩
        exact k _ _ _ (S5.mono (by omega)) .inf (by omega)
      · -- nothing to be done
        obtain ⟨n', hN', hn'⟩ : ∃ n', RM.NFs (d ++ [x]) n' ∧ n' ≤ n + 3 := by
          cases x with
          | R => exact absurd rfl ne
          | T =>
            rcases RM.take_T hN with rfl | ⟨d0, n0, rfl, h0, hn0⟩ | ⟨n', h', hn', _, _⟩
            · exact absurd rfl nRT
            · exact absurd (.inr (last_two d0 .U .T)) hno
            · exact ⟨n', h', by omega⟩
          | U =>
            rcases RM.take_U hN with rfl | ⟨d0, n0, rfl, h0, hn0⟩ | ⟨n', h', hn', _, _⟩
            · exact absurd rfl nRU
            · exact absurd (.inl (last_two d0 .T .U)) hno
            · exact ⟨n', h', hn'⟩
        exact k _ _ _ (S2.mono (by omega)) hN' hn'
def spToStd : Sp := fun vs H Q _ => ∃ d : Dn, vs = [.str (tx d)] ∧ d.length ≤ 120 ∧ ∀ l ms s n H', Same H H' → MvL H' l ms → RM.Leads d ms s → RM.NFs s n → ms.length ≤ 220000 → Q (.ref l) H'
theorem sc28 : FnScope ["dance", "settling", "letter"] ["dance"] (defScope (top 28)) := ⟨rfl, rfl, rfl, by decide +kernel, rfl, by decide +kernel, by decide +kernel⟩
theorem ok_toStd {C fI : Addr} {fdI : FuncData} (F : Def K mg "to_standard" (top 28) ["dance"]) (B : Bl mg) (T : Sg K mg C) (M : Mk K C fI) (GI : FnOk P w K mg base CX0 1 fI fdI ["self"] (spInit C)) (bI : Binds K fdI ["self"] [])
    (G : MFn P w K mg base C 7 "take" ["self", "letter"] (spTake C)) : Fn P w K mg base 8 "to_standard" ["dance"] spToStd := by
  refine F.ok sc28 (fun vs H Q E h => ?_) (fun f cdv A outer s H vs Q E hr h => ?_)
  · obtain ⟨d, rfl, _⟩ := h
    rfl
  · obtain ⟨d, rfl, hd, k⟩ := h
    have nd := sc28.nd
    refine ⟨_, pss_cons (ps_set (i := 1) nd rfl (Or.inl rfl) (pe_make0 M GI (hr.mono (by decide)) rfl T.mgC bI .nil pass0))
      (pss_cons (ps_for PassesOwn.never rfl (pi_str (pv 0)) (pg_name (i := 2) nd rfl (Or.inl rfl)) (pss_one (ps_expr (pe_mfn (pv 1) T.cl G hr pass0 (pa_cons (pv 2) pa_nil)))))
      (pss_one (ps_ret (pe_callTy call_list_of (by rfl) B.lst (by decide +kernel) (pa_cons (pe_fld (pv 1) rfl) pa_nil))))), ?_⟩
    intro x dx nx ndx nex
    have s0 : Same H (upd (upd H dx (.own x)) x (.ins C dx [])) := fun b o e => by
      rw [upd_ne (ne_of_none e nx), upd_ne (ne_of_none e ndx)]
      exact e
    refine ⟨H, x, dx, rfl, s0, nx, upd_same, fun H1 S1 => ⟨rfl, ?_⟩⟩
    refine ⟨_, rfl, _, rfl, for_it (walk_str (z := tx d)) (fun i sg H2 => ∃ (v : Option V) (e : Dn) (n q : Nat), sg = [some (.str (tx d)), some (.ref x), v] ∧ SetAt C H H2 x (d.take i) e q ∧ RM.NFs e n ∧ n ≤ 3 * i ∧ q ≤ 1810 * i ∧ i ≤ 120)
      ⟨none, [], 0, 0, rfl, S1, RM.NFs.int 0, by omega, by omega, by omega⟩ (fun _ _ _ _ _ => trivial) ?_ ?_⟩
    · rintro i y sg H2 H3 hi ⟨v, e, n, q, rfl, S2, N2, hn, hq, hi2⟩ ⟨rfl, c, hc, rfl⟩
      obtain ⟨m, hm, em⟩ := tx_at hc
      rw [em]
      rw [tx_size] at hi
      obtain ⟨dx2, l2, h2⟩ := S2.get
      refine ⟨_, rfl, x, dx2, _, rfl, h2, no_take _ _, _, rfl, H, x, _, e, m, n, q, rfl, S2, N2, by omega, by omega, fun d2 n2 H4 S4 N4 hn4 => ?_⟩
      exact ⟨_, d2, n2, q + 5 * n + 10, rfl, by rw [take_at hm]; exact S4, N4, by omega, by omega, by omega⟩
    · rintro sg H2 ⟨v, e, n, q, rfl, S2, N2, hn, hq, hi2⟩
      rw [tx_size] at S2 hn hq hi2
      rw [List.take_length] at S2
      obtain ⟨s2, p0, dx2, l, ms, l0, h2, ⟨xs, hL, hT⟩, hlead, hms⟩ := S2
      refine ⟨_, rfl, x, C, dx2, _, _, rfl, h2, T.cl, T.nM, sf_moves _ _, l, _, rfl, .inl (SqL.of hL), fun r hr => ?_⟩
      have s3 := Same.new (o := .lst xs) hr
      exact k r ms e n _ (s2.trans s3) ⟨xs, upd_same, hT.same s3⟩ hlead N2 (by omega)
end
end RB
/-! The walks of judge and accepts, and of the law's own checks. -/
namespace RB
open PySem L2 PyProof.Rows
/-- a paper as a value -/
def PaperAt (H : Hp) (p : Addr) (a b : Dn) : Prop :=
  (RM.num a = RM.num b ∧ ∃ (l : Addr) (ms : List RM.Mv), H p = some (.tup [.str "alike", .ref l]) ∧ MvL H l ms ∧ RM.Leads a ms b ∧ ms.length ≤ 440000) ∨
  (RM.num a ≠ RM.num b ∧ ∃ (l1 l2 : Addr), H p = some (.tup [.str "apart", .ref l1, .ref l2]) ∧ H l1 = some (.lst ((RM.cols a).map V.int)) ∧ H l2 = some (.lst ((RM.cols b).map V.int)))
theorem PaperAt.same {H H' : Hp} {p : Addr} {a b : Dn} (h : PaperAt H p a b) (k : Same H H') : PaperAt H' p a b := by
  rcases h with ⟨e, l, ms, h1, h2, h3⟩ | ⟨e, l1, l2, h1, h2, h3⟩
  · exact .inl ⟨e, l, ms, k _ _ h1, h2.same k, h3⟩
  · exact .inr ⟨e, l1, l2, k _ _ h1, k _ _ h2, k _ _ h3⟩
def frD (f : RM.P2) : PyData := .tuple [.int f.1, .int f.2]
theorem FrV.dp {K : PySem.W.Frag} {H : Hp} {v : V} {f : RM.P2} (h : FrV K H v f) : Dp K H v (frD f) := by
  obtain ⟨p, rfl, h⟩ := h
  exact .tup h (.cons (.int _) (.cons (.int _) .nil))
theorem frD_eqv (f g : RM.P2) : PyData.eqv (frD f) (frD g) = decide (f = g) := by
  obtain ⟨a, b⟩ := f
  obtain ⟨c, d⟩ := g
  have e : PyData.eqv (frD (a, b)) (frD (c, d)) = ((a == c) && ((b == d) && true)) := by
    simp [frD, PyData.eqv, PyData.eqvAll]
  rw [e]
  by_cases h : (a, b) = ((c, d) : RM.P2)
  · injection h with h1 h2
    rw [h1, h2]
    simp
  · rw [decide_eq_false h]
    by_cases h1 : a = c
    · by_cases h2 : b = d
      · exact absurd (by rw [h1, h2]) h
      · simp [h2]
    · simp [h1]
theorem frD_shaped (f : RM.P2) : SeqAt.shaped (frD f) = true := rfl
theorem frD_none (f : RM.P2) : PyData.eqv (frD f) .none = false := rfl
def spJudge : Sp := fun vs H Q _ => ∃ a b : Dn, vs = [.str (tx a), .str (tx b)] ∧ a.length ≤ 120 ∧ b.length ≤ 120 ∧ ∀ p H', Same H H' → PaperAt H' p a b → Q (.ref p) H'
def spAccepts : Sp := fun vs H Q _ => ∃ (a b : Dn) (p : Addr), vs = [.str (tx a), .str (tx b), .ref p] ∧ a.length ≤ 120 ∧ b.length ≤ 120 ∧ PaperAt H p a b ∧ ∀ H', Same H H' → Q (.bl true) H'
section
variable {P : Program} {w : World} {K : PySem.W.Frag} {mg : Str → Option Value} {base : Heap}
theorem sc30 : FnScope ["one", "other"] ["one", "other"] (defScope (top 30)) := ⟨rfl, rfl, rfl, by decide +kernel, rfl, by decide +kernel, by decide +kernel⟩
theorem ok_judge (F : Def K mg "judge" (top 30) ["one", "other"]) (G : Fn P w K mg base 3 "number" ["dance"] (spNumber K)) (G2 : Fn P w K mg base 8 "to_standard" ["dance"] spToStd) (G3 : Fn P w K mg base 1 "opposite" ["moves"] spOpposite)
    (G4 : Fn P w K mg base 2 "colouring" ["dance", "first", "second"] spColouring) : Fn P w K mg base 9 "judge" ["one", "other"] spJudge := by
  refine F.ok sc30 (fun vs H Q E h => ?_) (fun f cdv A outer s H vs Q E hr h => ?_)
  · obtain ⟨a, b, rfl, _⟩ := h
    rfl
  · obtain ⟨a, b, rfl, ha, hb, k⟩ := h
    have nd := sc30.nd
    have hr3 : Room 3 _ := hr.mono (by decide)
    have hr2 : Room 2 _ := hr.mono (by decide)
    have hr1 : Room 1 _ := hr.mono (by decide)
    refine ⟨_, pss_cons (ps_if (pt_cmpR (op_eqD hr.units) (pe_fn G hr3 (by rfl) (pa_cons (pv 0) pa_nil) pass0) (pe_fn G hr3 (by rfl) (pa_cons (pv 1) pa_nil) pass0) (nomark _))
        (pss_one (ps_ret (pe_tup (pa_cons pe_str (pa_cons (pe_op op_cat (pe_fn G2 hr (by rfl) (pa_cons (pv 0) pa_nil) pass0) (pe_fn G3 hr1 (by rfl) (pa_cons (pe_fn G2 hr (by rfl) (pa_cons (pv 1) pa_nil) pass0) pa_nil) pass0)) pa_nil))))) pss_nil)
      (pss_one (ps_ret (pe_tup (pa_cons pe_str (pa_cons (pe_fn G4 hr2 (by rfl) (pa_cons (pv 0) (pa_cons pe_int (pa_cons pe_int pa_nil))) pass0) (pa_cons (pe_fn G4 hr2 (by rfl) (pa_cons (pv 1) (pa_cons pe_int (pa_cons pe_int pa_nil))) pass0) pa_nil)))))), ?_⟩
    refine ⟨_, rfl, a, rfl, fun u1 H1 s1 hu1 => ?_⟩
    refine ⟨_, rfl, b, rfl, fun u2 H2 s2 hu2 => ?_⟩
    refine ⟨_, _, (hu1.same s2).dp, hu2.dp, rfl, rfl, _, rfl, iteE (frD_eqv _ _) (fun e => ?_) (fun ne => ?_)⟩
    · refine ⟨_, rfl, a, rfl, ha, fun l1 ms1 st1 n1 H3 s3 hm1 hl1 hn1 hz1 => ?_⟩
      refine ⟨_, rfl, b, rfl, hb, fun l2 ms2 st2 n2 H4 s4 hm2 hl2 hn2 hz2 => ?_⟩
      refine ⟨l2, ms2, rfl, hm2, by omega, fun l3 H5 s5 hm3 => ?_⟩
      obtain ⟨xs, hx, hT⟩ := (hm1.same s4).same s5
      obtain ⟨ys, hy, hU⟩ := hm3
      have hxl : xs.length = ms1.length := by rw [hT.1, List.length_map]
      have hyl : ys.length = ms2.length := by rw [hU.1, List.length_map, List.length_map, List.length_reverse]
      have es : st1 = st2 := hn1.same hn2 (by rw [← hl1.num, ← hl2.num, e])
      refine ⟨l1, l3, xs, ys, rfl, rfl, hx, hy, Nat.le_trans (show xs.length + ys.length ≤ 440000 by omega) (by decide), fun q hq => ⟨(by show 2 ≤ sizeLine; decide), fun p hp => ?_⟩⟩
      have s6 := (Same.new (o := .lst (xs ++ ys)) hq).trans (Same.new (o := .tup [.str "alike", .ref q]) hp)
      have nqp : q ≠ p := fun z => by rw [← z, upd_same] at hp; cases hp
      refine k p _ (((((s1.trans s2).trans s3).trans s4).trans s5).trans s6) (.inl ⟨e, q, ms1 ++ ms2.reverse.map RM.opp, upd_same, ⟨xs ++ ys, by rw [upd_ne nqp]; exact upd_same, ?_⟩, ?_, ?_⟩)
      · rw [List.map_append]
        exact All2.append (TupL.same hT s6) (TupL.same hU s6)
      · exact hl1.append (by rw [es]; exact hl2.opp)
      · rw [List.length_append, List.length_map, List.length_reverse]
        omega
    · refine ⟨_, rfl, a, rfl, by omega, fun l1 H3 s3 h3 => ?_⟩
      refine ⟨_, rfl, b, rfl, by omega, fun l2 H4 s4 h4 => ⟨(by show 3 ≤ sizeLine; decide), fun p hp => ?_⟩⟩
      have s5 := Same.new (o := .tup [.str "apart", .ref l1, .ref l2]) hp
      exact k p _ ((((s1.trans s2).trans s3).trans s4).trans s5) (.inr ⟨ne, l1, l2, upd_same, s5 _ _ (s4 _ _ h3), s5 _ _ h4⟩)
theorem na_al : decide (V.str "apart" = V.str "alike") = false := by decide +kernel
theorem al_na : decide (V.str "alike" = V.str "apart") = false := by decide +kernel
theorem iteB {g b : Bool} {A B : Prop} (e : g = b) (h1 : b = true → A) (h2 : b = false → B) : if g = true then A else B := by
  rw [e]
  cases b with
  | true => exact iteT (h1 rfl)
  | false => exact iteF (h2 rfl)
theorem sc31 : FnScope ["one", "other", "paper", "readings"] ["one", "other", "paper"] (defScope (top 31)) := ⟨rfl, rfl, rfl, by decide +kernel, rfl, by decide +kernel, by decide +kernel⟩
theorem ok_accepts (F : Def K mg "accepts" (top 31) ["one", "other", "paper"]) (G : Fn P w K mg base 4 "leads" ["one", "moves", "other"] spLeads) (G2 : Fn P w K mg base 3 "reading" ["dance", "colours"] (spReading K)) :
    Fn P w K mg base 5 "accepts" ["one", "other", "paper"] spAccepts := by
  refine F.ok sc31 (fun vs H Q E h => ?_) (fun f cdv A outer s H vs Q E hr h => ?_)
  · obtain ⟨a, b, p, rfl, _⟩ := h
    rfl
  · obtain ⟨a, b, p, rfl, ha, hb, hp, k⟩ := h
    have nd := sc31.nd
    have hr3 : Room 3 _ := hr.mono (by decide)
    have un65 : (A.deeper (envOfC "accepts" (defScope (top 31)) s.heap.objs.size f cdv)).units + 65 < cLine := by
      have := hr.un
      omega
    refine ⟨_, pss_cons (ps_if (pt_cmpR op_eq (pe_ix ix_tup (pv 2) pe_int (fun _ _ => rfl)) pe_str (nomark _))
        (pss_one (ps_ret (pe_fn G hr (by rfl) (pa_cons (pv 0) (pa_cons (pe_ix ix_tup (pv 2) pe_int (fun _ _ => rfl)) (pa_cons (pv 1) pa_nil))) pass0))) pss_nil)
      (pss_cons (ps_set (i := 3) nd rfl (Or.inl rfl) (pe_lst (pa_cons (pe_fn G2 hr3 (by rfl) (pa_cons (pv 0) (pa_cons (pe_ix ix_tup (pv 2) pe_int (fun _ _ => rfl)) pa_nil)) pass0) (pa_cons (pe_fn G2 hr3 (by rfl) (pa_cons (pv 1) (pa_cons (pe_ix ix_tup (pv 2) pe_int (fun _ _ => rfl)) pa_nil)) pass0) pa_nil))))
      (pss_one (ps_ret (pe_and (pe_cmpR (op_notInD un65) pe_non (pv 3) (by rfl)) (pe_one (pe_cmpR (op_neD hr.units) (pe_ix ix_list (pv 3) pe_int (fun _ _ => rfl)) (pe_ix ix_list (pv 3) pe_int (fun _ _ => rfl)) (nomark _))))))), ?_⟩
    rcases hp with ⟨e, l, ms, h1, h2, h3, h4⟩ | ⟨ne, l1, l2, h1, h2, h3⟩
    · refine ⟨_, rfl, p, _, _, _, rfl, rfl, SqT.of h1, atI_nat (j := 0) rfl, rfl, _, rfl, iteB (b := true) (decide_eq_true rfl) (fun _ => ?_) (fun z => by cases z)⟩
      exact ⟨_, rfl, _, rfl, p, _, _, _, rfl, rfl, SqT.of h1, atI_nat (j := 1) rfl, _, rfl, a, b, l, ms, rfl, h2, h3, by omega, k⟩
    · refine ⟨_, rfl, p, _, _, _, rfl, rfl, SqT.of h1, atI_nat (j := 0) rfl, rfl, _, rfl, iteB na_al (fun z => by cases z) (fun _ => ?_)⟩
      refine ⟨_, rfl, _, rfl, p, _, _, _, rfl, rfl, SqT.of h1, atI_nat (j := 1) rfl, a, l1, rfl, by omega, SqL.of h2, fun u1 H1 s1 hu1 => ?_⟩
      refine ⟨_, rfl, _, rfl, p, _, _, _, rfl, rfl, SqT.of (s1 _ _ h1), atI_nat (j := 2) rfl, b, l2, rfl, by omega, SqL.of (s1 _ _ h3), fun u2 H2 s2 hu2 => ?_⟩
      refine ⟨(by show 2 ≤ sizeLine; decide), fun r hr => ?_⟩
      have s3 := Same.new (o := .lst [u1, u2]) hr
      have d1 := ((hu1.same s2).same s3).dp
      have d2 := (hu2.same s3).dp
      have hl : SqL K (upd H2 r (.lst [u1, u2])) r [u1, u2] := SqL.of upd_same
      refine ⟨_, rfl, _, [frD (RM.num a), frD (RM.num b)], .non, .lst hl (.cons d1 (.cons d2 .nil)), rfl, rfl, true, rfl, iteT ?_⟩
      refine ⟨_, rfl, r, _, _, _, rfl, rfl, hl, atI_nat (j := 0) rfl, _, rfl, r, _, _, _, rfl, rfl, hl, atI_nat (j := 1) rfl, _, _, d1, d2, rfl, rfl, ?_⟩
      rw [frD_eqv, decide_eq_false ne]
      exact k _ ((s1.trans s2).trans s3)
theorem sc51 : FnScope ["_law_one", "_law_other_here", "_law_paper", "_law_readings"] ["_law_one", "_law_other_here", "_law_paper"] (defScope (top 51)) := ⟨rfl, rfl, rfl, by decide +kernel, rfl, by decide +kernel, by decide +kernel⟩
theorem ok_laccepted (F : Def K mg "_law_accepted" (top 51) ["_law_one", "_law_other_here", "_law_paper"]) (G : Fn P w K mg base 3 "_law_leads" ["_law_one", "_law_moves_here", "_law_other_here"] spLeads)
    (G2 : Fn P w K mg base 3 "_law_reading" ["_law_dance_here", "_law_colours"] (spReading K)) : Fn P w K mg base 4 "_law_accepted" ["_law_one", "_law_other_here", "_law_paper"] spAccepts := by
  refine F.ok sc51 (fun vs H Q E h => ?_) (fun f cdv A outer s H vs Q E hr h => ?_)
  · obtain ⟨a, b, p, rfl, _⟩ := h
    rfl
  · obtain ⟨a, b, p, rfl, ha, hb, hp, k⟩ := h
    have nd := sc51.nd
    refine ⟨_, pss_cons (ps_if (pt_cmpR op_eq (pe_ix ix_tup (pv 2) pe_int (fun _ _ => rfl)) pe_str (nomark _))
        (pss_one (ps_ret (pe_fn G hr (by rfl) (pa_cons (pv 0) (pa_cons (pe_ix ix_tup (pv 2) pe_int (fun _ _ => rfl)) (pa_cons (pv 1) pa_nil))) pass0))) pss_nil)
      (pss_cons (ps_set (i := 3) nd rfl (Or.inl rfl) (pe_tup (pa_cons (pe_fn G2 hr (by rfl) (pa_cons (pv 0) (pa_cons (pe_ix ix_tup (pv 2) pe_int (fun _ _ => rfl)) pa_nil)) pass0) (pa_cons (pe_fn G2 hr (by rfl) (pa_cons (pv 1) (pa_cons (pe_ix ix_tup (pv 2) pe_int (fun _ _ => rfl)) pa_nil)) pass0) pa_nil))))
      (pss_one (ps_ret (pe_and (pe_cmpR op_notN (pe_ix ix_tup (pv 3) pe_int (fun _ _ => rfl)) pe_non (nomark _)) (pe_and (pe_cmpR op_notN (pe_ix ix_tup (pv 3) pe_int (fun _ _ => rfl)) pe_non (nomark _))
        (pe_one (pe_cmpR (op_neD hr.units) (pe_ix ix_tup (pv 3) pe_int (fun _ _ => rfl)) (pe_ix ix_tup (pv 3) pe_int (fun _ _ => rfl)) (nomark _)))))))), ?_⟩
    rcases hp with ⟨e, l, ms, h1, h2, h3, h4⟩ | ⟨ne, l1, l2, h1, h2, h3⟩
    · refine ⟨_, rfl, p, _, _, _, rfl, rfl, SqT.of h1, atI_nat (j := 0) rfl, rfl, _, rfl, iteB (b := true) (decide_eq_true rfl) (fun _ => ?_) (fun z => by cases z)⟩
      exact ⟨_, rfl, _, rfl, p, _, _, _, rfl, rfl, SqT.of h1, atI_nat (j := 1) rfl, _, rfl, a, b, l, ms, rfl, h2, h3, by omega, k⟩
    · refine ⟨_, rfl, p, _, _, _, rfl, rfl, SqT.of h1, atI_nat (j := 0) rfl, rfl, _, rfl, iteB na_al (fun z => by cases z) (fun _ => ?_)⟩
      refine ⟨_, rfl, _, rfl, p, _, _, _, rfl, rfl, SqT.of h1, atI_nat (j := 1) rfl, a, l1, rfl, by omega, SqL.of h2, fun u1 H1 s1 hu1 => ?_⟩
      refine ⟨_, rfl, _, rfl, p, _, _, _, rfl, rfl, SqT.of (s1 _ _ h1), atI_nat (j := 2) rfl, b, l2, rfl, by omega, SqL.of (s1 _ _ h3), fun u2 H2 s2 hu2 => ?_⟩
      refine ⟨(by show 2 ≤ sizeLine; decide), fun r hr => ?_⟩
      have s3 := Same.new (o := .tup [u1, u2]) hr
      have d1 := ((hu1.same s2).same s3).dp
      have d2 := (hu2.same s3).dp
      have hl : SqT K (upd H2 r (.tup [u1, u2])) r [u1, u2] := SqT.of upd_same
      have n1 : (!decide (u1 = V.non)) = true := by
        obtain ⟨z, rfl, _⟩ := hu1
        rfl
      have n2 : (!decide (u2 = V.non)) = true := by
        obtain ⟨z, rfl, _⟩ := hu2
        rfl
      refine ⟨_, rfl, r, _, _, _, rfl, rfl, hl, atI_nat (j := 0) rfl, rfl, _, rfl, iteB n1 (fun _ => ?_) (fun z => by cases z)⟩
      refine ⟨_, rfl, r, _, _, _, rfl, rfl, hl, atI_nat (j := 1) rfl, rfl, _, rfl, iteB n2 (fun _ => ?_) (fun z => by cases z)⟩
      refine ⟨_, rfl, r, _, _, _, rfl, rfl, hl, atI_nat (j := 0) rfl, _, rfl, r, _, _, _, rfl, rfl, hl, atI_nat (j := 1) rfl, _, _, d1, d2, rfl, rfl, ?_⟩
      rw [frD_eqv, decide_eq_false ne]
      exact k _ ((s1.trans s2).trans s3)
end
end RB
/-! The walks of the law's look at a paper, and of its whole check of a pair. -/
namespace RB
open PySem L2 PyProof.Rows
theorem call_isiX {X : Cx} {K : PySem.W.Frag} (h : X.K = K) : CallR X (.builtin "isinstance") (rIsi K) := by
  rw [← h]
  exact call_isi
theorem k_ii {K : PySem.W.Frag} : PySem.W.kitOne K (.type "int") (.type "int") = some true := kit_ty (by decide +kernel)
theorem k_ib {K : PySem.W.Frag} : PySem.W.kitOne K (.type "int") (.type "bool") = some false := kit_ty (by decide +kernel)
theorem k_ss {K : PySem.W.Frag} : PySem.W.kitOne K (.type "str") (.type "str") = some true := kit_ty (by decide +kernel)
theorem k_tt {K : PySem.W.Frag} : PySem.W.kitOne K (.type "tuple") (.type "tuple") = some true := kit_ty (by decide +kernel)
theorem k_ll {K : PySem.W.Frag} : PySem.W.kitOne K (.type "list") (.type "list") = some true := kit_ty (by decide +kernel)
def spFormed : Sp := fun vs H Q _ => ∃ (a b : Dn) (p : Addr), vs = [.ref p] ∧ a.length ≤ 120 ∧ b.length ≤ 120 ∧ PaperAt H p a b ∧ ∀ H', Same H H' → Q (.bl true) H'
section
variable {P : Program} {w : World} {K : PySem.W.Frag} {mg : Str → Option Value} {base : Heap}
theorem sc52 : FnScope ["_law_paper", "_law_move", "_law_one"] ["_law_paper"] (defScope (top 52)) := ⟨rfl, rfl, rfl, by decide +kernel, rfl, by decide +kernel, by decide +kernel⟩
theorem ok_formed (F : Def K mg "_law_formed" (top 52) ["_law_paper"]) (B : Bl mg) : Fn P w K mg base 1 "_law_formed" ["_law_paper"] spFormed := by
  refine F.ok sc52 (fun vs H Q E h => ?_) (fun f cdv A outer s H vs Q E hr h => ?_)
  · obtain ⟨a, b, p, rfl, _⟩ := h
    rfl
  · obtain ⟨a, b, p, rfl, ha, hb, hp, k⟩ := h
    have nd := sc52.nd
    refine ⟨_, pss_cons (ps_if (PW.pt (pw_or (pt_not (pt_val (pe_callB call_isi (by rfl) B.isi (by decide +kernel) (pa_cons (pv 0) (pa_cons (pe_bltn (v := .ty "tuple") (by rfl) B.tup (by decide +kernel) rfl) pa_nil)))))
          (pw_or (pt_cmpR op_lt (pe_callB call_len_seq (by rfl) B.len PySem.boot_len (pa_cons (pv 0) pa_nil)) pe_int (nomark _))
          (pw_or1 (pt_not (pt_val (pe_callB call_isi (by rfl) B.isi (by decide +kernel) (pa_cons (pe_ix ix_tup (pv 0) pe_int (fun _ _ => rfl)) (pa_cons (pe_bltn (v := .ty "list") (by rfl) B.lst (by decide +kernel) rfl) pa_nil)))))))))
          (pss_one (ps_ret pe_bl)) pss_nil)
      (pss_cons (ps_if (pt_cmpR op_eq (pe_ix ix_tup (pv 0) pe_int (fun _ _ => rfl)) pe_str (nomark _)) (pss_cons (ps_if (PW.pt (pw_or (pt_cmpR op_ne (pe_callB call_len_seq (by rfl) B.len PySem.boot_len (pa_cons (pv 0) pa_nil)) pe_int (nomark _))
          (pw_or1 (pt_not (pt_val (pe_callB call_isi (by rfl) B.isi (by decide +kernel) (pa_cons (pe_ix ix_tup (pv 0) pe_int (fun _ _ => rfl)) (pa_cons (pe_bltn (v := .ty "list") (by rfl) B.lst (by decide +kernel) rfl) pa_nil))))))))
          (pss_one (ps_ret pe_bl)) pss_nil)
      (pss_one (ps_ret (pe_cmpR op_eq (pe_callB call_len_seq (by rfl) B.len PySem.boot_len (pa_cons (pe_lc (own := [("_law_one", 2)]) (g := gName 2) rfl nd (pi_list (pe_op op_cat (pe_ix ix_tup (pv 0) pe_int (fun _ _ => rfl)) (pe_ix ix_tup (pv 0) pe_int (fun _ _ => rfl))))
            (blkOk_by (N := ["_law_paper", "_law_move", "_law_one"]) (own := [("_law_one", 2)]) (sc := defScope (top 52)) (by decide +kernel)) (fun _ _ _ _ _ => pg_name (i := 2) nd rfl (Or.inl rfl))
            (fun _ _ _ _ _ => pts_one (PW.pt (pw_or (pt_not (pt_val (pe_callB (call_isiX (K := K) rfl) (by rfl) B.isi (by decide +kernel) (pa_cons (pv 2) (pa_cons (pe_bltn (v := .ty "int") (by rfl) B.int (by decide +kernel) rfl) pa_nil)))))
          (pw_or1 (pt_val (pe_callB (call_isiX (K := K) rfl) (by rfl) B.isi (by decide +kernel) (pa_cons (pv 2) (pa_cons (pe_bltn (v := .ty "bool") (by rfl) B.bool (by decide +kernel) rfl) pa_nil)))))))) (fun _ _ _ _ _ => pv 2)) pa_nil)) pe_int (nomark _))))) pss_nil)
      (pss_cons (ps_for PassesOwn.never rfl (pi_list (pe_ix ix_tup (pv 0) pe_int (fun _ _ => rfl))) (pg_name (i := 1) nd rfl (Or.inl rfl)) (pss_cons (ps_if (PW.pt (pw_or (pt_not (pt_val (pe_callB call_isi (by rfl) B.isi (by decide +kernel) (pa_cons (pv 1) (pa_cons (pe_bltn (v := .ty "tuple") (by rfl) B.tup (by decide +kernel) rfl) pa_nil)))))
          (pw_or (pt_cmpR op_ne (pe_callB call_len_seq (by rfl) B.len PySem.boot_len (pa_cons (pv 1) pa_nil)) pe_int (nomark _))
          (pw_or (pt_not (pt_val (pe_callB call_isi (by rfl) B.isi (by decide +kernel) (pa_cons (pe_ix ix_tup (pv 1) pe_int (fun _ _ => rfl)) (pa_cons (pe_bltn (v := .ty "int") (by rfl) B.int (by decide +kernel) rfl) pa_nil)))))
          (pw_or1 (pt_val (pe_callB call_isi (by rfl) B.isi (by decide +kernel) (pa_cons (pe_ix ix_tup (pv 1) pe_int (fun _ _ => rfl)) (pa_cons (pe_bltn (v := .ty "bool") (by rfl) B.bool (by decide +kernel) rfl) pa_nil)))))))))
          (pss_one (ps_ret pe_bl)) pss_nil)
      (pss_one (ps_if (PW.pt (pw_or (pt_not (pt_val (pe_callB call_isi (by rfl) B.isi (by decide +kernel) (pa_cons (pe_ix ix_tup (pv 1) pe_int (fun _ _ => rfl)) (pa_cons (pe_bltn (v := .ty "str") (by rfl) B.str (by decide +kernel) rfl) pa_nil)))))
          (pw_or1 (pt_not (pt_val (pe_callB call_isi (by rfl) B.isi (by decide +kernel) (pa_cons (pe_ix ix_tup (pv 1) pe_int (fun _ _ => rfl)) (pa_cons (pe_bltn (v := .ty "str") (by rfl) B.str (by decide +kernel) rfl) pa_nil))))))))
          (pss_one (ps_ret pe_bl)) pss_nil))))
      (pss_one (ps_ret (pe_and (pe_cmpR op_eq (pe_ix ix_tup (pv 0) pe_int (fun _ _ => rfl)) pe_str (nomark _)) (pe_one (pe_cmpR op_eq (pe_callB call_len_seq (by rfl) B.len PySem.boot_len (pa_cons (pv 0) pa_nil)) pe_int (nomark _)))))))), ?_⟩
    rcases hp with ⟨e, l, ms, h1, ⟨xs, hx, hT⟩, h3, h4⟩ | ⟨ne, l1, l2, h1, h2, h3⟩
    · refine ⟨_, rfl, _, _, _, _, true, rfl, .ty _, .base (.tup h1), k_tt, true, rfl, iteF ?_⟩
      refine ⟨_, rfl, p, _, rfl, .inr (SqT.of h1), _, _, rfl, rfl, _, rfl, iteF ?_⟩
      refine ⟨_, rfl, p, _, _, _, rfl, rfl, SqT.of h1, atI_nat (j := 1) rfl, _, _, _, _, true, rfl, .ty _, .base (.lst hx), k_ll, true, rfl, iteF ?_⟩
      refine ⟨_, rfl, p, _, _, _, rfl, rfl, SqT.of h1, atI_nat (j := 0) rfl, rfl, _, rfl, iteB al_na (fun z => by cases z) (fun _ => ?_)⟩
      refine ⟨_, rfl, p, _, _, _, rfl, rfl, SqT.of h1, atI_nat (j := 1) rfl, l, rfl, ⟨_, SqL.of hx⟩, for_list (K := K) (a := l) (xs := xs) (fun i sg H2 => H2 = H ∧ ∃ v : Option V, sg = [some (.ref p), v, none]) ⟨rfl, none, rfl⟩ (fun i sg H2 _ ⟨z, _⟩ => by rw [z]; exact SqL.of hx) ?_ ?_⟩
      · rintro i x sg H2 hi ⟨rfl, v, rfl⟩
        obtain ⟨t, ht, q, rfl, hq⟩ := hT.get hi
        rw [List.getElem?_map] at ht
        obtain ⟨m, hm, rfl⟩ := Option.map_eq_some_iff.mp ht
        refine ⟨_, rfl, _, _, _, _, true, rfl, .ty _, .base (.tup hq), k_tt, true, rfl, iteF ?_⟩
        refine ⟨_, rfl, q, _, rfl, .inr (SqT.of hq), rfl, _, rfl, iteF ?_⟩
        refine ⟨_, rfl, q, _, _, _, rfl, rfl, SqT.of hq, atI_nat (j := 0) rfl, _, _, _, _, true, rfl, .ty _, .base (.int _), k_ii, true, rfl, iteF ?_⟩
        refine ⟨_, rfl, q, _, _, _, rfl, rfl, SqT.of hq, atI_nat (j := 0) rfl, _, _, _, _, false, rfl, .ty _, .base (.int _), k_ib, false, rfl, iteF ?_⟩
        refine ⟨_, rfl, q, _, _, _, rfl, rfl, SqT.of hq, atI_nat (j := 1) rfl, _, _, _, _, true, rfl, .ty _, .base (.str _), k_ss, true, rfl, iteF ?_⟩
        refine ⟨_, rfl, q, _, _, _, rfl, rfl, SqT.of hq, atI_nat (j := 2) rfl, _, _, _, _, true, rfl, .ty _, .base (.str _), k_ss, true, rfl, iteF ?_⟩
        exact ⟨rfl, _, rfl⟩
      · rintro sg H2 ⟨rfl, v, rfl⟩
        refine ⟨_, rfl, p, _, _, _, rfl, rfl, SqT.of h1, atI_nat (j := 0) rfl, rfl, _, rfl, iteB (b := true) (decide_eq_true rfl) (fun _ => ?_) (fun z => by cases z)⟩
        exact ⟨_, rfl, p, _, rfl, .inr (SqT.of h1), rfl, k _ (Same.refl _)⟩
    · refine ⟨_, rfl, _, _, _, _, true, rfl, .ty _, .base (.tup h1), k_tt, true, rfl, iteF ?_⟩
      refine ⟨_, rfl, p, _, rfl, .inr (SqT.of h1), _, _, rfl, rfl, _, rfl, iteF ?_⟩
      refine ⟨_, rfl, p, _, _, _, rfl, rfl, SqT.of h1, atI_nat (j := 1) rfl, _, _, _, _, true, rfl, .ty _, .base (.lst h2), k_ll, true, rfl, iteF ?_⟩
      refine ⟨_, rfl, p, _, _, _, rfl, rfl, SqT.of h1, atI_nat (j := 0) rfl, rfl, _, rfl, iteB (b := true) (decide_eq_true rfl) (fun _ => ?_) (fun z => by cases z)⟩
      refine ⟨_, rfl, p, _, rfl, .inr (SqT.of h1), rfl, _, rfl, iteF ?_⟩
      refine ⟨_, rfl, p, _, _, _, rfl, rfl, SqT.of h1, atI_nat (j := 2) rfl, _, _, _, _, true, rfl, .ty _, .base (.lst h3), k_ll, true, rfl, iteF ?_⟩
      have c1 := cols_le a
      have c2 := cols_le b
      refine ⟨_, rfl, p, _, _, _, rfl, rfl, SqT.of h1, atI_nat (j := 1) rfl, _, rfl, p, _, _, _, rfl, rfl, SqT.of h1, atI_nat (j := 2) rfl, l1, l2, _, _, rfl, rfl, h2, h3, ?_, fun q hq => ?_⟩
      · rw [List.length_map, List.length_map]
        exact Nat.le_trans (show (RM.cols a).length + (RM.cols b).length ≤ 244 by omega) (by decide)
      have hq2 : SqL K (upd H q (.lst ((RM.cols a).map V.int ++ (RM.cols b).map V.int))) q ((RM.cols a ++ RM.cols b).map V.int) := by
        rw [List.map_append]
        exact SqL.of upd_same
      have sq := Same.new (o := .lst ((RM.cols a).map V.int ++ (RM.cols b).map V.int)) hq
      generalize upd H q (.lst ((RM.cols a).map V.int ++ (RM.cols b).map V.int)) = H1 at hq2 sq ⊢
      refine ⟨q, rfl, ⟨_, hq2⟩, fun W hW => ?_⟩
      have sW := Same.new (o := .lst []) hW
      refine lc_list (K := K) (a := q) (xs := (RM.cols a ++ RM.cols b).map V.int) (fun i H2 => H2 = upd H1 W (.lst [])) rfl (fun i H2 _ z => by rw [z]; exact sW.seq hq2) ?_ ?_
      · rintro i x H2 hx rfl
        rw [List.getElem?_map] at hx
        obtain ⟨z, hz, rfl⟩ := Option.map_eq_some_iff.mp hx
        refine ⟨rfl, ?_⟩
        refine ⟨_, rfl, _, _, _, _, true, rfl, .ty _, .base (.int _), k_ii, true, rfl, iteF ?_⟩
        refine ⟨_, rfl, _, _, _, _, false, rfl, .ty _, .base (.int _), k_ib, false, rfl, ?_⟩
        exact iteF rfl
      · rintro H2 rfl
        exact ⟨W, _, rfl, .inl (SqL.of upd_same), rfl, k _ (sq.trans sW)⟩
def spHolds : Sp := fun vs H Q _ => ∃ a b : Dn, vs = [.str (tx a), .str (tx b)] ∧ a.length ≤ 120 ∧ b.length ≤ 120 ∧ ∀ H', Same H H' → Q (.bl true) H'
theorem sc54 : FnScope ["_law_one", "_law_other_here", "_law_paper"] ["_law_one", "_law_other_here"] (defScope (top 54)) := ⟨rfl, rfl, rfl, by decide +kernel, rfl, by decide +kernel, by decide +kernel⟩
theorem ok_holds (F : Def K mg "_law_holds" (top 54) ["_law_one", "_law_other_here"]) (G : Fn P w K mg base 9 "judge" ["one", "other"] spJudge) (G2 : Fn P w K mg base 1 "_law_formed" ["_law_paper"] spFormed)
    (G3 : Fn P w K mg base 4 "_law_accepted" ["_law_one", "_law_other_here", "_law_paper"] spAccepts) (G4 : Fn P w K mg base 2 "_law_number" ["_law_dance_here"] (spNumber K))
    (G5 : Fn P w K mg base 5 "accepts" ["one", "other", "paper"] spAccepts) : Fn P w K mg base 10 "_law_holds" ["_law_one", "_law_other_here"] spHolds := by
  refine F.ok sc54 (fun vs H Q E h => ?_) (fun f cdv A outer s H vs Q E hr h => ?_)
  · obtain ⟨a, b, rfl, _⟩ := h
    rfl
  · obtain ⟨a, b, rfl, ha, hb, k⟩ := h
    have nd := sc54.nd
    have hr1 : Room 1 _ := hr.mono (by decide)
    have hr2 : Room 2 _ := hr.mono (by decide)
    have hr4 : Room 4 _ := hr.mono (by decide)
    have hr5 : Room 5 _ := hr.mono (by decide)
    refine ⟨_, pss_cons (ps_set (i := 2) nd rfl (Or.inl rfl) (pe_fn G hr (by rfl) (pa_cons (pv 0) (pa_cons (pv 1) pa_nil)) pass0))
      (pss_cons (ps_if (PW.pt (pw_or (pt_not (pt_val (pe_fn G2 hr1 (by rfl) (pa_cons (pv 2) pa_nil) pass0))) (pw_or1 (pt_not (pt_val (pe_fn G3 hr4 (by rfl) (pa_cons (pv 0) (pa_cons (pv 1) (pa_cons (pv 2) pa_nil))) pass0)))))) (pss_one (ps_ret pe_bl)) pss_nil)
      (pss_cons (ps_if (pt_cmpR op_ne (pe_cmpR op_eq (pe_ix ix_tup (pv 2) pe_int (fun _ _ => rfl)) pe_str (nomark _))
        (pe_cmpR (op_eqD hr.units) (pe_fn G4 hr2 (by rfl) (pa_cons (pv 0) pa_nil) pass0) (pe_fn G4 hr2 (by rfl) (pa_cons (pv 1) pa_nil) pass0) (nomark _)) (nomark _)) (pss_one (ps_ret pe_bl)) pss_nil)
      (pss_one (ps_ret (pe_cmpR op_isBl (pe_fn G5 hr5 (by rfl) (pa_cons (pv 0) (pa_cons (pv 1) (pa_cons (pv 2) pa_nil))) pass0) pe_bl (nomark _)))))), ?_⟩
    refine ⟨_, rfl, _, rfl, a, b, rfl, ha, hb, fun p H1 s1 hp => ?_⟩
    refine ⟨_, rfl, a, b, p, rfl, ha, hb, hp, fun H2 s2 => ⟨true, rfl, iteF ?_⟩⟩
    have hp2 := hp.same s2
    refine ⟨_, rfl, _, rfl, _, rfl, a, b, p, rfl, ha, hb, hp2, fun H3 s3 => ⟨true, rfl, iteF ?_⟩⟩
    have hp3 := hp2.same s3
    obtain ⟨z, zs, hz, eb⟩ : ∃ (z : Str) (zs : List V), SqT K H3 p (.str z :: zs) ∧ decide (V.str z = V.str "alike") = decide (RM.num a = RM.num b) := by
      rcases hp3 with ⟨e, l, ms, h1, _⟩ | ⟨ne, l1, l2, h1, _⟩
      · exact ⟨_, _, SqT.of h1, by rw [decide_eq_true rfl, decide_eq_true e]⟩
      · exact ⟨_, _, SqT.of h1, by rw [na_al, decide_eq_false ne]⟩
    refine ⟨_, rfl, p, _, _, _, rfl, rfl, hz, atI_nat (j := 0) rfl, rfl, ?_⟩
    refine ⟨_, rfl, a, rfl, fun u1 H4 s4 hu1 => ?_⟩
    refine ⟨_, rfl, b, rfl, fun u2 H5 s5 hu2 => ?_⟩
    refine ⟨_, _, (hu1.same s5).dp, hu2.dp, rfl, rfl, rfl, _, rfl, ?_⟩
    rw [eb, frD_eqv]
    refine iteNS rfl ?_
    refine ⟨_, rfl, _, rfl, _, rfl, a, b, p, rfl, ha, hb, (hp3.same s4).same s5, fun H6 s6 => ⟨true, true, rfl, rfl, ?_⟩⟩
    exact k _ (((((s1.trans s2).trans s3).trans s4).trans s5).trans s6)
end
end RB
/-! The walks of the law's draws: the tape, a dance, the standard dance. -/
namespace RB
open PySem L2 PyProof.Rows
/-- all that stood stands, but for the tape -/
def Kp (t : Addr) (H H' : Hp) : Prop := ∀ b o, H b = some o → b ≠ t → H' b = some o
theorem Kp.refl (t : Addr) (H : Hp) : Kp t H H := fun _ _ e _ => e
theorem Kp.trans {t : Addr} {H H1 H2 : Hp} (a : Kp t H H1) (b : Kp t H1 H2) : Kp t H H2 := fun c o e n => b c o (a c o e n) n
theorem Kp.of {t : Addr} {H H' : Hp} (s : Same H H') : Kp t H H' := fun b o e _ => s b o e
def TapeAt (H : Hp) (t : Addr) : Prop := ∃ (c : Int) (g : Bool) (n m : Int), H t = some (.lst [.int c, .bl g, .int n, .int m])
theorem TapeAt.same {H H' : Hp} {t : Addr} (h : TapeAt H t) (s : Same H H') : TapeAt H' t := by
  obtain ⟨c, g, n, m, h⟩ := h
  exact ⟨c, g, n, m, s _ _ h⟩
def spTape (K : PySem.W.Frag) : Sp := fun vs H Q _ => ∃ (a : Addr) (ns : List Int) (i : Nat), vs = [.ref a, .int (i : Nat)] ∧ SqL K H a (ns.map V.int) ∧ ∀ t H', Same H H' → H t = none → TapeAt H' t → Q (.ref t) H'
def spTk : Sp := fun vs H Q _ => ∃ (t : Addr) (many : Int), vs = [.ref t, .int many] ∧ TapeAt H t ∧ 0 < many ∧ many < 1073741824 ∧ ∀ (r : Int) H', 0 ≤ r → r < many → Kp t H H' → TapeAt H' t → Q (.int r) H'
section
variable {P : Program} {w : World} {K : PySem.W.Frag} {mg : Str → Option Value} {base : Heap}
theorem sc33 : FnScope ["_law_script", "_law_k", "_law_cell"] ["_law_script", "_law_k"] (defScope (top 33)) := ⟨rfl, rfl, rfl, by decide +kernel, rfl, by decide +kernel, by decide +kernel⟩
theorem mul_r {x y : Int} (h1 : -(2 ^ 64) < y) (h2 : y < 2 ^ 64) : CMul x y := .inr ⟨h1, h2⟩
theorem ok_tape (F : Def K mg "_law_tape" (top 33) ["_law_script", "_law_k"]) (B : Bl mg) : Fn P w K mg base 1 "_law_tape" ["_law_script", "_law_k"] (spTape K) := by
  refine F.ok sc33 (fun vs H Q E h => ?_) (fun f cdv A outer s H vs Q E hr h => ?_)
  · obtain ⟨a, ns, i, rfl, _⟩ := h
    rfl
  · obtain ⟨a, ns, i, rfl, ha, k⟩ := h
    have nd := sc33.nd
    refine ⟨_, pss_cons (ps_set (i := 2) nd rfl (Or.inl rfl) pe_int)
      (pss_cons (ps_if (pt_cmpR op_lt (pv 1) (pe_callB call_len_seq (by rfl) B.len PySem.boot_len (pa_cons (pv 0) pa_nil)) (nomark _))
        (pss_one (ps_set (i := 2) nd rfl (Or.inl rfl) (pe_callB call_abs (by rfl) B.abs (by decide +kernel) (pa_cons (pe_ix ix_list (pv 0) (pv 1) (fun _ _ => rfl)) pa_nil)))) pss_nil)
      (pss_one (ps_ret (pe_lst (pa_cons (pv 2) (pa_cons (pe_cmpR op_ge (pv 2) (pe_op op_pow pe_int pe_int) (nomark _)) (pa_cons pe_int
        (pa_cons (pe_op op_mod (pe_callTy call_int1 (by rfl) B.int (by decide +kernel) (pa_cons (pe_op op_add (pe_op op_mul (pv 2) pe_int) (pv 1)) pa_nil)) pe_int) pa_nil)))))))), ?_⟩
    have fin : ∀ c : Int, ∀ (g : Bool) (m : Int) (t : Addr), H t = none → Q (.ref t) (upd H t (.lst [.int c, .bl g, .int 0, .int m])) := fun c g m t ht => k t _ (Same.new ht) ht ⟨c, g, 0, m, upd_same⟩
    have four : 4 ≤ sizeLine := by decide
    refine ⟨_, rfl, _, rfl, a, _, rfl, .inl ha, _, _, rfl, rfl, _, rfl, iteL (fun hlt => ?_) (fun hge => ?_)⟩
    · have hlt' : ((i : Nat) : Int) < ((ns.map V.int).length : Nat) := hlt
      rw [List.length_map] at hlt'
      have hi : i < ns.length := by omega
      have hx : atI (ns.map V.int) ((i : Nat) : Int) = some (V.int ns[i]) := atI_nat (by rw [List.getElem?_map, List.getElem?_eq_getElem hi]; rfl)
      refine ⟨_, rfl, _, rfl, a, _, _, _, rfl, rfl, ha, hx, _, rfl, ?_⟩
      exact ⟨_, rfl, _, rfl, _, _, rfl, rfl, ⟨by decide, by decide, by decide⟩, _, _, rfl, rfl, _, rfl, _, _, rfl, rfl, mul_r (by decide) (by decide), _, rfl, _, _, rfl, rfl, .inl ⟨_, rfl, _, _, rfl, rfl, (by show (0 : Int) < 2147483647; decide), four, fun t ht => fin _ _ _ t ht⟩⟩
    · exact ⟨_, rfl, _, rfl, _, _, rfl, rfl, ⟨by decide, by decide, by decide⟩, _, _, rfl, rfl, _, rfl, _, _, rfl, rfl, mul_r (by decide) (by decide), _, rfl, _, _, rfl, rfl, .inl ⟨_, rfl, _, _, rfl, rfl, (by show (0 : Int) < 2147483647; decide), four, fun t ht => fin _ _ _ t ht⟩⟩
theorem sc34 : FnScope ["_law_tape_here", "_law_many", "_law_got", "_law_mixed"] ["_law_tape_here", "_law_many"] (defScope (top 34)) := ⟨rfl, rfl, rfl, by decide +kernel, rfl, by decide +kernel, by decide +kernel⟩
theorem ok_tk (F : Def K mg "_law_take" (top 34) ["_law_tape_here", "_law_many"]) (B : Bl mg) : Fn P w K mg base 1 "_law_take" ["_law_tape_here", "_law_many"] spTk := by
  refine F.ok sc34 (fun vs H Q E h => ?_) (fun f cdv A outer s H vs Q E hr h => ?_)
  · obtain ⟨t, many, rfl, _⟩ := h
    rfl
  · obtain ⟨t, many, rfl, ⟨c, g, n, m, ht⟩, h0, h1, k⟩ := h
    have nd := sc34.nd
    refine ⟨_, pss_cons (ps_if (PW.pt (pw_and (pt_val (pe_ix ix_list (pv 0) pe_int (fun _ _ => rfl))) (pw_and1 (pt_cmpR op_gt (pe_ix ix_list (pv 0) pe_int (fun _ _ => rfl)) pe_int (nomark _)))))
        (pss_cons (ps_set (i := 2) nd rfl (Or.inl rfl) (pe_op op_mod (pe_callTy call_int1 (by rfl) B.int (by decide +kernel) (pa_cons (pe_ix ix_list (pv 0) pe_int (fun _ _ => rfl)) pa_nil)) (pv 1)))
        (pss_cons (ps_asg (pe_op op_fdiv (pe_ix ix_list (pv 0) pe_int (fun _ _ => rfl)) (pv 1)) (pg_sub (pv 0) pe_int set_list (fun _ => rfl)))
        (pss_one (ps_ret (pv 2))))) pss_nil)
      (pss_cons (ps_asg (pe_op op_add (pe_ix ix_list (pv 0) pe_int (fun _ _ => rfl)) pe_int) (pg_sub (pv 0) pe_int set_list (fun _ => rfl)))
      (pss_cons (ps_set (i := 3) nd rfl (Or.inl rfl) (pe_op op_mod (pe_callTy call_int1 (by rfl) B.int (by decide +kernel) (pa_cons (pe_op op_add (pe_op op_add (pe_op op_mul (pe_ix ix_list (pv 0) pe_int (fun _ _ => rfl)) pe_int)
          (pe_op op_mul (pe_ix ix_list (pv 0) pe_int (fun _ _ => rfl)) pe_int)) pe_int) pa_nil)) pe_int))
      (pss_cons (ps_set (i := 3) nd rfl (Or.inl rfl) (pe_op op_mod (pe_callTy call_int1 (by rfl) B.int (by decide +kernel) (pa_cons (pe_op op_add (pe_op op_add (pe_op op_mul (pv 3) pe_int)
          (pe_op op_mul (pe_op op_fdiv (pv 3) pe_int) pe_int)) (pe_ix ix_list (pv 0) pe_int (fun _ _ => rfl))) pa_nil)) pe_int))
      (pss_one (ps_ret (pe_op op_mod (pe_callTy call_int1 (by rfl) B.int (by decide +kernel) (pa_cons (pe_op op_fdiv (pv 3) pe_int) pa_nil)) (pv 1))))))), ?_⟩
    have hs : SqL K H t [.int c, .bl g, .int n, .int m] := SqL.of ht
    have kp : ∀ o, Kp t H (upd H t o) := fun o b u e ne => by rw [upd_ne ne]; exact e
    refine ⟨_, rfl, t, _, _, _, rfl, rfl, hs, atI_nat (j := 1) rfl, _, rfl, ite2 (fun hg => ⟨_, rfl, t, _, _, _, rfl, rfl, hs, atI_nat (j := 0) rfl, _, _, rfl, rfl, _, rfl, iteL (fun hc => ?first) (fun hc => ?_)⟩) (fun hg => iteF ?_)⟩
    case first =>
      refine ⟨_, rfl, t, _, _, _, rfl, rfl, hs, atI_nat (j := 0) rfl, .inl ⟨_, rfl, _, rfl, _, _, rfl, rfl, h0, ?_⟩⟩
      refine ⟨_, rfl, t, _, _, _, rfl, rfl, hs, atI_nat (j := 0) rfl, _, rfl, _, _, rfl, rfl, ⟨h0, h1⟩, _, rfl, t, _, _, 0, rfl, rfl, ht, rfl, ?_⟩
      exact ⟨_, rfl, k _ _ (Int.emod_nonneg _ (by omega)) (Int.emod_lt_of_pos _ h0) (kp _) ⟨_, _, _, _, upd_same⟩⟩
    all_goals
      refine ⟨_, rfl, t, _, _, _, rfl, rfl, hs, atI_nat (j := 2) rfl, _, _, rfl, rfl, _, rfl, t, _, _, 2, rfl, rfl, ht, rfl, ?_⟩
      have ht2 : upd H t (.lst [.int c, .bl g, .int (n + 1), .int m]) t = some (.lst [.int c, .bl g, .int (n + 1), .int m]) := upd_same
      have kp2 := kp (.lst [.int c, .bl g, .int (n + 1), .int m])
      have hs2 : SqL K (upd H t (.lst [.int c, .bl g, .int (n + 1), .int m])) t [.int c, .bl g, .int (n + 1), .int m] := SqL.of upd_same
      refine ⟨_, rfl, t, _, _, _, rfl, rfl, hs2, atI_nat (j := 3) rfl, _, _, rfl, rfl, mul_r (by decide) (by decide), _, rfl, t, _, _, _, rfl, rfl, hs2, atI_nat (j := 2) rfl, _, _, rfl, rfl, mul_r (by decide) (by decide), _, _, rfl, rfl, _, _, rfl, rfl,
        .inl ⟨_, rfl, _, _, rfl, rfl, (by show (0 : Int) < 2147483647; decide), ?_⟩⟩
      refine ⟨_, rfl, _, _, rfl, rfl, mul_r (by decide) (by decide), _, rfl, _, _, rfl, rfl, ⟨by decide, by decide⟩, _, _, rfl, rfl, mul_r (by decide) (by decide), _, _, rfl, rfl, _, rfl, t, _, _, _, rfl, rfl, hs2, atI_nat (j := 2) rfl, _, _, rfl, rfl,
        .inl ⟨_, rfl, _, _, rfl, rfl, (by show (0 : Int) < 2147483399; decide), ?_⟩⟩
      refine ⟨_, rfl, _, _, rfl, rfl, ⟨by decide, by decide⟩, .inl ⟨_, rfl, _, rfl, _, _, rfl, rfl, h0, ?_⟩⟩
      exact k _ _ (Int.emod_nonneg _ (by omega)) (Int.emod_lt_of_pos _ h0) kp2 ⟨_, _, _, _, ht2⟩
def spDance : Sp := fun vs H Q _ => ∃ t : Addr, vs = [.ref t, .int 30] ∧ TapeAt H t ∧ ∀ (d : Dn) H', d.length ≤ 30 → Kp t H H' → TapeAt H' t → Q (.str (tx d)) H'
theorem letter_at {r : Int} (h0 : 0 ≤ r) (h1 : r < 6) : ∃ l : RM.L, atI (("TTUURR" : Str)).cps.toList r = some (cod l) := by
  obtain ⟨j, rfl⟩ : ∃ j : Nat, r = (j : Int) := ⟨r.toNat, by omega⟩
  have hj : j < 6 := by omega
  rw [s_TTUURR]
  exact ⟨[RM.L.T, .T, .U, .U, .R, .R][j], tx_atI rfl (List.getElem?_eq_getElem hj)⟩
theorem size_at {r : Int} (h0 : 0 ≤ r) (h1 : r < 4) : ∃ z : Int, 1 ≤ z ∧ z ≤ 9 ∧ atI [V.int 1, .int 1, .int 3, .int 9] r = some (V.int z) := by
  obtain ⟨j, rfl⟩ : ∃ j : Nat, r = (j : Int) := ⟨r.toNat, by omega⟩
  match j, h1 with
  | 0, _ => exact ⟨1, by decide, by decide, atI_nat rfl⟩
  | 1, _ => exact ⟨1, by decide, by decide, atI_nat rfl⟩
  | 2, _ => exact ⟨3, by decide, by decide, atI_nat rfl⟩
  | 3, _ => exact ⟨9, by decide, by decide, atI_nat rfl⟩
  | j + 4, h => omega
theorem sc35 : FnScope ["_law_tape_here", "_law_most", "_law_dance_here", "_law_size", "_law_k"] ["_law_tape_here", "_law_most"] (defScope (top 35)) := ⟨rfl, rfl, rfl, by decide +kernel, rfl, by decide +kernel, by decide +kernel⟩
theorem ok_dance (F : Def K mg "_law_dance" (top 35) ["_law_tape_here", "_law_most"]) (B : Bl mg) (G : Fn P w K mg base 1 "_law_take" ["_law_tape_here", "_law_many"] spTk) : Fn P w K mg base 2 "_law_dance" ["_law_tape_here", "_law_most"] spDance := by
  refine F.ok sc35 (fun vs H Q E h => ?_) (fun f cdv A outer s H vs Q E hr h => ?_)
  · obtain ⟨t, rfl, _⟩ := h
    rfl
  · obtain ⟨t, rfl, ht, k⟩ := h
    have nd := sc35.nd
    refine ⟨_, pss_cons (ps_set (i := 2) nd rfl (Or.inl rfl) pe_str)
      (pss_cons (ps_set (i := 3) nd rfl (Or.inl rfl) (pe_ix ix_list (pe_lst (pa_cons pe_int (pa_cons pe_int (pa_cons pe_int (pa_cons pe_int pa_nil))))) (pe_fn G hr (by rfl) (pa_cons (pv 0) (pa_cons pe_int pa_nil)) pass0) (fun _ _ => rfl)))
      (pss_cons (ps_for PassesOwn.never rfl (pi_range1 (by rfl) B.rng (pa_cons (pe_fn G hr (by rfl) (pa_cons (pv 0) (pa_cons (pe_op op_add (pv 1) pe_int) pa_nil)) pass0) pa_nil)) (pg_name (i := 4) nd rfl (Or.inl rfl))
        (pss_one (ps_set (i := 2) nd rfl (Or.inl rfl) (pe_op op_add_str (pv 2) (pe_op op_mul_tx (pe_ix ix_str pe_str (pe_fn G hr (by rfl) (pa_cons (pv 0) (pa_cons pe_int pa_nil)) pass0) (fun _ _ => rfl))
          (pe_op op_add pe_int (pe_fn G hr (by rfl) (pa_cons (pv 0) (pa_cons (pv 3) pa_nil)) pass0)))))))
      (pss_one (ps_ret (pe_slice sl_str (pv 2) po_none (po_some (pv 1))))))), ?_⟩
    refine ⟨(by show 4 ≤ sizeLine; decide), fun p hp => ?_⟩
    have sp := Same.new (o := .lst [.int 1, .int 1, .int 3, .int 9]) hp
    have npt : p ≠ t := by
      rintro rfl
      obtain ⟨c, g, n, m, e⟩ := ht
      rw [hp] at e
      cases e
    refine ⟨_, rfl, t, _, rfl, ht.same sp, by decide, by decide, fun r0 H1 hr0 hr4 kp1 ht1 => ?_⟩
    obtain ⟨z, hz1, hz9, hz⟩ := size_at hr0 hr4
    refine ⟨p, _, _, _, rfl, rfl, SqL.of (kp1 _ _ upd_same npt), hz, ?_⟩
    refine ⟨_, rfl, _, rfl, _, _, rfl, rfl, t, _, rfl, ht1, by decide, by decide, fun r1 H2 hr1 hr31 kp2 ht2 => ?_⟩
    refine ⟨r1, rfl, by omega, by omega, for_range (lo := 0) (n := r1.toNat) (fun i sg H3 => ∃ (d : Dn) (v : Option V), sg = [some (.ref t), some (.int 30), some (.str (tx d)), some (.int z), v] ∧ d.length ≤ 9 * i ∧ i ≤ 31 ∧ Kp t H H3 ∧ TapeAt H3 t)
      ⟨[], none, by rw [s_e]; rfl, Nat.zero_le _, by omega, ((Kp.of sp).trans kp1).trans kp2, ht2⟩ ?_ ?_⟩
    · rintro i sg H3 hi ⟨d, v, rfl, hd, hi2, kp3, ht3⟩
      have hi3 : i < 31 := by
        have : r1 < 30 + 1 := hr31
        omega
      refine ⟨_, rfl, _, rfl, t, _, rfl, ht3, by decide, by decide, fun r2 H4 hr2 hr6 kp4 ht4 => ?_⟩
      obtain ⟨l, hl⟩ := letter_at hr2 hr6
      refine ⟨_, _, _, rfl, rfl, by decide, hl, ?_⟩
      refine ⟨_, rfl, _, rfl, t, _, rfl, ht4, by omega, by omega, fun r3 H5 hr3 hr9 kp5 ht5 => ?_⟩
      refine ⟨_, _, rfl, rfl, l, 1 + r3, rfl, rfl, by omega, by omega, ?_⟩
      have hlen : (List.replicate (1 + r3).toNat l).length ≤ 9 := by
        rw [List.length_replicate]
        omega
      refine ⟨_, _, rfl, rfl, by rw [tx_len, tx_len]; exact Nat.le_trans (show d.length + (List.replicate (1 + r3).toNat l).length ≤ 1000 by omega) (by decide), ?_⟩
      rw [tx_app]
      refine ⟨_, _, rfl, ?_, by omega, (kp3.trans kp4).trans kp5, ht5⟩
      rw [List.length_append]
      omega
    · rintro sg H3 ⟨d, v, rfl, hd, hi2, kp3, ht3⟩
      refine ⟨_, rfl, _, rfl, _, rfl, _, rfl, by rw [tx_len]; exact Nat.le_trans (show d.length ≤ 1000 by omega) (by decide), ?_⟩
      have e : cutS (tx d) none (some 30) = tx (d.take 30) := cut_to d 30
      rw [e]
      exact k _ _ (by rw [List.length_take]; omega) kp3 ht3
def spRun : Sp := fun vs H Q _ => ∃ n : Int, vs = [.int n] ∧ -100000 ≤ n ∧ n ≤ 100000 ∧ Q (.str (tx (RM.run n))) H
theorem sc45 : FnScope ["_law_count"] ["_law_count"] (defScope (top 45)) := ⟨rfl, rfl, rfl, by decide +kernel, rfl, by decide +kernel, by decide +kernel⟩
theorem ok_run (F : Def K mg "_law_run" (top 45) ["_law_count"]) : Fn P w K mg base 1 "_law_run" ["_law_count"] spRun := by
  refine F.ok sc45 (fun vs H Q E h => ?_) (fun f cdv A outer s H vs Q E hr h => ?_)
  · obtain ⟨n, rfl, _⟩ := h
    rfl
  · obtain ⟨n, rfl, h1, h2, k⟩ := h
    have nd := sc45.nd
    refine ⟨_, pss_cons (ps_if (pt_cmpR op_lt (pv 0) pe_int (nomark _)) (pss_one (ps_ret (pe_op op_mul_tx pe_str (pe_op op_sub pe_int (pv 0))))) pss_nil)
      (pss_one (ps_ret (pe_op op_mul_tx pe_str (pv 0)))), ?_⟩
    refine ⟨_, rfl, _, _, rfl, rfl, _, rfl, iteL (fun hn => ?_) (fun hp => ?_)⟩
    · have hn' : n < 0 := hn
      refine ⟨_, rfl, _, _, rfl, rfl, .U, 0 - n, by rw [s_U], rfl, by omega, by omega, ?_⟩
      have e : tx (List.replicate (0 - n).toNat RM.L.U) = tx (RM.run n) := by
        unfold RM.run RM.uw
        rw [if_pos hn', Int.zero_sub]
      rw [e]
      exact k
    · have hp' : ¬ n < 0 := hp
      refine ⟨_, rfl, .T, n, by rw [s_T], rfl, by omega, by omega, ?_⟩
      have e : tx (List.replicate n.toNat RM.L.T) = tx (RM.run n) := by
        unfold RM.run RM.tw
        rw [if_neg hp']
      rw [e]
      exact k
theorem run_abs (n : Int) : (RM.run n).length = n.natAbs := by
  unfold RM.run
  split
  · rw [RM.uw_len]
    omega
  · rw [RM.tw_len]
    omega
def spStandard (K : PySem.W.Frag) : Sp := fun vs H Q _ => ∃ (x : V) (d : Dn), vs = [x] ∧ FrV K H x (RM.num d) ∧ d.length ≤ 30 ∧ ∀ s : Dn, s.length ≤ 90 → Q (.str (tx s)) H
theorem sc46 : FnScope ["_law_value", "_law_p", "_law_q", "_law_dance_here", "_law_above"] ["_law_value"] (defScope (top 46)) := ⟨rfl, rfl, rfl, by decide +kernel, rfl, by decide +kernel, by decide +kernel⟩
theorem ok_standard (F : Def K mg "_law_standard" (top 46) ["_law_value"]) (G : Fn P w K mg base 1 "_law_run" ["_law_count"] spRun) : Fn P w K mg base 2 "_law_standard" ["_law_value"] (spStandard K) := by
  refine F.ok sc46 (fun vs H Q E h => ?_) (fun f cdv A outer s H vs Q E hr h => ?_)
  · obtain ⟨x, d, rfl, _⟩ := h
    rfl
  · obtain ⟨x, d, rfl, ⟨a, rfl, ha⟩, hd, k⟩ := h
    have nd := sc46.nd
    refine ⟨_, pss_cons (ps_asg (pv 0) (pg_tup rfl (pgs_cons (pg_name (i := 1) nd rfl (Or.inl rfl)) (pgs_cons (pg_name (i := 2) nd rfl (Or.inl rfl)) pgs_nil))))
      (pss_cons (ps_if (pt_cmpR op_eq (pv 2) pe_int (nomark _)) (pss_one (ps_ret pe_str)) pss_nil)
      (pss_cons (ps_set (i := 3) nd rfl (Or.inl rfl) pe_str)
      (pss_cons (ps_while PassesOwn.never (pt_cmpR op_gt (pv 2) pe_int (nomark _))
        (pss_cons (ps_set (i := 4) nd rfl (Or.inl rfl) (pe_op op_add (pe_op op_fdivW (pv 1) (pv 2)) pe_int))
        (pss_cons (ps_set (i := 3) nd rfl (Or.inl rfl) (pe_op op_add_str (pe_op op_add_str pe_str (pe_fn G hr (by rfl) (pa_cons (pv 4) pa_nil) pass0)) (pv 3)))
        (pss_one (ps_par (i := 1) (j := 2) rfl nd rfl rfl (by decide) rfl rfl (pa_cons (pv 2) (pa_cons (pe_op op_sub (pe_op op_mul (pv 4) (pv 2)) (pv 1)) pa_nil)) (by rfl))))))
      (pss_one (ps_ret (pe_op op_add_str (pe_fn G hr (by rfl) (pa_cons (pv 1) pa_nil) pass0) (pv 3))))))), ?_⟩
    obtain ⟨z, hz, hzl⟩ := RM.std_has d
    have hq0 := RM.num_q d
    have hq1 := (RM.num_le d).2
    have hpw : 2 ^ d.length ≤ 2 ^ 30 := Nat.pow_le_pow_right (by decide) hd
    generalize RM.num d = v at ha hz hq0 hq1
    obtain ⟨p, q⟩ := v
    simp only at hz hq0 hq1
    have hzl' : z.length ≤ 90 := by omega
    refine ⟨_, rfl, a, _, rfl, ha, rfl, _, _, rfl, _, _, rfl, rfl, ?_⟩
    refine ⟨_, rfl, rfl, _, rfl, iteI (fun e => ?_) (fun ne => ?_)⟩
    · rw [s_R]
      exact k [.R] (by decide)
    refine while_by (fun sg H1 => H1 = H ∧ ∃ (s' acc : Dn) (p q : Int) (v : Option V), sg = [some (.ref a), some (.int p), some (.int q), some (.str (tx acc)), v] ∧ RM.NF s' p q ∧ z = s' ++ acc ∧ 0 < q ∧ q ≤ 2 ^ 30)
      (fun sg _ => match sg with | [_, _, some (.int q), _, _] => q.toNat | _ => 0) ⟨rfl, z, [], p, q, none, by rw [s_e]; rfl, hz, by simp, ?_, ?_⟩ ?_ ?_
    · have ne' : q ≠ 0 := ne
      omega
    · omega
    · rintro sg H1 ⟨rfl, s', acc, p, q, v, rfl, hN, ez, h0, hq⟩
      have hlz : s'.length + acc.length ≤ 90 := by
        rw [← List.length_append, ← ez]
        exact hzl'
      refine ⟨_, rfl, _, _, rfl, rfl, _, rfl, iteL (fun hgt => ?_) (fun hle => ?_)⟩
      · have hgt' : 1 < q := hgt
        obtain ⟨s2, hN2, es, hn0, hnq⟩ := RM.std_turn hN hgt'
        have hls : s'.length = s2.length + 1 + (p / q + 1).natAbs := by
          rw [es, List.length_append, List.length_cons, run_abs]
          omega
        refine ⟨_, rfl, _, rfl, _, _, rfl, rfl, wide_div (b := 40) h0 (by omega) (by decide) (by decide), _, _, rfl, rfl, ?_⟩
        dsimp only
        generalize p / q + 1 = ab at *
        refine ⟨_, rfl, ab, rfl, by omega, by omega, ?_⟩
        have e1 : ("R" : Str) ++ tx (RM.run ab) = tx ([.R] ++ RM.run ab) := by rw [s_R, tx_app]
        refine ⟨_, _, rfl, rfl, ?_, _, rfl, _, _, rfl, rfl, ?_, ?_⟩
        · rw [s_R, tx_len, tx_len, run_abs]
          exact Nat.le_trans (show [RM.L.R].length + ab.natAbs ≤ 91 by simp only [List.length_cons, List.length_nil]; omega) (by decide)
        · rw [e1, tx_len, tx_len, List.length_append, run_abs]
          exact Nat.le_trans (show [RM.L.R].length + ab.natAbs + acc.length ≤ 91 by simp only [List.length_cons, List.length_nil]; omega) (by decide)
        rw [e1, tx_app]
        refine ⟨_, rfl, _, rfl, _, rfl, _, _, rfl, rfl, mul_r (by omega) (by omega), _, rfl, _, _, rfl, rfl, _, _, rfl, ?_⟩
        refine ⟨⟨rfl, s2, _, _, _, _, rfl, hN2, ?_, hn0, by omega⟩, ?_⟩
        · rw [ez, es]
          simp
        · show (ab * q - p).toNat < q.toNat
          omega
      · have hle' : ¬ 1 < q := hle
        obtain ⟨e1, e2⟩ := RM.std_end hN hle' (by omega)
        have hls : s'.length = p.natAbs := by rw [e2, run_abs]
        refine ⟨_, rfl, p, rfl, by omega, by omega, _, rfl, _, _, rfl, rfl, ?_, ?_⟩
        · rw [tx_len, tx_len, run_abs]
          exact Nat.le_trans (show p.natAbs + acc.length ≤ 90 by omega) (by decide)
        · rw [tx_app, ← e2, ← ez]
          exact k _ hzl'
    · rintro sg H1 Q1 Q2 hm ⟨v, e, i, j, e1, e2, kk, e3, q⟩
      exact ⟨v, e, i, j, e1, e2, kk, e3, hm _ _ q⟩
end
end RB
/-! The walks of the law's draws: moves, another dance, the law. -/
namespace RB
open PySem L2 PyProof.Rows
def wordsV : List V := [.str "TU", .str "UT", .str "RR", .str "RR", .str "TRTRTR", .str "RTR"]
theorem word_at {r : Int} (h0 : 0 ≤ r) (h1 : r < 6) : ∃ wd : Dn, atI wordsV r = some (V.str (tx wd)) ∧ (wd ∈ RM.anywhere ∨ wd = [.R, .T, .R]) := by
  obtain ⟨j, rfl⟩ : ∃ j : Nat, r = (j : Int) := ⟨r.toNat, by omega⟩
  unfold wordsV
  rw [s_TU, s_UT, s_RR, s_w6, s_RTR]
  match j, h1 with
  | 0, _ => exact ⟨_, atI_nat rfl, .inl RM.in_TU⟩
  | 1, _ => exact ⟨_, atI_nat rfl, .inl RM.in_UT⟩
  | 2, _ => exact ⟨_, atI_nat rfl, .inl RM.in_RR⟩
  | 3, _ => exact ⟨_, atI_nat rfl, .inl RM.in_RR⟩
  | 4, _ => exact ⟨_, atI_nat rfl, .inl RM.in_w6⟩
  | 5, _ => exact ⟨_, atI_nat rfl, .inr rfl⟩
  | j + 6, h => omega
/-- a move that can be made on d, as a value -/
def MoveAt (H : Hp) (p : Addr) (d : Dn) : Prop := ∃ (m : RM.Mv) (e : Dn), H p = some (.tup (mvT m)) ∧ RM.Step d m e
theorem MoveAt.kp {H H' : Hp} {p t : Addr} {d : Dn} (h : MoveAt H p d) (k : Kp t H H') (ht : TapeAt H t) : MoveAt H' p d := by
  obtain ⟨m, e, h1, h2⟩ := h
  obtain ⟨c, g, n, q, h3⟩ := ht
  exact ⟨m, e, k _ _ h1 (ne_of h1 h3 (by intro z; cases z)), h2⟩
def spPut : Sp := fun vs H Q _ => ∃ (t : Addr) (d : Dn), vs = [.ref t, .str (tx d)] ∧ TapeAt H t ∧ d.length ≤ 1000 ∧ ∀ p H', Kp t H H' → TapeAt H' t → MoveAt H' p d → Q (.ref p) H'
section
variable {P : Program} {w : World} {K : PySem.W.Frag} {mg : Str → Option Value} {base : Heap}
theorem sc42 : FnScope ["_law_tape_here", "_law_dance_here", "_law_word", "_law_spot"] ["_law_tape_here", "_law_dance_here"] (defScope (top 42)) := ⟨rfl, rfl, rfl, by decide +kernel, rfl, by decide +kernel, by decide +kernel⟩
theorem ok_put (F : Def K mg "_law_put" (top 42) ["_law_tape_here", "_law_dance_here"]) (B : Bl mg) (G : Fn P w K mg base 1 "_law_take" ["_law_tape_here", "_law_many"] spTk) : Fn P w K mg base 2 "_law_put" ["_law_tape_here", "_law_dance_here"] spPut := by
  refine F.ok sc42 (fun vs H Q E h => ?_) (fun f cdv A outer s H vs Q E hr h => ?_)
  · obtain ⟨t, d, rfl, _⟩ := h
    rfl
  · obtain ⟨t, d, rfl, ht, hd, k⟩ := h
    have nd := sc42.nd
    refine ⟨_, pss_cons (ps_set (i := 2) nd rfl (Or.inl rfl) (pe_ix ix_list (pe_lst (pa_cons pe_str (pa_cons pe_str (pa_cons pe_str (pa_cons pe_str (pa_cons pe_str (pa_cons pe_str pa_nil)))))))
        (pe_fn G hr (by rfl) (pa_cons (pv 0) (pa_cons pe_int pa_nil)) pass0) (fun _ _ => rfl)))
      (pss_cons (ps_set (i := 3) nd rfl (Or.inl rfl) (pe_fn G hr (by rfl) (pa_cons (pv 0) (pa_cons (pe_op op_add (pe_callB call_len_str (by rfl) B.len PySem.boot_len (pa_cons (pv 1) pa_nil)) pe_int) pa_nil)) pass0))
      (pss_cons (ps_if (pt_cmpR op_eq (pv 2) pe_str (nomark _)) (pss_one (ps_set (i := 3) nd rfl (Or.inl rfl) pe_int)) pss_nil)
      (pss_one (ps_ret (pe_tup (pa_cons (pv 3) (pa_cons pe_str (pa_cons (pv 2) pa_nil)))))))), ?_⟩
    have hdz : (tx d).length ≤ sizeLine := by rw [tx_len]; exact Nat.le_trans hd (by decide)
    refine ⟨(by show 6 ≤ sizeLine; decide), fun p hp => ?_⟩
    have sp := Same.new (o := .lst wordsV) hp
    have npt : p ≠ t := by
      rintro rfl
      obtain ⟨c, g, n, m, e⟩ := ht
      rw [hp] at e
      cases e
    refine ⟨_, rfl, t, _, rfl, ht.same sp, by decide, by decide, fun r0 H1 hr0 hr6 kp1 ht1 => ?_⟩
    obtain ⟨wd, hw, hwd⟩ := word_at hr0 hr6
    refine ⟨p, wordsV, _, _, rfl, rfl, SqL.of (kp1 _ _ upd_same npt), hw, ?_⟩
    refine ⟨_, rfl, _, rfl, _, rfl, hdz, _, _, rfl, rfl, t, _, rfl, ht1, (by show (0 : Int) < ((tx d).length : Nat) + 1; omega), (by show (((tx d).length : Nat) : Int) + 1 < 1073741824; rw [tx_len]; omega), fun r1 H2 hr1 hr2 kp2 ht2 => ?_⟩
    have hr2' : r1 < (((tx d).length : Nat) : Int) + 1 := hr2
    rw [tx_len] at hr2'
    obtain ⟨j, rfl⟩ : ∃ j : Nat, r1 = (j : Int) := ⟨r1.toNat, by omega⟩
    have hj : j ≤ d.length := by omega
    have kp12 := ((Kp.of sp).trans kp1).trans kp2
    have fin : ∀ (m : RM.Mv) (e : Dn), RM.Step d m e → ∀ q, H2 q = none → Q (.ref q) (upd H2 q (.tup (mvT m))) := fun m e hst q hq =>
      k q _ (kp12.trans (Kp.of (Same.new hq))) (ht2.same (Same.new hq)) ⟨m, e, upd_same, hst⟩
    have ee : V.str "" = V.str (tx []) := by rw [s_e]
    have three : 3 ≤ sizeLine := by decide
    refine ⟨_, rfl, rfl, _, rfl, iteW s_RTR (fun e => ?_) (fun ne => ?_)⟩
    · subst e
      refine ⟨_, rfl, _, rfl, three, fun q hq => ?_⟩
      rw [ee]
      exact fin ⟨0, [], [.R, .T, .R]⟩ _ (RM.ins0_step rfl) q hq
    · have hin : wd ∈ RM.anywhere := hwd.elim id fun z => absurd z ne
      refine ⟨_, rfl, _, rfl, three, fun q hq => ?_⟩
      rw [ee]
      exact fin ⟨j, [], wd⟩ _ (RM.ins_step (x := d.take j) (y := d.drop j) hin (List.take_append_drop j d).symm rfl (by rw [List.length_take]; omega)) q hq
theorem sc43 : FnScope ["_law_tape_here", "_law_dance_here", "_law_found", "_law_spot", "_law_word"] ["_law_tape_here", "_law_dance_here"] (defScope (top 43)) := ⟨rfl, rfl, rfl, by decide +kernel, rfl, by decide +kernel, by decide +kernel⟩
/-- the moves that were found -/
def FoundAt (H0 H : Hp) (f : Addr) (d : Dn) (n : Nat) : Prop := Same H0 H ∧ H0 f = none ∧ ∃ xs : List V, H f = some (.lst xs) ∧ xs.length ≤ n ∧ ∀ x ∈ xs, ∃ p, x = .ref p ∧ MoveAt H p d
theorem FoundAt.same {H0 H H' : Hp} {f : Addr} {d : Dn} {n : Nat} (h : FoundAt H0 H f d n) (k : Same H H') : FoundAt H0 H' f d n := by
  obtain ⟨s, f0, xs, h1, h2, h3⟩ := h
  refine ⟨s.trans k, f0, xs, k _ _ h1, h2, fun x hx => ?_⟩
  obtain ⟨p, e, m, d', h4, h5⟩ := h3 x hx
  exact ⟨p, e, m, d', k _ _ h4, h5⟩
theorem FoundAt.mono {H0 H : Hp} {f : Addr} {d : Dn} {n n' : Nat} (h : FoundAt H0 H f d n) (hn : n ≤ n') : FoundAt H0 H f d n' := by
  obtain ⟨s, f0, xs, h1, h2, h3⟩ := h
  exact ⟨s, f0, xs, h1, Nat.le_trans h2 hn, h3⟩
theorem FoundAt.put {H0 H : Hp} {f : Addr} {d e : Dn} {n : Nat} {xs : List V} {q : Addr} {m : RM.Mv} (h : FoundAt H0 H f d n) (h1 : H f = some (.lst xs)) (hq : H q = none) (hst : RM.Step d m e) :
    FoundAt H0 (upd (upd H q (.tup (mvT m))) f (.lst (xs ++ [.ref q]))) f d (n + 1) := by
  obtain ⟨s, f0, xs', h1', h2, h3⟩ := h
  have ex : xs = xs' := by
    have := h1.symm.trans h1'
    injection this with this
    injection this
  subst ex
  have nqf : q ≠ f := (ne_of_none h1 hq).symm
  refine ⟨fun b u z => ?_, f0, _, upd_same, ?_, fun x hx => ?_⟩
  · rw [upd_ne (ne_of_none z f0), upd_ne (ne_of_none (s _ _ z) hq)]
    exact s _ _ z
  · rw [List.length_append, List.length_singleton]
    omega
  · rcases List.mem_append.mp hx with hx | hx
    · obtain ⟨p, e, m', d', h4, h5⟩ := h3 x hx
      refine ⟨p, e, m', d', ?_, h5⟩
      rw [upd_ne (ne_of h4 h1 (by intro z; cases z)), upd_ne (ne_of_none h4 hq)]
      exact h4
    · refine ⟨q, List.mem_singleton.mp hx, m, e, ?_, hst⟩
      rw [upd_ne nqf]
      exact upd_same
theorem ok_taken (F : Def K mg "_law_taken" (top 43) ["_law_tape_here", "_law_dance_here"]) (B : Bl mg) (G : Fn P w K mg base 1 "_law_take" ["_law_tape_here", "_law_many"] spTk) (G2 : Fn P w K mg base 2 "_law_put" ["_law_tape_here", "_law_dance_here"] spPut) :
    Fn P w K mg base 3 "_law_taken" ["_law_tape_here", "_law_dance_here"] spPut := by
  refine F.ok sc43 (fun vs H Q E h => ?_) (fun f cdv A outer s H vs Q E hr h => ?_)
  · obtain ⟨t, d, rfl, _⟩ := h
    rfl
  · obtain ⟨t, d, rfl, ht, hd, k⟩ := h
    have nd := sc43.nd
    have hr1 : Room 1 _ := hr.mono (by decide)
    refine ⟨_, pss_cons (ps_set (i := 2) nd rfl (Or.inl rfl) (pe_lst pa_nil))
      (pss_cons (ps_for PassesOwn.never rfl (pi_range1 (by rfl) B.rng (pa_cons (pe_callB call_len_str (by rfl) B.len PySem.boot_len (pa_cons (pv 1) pa_nil)) pa_nil)) (pg_name (i := 3) nd rfl (Or.inl rfl))
        (pss_one (ps_for PassesOwn.never rfl (pi_list (pe_lst (pa_cons pe_str (pa_cons pe_str (pa_cons pe_str (pa_cons pe_str pa_nil)))))) (pg_name (i := 4) nd rfl (Or.inl rfl))
          (pss_one (ps_if (pt_cmpR op_eq (pe_slice sl_str (pv 1) (po_some (pv 3)) (po_some (pe_op op_add (pv 3) (pe_callB call_len_str (by rfl) B.len PySem.boot_len (pa_cons (pv 4) pa_nil))))) (pv 4) (nomark _))
            (pss_one (ps_expr (pe_bm PySem.F.plainAttrs_list PySem.F.slot_list_append PySem.F.type_list_append mt_append (pv 2) (pa_cons (pe_tup (pa_cons (pv 3) (pa_cons (pv 4) (pa_cons pe_str pa_nil)))) pa_nil)))) pss_nil)))))
      (pss_cons (ps_if (pt_cmpR op_eq (pe_slice sl_str (pv 1) po_none (po_some pe_int)) pe_str (nomark _))
        (pss_one (ps_expr (pe_bm PySem.F.plainAttrs_list PySem.F.slot_list_append PySem.F.type_list_append mt_append (pv 2) (pa_cons (pe_tup (pa_cons pe_int (pa_cons pe_str (pa_cons pe_str pa_nil)))) pa_nil)))) pss_nil)
      (pss_cons (ps_if (pt_cmpR op_eq (pe_callB call_len_seq (by rfl) B.len PySem.boot_len (pa_cons (pv 2) pa_nil)) pe_int (nomark _)) (pss_one (ps_ret (pe_fn G2 hr (by rfl) (pa_cons (pv 0) (pa_cons (pv 1) pa_nil)) pass0))) pss_nil)
      (pss_one (ps_ret (pe_ix ix_list (pv 2) (pe_fn G hr1 (by rfl) (pa_cons (pv 0) (pa_cons (pe_callB call_len_seq (by rfl) B.len PySem.boot_len (pa_cons (pv 2) pa_nil)) pa_nil)) pass0) (fun _ _ => rfl))))))), ?_⟩
    have hdz : (tx d).length ≤ sizeLine := by rw [tx_len]; exact Nat.le_trans hd (by decide)
    have ee : V.str "" = V.str (tx []) := by rw [s_e]
    have three : 3 ≤ sizeLine := by decide
    refine ⟨Nat.zero_le _, fun fo hfo => ?_⟩
    have F0 : FoundAt H (upd H fo (.lst [])) fo d 0 := ⟨Same.new hfo, hfo, [], upd_same, Nat.le_refl _, fun x hx => by simp at hx⟩
    refine ⟨_, rfl, _, rfl, hdz, _, rfl, by omega, (by show (((tx d).length : Nat) : Int) < 2 ^ 62; rw [tx_len]; omega), for_range (lo := 0) (n := (((tx d).length : Nat) : Int).toNat)
      (fun i sg H1 => ∃ (a b : Option V), sg = [some (.ref t), some (.str (tx d)), some (.ref fo), a, b] ∧ FoundAt H H1 fo d (4 * i) ∧ i ≤ 1000) ⟨none, none, rfl, F0, by omega⟩ ?_ ?_⟩
    · rintro i sg H1 hi ⟨a, b, rfl, F1, hi2⟩
      rw [tx_len] at hi
      have hi' : i < d.length := by omega
      have ez : (0 : Int) + (i : Nat) = (i : Nat) := Int.zero_add _
      refine ⟨(by show 4 ≤ sizeLine; decide), fun wl hwl => ?_⟩
      have ea : [V.str "TU", V.str "UT", V.str "RR", V.str "TRTRTR"] = anyV := by
        rw [s_TU, s_UT, s_RR, s_w6]
        rfl
      rw [ea, ez]
      have F2 := F1.same (Same.new (o := .lst anyV) hwl)
      have hwl2 : upd H1 wl (.lst anyV) wl = some (.lst anyV) := upd_same
      have nwf : wl ≠ fo := by
        rintro rfl
        obtain ⟨_, _, xs, h1, _⟩ := F1
        rw [hwl] at h1
        cases h1
      generalize upd H1 wl (.lst anyV) = H2 at F2 hwl2 ⊢
      refine ⟨wl, rfl, ⟨_, SqL.of hwl2⟩, for_list (K := K) (a := wl) (xs := anyV) (fun j sg H3 => ∃ b : Option V, sg = [some (.ref t), some (.str (tx d)), some (.ref fo), some (.int (i : Nat)), b] ∧ FoundAt H H3 fo d (4 * i + j) ∧ H3 wl = some (.lst anyV) ∧ j ≤ 4)
        ⟨b, rfl, F2, hwl2, by omega⟩ (fun j sg H3 _ ⟨_, _, _, z, _⟩ => SqL.of z) ?_ ?_⟩
      · rintro j x sg H3 hx ⟨b, rfl, F3, hw3, hj4⟩
        have hj : j < 4 := (List.getElem?_eq_some_iff.mp hx).1
        obtain ⟨wd, rfl, hwd, hwl6⟩ : ∃ wd : Dn, x = .str (tx wd) ∧ wd ∈ RM.anywhere ∧ wd.length ≤ 6 := by
          have hm := List.mem_of_getElem? hx
          simp only [anyV, List.mem_cons, List.not_mem_nil, or_false] at hm
          rcases hm with rfl | rfl | rfl | rfl
          · exact ⟨_, rfl, by decide, by decide⟩
          · exact ⟨_, rfl, by decide, by decide⟩
          · exact ⟨_, rfl, by decide, by decide⟩
          · exact ⟨_, rfl, by decide, by decide⟩
        refine ⟨_, rfl, _, rfl, _, rfl, _, rfl, _, rfl, _, rfl, by rw [tx_len]; exact Nat.le_trans hwl6 (by decide), _, _, rfl, rfl, _, rfl, _, rfl, hdz, ?_⟩
        dsimp only
        rw [tx_len, show ((i : Nat) : Int) + (wd.length : Nat) = ((i + wd.length : Nat) : Int) by omega, tx_cut, HT.sIx_nat, HT.sIx_nat, Nat.min_eq_left (show i ≤ d.length by omega)]
        refine ⟨_, rfl, rfl, _, rfl, iteS (fun e => ?_) (fun ne => ?_)⟩
        · have hst : RM.Step d ⟨i, wd, []⟩ (d.take i ++ d.drop (i + wd.length)) := by
            refine RM.del_step (x := d.take i) (y := d.drop (i + wd.length)) hwd ?_ rfl (by rw [List.length_take]; omega)
            have e2 : (d.drop i).take wd.length = wd := by
              by_cases hle : i + wd.length ≤ d.length
              · rw [Nat.min_eq_left hle, Nat.add_sub_cancel_left] at e
                exact e
              · rw [Nat.min_eq_right (by omega), List.take_of_length_le (by rw [List.length_drop]; omega)] at e
                rw [← e]
                exact List.take_length
            rw [List.append_assoc, ← List.drop_drop, ← e2]
            conv => rhs; rhs; rhs; rw [e2]
            rw [List.take_append_drop, List.take_append_drop]
          obtain ⟨_, _, xs, h1, h2, _⟩ := id F3
          refine ⟨_, rfl, .inl ⟨rfl, _, SqL.of h1⟩, _, rfl, _, rfl, three, fun q hq => ?_⟩
          refine ⟨fo, _, _, rfl, rfl, by rw [upd_ne (ne_of_none h1 hq)]; exact h1, Nat.lt_of_le_of_lt (show xs.length ≤ 4004 by omega) (by decide), ?_⟩
          rw [ee]
          refine ⟨_, rfl, F3.put h1 hq hst, ?_, by omega⟩
          rw [upd_ne nwf, upd_ne (ne_of_none hw3 hq)]
          exact hw3
        · exact ⟨_, rfl, F3.mono (by omega), hw3, by omega⟩
      · rintro sg H3 ⟨b, rfl, F3, hw3, hj4⟩
        exact ⟨_, _, rfl, F3.mono (by show 4 * i + 4 ≤ 4 * (i + 1); omega), by omega⟩
    · rintro sg H1 ⟨a, b, rfl, F1, hi2⟩
      rw [tx_len] at F1 hi2
      have hn : ((d.length : Nat) : Int).toNat = d.length := Int.toNat_natCast _
      rw [hn] at F1 hi2
      refine ⟨_, rfl, _, rfl, _, rfl, hdz, ?_⟩
      have ec : cutS (tx d) none (some 3) = tx (d.take 3) := cut_to d 3
      rw [ec]
      -- behind the last look
      have last : ∀ H2, FoundAt H H2 fo d 5000 → ∃ xs : List V, H2 fo = some (.lst xs) ∧ SqL K H2 fo xs ∧ xs.length ≤ 5000 ∧ Kp t H H2 ∧ TapeAt H2 t ∧ fo ≠ t ∧ ∀ x ∈ xs, ∃ p, x = .ref p ∧ MoveAt H2 p d := by
        rintro H2 ⟨s2, f0, xs, h1, h2, h3⟩
        refine ⟨xs, h1, SqL.of h1, h2, Kp.of s2, ht.same s2, ?_, h3⟩
        rintro rfl
        obtain ⟨c, g, n, m, e⟩ := ht
        rw [f0] at e
        cases e
      refine ⟨rfl, _, rfl, iteW s_RTR (fun e => ?_) (fun ne => ?_)⟩
      all_goals first
        | (have hst : RM.Step d ⟨0, [.R, .T, .R], []⟩ (d.drop 3) := RM.del0_step (by rw [← e, List.take_append_drop])
           obtain ⟨_, _, xs, h1, h2, _⟩ := id F1
           refine ⟨_, rfl, .inl ⟨rfl, _, SqL.of h1⟩, three, fun q hq => ?_⟩
           refine ⟨fo, _, _, rfl, rfl, by rw [upd_ne (ne_of_none h1 hq)]; exact h1, Nat.lt_of_le_of_lt (show xs.length ≤ 4004 by omega) (by decide), ?_⟩
           have em : [V.int 0, V.str "RTR", V.str ""] = mvT ⟨0, [.R, .T, .R], []⟩ := by
             rw [s_RTR, s_e]
             rfl
           rw [em]
           obtain ⟨H2, eH, F2⟩ : ∃ H2, upd (upd H1 q (.tup (mvT ⟨0, [.R, .T, .R], []⟩))) fo (.lst (xs ++ [.ref q])) = H2 ∧ FoundAt H H2 fo d 5000 := ⟨_, rfl, (F1.put h1 hq hst).mono (by omega)⟩
           rw [eH])
        | (obtain ⟨H2, eH, F2⟩ : ∃ H2, H1 = H2 ∧ FoundAt H H2 fo d 5000 := ⟨H1, rfl, F1.mono (by omega)⟩
           rw [eH])
      all_goals
        obtain ⟨xs, h1, hs, hxl, kp2, ht2, nft, hall⟩ := last H2 F2
        refine ⟨_, rfl, fo, _, rfl, .inl hs, rfl, _, rfl, iteI (fun e => ?_) (fun ne => ?_)⟩
        · exact ⟨_, rfl, _, rfl, t, d, rfl, ht2, hd, fun p H3 kp3 ht3 hm => k p H3 (kp2.trans kp3) ht3 hm⟩
        · have hpos : 0 < xs.length := by
            have : ((xs.length : Nat) : Int) ≠ 0 := ne
            omega
          refine ⟨_, rfl, _, rfl, _, rfl, fo, _, rfl, .inl hs, t, _, rfl, ht2, by omega, by omega, fun r H3 hr0 hrn kp3 ht3 => ?_⟩
          obtain ⟨j, rfl⟩ : ∃ j : Nat, r = (j : Int) := ⟨r.toNat, by omega⟩
          have hj : j < xs.length := by omega
          obtain ⟨p, ep, hm⟩ := hall xs[j] (List.getElem_mem hj)
          refine ⟨fo, xs, _, .ref p, rfl, rfl, SqL.of (kp3 _ _ h1 nft), atI_nat (by rw [List.getElem?_eq_getElem hj, ep]), ?_⟩
          exact k p H3 (kp2.trans kp3) ht3 (hm.kp kp3 ht2)
end
end RB
/-! The walks of the law's other dance, and of the law. -/
namespace RB
open PySem L2 PyProof.Rows
def spMoves : Sp := fun vs H Q _ => ∃ (t : Addr) (d : Dn), vs = [.ref t, .str (tx d), .int 12] ∧ TapeAt H t ∧ d.length ≤ 30 ∧ ∀ p (l : V) (e : Dn) H', Kp t H H' → TapeAt H' t → H' p = some (.tup [l, .str (tx e)]) → e.length ≤ 110 → Q (.ref p) H'
def spOther : Sp := fun vs H Q _ => ∃ (t : Addr) (d : Dn), vs = [.ref t, .str (tx d)] ∧ TapeAt H t ∧ d.length ≤ 30 ∧ ∀ (e : Dn) H', e.length ≤ 120 → Kp t H H' → TapeAt H' t → Q (.str (tx e)) H'
/-- a list of the call's own, whatever it holds, behind what stood at first -/
def LstAt (H0 H : Hp) (t l : Addr) (n : Nat) : Prop := Kp t H0 H ∧ H0 l = none ∧ l ≠ t ∧ ∃ xs : List V, H l = some (.lst xs) ∧ xs.length ≤ n
theorem LstAt.kp {H0 H H' : Hp} {t l : Addr} {n : Nat} (h : LstAt H0 H t l n) (k : Kp t H H') : LstAt H0 H' t l n := by
  obtain ⟨a, b, c, xs, d, e⟩ := h
  exact ⟨a.trans k, b, c, xs, k _ _ d c, e⟩
section
variable {P : Program} {w : World} {K : PySem.W.Frag} {mg : Str → Option Value} {base : Heap}
theorem sc44 : FnScope ["_law_tape_here", "_law_dance_here", "_law_most", "_law_moves_here", "_law_k", "_law_move"] ["_law_tape_here", "_law_dance_here", "_law_most"] (defScope (top 44)) := ⟨rfl, rfl, rfl, by decide +kernel, rfl, by decide +kernel, by decide +kernel⟩
theorem ok_moves (F : Def K mg "_law_moves" (top 44) ["_law_tape_here", "_law_dance_here", "_law_most"]) (B : Bl mg) (G : Fn P w K mg base 1 "_law_take" ["_law_tape_here", "_law_many"] spTk) (G2 : Fn P w K mg base 2 "_law_put" ["_law_tape_here", "_law_dance_here"] spPut)
    (G3 : Fn P w K mg base 3 "_law_taken" ["_law_tape_here", "_law_dance_here"] spPut) (G4 : Fn P w K mg base 2 "_law_made" ["_law_dance_here", "_law_move"] (spLMade K)) :
    Fn P w K mg base 4 "_law_moves" ["_law_tape_here", "_law_dance_here", "_law_most"] spMoves := by
  refine F.ok sc44 (fun vs H Q E h => ?_) (fun f cdv A outer s H vs Q E hr h => ?_)
  · obtain ⟨t, d, rfl, _⟩ := h
    rfl
  · obtain ⟨t, d, rfl, ht, hd, k⟩ := h
    have nd := sc44.nd
    have hr1 : Room 1 _ := hr.mono (by decide)
    have hr2 : Room 2 _ := hr.mono (by decide)
    refine ⟨_, pss_cons (ps_set (i := 3) nd rfl (Or.inl rfl) (pe_lst pa_nil))
      (pss_cons (ps_for PassesOwn.never rfl (pi_range1 (by rfl) B.rng (pa_cons (pe_fn G hr1 (by rfl) (pa_cons (pv 0) (pa_cons (pe_op op_add (pv 2) pe_int) pa_nil)) pass0) pa_nil)) (pg_name (i := 4) nd rfl (Or.inl rfl))
        (pss_cons (ps_set (i := 5) nd rfl (Or.inl rfl) (pe_fn G2 hr2 (by rfl) (pa_cons (pv 0) (pa_cons (pv 1) pa_nil)) pass0))
        (pss_cons (ps_if (PW.pt (pw_or (pt_cmpR op_gt (pe_callB call_len_str (by rfl) B.len PySem.boot_len (pa_cons (pv 1) pa_nil)) pe_int (nomark _))
            (pw_or1 (pt_cmpR op_eq (pe_fn G hr1 (by rfl) (pa_cons (pv 0) (pa_cons pe_int pa_nil)) pass0) pe_int (nomark _)))))
          (pss_one (ps_set (i := 5) nd rfl (Or.inl rfl) (pe_fn G3 hr (by rfl) (pa_cons (pv 0) (pa_cons (pv 1) pa_nil)) pass0))) pss_nil)
        (pss_one (ps_if (pt_cmpR op_lt (pe_callB call_len_str (by rfl) B.len PySem.boot_len (pa_cons (pv 1) pa_nil)) pe_int (nomark _))
          (pss_cons (ps_expr (pe_bm PySem.F.plainAttrs_list PySem.F.slot_list_append PySem.F.type_list_append mt_append (pv 3) (pa_cons (pv 5) pa_nil)))
          (pss_one (ps_set (i := 1) nd rfl (Or.inl rfl) (pe_fn G4 hr2 (by rfl) (pa_cons (pv 1) (pa_cons (pv 5) pa_nil)) pass0)))) pss_nil)))))
      (pss_one (ps_ret (pe_tup (pa_cons (pv 3) (pa_cons (pv 1) pa_nil)))))), ?_⟩
    refine ⟨Nat.zero_le _, fun l hl => ?_⟩
    have sl := Same.new (o := .lst []) hl
    have nlt : l ≠ t := by
      rintro rfl
      obtain ⟨c, g, n, m, e⟩ := ht
      rw [hl] at e
      cases e
    refine ⟨_, rfl, _, rfl, _, _, rfl, rfl, t, _, rfl, ht.same sl, by decide, by decide, fun r H1 hr0 hr13 kp1 ht1 => ?_⟩
    have hr13' : r < 12 + 1 := hr13
    refine ⟨r, rfl, by omega, by omega, for_range (lo := 0) (n := r.toNat) (fun i sg H2 => ∃ (e : Dn) (a b : Option V), sg = [some (.ref t), some (.str (tx e)), some (.int 12), some (.ref l), a, b] ∧ e.length ≤ 30 + 6 * i ∧ i ≤ 13 ∧ TapeAt H2 t ∧ LstAt H H2 t l i)
      ⟨d, none, none, rfl, by omega, by omega, ht1, (Kp.of sl).trans kp1, hl, nlt, [], kp1 _ _ upd_same nlt, Nat.le_refl _⟩ ?_ ?_⟩
    · rintro i sg H2 hi ⟨e, a, b, rfl, he, hi2, ht2, L2⟩
      have hi3 : i < 13 := by omega
      have hez : (tx e).length ≤ sizeLine := by rw [tx_len]; exact Nat.le_trans (show e.length ≤ 1000 by omega) (by decide)
      refine ⟨_, rfl, _, rfl, t, e, rfl, ht2, by omega, fun p H3 kp3 ht3 hm => ?_⟩
      have L3 := L2.kp kp3
      -- behind the choice of the move
      refine ⟨_, rfl, _, rfl, hez, _, _, rfl, rfl, _, rfl, iteL (fun h60 => ?_) (fun h60 => ⟨_, rfl, t, _, rfl, ht3, by decide, by decide, fun r2 H4 _ _ kp4 ht4 => ⟨rfl, _, rfl, iteI (fun e0 => ?_) (fun e0 => ?_)⟩⟩)⟩
      all_goals first
        | (refine ⟨_, rfl, _, rfl, t, e, rfl, ht3, by omega, fun p5 H5 kp5 ht5 hm5 => ?_⟩
           have L5 := L3.kp kp5)
        | (have L4 := L3.kp kp4
           have hne : r2 ≠ 0 := e0
           have ht5 := ht4
           obtain ⟨p5, H5, ep, eH, hm5, L5⟩ : ∃ p5 H5, p = p5 ∧ H4 = H5 ∧ MoveAt H5 p5 e ∧ LstAt H H5 t l i := ⟨p, H4, rfl, rfl, hm.kp kp4 ht3, L4⟩
           rw [eH] at ht5 ⊢
           rw [ep])
        | (have L4 := L3.kp kp4
           refine ⟨_, rfl, _, rfl, t, e, rfl, ht4, by omega, fun p5 H5 kp5 ht5 hm5 => ?_⟩
           have L5 := L4.kp kp5)
      all_goals
        refine ⟨_, rfl, _, rfl, hez, _, _, rfl, rfl, _, rfl, iteL (fun h90 => ?_) (fun h90 => ?_)⟩
        · obtain ⟨k5, l0, _, xs, h5, hx5⟩ := id L5
          obtain ⟨m, e', hm6, hst⟩ := hm5
          have nlp : p5 ≠ l := ne_of hm6 h5 (by intro z; cases z)
          have hm7 : upd H5 l (.lst (xs ++ [.ref p5])) p5 = some (.tup (mvT m)) := by rw [upd_ne nlp]; exact hm6
          refine ⟨_, rfl, .inl ⟨rfl, _, SqL.of h5⟩, _, rfl, l, _, _, rfl, rfl, h5, Nat.lt_of_le_of_lt (show xs.length ≤ 13 by omega) (by decide), ?_⟩
          refine ⟨_, rfl, _, rfl, p5, m, e, e', rfl, SqT.of hm7, hst, by omega, fun H7 s7 => ?_⟩
          have hsl := step_len hst
          refine ⟨e', _, _, rfl, by omega, by omega, ?_, ?_⟩
          · obtain ⟨c, g, n, q, h⟩ := ht5
            exact ⟨c, g, n, q, s7 _ _ (by rw [upd_ne nlt.symm]; exact h)⟩
          · refine ⟨fun b u z nb => ?_, l0, nlt, _, s7 _ _ upd_same, by rw [List.length_append, List.length_singleton]; omega⟩
            exact s7 _ _ (by rw [upd_ne (ne_of_none z l0)]; exact k5 _ _ z nb)
        · obtain ⟨k5, l0, n0, xs, h5, hx5⟩ := L5
          exact ⟨e, _, _, rfl, by omega, by omega, ht5, k5, l0, n0, xs, h5, by omega⟩
    · rintro sg H2 ⟨e, a, b, rfl, he, hi2, ht2, L2⟩
      refine ⟨_, rfl, _, rfl, (by show 2 ≤ sizeLine; decide), fun p hp => ?_⟩
      have s3 := Same.new (o := .tup [.ref l, .str (tx e)]) hp
      exact k p _ e _ (L2.1.trans (Kp.of s3)) (ht2.same s3) upd_same (by omega)
theorem tur_at {r : Int} (h0 : 0 ≤ r) (h1 : r < 3) : ∃ l : RM.L, atI (("TUR" : Str)).cps.toList r = some (cod l) := by
  obtain ⟨j, rfl⟩ : ∃ j : Nat, r = (j : Int) := ⟨r.toNat, by omega⟩
  have hj : j < 3 := by omega
  rw [s_TUR]
  exact ⟨[RM.L.T, .U, .R][j], tx_atI rfl (List.getElem?_eq_getElem hj)⟩
theorem sc53 : FnScope ["_law_tape_here", "_law_dance_here", "_law_choice", "_law_other_here", "_law_spot"] ["_law_tape_here", "_law_dance_here"] (defScope (top 53)) := ⟨rfl, rfl, rfl, by decide +kernel, rfl, by decide +kernel, by decide +kernel⟩
theorem ok_other (F : Def K mg "_law_other" (top 53) ["_law_tape_here", "_law_dance_here"]) (B : Bl mg) (G : Fn P w K mg base 1 "_law_take" ["_law_tape_here", "_law_many"] spTk) (G2 : Fn P w K mg base 2 "_law_dance" ["_law_tape_here", "_law_most"] spDance)
    (G3 : Fn P w K mg base 4 "_law_moves" ["_law_tape_here", "_law_dance_here", "_law_most"] spMoves) (G4 : Fn P w K mg base 2 "_law_standard" ["_law_value"] (spStandard K)) (G5 : Fn P w K mg base 2 "_law_number" ["_law_dance_here"] (spNumber K)) :
    Fn P w K mg base 5 "_law_other" ["_law_tape_here", "_law_dance_here"] spOther := by
  refine F.ok sc53 (fun vs H Q E h => ?_) (fun f cdv A outer s H vs Q E hr h => ?_)
  · obtain ⟨t, d, rfl, _⟩ := h
    rfl
  · obtain ⟨t, d, rfl, ht, hd, k⟩ := h
    have nd := sc53.nd
    have hr1 : Room 1 _ := hr.mono (by decide)
    have hr2 : Room 2 _ := hr.mono (by decide)
    refine ⟨_, pss_cons (ps_set (i := 2) nd rfl (Or.inl rfl) (pe_fn G hr1 (by rfl) (pa_cons (pv 0) (pa_cons pe_int pa_nil)) pass0))
      (pss_cons (ps_if (pt_cmpR op_eq (pv 2) pe_int (nomark _)) (pss_one (ps_ret (pe_fn G2 hr2 (by rfl) (pa_cons (pv 0) (pa_cons pe_int pa_nil)) pass0))) pss_nil)
      (pss_cons (ps_set (i := 3) nd rfl (Or.inl rfl) (pe_ix ix_tup (pe_fn G3 hr (by rfl) (pa_cons (pv 0) (pa_cons (pv 1) (pa_cons pe_int pa_nil))) pass0) pe_int (fun _ _ => rfl)))
      (pss_cons (ps_if (pt_cmpR op_eq (pv 2) pe_int (nomark _)) (pss_one (ps_ret (pe_op op_add_str (pv 3) (pe_ix ix_str pe_str (pe_fn G hr1 (by rfl) (pa_cons (pv 0) (pa_cons pe_int pa_nil)) pass0) (fun _ _ => rfl))))) pss_nil)
      (pss_cons (ps_if (pt_cmpR op_eq (pv 2) pe_int (nomark _)) (pss_one (ps_ret (pe_fn G4 hr2 (by rfl) (pa_cons (pe_fn G5 hr2 (by rfl) (pa_cons (pv 1) pa_nil) pass0) pa_nil) pass0))) pss_nil)
      (pss_cons (ps_if (pt_cmpR op_eq (pv 2) pe_int (nomark _))
        (pss_cons (ps_set (i := 4) nd rfl (Or.inl rfl) (pe_fn G hr1 (by rfl) (pa_cons (pv 0) (pa_cons (pe_op op_add (pe_callB call_len_str (by rfl) B.len PySem.boot_len (pa_cons (pv 3) pa_nil)) pe_int) pa_nil)) pass0))
        (pss_one (ps_ret (pe_op op_add_str (pe_slice sl_str (pv 3) po_none (po_some (pv 4))) (pe_slice sl_str (pv 3) (po_some (pe_op op_add (pv 4) pe_int)) po_none))))) pss_nil)
      (pss_one (ps_ret (pv 3)))))))), ?_⟩
    refine ⟨_, rfl, t, _, rfl, ht, by decide, by decide, fun r H1 hr0 hr6 kp1 ht1 => ?_⟩
    refine ⟨_, rfl, rfl, _, rfl, iteI (fun _ => ?_) (fun _ => ?_)⟩
    · exact ⟨_, rfl, t, rfl, ht1, fun e H2 he kp2 ht2 => k e H2 (by omega) (kp1.trans kp2) ht2⟩
    refine ⟨_, rfl, _, rfl, t, d, rfl, ht1, hd, fun p l e H2 kp2 ht2 hp he => ?_⟩
    have kp12 := kp1.trans kp2
    have hez : (tx e).length ≤ sizeLine := by rw [tx_len]; exact Nat.le_trans (show e.length ≤ 1000 by omega) (by decide)
    refine ⟨p, _, _, _, rfl, rfl, SqT.of hp, atI_nat (j := 1) rfl, ?_⟩
    refine ⟨_, rfl, rfl, _, rfl, iteI (fun _ => ?_) (fun _ => ?_)⟩
    · refine ⟨_, rfl, _, rfl, t, _, rfl, ht2, by decide, by decide, fun r2 H3 h0 h3 kp3 ht3 => ?_⟩
      obtain ⟨x, hx⟩ := tur_at h0 h3
      refine ⟨_, _, _, rfl, rfl, by decide, hx, _, _, rfl, rfl, ?_, ?_⟩
      · rw [tx_one, tx_len, tx_len]
        exact Nat.le_trans (show e.length + [x].length ≤ 1000 by simp only [List.length_cons, List.length_nil]; omega) (by decide)
      · rw [tx_one, tx_app]
        exact k _ _ (by rw [List.length_append, List.length_singleton]; omega) (kp12.trans kp3) ht3
    refine ⟨_, rfl, rfl, _, rfl, iteI (fun _ => ?_) (fun _ => ?_)⟩
    · refine ⟨_, rfl, d, rfl, fun u H3 s3 hu => ?_⟩
      exact ⟨u, d, rfl, hu, hd, fun z hz => k z _ (by omega) (kp12.trans (Kp.of s3)) (ht2.same s3)⟩
    refine ⟨_, rfl, rfl, _, rfl, iteI (fun _ => ?_) (fun _ => ?_)⟩
    · refine ⟨_, rfl, _, rfl, _, rfl, hez, _, _, rfl, rfl, t, _, rfl, ht2, (by show (0 : Int) < ((tx e).length : Nat) + 1; omega), (by show (((tx e).length : Nat) : Int) + 1 < 1073741824; rw [tx_len]; omega), fun r2 H3 h0 h3 kp3 ht3 => ?_⟩
      obtain ⟨j, rfl⟩ : ∃ j : Nat, r2 = (j : Int) := ⟨r2.toNat, by omega⟩
      refine ⟨_, rfl, _, rfl, _, rfl, _, rfl, hez, ?_⟩
      rw [cut_to]
      refine ⟨_, rfl, _, rfl, _, _, rfl, rfl, _, rfl, _, rfl, hez, ?_⟩
      dsimp only
      rw [show ((j : Nat) : Int) + 1 = ((j + 1 : Nat) : Int) from rfl, cut_from]
      have hlen : (e.take j).length + (e.drop (j + 1)).length ≤ 110 := by
        rw [List.length_take, List.length_drop]
        omega
      refine ⟨_, _, rfl, rfl, by rw [tx_len, tx_len]; exact Nat.le_trans hlen (by decide), ?_⟩
      rw [tx_app]
      exact k _ _ (by rw [List.length_append]; omega) (kp12.trans kp3) ht3
    · exact ⟨_, rfl, k e _ (by omega) kp12 ht2⟩
def spLaw (K : PySem.W.Frag) : Sp := fun vs H Q _ => ∃ (a : Addr) (ns : List Int), vs = [.ref a] ∧ SqL K H a (ns.map V.int) ∧ ∀ H', Q (.bl true) H'
theorem sc55 : FnScope ["_law_script", "_law_k", "_law_tape_here", "_law_one", "_law_other_here"] ["_law_script"] (defScope (top 55)) := ⟨rfl, rfl, rfl, by decide +kernel, rfl, by decide +kernel, by decide +kernel⟩
theorem ok_law {f : Addr} {fd : FuncData} (F : Fun K "law" "law" (top 55) f fd) (B : Bl mg) (G : Fn P w K mg base 1 "_law_tape" ["_law_script", "_law_k"] (spTape K)) (G2 : Fn P w K mg base 2 "_law_dance" ["_law_tape_here", "_law_most"] spDance)
    (G3 : Fn P w K mg base 5 "_law_other" ["_law_tape_here", "_law_dance_here"] spOther) (G4 : Fn P w K mg base 10 "_law_holds" ["_law_one", "_law_other_here"] spHolds) : FnOk P w K mg base CX0 11 f fd ["_law_script"] (spLaw K) := by
  refine F.ok sc55 (fun vs H Q E h => ?_) (fun cdv A outer s H vs Q E hr h => ?_)
  · obtain ⟨a, ns, rfl, _⟩ := h
    rfl
  · obtain ⟨a, ns, rfl, ha, k⟩ := h
    have nd := sc55.nd
    have hr1 : Room 1 _ := hr.mono (by decide)
    have hr2 : Room 2 _ := hr.mono (by decide)
    have hr5 : Room 5 _ := hr.mono (by decide)
    refine ⟨_, pss_cons (ps_for PassesOwn.never rfl (pi_range1 (by rfl) B.rng (pa_cons pe_int pa_nil)) (pg_name (i := 1) nd rfl (Or.inl rfl))
        (pss_cons (ps_set (i := 2) nd rfl (Or.inl rfl) (pe_fn G hr1 (by rfl) (pa_cons (pv 0) (pa_cons (pv 1) pa_nil)) pass0))
        (pss_cons (ps_set (i := 3) nd rfl (Or.inl rfl) (pe_fn G2 hr2 (by rfl) (pa_cons (pv 2) (pa_cons pe_int pa_nil)) pass0))
        (pss_cons (ps_set (i := 4) nd rfl (Or.inl rfl) (pe_fn G3 hr5 (by rfl) (pa_cons (pv 2) (pa_cons (pv 3) pa_nil)) pass0))
        (pss_one (ps_if (PW.pt (pw_or (pt_not (pt_val (pe_fn G4 hr (by rfl) (pa_cons (pv 3) (pa_cons (pv 4) pa_nil)) pass0))) (pw_or (pt_not (pt_val (pe_fn G4 hr (by rfl) (pa_cons (pv 4) (pa_cons (pv 3) pa_nil)) pass0)))
          (pw_or1 (pt_not (pt_val (pe_fn G4 hr (by rfl) (pa_cons (pv 3) (pa_cons (pv 3) pa_nil)) pass0))))))) (pss_one (ps_ret pe_bl)) pss_nil))))))
      (pss_one (ps_ret pe_bl)), ?_⟩
    refine ⟨6, rfl, by decide, by decide, for_range (lo := 0) (n := 6) (fun i sg H1 => Same H H1 ∧ ∃ b c d e : Option V, sg = [some (.ref a), b, c, d, e]) ⟨Same.refl _, none, none, none, none, rfl⟩ ?_ ?_⟩
    · rintro i sg H1 hi ⟨s1, b, c, d, e, rfl⟩
      have ez : (0 : Int) + (i : Nat) = (i : Nat) := Int.zero_add _
      rw [ez]
      refine ⟨_, rfl, _, rfl, a, ns, i, rfl, s1.seq ha, fun t H2 s2 t0 ht2 => ?_⟩
      refine ⟨_, rfl, t, rfl, ht2, fun one H3 h3 kp3 ht3 => ?_⟩
      refine ⟨_, rfl, _, rfl, t, one, rfl, ht3, h3, fun oth H4 h4 kp4 ht4 => ?_⟩
      have s4 : Same H1 H4 := fun b u z => kp4 _ _ (kp3 _ _ (s2 _ _ z) (ne_of_none z t0)) (ne_of_none z t0)
      refine ⟨_, rfl, _, rfl, one, oth, rfl, by omega, h4, fun H5 s5 => ⟨true, rfl, iteF ?_⟩⟩
      refine ⟨_, rfl, _, rfl, oth, one, rfl, h4, by omega, fun H6 s6 => ⟨true, rfl, iteF ?_⟩⟩
      refine ⟨_, rfl, _, rfl, one, one, rfl, by omega, by omega, fun H7 s7 => ⟨true, rfl, iteF ?_⟩⟩
      exact ⟨(((s1.trans s4).trans s5).trans s6).trans s7, _, _, _, _, rfl⟩
    · rintro sg H1 ⟨s1, b, c, d, e, rfl⟩
      exact k _
end
end RB
/-! What the top leaves, and the law over it. -/
namespace RB
open PySem L2 PyProof.Rows
theorem def_mk {K : PySem.W.Frag} {mg : Str → Option Value} {h : Heap} (X : K.In h) (G : h.Ns mainGlobals mg) {x : Str} {st : Stmt} {ps : List Str} {f : Addr} {oc : Value} {od an : Option Addr} {sl : Array (Option Value)} {kV dc pm cd ct : Value}
    (a : PySem.W.nsIn K mainGlobals x = some (some (.ref f))) (l : K.lookup f = some ⟨oc, od, .func (PySem.W.fnOf x x (defArgs st) (defBody st) (defScope st) .none kV dc pm an cd ct), sl⟩) (c : PySem.W.codeIn K cd x = true) (k : PySem.W.keepIn K (.ref f) = true)
    (hb : ∀ (kV doc pm : Value) (an : Option Addr) (cdv ct : Value) (us : List Value), us.length = ps.length → bindArgs (PySem.W.fnOf x x (defArgs st) (defBody st) (defScope st) .none kV doc pm an cdv ct) ⟨us, []⟩ = pure (ps.zip us)) : Def K mg x st ps :=
  have F := fun_mk (st := st) l c k
  ⟨f, _, F, PySem.W.mg_of X G a, F.binds hb⟩
theorem mdef_mk {K : PySem.W.Frag} {C : Addr} {m qual : Str} {st : Stmt} {ps : List Str} {f : Addr} {oc : Value} {od an : Option Addr} {sl : Array (Option Value)} {kV dc pm cd ct : Value}
    (a : PySem.W.findIn K (.ref C) m = some (some (.ref f))) (i : PySem.W.isFn K (.ref f) = true) (l : K.lookup f = some ⟨oc, od, .func (PySem.W.fnOf m qual (defArgs st) (defBody st) (defScope st) .none kV dc pm an cd ct), sl⟩) (c : PySem.W.codeIn K cd qual = true) (k : PySem.W.keepIn K (.ref f) = true)
    (hb : ∀ (kV doc pm : Value) (an : Option Addr) (cdv ct : Value) (us : List Value), us.length = ps.length → bindArgs (PySem.W.fnOf m qual (defArgs st) (defBody st) (defScope st) .none kV doc pm an cdv ct) ⟨us, []⟩ = pure (ps.zip us)) : MDef K C m qual st ps :=
  have F := fun_mk (st := st) l c k
  ⟨f, _, F, ⟨a, i, k⟩, F.binds hb⟩
theorem b7 : ∀ (kV doc pm : Value) (an : Option Addr) (cdv ct : Value) (us : List Value), us.length = (["one", "other"] : List Str).length → bindArgs (PySem.W.fnOf "common_divisor" "common_divisor" (defArgs (top 7)) (defBody (top 7)) (defScope (top 7)) .none kV doc pm an cdv ct) ⟨us, []⟩ = pure ((["one", "other"] : List Str).zip us) :=
  fun _ _ _ _ _ _ us hl => match us, hl with | [_, _], _ => rfl
theorem b8 : ∀ (kV doc pm : Value) (an : Option Addr) (cdv ct : Value) (us : List Value), us.length = (["p", "q"] : List Str).length → bindArgs (PySem.W.fnOf "fraction" "fraction" (defArgs (top 8)) (defBody (top 8)) (defScope (top 8)) .none kV doc pm an cdv ct) ⟨us, []⟩ = pure ((["p", "q"] : List Str).zip us) :=
  fun _ _ _ _ _ _ us hl => match us, hl with | [_, _], _ => rfl
theorem b9 : ∀ (kV doc pm : Value) (an : Option Addr) (cdv ct : Value) (us : List Value), us.length = (["value", "letter"] : List Str).length → bindArgs (PySem.W.fnOf "called" "called" (defArgs (top 9)) (defBody (top 9)) (defScope (top 9)) .none kV doc pm an cdv ct) ⟨us, []⟩ = pure ((["value", "letter"] : List Str).zip us) :=
  fun _ _ _ _ _ _ us hl => match us, hl with | [_, _], _ => rfl
theorem b10 : ∀ (kV doc pm : Value) (an : Option Addr) (cdv ct : Value) (us : List Value), us.length = (["value", "dance"] : List Str).length → bindArgs (PySem.W.fnOf "after" "after" (defArgs (top 10)) (defBody (top 10)) (defScope (top 10)) .none kV doc pm an cdv ct) ⟨us, []⟩ = pure ((["value", "dance"] : List Str).zip us) :=
  fun _ _ _ _ _ _ us hl => match us, hl with | [_, _], _ => rfl
theorem b12 : ∀ (kV doc pm : Value) (an : Option Addr) (cdv ct : Value) (us : List Value), us.length = (["dance"] : List Str).length → bindArgs (PySem.W.fnOf "number" "number" (defArgs (top 12)) (defBody (top 12)) (defScope (top 12)) .none kV doc pm an cdv ct) ⟨us, []⟩ = pure ((["dance"] : List Str).zip us) :=
  fun _ _ _ _ _ _ us hl => match us, hl with | [_], _ => rfl
theorem b14 : ∀ (kV doc pm : Value) (an : Option Addr) (cdv ct : Value) (us : List Value), us.length = (["dance"] : List Str).length → bindArgs (PySem.W.fnOf "diagram" "diagram" (defArgs (top 14)) (defBody (top 14)) (defScope (top 14)) .none kV doc pm an cdv ct) ⟨us, []⟩ = pure ((["dance"] : List Str).zip us) :=
  fun _ _ _ _ _ _ us hl => match us, hl with | [_], _ => rfl
theorem b15 : ∀ (kV doc pm : Value) (an : Option Addr) (cdv ct : Value) (us : List Value), us.length = (["dance", "colours"] : List Str).length → bindArgs (PySem.W.fnOf "is_colouring" "is_colouring" (defArgs (top 15)) (defBody (top 15)) (defScope (top 15)) .none kV doc pm an cdv ct) ⟨us, []⟩ = pure ((["dance", "colours"] : List Str).zip us) :=
  fun _ _ _ _ _ _ us hl => match us, hl with | [_, _], _ => rfl
theorem b16 : ∀ (kV doc pm : Value) (an : Option Addr) (cdv ct : Value) (us : List Value), us.length = (["dance", "first", "second"] : List Str).length → bindArgs (PySem.W.fnOf "colouring" "colouring" (defArgs (top 16)) (defBody (top 16)) (defScope (top 16)) .none kV doc pm an cdv ct) ⟨us, []⟩ = pure ((["dance", "first", "second"] : List Str).zip us) :=
  fun _ _ _ _ _ _ us hl => match us, hl with | [_, _, _], _ => rfl
theorem b17 : ∀ (kV doc pm : Value) (an : Option Addr) (cdv ct : Value) (us : List Value), us.length = (["dance", "colours"] : List Str).length → bindArgs (PySem.W.fnOf "reading" "reading" (defArgs (top 17)) (defBody (top 17)) (defScope (top 17)) .none kV doc pm an cdv ct) ⟨us, []⟩ = pure ((["dance", "colours"] : List Str).zip us) :=
  fun _ _ _ _ _ _ us hl => match us, hl with | [_, _], _ => rfl
theorem b21 : ∀ (kV doc pm : Value) (an : Option Addr) (cdv ct : Value) (us : List Value), us.length = (["move"] : List Str).length → bindArgs (PySem.W.fnOf "is_move" "is_move" (defArgs (top 21)) (defBody (top 21)) (defScope (top 21)) .none kV doc pm an cdv ct) ⟨us, []⟩ = pure ((["move"] : List Str).zip us) :=
  fun _ _ _ _ _ _ us hl => match us, hl with | [_], _ => rfl
theorem b22 : ∀ (kV doc pm : Value) (an : Option Addr) (cdv ct : Value) (us : List Value), us.length = (["dance", "move"] : List Str).length → bindArgs (PySem.W.fnOf "can_be_made" "can_be_made" (defArgs (top 22)) (defBody (top 22)) (defScope (top 22)) .none kV doc pm an cdv ct) ⟨us, []⟩ = pure ((["dance", "move"] : List Str).zip us) :=
  fun _ _ _ _ _ _ us hl => match us, hl with | [_, _], _ => rfl
theorem b23 : ∀ (kV doc pm : Value) (an : Option Addr) (cdv ct : Value) (us : List Value), us.length = (["dance", "move"] : List Str).length → bindArgs (PySem.W.fnOf "made" "made" (defArgs (top 23)) (defBody (top 23)) (defScope (top 23)) .none kV doc pm an cdv ct) ⟨us, []⟩ = pure ((["dance", "move"] : List Str).zip us) :=
  fun _ _ _ _ _ _ us hl => match us, hl with | [_, _], _ => rfl
theorem b24 : ∀ (kV doc pm : Value) (an : Option Addr) (cdv ct : Value) (us : List Value), us.length = (["one", "moves", "other"] : List Str).length → bindArgs (PySem.W.fnOf "leads" "leads" (defArgs (top 24)) (defBody (top 24)) (defScope (top 24)) .none kV doc pm an cdv ct) ⟨us, []⟩ = pure ((["one", "moves", "other"] : List Str).zip us) :=
  fun _ _ _ _ _ _ us hl => match us, hl with | [_, _, _], _ => rfl
theorem b25 : ∀ (kV doc pm : Value) (an : Option Addr) (cdv ct : Value) (us : List Value), us.length = (["moves"] : List Str).length → bindArgs (PySem.W.fnOf "opposite" "opposite" (defArgs (top 25)) (defBody (top 25)) (defScope (top 25)) .none kV doc pm an cdv ct) ⟨us, []⟩ = pure ((["moves"] : List Str).zip us) :=
  fun _ _ _ _ _ _ us hl => match us, hl with | [_], _ => rfl
theorem b28 : ∀ (kV doc pm : Value) (an : Option Addr) (cdv ct : Value) (us : List Value), us.length = (["dance"] : List Str).length → bindArgs (PySem.W.fnOf "to_standard" "to_standard" (defArgs (top 28)) (defBody (top 28)) (defScope (top 28)) .none kV doc pm an cdv ct) ⟨us, []⟩ = pure ((["dance"] : List Str).zip us) :=
  fun _ _ _ _ _ _ us hl => match us, hl with | [_], _ => rfl
theorem b30 : ∀ (kV doc pm : Value) (an : Option Addr) (cdv ct : Value) (us : List Value), us.length = (["one", "other"] : List Str).length → bindArgs (PySem.W.fnOf "judge" "judge" (defArgs (top 30)) (defBody (top 30)) (defScope (top 30)) .none kV doc pm an cdv ct) ⟨us, []⟩ = pure ((["one", "other"] : List Str).zip us) :=
  fun _ _ _ _ _ _ us hl => match us, hl with | [_, _], _ => rfl
theorem b31 : ∀ (kV doc pm : Value) (an : Option Addr) (cdv ct : Value) (us : List Value), us.length = (["one", "other", "paper"] : List Str).length → bindArgs (PySem.W.fnOf "accepts" "accepts" (defArgs (top 31)) (defBody (top 31)) (defScope (top 31)) .none kV doc pm an cdv ct) ⟨us, []⟩ = pure ((["one", "other", "paper"] : List Str).zip us) :=
  fun _ _ _ _ _ _ us hl => match us, hl with | [_, _, _], _ => rfl
theorem b33 : ∀ (kV doc pm : Value) (an : Option Addr) (cdv ct : Value) (us : List Value), us.length = (["_law_script", "_law_k"] : List Str).length → bindArgs (PySem.W.fnOf "_law_tape" "_law_tape" (defArgs (top 33)) (defBody (top 33)) (defScope (top 33)) .none kV doc pm an cdv ct) ⟨us, []⟩ = pure ((["_law_script", "_law_k"] : List Str).zip us) :=
  fun _ _ _ _ _ _ us hl => match us, hl with | [_, _], _ => rfl
theorem b34 : ∀ (kV doc pm : Value) (an : Option Addr) (cdv ct : Value) (us : List Value), us.length = (["_law_tape_here", "_law_many"] : List Str).length → bindArgs (PySem.W.fnOf "_law_take" "_law_take" (defArgs (top 34)) (defBody (top 34)) (defScope (top 34)) .none kV doc pm an cdv ct) ⟨us, []⟩ = pure ((["_law_tape_here", "_law_many"] : List Str).zip us) :=
  fun _ _ _ _ _ _ us hl => match us, hl with | [_, _], _ => rfl
theorem b35 : ∀ (kV doc pm : Value) (an : Option Addr) (cdv ct : Value) (us : List Value), us.length = (["_law_tape_here", "_law_most"] : List Str).length → bindArgs (PySem.W.fnOf "_law_dance" "_law_dance" (defArgs (top 35)) (defBody (top 35)) (defScope (top 35)) .none kV doc pm an cdv ct) ⟨us, []⟩ = pure ((["_law_tape_here", "_law_most"] : List Str).zip us) :=
  fun _ _ _ _ _ _ us hl => match us, hl with | [_, _], _ => rfl
theorem b36 : ∀ (kV doc pm : Value) (an : Option Addr) (cdv ct : Value) (us : List Value), us.length = (["_law_value", "_law_letter"] : List Str).length → bindArgs (PySem.W.fnOf "_law_called" "_law_called" (defArgs (top 36)) (defBody (top 36)) (defScope (top 36)) .none kV doc pm an cdv ct) ⟨us, []⟩ = pure ((["_law_value", "_law_letter"] : List Str).zip us) :=
  fun _ _ _ _ _ _ us hl => match us, hl with | [_, _], _ => rfl
theorem b37 : ∀ (kV doc pm : Value) (an : Option Addr) (cdv ct : Value) (us : List Value), us.length = (["_law_dance_here"] : List Str).length → bindArgs (PySem.W.fnOf "_law_number" "_law_number" (defArgs (top 37)) (defBody (top 37)) (defScope (top 37)) .none kV doc pm an cdv ct) ⟨us, []⟩ = pure ((["_law_dance_here"] : List Str).zip us) :=
  fun _ _ _ _ _ _ us hl => match us, hl with | [_], _ => rfl
theorem b39 : ∀ (kV doc pm : Value) (an : Option Addr) (cdv ct : Value) (us : List Value), us.length = (["_law_one", "_law_other_here"] : List Str).length → bindArgs (PySem.W.fnOf "_law_divisor" "_law_divisor" (defArgs (top 39)) (defBody (top 39)) (defScope (top 39)) .none kV doc pm an cdv ct) ⟨us, []⟩ = pure ((["_law_one", "_law_other_here"] : List Str).zip us) :=
  fun _ _ _ _ _ _ us hl => match us, hl with | [_, _], _ => rfl
theorem b40 : ∀ (kV doc pm : Value) (an : Option Addr) (cdv ct : Value) (us : List Value), us.length = (["_law_move"] : List Str).length → bindArgs (PySem.W.fnOf "_law_is_move" "_law_is_move" (defArgs (top 40)) (defBody (top 40)) (defScope (top 40)) .none kV doc pm an cdv ct) ⟨us, []⟩ = pure ((["_law_move"] : List Str).zip us) :=
  fun _ _ _ _ _ _ us hl => match us, hl with | [_], _ => rfl
theorem b41 : ∀ (kV doc pm : Value) (an : Option Addr) (cdv ct : Value) (us : List Value), us.length = (["_law_dance_here", "_law_move"] : List Str).length → bindArgs (PySem.W.fnOf "_law_made" "_law_made" (defArgs (top 41)) (defBody (top 41)) (defScope (top 41)) .none kV doc pm an cdv ct) ⟨us, []⟩ = pure ((["_law_dance_here", "_law_move"] : List Str).zip us) :=
  fun _ _ _ _ _ _ us hl => match us, hl with | [_, _], _ => rfl
theorem b42 : ∀ (kV doc pm : Value) (an : Option Addr) (cdv ct : Value) (us : List Value), us.length = (["_law_tape_here", "_law_dance_here"] : List Str).length → bindArgs (PySem.W.fnOf "_law_put" "_law_put" (defArgs (top 42)) (defBody (top 42)) (defScope (top 42)) .none kV doc pm an cdv ct) ⟨us, []⟩ = pure ((["_law_tape_here", "_law_dance_here"] : List Str).zip us) :=
  fun _ _ _ _ _ _ us hl => match us, hl with | [_, _], _ => rfl
theorem b43 : ∀ (kV doc pm : Value) (an : Option Addr) (cdv ct : Value) (us : List Value), us.length = (["_law_tape_here", "_law_dance_here"] : List Str).length → bindArgs (PySem.W.fnOf "_law_taken" "_law_taken" (defArgs (top 43)) (defBody (top 43)) (defScope (top 43)) .none kV doc pm an cdv ct) ⟨us, []⟩ = pure ((["_law_tape_here", "_law_dance_here"] : List Str).zip us) :=
  fun _ _ _ _ _ _ us hl => match us, hl with | [_, _], _ => rfl
theorem b44 : ∀ (kV doc pm : Value) (an : Option Addr) (cdv ct : Value) (us : List Value), us.length = (["_law_tape_here", "_law_dance_here", "_law_most"] : List Str).length → bindArgs (PySem.W.fnOf "_law_moves" "_law_moves" (defArgs (top 44)) (defBody (top 44)) (defScope (top 44)) .none kV doc pm an cdv ct) ⟨us, []⟩ = pure ((["_law_tape_here", "_law_dance_here", "_law_most"] : List Str).zip us) :=
  fun _ _ _ _ _ _ us hl => match us, hl with | [_, _, _], _ => rfl
theorem b45 : ∀ (kV doc pm : Value) (an : Option Addr) (cdv ct : Value) (us : List Value), us.length = (["_law_count"] : List Str).length → bindArgs (PySem.W.fnOf "_law_run" "_law_run" (defArgs (top 45)) (defBody (top 45)) (defScope (top 45)) .none kV doc pm an cdv ct) ⟨us, []⟩ = pure ((["_law_count"] : List Str).zip us) :=
  fun _ _ _ _ _ _ us hl => match us, hl with | [_], _ => rfl
theorem b46 : ∀ (kV doc pm : Value) (an : Option Addr) (cdv ct : Value) (us : List Value), us.length = (["_law_value"] : List Str).length → bindArgs (PySem.W.fnOf "_law_standard" "_law_standard" (defArgs (top 46)) (defBody (top 46)) (defScope (top 46)) .none kV doc pm an cdv ct) ⟨us, []⟩ = pure ((["_law_value"] : List Str).zip us) :=
  fun _ _ _ _ _ _ us hl => match us, hl with | [_], _ => rfl
theorem b47 : ∀ (kV doc pm : Value) (an : Option Addr) (cdv ct : Value) (us : List Value), us.length = (["_law_dance_here"] : List Str).length → bindArgs (PySem.W.fnOf "_law_diagram" "_law_diagram" (defArgs (top 47)) (defBody (top 47)) (defScope (top 47)) .none kV doc pm an cdv ct) ⟨us, []⟩ = pure ((["_law_dance_here"] : List Str).zip us) :=
  fun _ _ _ _ _ _ us hl => match us, hl with | [_], _ => rfl
theorem b48 : ∀ (kV doc pm : Value) (an : Option Addr) (cdv ct : Value) (us : List Value), us.length = (["_law_dance_here", "_law_colours"] : List Str).length → bindArgs (PySem.W.fnOf "_law_is_colouring" "_law_is_colouring" (defArgs (top 48)) (defBody (top 48)) (defScope (top 48)) .none kV doc pm an cdv ct) ⟨us, []⟩ = pure ((["_law_dance_here", "_law_colours"] : List Str).zip us) :=
  fun _ _ _ _ _ _ us hl => match us, hl with | [_, _], _ => rfl
theorem b49 : ∀ (kV doc pm : Value) (an : Option Addr) (cdv ct : Value) (us : List Value), us.length = (["_law_dance_here", "_law_colours"] : List Str).length → bindArgs (PySem.W.fnOf "_law_reading" "_law_reading" (defArgs (top 49)) (defBody (top 49)) (defScope (top 49)) .none kV doc pm an cdv ct) ⟨us, []⟩ = pure ((["_law_dance_here", "_law_colours"] : List Str).zip us) :=
  fun _ _ _ _ _ _ us hl => match us, hl with | [_, _], _ => rfl
theorem b50 : ∀ (kV doc pm : Value) (an : Option Addr) (cdv ct : Value) (us : List Value), us.length = (["_law_one", "_law_moves_here", "_law_other_here"] : List Str).length → bindArgs (PySem.W.fnOf "_law_leads" "_law_leads" (defArgs (top 50)) (defBody (top 50)) (defScope (top 50)) .none kV doc pm an cdv ct) ⟨us, []⟩ = pure ((["_law_one", "_law_moves_here", "_law_other_here"] : List Str).zip us) :=
  fun _ _ _ _ _ _ us hl => match us, hl with | [_, _, _], _ => rfl
theorem b51 : ∀ (kV doc pm : Value) (an : Option Addr) (cdv ct : Value) (us : List Value), us.length = (["_law_one", "_law_other_here", "_law_paper"] : List Str).length → bindArgs (PySem.W.fnOf "_law_accepted" "_law_accepted" (defArgs (top 51)) (defBody (top 51)) (defScope (top 51)) .none kV doc pm an cdv ct) ⟨us, []⟩ = pure ((["_law_one", "_law_other_here", "_law_paper"] : List Str).zip us) :=
  fun _ _ _ _ _ _ us hl => match us, hl with | [_, _, _], _ => rfl
theorem b52 : ∀ (kV doc pm : Value) (an : Option Addr) (cdv ct : Value) (us : List Value), us.length = (["_law_paper"] : List Str).length → bindArgs (PySem.W.fnOf "_law_formed" "_law_formed" (defArgs (top 52)) (defBody (top 52)) (defScope (top 52)) .none kV doc pm an cdv ct) ⟨us, []⟩ = pure ((["_law_paper"] : List Str).zip us) :=
  fun _ _ _ _ _ _ us hl => match us, hl with | [_], _ => rfl
theorem b53 : ∀ (kV doc pm : Value) (an : Option Addr) (cdv ct : Value) (us : List Value), us.length = (["_law_tape_here", "_law_dance_here"] : List Str).length → bindArgs (PySem.W.fnOf "_law_other" "_law_other" (defArgs (top 53)) (defBody (top 53)) (defScope (top 53)) .none kV doc pm an cdv ct) ⟨us, []⟩ = pure ((["_law_tape_here", "_law_dance_here"] : List Str).zip us) :=
  fun _ _ _ _ _ _ us hl => match us, hl with | [_, _], _ => rfl
theorem b54 : ∀ (kV doc pm : Value) (an : Option Addr) (cdv ct : Value) (us : List Value), us.length = (["_law_one", "_law_other_here"] : List Str).length → bindArgs (PySem.W.fnOf "_law_holds" "_law_holds" (defArgs (top 54)) (defBody (top 54)) (defScope (top 54)) .none kV doc pm an cdv ct) ⟨us, []⟩ = pure ((["_law_one", "_law_other_here"] : List Str).zip us) :=
  fun _ _ _ _ _ _ us hl => match us, hl with | [_, _], _ => rfl
theorem bm0 : ∀ (kV doc pm : Value) (an : Option Addr) (cdv ct : Value) (us : List Value), us.length = (["self"] : List Str).length → bindArgs (PySem.W.fnOf "__init__" "Settling.__init__" (defArgs (inClass (top 27) 0)) (defBody (inClass (top 27) 0)) (defScope (inClass (top 27) 0)) .none kV doc pm an cdv ct) ⟨us, []⟩ = pure ((["self"] : List Str).zip us) :=
  fun _ _ _ _ _ _ us hl => match us, hl with | [_], _ => rfl
theorem bm1 : ∀ (kV doc pm : Value) (an : Option Addr) (cdv ct : Value) (us : List Value), us.length = (["self", "place", "old", "new"] : List Str).length → bindArgs (PySem.W.fnOf "_make" "Settling._make" (defArgs (inClass (top 27) 1)) (defBody (inClass (top 27) 1)) (defScope (inClass (top 27) 1)) .none kV doc pm an cdv ct) ⟨us, []⟩ = pure ((["self", "place", "old", "new"] : List Str).zip us) :=
  fun _ _ _ _ _ _ us hl => match us, hl with | [_, _, _, _], _ => rfl
theorem bm2 : ∀ (kV doc pm : Value) (an : Option Addr) (cdv ct : Value) (us : List Value), us.length = (["self", "letter"] : List Str).length → bindArgs (PySem.W.fnOf "take" "Settling.take" (defArgs (inClass (top 27) 2)) (defBody (inClass (top 27) 2)) (defScope (inClass (top 27) 2)) .none kV doc pm an cdv ct) ⟨us, []⟩ = pure ((["self", "letter"] : List Str).zip us) :=
  fun _ _ _ _ _ _ us hl => match us, hl with | [_, _], _ => rfl
theorem bm3 : ∀ (kV doc pm : Value) (an : Option Addr) (cdv ct : Value) (us : List Value), us.length = (["self"] : List Str).length → bindArgs (PySem.W.fnOf "_settle_turn" "Settling._settle_turn" (defArgs (inClass (top 27) 3)) (defBody (inClass (top 27) 3)) (defScope (inClass (top 27) 3)) .none kV doc pm an cdv ct) ⟨us, []⟩ = pure ((["self"] : List Str).zip us) :=
  fun _ _ _ _ _ _ us hl => match us, hl with | [_], _ => rfl
theorem bm4 : ∀ (kV doc pm : Value) (an : Option Addr) (cdv ct : Value) (us : List Value), us.length = (["self", "count"] : List Str).length → bindArgs (PySem.W.fnOf "_settle_untwists" "Settling._settle_untwists" (defArgs (inClass (top 27) 4)) (defBody (inClass (top 27) 4)) (defScope (inClass (top 27) 4)) .none kV doc pm an cdv ct) ⟨us, []⟩ = pure ((["self", "count"] : List Str).zip us) :=
  fun _ _ _ _ _ _ us hl => match us, hl with | [_, _], _ => rfl
theorem bm5 : ∀ (kV doc pm : Value) (an : Option Addr) (cdv ct : Value) (us : List Value), us.length = (["self", "place"] : List Str).length → bindArgs (PySem.W.fnOf "_settle_single_twist" "Settling._settle_single_twist" (defArgs (inClass (top 27) 5)) (defBody (inClass (top 27) 5)) (defScope (inClass (top 27) 5)) .none kV doc pm an cdv ct) ⟨us, []⟩ = pure ((["self", "place"] : List Str).zip us) :=
  fun _ _ _ _ _ _ us hl => match us, hl with | [_, _], _ => rfl
theorem law_fn {P : Program} {w : World} {K : PySem.W.Frag} {mg : Str → Option Value} {base : Heap} {f C fI : Addr} {fd fdI : FuncData} (F : Fun K "law" "law" (top 55) f fd) (B : Bl mg) (Cs : Cn K mg) (T : Sg K mg C) (M : Mk K C fI) (FI : Fun K "__init__" "Settling.__init__" (inClass (top 27) 0) fI fdI) (bI : Binds K fdI ["self"] [])
    (D7 : Def K mg "common_divisor" (top 7) ["one", "other"])
    (D8 : Def K mg "fraction" (top 8) ["p", "q"])
    (D9 : Def K mg "called" (top 9) ["value", "letter"])
    (D10 : Def K mg "after" (top 10) ["value", "dance"])
    (D12 : Def K mg "number" (top 12) ["dance"])
    (D14 : Def K mg "diagram" (top 14) ["dance"])
    (D15 : Def K mg "is_colouring" (top 15) ["dance", "colours"])
    (D16 : Def K mg "colouring" (top 16) ["dance", "first", "second"])
    (D17 : Def K mg "reading" (top 17) ["dance", "colours"])
    (D21 : Def K mg "is_move" (top 21) ["move"])
    (D22 : Def K mg "can_be_made" (top 22) ["dance", "move"])
    (D23 : Def K mg "made" (top 23) ["dance", "move"])
    (D24 : Def K mg "leads" (top 24) ["one", "moves", "other"])
    (D25 : Def K mg "opposite" (top 25) ["moves"])
    (D28 : Def K mg "to_standard" (top 28) ["dance"])
    (D30 : Def K mg "judge" (top 30) ["one", "other"])
    (D31 : Def K mg "accepts" (top 31) ["one", "other", "paper"])
    (D33 : Def K mg "_law_tape" (top 33) ["_law_script", "_law_k"])
    (D34 : Def K mg "_law_take" (top 34) ["_law_tape_here", "_law_many"])
    (D35 : Def K mg "_law_dance" (top 35) ["_law_tape_here", "_law_most"])
    (D36 : Def K mg "_law_called" (top 36) ["_law_value", "_law_letter"])
    (D37 : Def K mg "_law_number" (top 37) ["_law_dance_here"])
    (D39 : Def K mg "_law_divisor" (top 39) ["_law_one", "_law_other_here"])
    (D40 : Def K mg "_law_is_move" (top 40) ["_law_move"])
    (D41 : Def K mg "_law_made" (top 41) ["_law_dance_here", "_law_move"])
    (D42 : Def K mg "_law_put" (top 42) ["_law_tape_here", "_law_dance_here"])
    (D43 : Def K mg "_law_taken" (top 43) ["_law_tape_here", "_law_dance_here"])
    (D44 : Def K mg "_law_moves" (top 44) ["_law_tape_here", "_law_dance_here", "_law_most"])
    (D45 : Def K mg "_law_run" (top 45) ["_law_count"])
    (D46 : Def K mg "_law_standard" (top 46) ["_law_value"])
    (D47 : Def K mg "_law_diagram" (top 47) ["_law_dance_here"])
    (D48 : Def K mg "_law_is_colouring" (top 48) ["_law_dance_here", "_law_colours"])
    (D49 : Def K mg "_law_reading" (top 49) ["_law_dance_here", "_law_colours"])
    (D50 : Def K mg "_law_leads" (top 50) ["_law_one", "_law_moves_here", "_law_other_here"])
    (D51 : Def K mg "_law_accepted" (top 51) ["_law_one", "_law_other_here", "_law_paper"])
    (D52 : Def K mg "_law_formed" (top 52) ["_law_paper"])
    (D53 : Def K mg "_law_other" (top 53) ["_law_tape_here", "_law_dance_here"])
    (D54 : Def K mg "_law_holds" (top 54) ["_law_one", "_law_other_here"])
    (E1 : MDef K C "_make" "Settling._make" (inClass (top 27) 1) ["self", "place", "old", "new"])
    (E2 : MDef K C "take" "Settling.take" (inClass (top 27) 2) ["self", "letter"])
    (E3 : MDef K C "_settle_turn" "Settling._settle_turn" (inClass (top 27) 3) ["self"])
    (E4 : MDef K C "_settle_untwists" "Settling._settle_untwists" (inClass (top 27) 4) ["self", "count"])
    (E5 : MDef K C "_settle_single_twist" "Settling._settle_single_twist" (inClass (top 27) 5) ["self", "place"])
    : FnOk P w K mg base CX0 11 f fd ["_law_script"] (spLaw K) := by
  have G7 : Fn P w K mg base _ _ _ _ := ok_divisor D7 B
  have G8 : Fn P w K mg base _ _ _ _ := ok_fraction D8 G7
  have G9 : Fn P w K mg base _ _ _ _ := ok_called D9 Cs
  have G10 : Fn P w K mg base _ _ _ _ := ok_after D10 G9
  have G12 : Fn P w K mg base _ _ _ _ := ok_number D12 Cs G10
  have G14 : Fn P w K mg base _ _ _ _ := ok_diagram D14
  have G15 : Fn P w K mg base _ _ _ _ := ok_isCol D15 B G14
  have G16 : Fn P w K mg base _ _ _ _ := ok_colouring D16 G14
  have G17 : Fn P w K mg base _ _ _ _ := ok_reading D17 B G14 G15 G8
  have G21 : Fn P w K mg base _ _ _ _ := ok_isMove D21 Cs
  have G22 : Fn P w K mg base _ _ _ _ := ok_canBe D22 B G21
  have G23 : Fn P w K mg base _ _ _ _ := ok_made D23 B G22
  have G24 : Fn P w K mg base _ _ _ _ := ok_leads D24 G22 G23
  have G25 : Fn P w K mg base _ _ _ _ := ok_opposite D25 B
  have GI : FnOk P w K mg base CX0 1 fI fdI ["self"] (spInit C) := ok_init FI T
  have M1 : MFn P w K mg base C _ _ _ _ := ok_make E1 T G23
  have M4 : MFn P w K mg base C _ _ _ _ := ok_unt E4 B T M1
  have M5 : MFn P w K mg base C _ _ _ _ := ok_sing E5 T M1
  have M3 : MFn P w K mg base C _ _ _ _ := ok_turn E3 B T M1 M4 M5
  have M2 : MFn P w K mg base C _ _ _ _ := ok_take E2 B T M1 M3
  have G28 : Fn P w K mg base _ _ _ _ := ok_toStd D28 B T M GI bI M2
  have G30 : Fn P w K mg base _ _ _ _ := ok_judge D30 G12 G28 G25 G16
  have G31 : Fn P w K mg base _ _ _ _ := ok_accepts D31 G24 G17
  have G33 : Fn P w K mg base _ _ _ _ := ok_tape D33 B
  have G34 : Fn P w K mg base _ _ _ _ := ok_tk D34 B
  have G35 : Fn P w K mg base _ _ _ _ := ok_dance D35 B G34
  have G36 : Fn P w K mg base _ _ _ _ := ok_lcalled D36
  have G37 : Fn P w K mg base _ _ _ _ := ok_lnumber D37 G36
  have G39 : Fn P w K mg base _ _ _ _ := ok_ldivisor D39 B
  have G40 : Fn P w K mg base _ _ _ _ := ok_lisMove D40
  have G41 : Fn P w K mg base _ _ _ _ := ok_lmade D41 B G40
  have G42 : Fn P w K mg base _ _ _ _ := ok_put D42 B G34
  have G43 : Fn P w K mg base _ _ _ _ := ok_taken D43 B G34 G42
  have G44 : Fn P w K mg base _ _ _ _ := ok_moves D44 B G34 G42 G43 G41
  have G45 : Fn P w K mg base _ _ _ _ := ok_run D45
  have G46 : Fn P w K mg base _ _ _ _ := ok_standard D46 G45
  have G47 : Fn P w K mg base _ _ _ _ := ok_ldiagram D47
  have G48 : Fn P w K mg base _ _ _ _ := ok_lisCol D48 B G47
  have G49 : Fn P w K mg base _ _ _ _ := ok_lreading D49 B G47 G48 G39
  have G50 : Fn P w K mg base _ _ _ _ := ok_lleads D50 G41
  have G51 : Fn P w K mg base _ _ _ _ := ok_laccepted D51 G50 G49
  have G52 : Fn P w K mg base _ _ _ _ := ok_formed D52 B
  have G53 : Fn P w K mg base _ _ _ _ := ok_other D53 B G34 G35 G44 G46 G37
  have G54 : Fn P w K mg base _ _ _ _ := ok_holds D54 G30 G52 G51 G37 G31
  exact ok_law F B G33 G35 G53 G54
theorem bl_mk {K : PySem.W.Frag} {mg : Str → Option Value} {h : Heap} (X : K.In h) (G : h.Ns mainGlobals mg)
    (z_abs : PySem.W.nsIn K mainGlobals "abs" = some none)
    (z_len : PySem.W.nsIn K mainGlobals "len" = some none)
    (z_set : PySem.W.nsIn K mainGlobals "set" = some none)
    (z_rng : PySem.W.nsIn K mainGlobals "range" = some none)
    (z_rev : PySem.W.nsIn K mainGlobals "reversed" = some none)
    (z_isi : PySem.W.nsIn K mainGlobals "isinstance" = some none)
    (z_int : PySem.W.nsIn K mainGlobals "int" = some none)
    (z_str : PySem.W.nsIn K mainGlobals "str" = some none)
    (z_bool : PySem.W.nsIn K mainGlobals "bool" = some none)
    (z_lst : PySem.W.nsIn K mainGlobals "list" = some none)
    (z_tup : PySem.W.nsIn K mainGlobals "tuple" = some none)
    : Bl mg := ⟨PySem.W.mg_none_of X G z_abs, PySem.W.mg_none_of X G z_len, PySem.W.mg_none_of X G z_set, PySem.W.mg_none_of X G z_rng, PySem.W.mg_none_of X G z_rev, PySem.W.mg_none_of X G z_isi, PySem.W.mg_none_of X G z_int, PySem.W.mg_none_of X G z_str, PySem.W.mg_none_of X G z_bool, PySem.W.mg_none_of X G z_lst, PySem.W.mg_none_of X G z_tup⟩
theorem tup_mk {K : PySem.W.Frag} {a : Addr} {od : Option Addr} {its : Array Value} {n : Nat} {sl : Array (Option Value)} {xs : List V} (l : K.lookup a = some ⟨.type "tuple", od, .seq its n, sl⟩) (hz : its.size ≤ sizeLine) (v : Vals xs its.toList) : ∀ H, SqT K H a xs :=
  fun _ => .inr ⟨_, its, n, l, rfl, rfl, hz, v⟩
theorem two_mk {i j : Int} {t u : Tok} : Vals [.int i, .int j] (#[Value.int i t, Value.int j u] : Array Value).toList := .cons ⟨t, rfl⟩ (.cons ⟨u, rfl⟩ .nil)
theorem four_mk {a b c d : Str} {a' b' c' d' : Dn} {t u x y : Tok} (ea : a = tx a') (eb : b = tx b') (ec : c = tx c') (ed : d = tx d') : Vals [.str (tx a'), .str (tx b'), .str (tx c'), .str (tx d')] (#[Value.str a t, Value.str b u, Value.str c x, Value.str d y] : Array Value).toList := by
  subst ea
  subst eb
  subst ec
  subst ed
  exact .cons ⟨t, rfl⟩ (.cons ⟨u, rfl⟩ (.cons ⟨x, rfl⟩ (.cons ⟨y, rfl⟩ .nil)))
theorem cn_mk {K : PySem.W.Frag} {mg : Str → Option Value} {h : Heap} (X : K.In h) (G : h.Ns mainGlobals mg) {aZ aI aA : Addr} {dZ dI dA : Option Addr} {nZ nI nA : Nat} {sZ sI sA : Array (Option Value)} {t1 t2 t3 t4 t5 t6 t7 t8 t9 : Tok} {w1 w2 w3 w4 w5 : Str}
    (gZ : PySem.W.nsIn K mainGlobals "ZERO" = some (some (.ref aZ))) (lZ : K.lookup aZ = some ⟨.type "tuple", dZ, .seq #[.int 0 t1, .int 1 t2] nZ, sZ⟩)
    (gI : PySem.W.nsIn K mainGlobals "INFINITE" = some (some (.ref aI))) (lI : K.lookup aI = some ⟨.type "tuple", dI, .seq #[.int 1 t3, .int 0 t4] nI, sI⟩)
    (gA : PySem.W.nsIn K mainGlobals "ANYWHERE" = some (some (.ref aA))) (lA : K.lookup aA = some ⟨.type "tuple", dA, .seq #[.str w1 t5, .str w2 t6, .str w3 t7, .str w4 t8] nA, sA⟩)
    (gB : PySem.W.nsIn K mainGlobals "AT_THE_BEGINNING" = some (some (.str w5 t9)))
    (e1 : w1 = tx [.T, .U]) (e2 : w2 = tx [.U, .T]) (e3 : w3 = tx [.R, .R]) (e4 : w4 = tx RM.w6) (e5 : w5 = tx [.R, .T, .R]) : Cn K mg :=
  ⟨⟨aZ, PySem.W.mg_of X G gZ, tup_mk lZ (by show 2 ≤ sizeLine; decide) two_mk⟩, ⟨aI, PySem.W.mg_of X G gI, tup_mk lI (by show 2 ≤ sizeLine; decide) two_mk⟩,
   ⟨aA, PySem.W.mg_of X G gA, tup_mk lA (by show 4 ≤ sizeLine; decide) (four_mk e1 e2 e3 e4)⟩, ⟨t9, by rw [← e5]; exact PySem.W.mg_of X G gB⟩⟩
theorem all_mk {l : PySem.W.OpenLaw} {w : World} {K : PySem.W.Frag} {h : Heap} {mg : Str → Option Value} {fa fL C f0 : Addr} (X : K.In h) (G : h.Ns mainGlobals mg) (hfa : mg "law" = some (.ref fa))
    {oL kL dL pL cdL tL : Value} {odL anL : Option Addr} {sL : Array (Option Value)} {oc0 kV0 dc0 pm0 cd0 ct0 : Value} {od0 an0 : Option Addr} {sl0 : Array (Option Value)}
    (aL : PySem.W.nsIn K mainGlobals "law" = some (some (.ref fL))) (lL : K.lookup fL = some ⟨oL, odL, .func (PySem.W.fnOf "law" "law" (defArgs (top 55)) (defBody (top 55)) (defScope (top 55)) .none kL dL pL anL cdL tL), sL⟩)
    (cL : PySem.W.codeIn K cdL "law" = true) (kpL : PySem.W.keepIn K (.ref fL) = true)
    (aC : PySem.W.nsIn K mainGlobals "Settling" = some (some (.ref C))) (pg : PySem.W.plainGet K C Str.empty = true) (hd : PySem.W.hasDictIn K C = true) (po : PySem.W.plainOver K C = true)
    (sa : PySem.W.findIn K (.ref C) "__setattr__" = some (some (.builtin "object.__setattr__"))) (mk : PySem.W.makesIn K C = true) (kc : PySem.W.keepIn K (.ref C) = true)
    (nD : PySem.W.findIn K (.ref C) "dance" = some none) (nM : PySem.W.findIn K (.ref C) "moves" = some none)
    (a0 : PySem.W.findIn K (.ref C) "__init__" = some (some (.ref f0))) (i0 : PySem.W.isFn K (.ref f0) = true)
    (l0 : K.lookup f0 = some ⟨oc0, od0, .func (PySem.W.fnOf "__init__" "Settling.__init__" (defArgs (inClass (top 27) 0)) (defBody (inClass (top 27) 0)) (defScope (inClass (top 27) 0)) .none kV0 dc0 pm0 an0 cd0 ct0), sl0⟩)
    (c0 : PySem.W.codeIn K cd0 "Settling.__init__" = true) (k0 : PySem.W.keepIn K (.ref f0) = true) (B : Bl mg) (Cs : Cn K mg)
    (D7 : Def K mg "common_divisor" (top 7) ["one", "other"])
    (D8 : Def K mg "fraction" (top 8) ["p", "q"])
    (D9 : Def K mg "called" (top 9) ["value", "letter"])
    (D10 : Def K mg "after" (top 10) ["value", "dance"])
    (D12 : Def K mg "number" (top 12) ["dance"])
    (D14 : Def K mg "diagram" (top 14) ["dance"])
    (D15 : Def K mg "is_colouring" (top 15) ["dance", "colours"])
    (D16 : Def K mg "colouring" (top 16) ["dance", "first", "second"])
    (D17 : Def K mg "reading" (top 17) ["dance", "colours"])
    (D21 : Def K mg "is_move" (top 21) ["move"])
    (D22 : Def K mg "can_be_made" (top 22) ["dance", "move"])
    (D23 : Def K mg "made" (top 23) ["dance", "move"])
    (D24 : Def K mg "leads" (top 24) ["one", "moves", "other"])
    (D25 : Def K mg "opposite" (top 25) ["moves"])
    (D28 : Def K mg "to_standard" (top 28) ["dance"])
    (D30 : Def K mg "judge" (top 30) ["one", "other"])
    (D31 : Def K mg "accepts" (top 31) ["one", "other", "paper"])
    (D33 : Def K mg "_law_tape" (top 33) ["_law_script", "_law_k"])
    (D34 : Def K mg "_law_take" (top 34) ["_law_tape_here", "_law_many"])
    (D35 : Def K mg "_law_dance" (top 35) ["_law_tape_here", "_law_most"])
    (D36 : Def K mg "_law_called" (top 36) ["_law_value", "_law_letter"])
    (D37 : Def K mg "_law_number" (top 37) ["_law_dance_here"])
    (D39 : Def K mg "_law_divisor" (top 39) ["_law_one", "_law_other_here"])
    (D40 : Def K mg "_law_is_move" (top 40) ["_law_move"])
    (D41 : Def K mg "_law_made" (top 41) ["_law_dance_here", "_law_move"])
    (D42 : Def K mg "_law_put" (top 42) ["_law_tape_here", "_law_dance_here"])
    (D43 : Def K mg "_law_taken" (top 43) ["_law_tape_here", "_law_dance_here"])
    (D44 : Def K mg "_law_moves" (top 44) ["_law_tape_here", "_law_dance_here", "_law_most"])
    (D45 : Def K mg "_law_run" (top 45) ["_law_count"])
    (D46 : Def K mg "_law_standard" (top 46) ["_law_value"])
    (D47 : Def K mg "_law_diagram" (top 47) ["_law_dance_here"])
    (D48 : Def K mg "_law_is_colouring" (top 48) ["_law_dance_here", "_law_colours"])
    (D49 : Def K mg "_law_reading" (top 49) ["_law_dance_here", "_law_colours"])
    (D50 : Def K mg "_law_leads" (top 50) ["_law_one", "_law_moves_here", "_law_other_here"])
    (D51 : Def K mg "_law_accepted" (top 51) ["_law_one", "_law_other_here", "_law_paper"])
    (D52 : Def K mg "_law_formed" (top 52) ["_law_paper"])
    (D53 : Def K mg "_law_other" (top 53) ["_law_tape_here", "_law_dance_here"])
    (D54 : Def K mg "_law_holds" (top 54) ["_law_one", "_law_other_here"])
    (E1 : MDef K C "_make" "Settling._make" (inClass (top 27) 1) ["self", "place", "old", "new"])
    (E2 : MDef K C "take" "Settling.take" (inClass (top 27) 2) ["self", "letter"])
    (E3 : MDef K C "_settle_turn" "Settling._settle_turn" (inClass (top 27) 3) ["self"])
    (E4 : MDef K C "_settle_untwists" "Settling._settle_untwists" (inClass (top 27) 4) ["self", "count"])
    (E5 : MDef K C "_settle_single_twist" "Settling._settle_single_twist" (inClass (top 27) 5) ["self", "place"])
    : ∃ fd : FuncData, (∀ (s : Shared) (v : Value), BindsTo s fd ⟨[v], []⟩ [("_law_script", v)]) ∧ ∀ base : Heap, K.In base → base.Ns mainGlobals mg → FnOk l.prog w K mg base CX0 11 fa fd ["_law_script"] (spLaw K) := by
  have e := hfa.symm.trans (PySem.W.mg_of X G aL)
  cases e
  have F := fun_mk (st := top 55) lL cL kpL
  have F0 := fun_mk (st := inClass (top 27) 0) l0 c0 k0
  exact ⟨_, fun s v => .of_eq rfl, fun base _ _ => law_fn F B Cs ⟨⟨pg, hd, po, sa⟩, nD, nM, PySem.W.mg_of X G aC⟩ ⟨mk, a0, i0, kc⟩ F0 (F0.binds bm0) D7 D8 D9 D10 D12 D14 D15 D16 D17 D21 D22 D23 D24 D25 D28 D30 D31 D33 D34 D35 D36 D37 D39 D40 D41 D42 D43 D44 D45 D46 D47 D48 D49 D50 D51 D52 D53 D54 E1 E2 E3 E4 E5⟩
theorem walk {l : PySem.W.OpenLaw} {q : Program} {loose : List Str} {XP : (Str → Option Value) → Heap → Prop} {YP : World → Heap → Prop} {d : DefRec} {K : Params → PySem.W.Frag} (hn : l.most = some 63) (hdf : d.params.defaults = [])
    (hY : ∀ (w : World) (h : Heap), YP w h → (K w.params).In h)
    (F : ∀ (w : World) (mg : Str → Option Value) (fa : Addr) (h : Heap), (K w.params).In h → h.Ns mainGlobals mg → mg d.name = some (.ref fa) →
      ∃ fd : FuncData, (∀ (s : Shared) (u : Value), BindsTo s fd ⟨[u], []⟩ [("_law_script", u)]) ∧ ∀ base : Heap, (K w.params).In base → base.Ns mainGlobals mg → FnOk l.prog w (K w.params) mg base CX0 11 fa fd ["_law_script"] (spLaw (K w.params))) :
    PySem.W.WalkO q loose XP YP l.row.toRowW d [] (fun f vs => PySem.call f vs) :=
  L2.walk_of (n := 63) (k := 11) (x := "_law_script") (CX := fun _ => CX0) (sp := fun w => spLaw (K w.params)) hn (by decide) hdf ⟨rfl, by decide, by decide⟩ hY F (fun _ _ a ns _ _ hS => ⟨a, ns, rfl, hS, fun _ => rfl⟩) fun _ _ _ _ _ z => z
end RB
open PySem PySem.W PyProof.Rows
set_option maxRecDepth 100000 in
set_option maxHeartbeats 0 in
theorem PySem.Challenge.cw_ropedance_k14_whole_judge_holds : PySem.Challenge.rw_ropedance_k14_whole_judge.Holds := by
  w_on; o_law; k_head; (case hw => w_witness2)
  k_fill
  refine RB.walk (l := PySem.Challenge.rw_ropedance_k14_whole_judge) rfl rfl (fun w h Y => PySem.W.kIn_of Y) ?F
  case F =>
    intro w mg fa h KX G hmg
    refine' RB.all_mk KX G hmg ?aL ?lL ?cL ?kpL ?aC ?pg ?hd ?po ?sa ?mk ?kc ?nD ?nM ?a0 ?i0 ?l0 ?c0 ?k0 (RB.bl_mk KX G ?z_abs ?z_len ?z_set ?z_rng ?z_rev ?z_isi ?z_int ?z_str ?z_bool ?z_lst ?z_tup) (RB.cn_mk KX G ?gZ ?lZ ?gI ?lI ?gA ?lA ?gB ?e1 ?e2 ?e3 ?e4 ?e5)
      (RB.def_mk KX G ?a_7 ?l_7 ?c_7 ?k_7 RB.b7)
      (RB.def_mk KX G ?a_8 ?l_8 ?c_8 ?k_8 RB.b8)
      (RB.def_mk KX G ?a_9 ?l_9 ?c_9 ?k_9 RB.b9)
      (RB.def_mk KX G ?a_10 ?l_10 ?c_10 ?k_10 RB.b10)
      (RB.def_mk KX G ?a_12 ?l_12 ?c_12 ?k_12 RB.b12)
      (RB.def_mk KX G ?a_14 ?l_14 ?c_14 ?k_14 RB.b14)
      (RB.def_mk KX G ?a_15 ?l_15 ?c_15 ?k_15 RB.b15)
      (RB.def_mk KX G ?a_16 ?l_16 ?c_16 ?k_16 RB.b16)
      (RB.def_mk KX G ?a_17 ?l_17 ?c_17 ?k_17 RB.b17)
      (RB.def_mk KX G ?a_21 ?l_21 ?c_21 ?k_21 RB.b21)
      (RB.def_mk KX G ?a_22 ?l_22 ?c_22 ?k_22 RB.b22)
      (RB.def_mk KX G ?a_23 ?l_23 ?c_23 ?k_23 RB.b23)
      (RB.def_mk KX G ?a_24 ?l_24 ?c_24 ?k_24 RB.b24)
      (RB.def_mk KX G ?a_25 ?l_25 ?c_25 ?k_25 RB.b25)
      (RB.def_mk KX G ?a_28 ?l_28 ?c_28 ?k_28 RB.b28)
      (RB.def_mk KX G ?a_30 ?l_30 ?c_30 ?k_30 RB.b30)
      (RB.def_mk KX G ?a_31 ?l_31 ?c_31 ?k_31 RB.b31)
      (RB.def_mk KX G ?a_33 ?l_33 ?c_33 ?k_33 RB.b33)
      (RB.def_mk KX G ?a_34 ?l_34 ?c_34 ?k_34 RB.b34)
      (RB.def_mk KX G ?a_35 ?l_35 ?c_35 ?k_35 RB.b35)
      (RB.def_mk KX G ?a_36 ?l_36 ?c_36 ?k_36 RB.b36)
      (RB.def_mk KX G ?a_37 ?l_37 ?c_37 ?k_37 RB.b37)
      (RB.def_mk KX G ?a_39 ?l_39 ?c_39 ?k_39 RB.b39)
      (RB.def_mk KX G ?a_40 ?l_40 ?c_40 ?k_40 RB.b40)
      (RB.def_mk KX G ?a_41 ?l_41 ?c_41 ?k_41 RB.b41)
      (RB.def_mk KX G ?a_42 ?l_42 ?c_42 ?k_42 RB.b42)
      (RB.def_mk KX G ?a_43 ?l_43 ?c_43 ?k_43 RB.b43)
      (RB.def_mk KX G ?a_44 ?l_44 ?c_44 ?k_44 RB.b44)
      (RB.def_mk KX G ?a_45 ?l_45 ?c_45 ?k_45 RB.b45)
      (RB.def_mk KX G ?a_46 ?l_46 ?c_46 ?k_46 RB.b46)
      (RB.def_mk KX G ?a_47 ?l_47 ?c_47 ?k_47 RB.b47)
      (RB.def_mk KX G ?a_48 ?l_48 ?c_48 ?k_48 RB.b48)
      (RB.def_mk KX G ?a_49 ?l_49 ?c_49 ?k_49 RB.b49)
      (RB.def_mk KX G ?a_50 ?l_50 ?c_50 ?k_50 RB.b50)
      (RB.def_mk KX G ?a_51 ?l_51 ?c_51 ?k_51 RB.b51)
      (RB.def_mk KX G ?a_52 ?l_52 ?c_52 ?k_52 RB.b52)
      (RB.def_mk KX G ?a_53 ?l_53 ?c_53 ?k_53 RB.b53)
      (RB.def_mk KX G ?a_54 ?l_54 ?c_54 ?k_54 RB.b54)
      (RB.mdef_mk ?a_m1 ?i_m1 ?l_m1 ?c_m1 ?k_m1 RB.bm1)
      (RB.mdef_mk ?a_m2 ?i_m2 ?l_m2 ?c_m2 ?k_m2 RB.bm2)
      (RB.mdef_mk ?a_m3 ?i_m3 ?l_m3 ?c_m3 ?k_m3 RB.bm3)
      (RB.mdef_mk ?a_m4 ?i_m4 ?l_m4 ?c_m4 ?k_m4 RB.bm4)
      (RB.mdef_mk ?a_m5 ?i_m5 ?l_m5 ?c_m5 ?k_m5 RB.bm5)
    (case aL => k_is)
    (case lL => k_is)
    (case cL => k_is)
    (case kpL => k_is)
    (case aC => k_is)
    (case pg => k_is)
    (case hd => k_is)
    (case po => k_is)
    (case sa => k_is)
    (case mk => k_is)
    (case kc => k_is)
    (case nD => k_is)
    (case nM => k_is)
    (case a0 => k_is)
    (case i0 => k_is)
    (case l0 => k_is)
    (case c0 => k_is)
    (case k0 => k_is)
    (case z_abs => k_is)
    (case z_len => k_is)
    (case z_set => k_is)
    (case z_rng => k_is)
    (case z_rev => k_is)
    (case z_isi => k_is)
    (case z_int => k_is)
    (case z_str => k_is)
    (case z_bool => k_is)
    (case z_lst => k_is)
    (case z_tup => k_is)
    (case gZ => k_is)
    (case lZ => k_is)
    (case gI => k_is)
    (case lI => k_is)
    (case gA => k_is)
    (case lA => k_is)
    (case gB => k_is)
    (case a_7 => k_is)
    (case l_7 => k_is)
    (case c_7 => k_is)
    (case k_7 => k_is)
    (case a_8 => k_is)
    (case l_8 => k_is)
    (case c_8 => k_is)
    (case k_8 => k_is)
    (case a_9 => k_is)
    (case l_9 => k_is)
    (case c_9 => k_is)
    (case k_9 => k_is)
    (case a_10 => k_is)
    (case l_10 => k_is)
    (case c_10 => k_is)
    (case k_10 => k_is)
    (case a_12 => k_is)
    (case l_12 => k_is)
    (case c_12 => k_is)
    (case k_12 => k_is)
    (case a_14 => k_is)
    (case l_14 => k_is)
    (case c_14 => k_is)
    (case k_14 => k_is)
    (case a_15 => k_is)
    (case l_15 => k_is)
    (case c_15 => k_is)
    (case k_15 => k_is)
    (case a_16 => k_is)
    (case l_16 => k_is)
    (case c_16 => k_is)
    (case k_16 => k_is)
    (case a_17 => k_is)
    (case l_17 => k_is)
    (case c_17 => k_is)
    (case k_17 => k_is)
    (case a_21 => k_is)
    (case l_21 => k_is)
    (case c_21 => k_is)
    (case k_21 => k_is)
    (case a_22 => k_is)
    (case l_22 => k_is)
    (case c_22 => k_is)
    (case k_22 => k_is)
    (case a_23 => k_is)
    (case l_23 => k_is)
    (case c_23 => k_is)
    (case k_23 => k_is)
    (case a_24 => k_is)
    (case l_24 => k_is)
    (case c_24 => k_is)
    (case k_24 => k_is)
    (case a_25 => k_is)
    (case l_25 => k_is)
    (case c_25 => k_is)
    (case k_25 => k_is)
    (case a_28 => k_is)
    (case l_28 => k_is)
    (case c_28 => k_is)
    (case k_28 => k_is)
    (case a_30 => k_is)
    (case l_30 => k_is)
    (case c_30 => k_is)
    (case k_30 => k_is)
    (case a_31 => k_is)
    (case l_31 => k_is)
    (case c_31 => k_is)
    (case k_31 => k_is)
    (case a_33 => k_is)
    (case l_33 => k_is)
    (case c_33 => k_is)
    (case k_33 => k_is)
    (case a_34 => k_is)
    (case l_34 => k_is)
    (case c_34 => k_is)
    (case k_34 => k_is)
    (case a_35 => k_is)
    (case l_35 => k_is)
    (case c_35 => k_is)
    (case k_35 => k_is)
    (case a_36 => k_is)
    (case l_36 => k_is)
    (case c_36 => k_is)
    (case k_36 => k_is)
    (case a_37 => k_is)
    (case l_37 => k_is)
    (case c_37 => k_is)
    (case k_37 => k_is)
    (case a_39 => k_is)
    (case l_39 => k_is)
    (case c_39 => k_is)
    (case k_39 => k_is)
    (case a_40 => k_is)
    (case l_40 => k_is)
    (case c_40 => k_is)
    (case k_40 => k_is)
    (case a_41 => k_is)
    (case l_41 => k_is)
    (case c_41 => k_is)
    (case k_41 => k_is)
    (case a_42 => k_is)
    (case l_42 => k_is)
    (case c_42 => k_is)
    (case k_42 => k_is)
    (case a_43 => k_is)
    (case l_43 => k_is)
    (case c_43 => k_is)
    (case k_43 => k_is)
    (case a_44 => k_is)
    (case l_44 => k_is)
    (case c_44 => k_is)
    (case k_44 => k_is)
    (case a_45 => k_is)
    (case l_45 => k_is)
    (case c_45 => k_is)
    (case k_45 => k_is)
    (case a_46 => k_is)
    (case l_46 => k_is)
    (case c_46 => k_is)
    (case k_46 => k_is)
    (case a_47 => k_is)
    (case l_47 => k_is)
    (case c_47 => k_is)
    (case k_47 => k_is)
    (case a_48 => k_is)
    (case l_48 => k_is)
    (case c_48 => k_is)
    (case k_48 => k_is)
    (case a_49 => k_is)
    (case l_49 => k_is)
    (case c_49 => k_is)
    (case k_49 => k_is)
    (case a_50 => k_is)
    (case l_50 => k_is)
    (case c_50 => k_is)
    (case k_50 => k_is)
    (case a_51 => k_is)
    (case l_51 => k_is)
    (case c_51 => k_is)
    (case k_51 => k_is)
    (case a_52 => k_is)
    (case l_52 => k_is)
    (case c_52 => k_is)
    (case k_52 => k_is)
    (case a_53 => k_is)
    (case l_53 => k_is)
    (case c_53 => k_is)
    (case k_53 => k_is)
    (case a_54 => k_is)
    (case l_54 => k_is)
    (case c_54 => k_is)
    (case k_54 => k_is)
    (case a_m1 => k_is)
    (case i_m1 => k_is)
    (case l_m1 => k_is)
    (case c_m1 => k_is)
    (case k_m1 => k_is)
    (case a_m2 => k_is)
    (case i_m2 => k_is)
    (case l_m2 => k_is)
    (case c_m2 => k_is)
    (case k_m2 => k_is)
    (case a_m3 => k_is)
    (case i_m3 => k_is)
    (case l_m3 => k_is)
    (case c_m3 => k_is)
    (case k_m3 => k_is)
    (case a_m4 => k_is)
    (case i_m4 => k_is)
    (case l_m4 => k_is)
    (case c_m4 => k_is)
    (case k_m4 => k_is)
    (case a_m5 => k_is)
    (case i_m5 => k_is)
    (case l_m5 => k_is)
    (case c_m5 => k_is)
    (case k_m5 => k_is)
    (case e1 => decide +kernel)
    (case e2 => decide +kernel)
    (case e3 => decide +kernel)
    (case e4 => decide +kernel)
    (case e5 => decide +kernel)
