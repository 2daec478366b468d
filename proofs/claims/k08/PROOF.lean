import PyProof.Rows.All
import Wide.All
import OpenK.AllK
import Wide.FinOn
import HandS.ForMost
import HandS.Style
import HandS.TupAny
import HandS.Evl
import HandS.IsInst
import HandS.SortInts
import PySem.Challenge.RW_rateflows_k08_whole_counts_in_live_flows
import HandS.SetFor
import KE.GoesEnum
import KE.GoesMore
import KE.KTupSum
import HandS.Walk
set_option Elab.async false
set_option linter.all false
set_option maxRecDepth 100000
set_option maxHeartbeats 4000000
-- K8Fire
/-! K8Fire: flows, tokens, firing; what can be reached. Plain Lean. -/
namespace K8

structure Pipe where
  one : Nat
  other : Nat
  give : Nat
  eat : Nat
  start : Nat
  deriving DecidableEq

/-- tokens on a pipe when the boxes were fired d times -/
def tok (d : Nat → Nat) (p : Pipe) : Int := (p.start : Int) + (p.give : Int) * (d p.one : Int) - (p.eat : Int) * (d p.other : Int)
def inc (d : Nat → Nat) (b : Nat) : Nat → Nat := fun k => if k = b then d k + 1 else d k
def canFire (ps : List Pipe) (d : Nat → Nat) (b : Nat) : Prop := ∀ p ∈ ps, p.other = b → (p.eat : Int) ≤ tok d p
def zeroD : Nat → Nat := fun _ => 0
def minD (d c : Nat → Nat) : Nat → Nat := fun k => min (d k) (c k)
def addD (d c : Nat → Nat) : Nat → Nat := fun k => d k + c k

inductive Reach (n : Nat) (ps : List Pipe) : (Nat → Nat) → Prop
  | zero : Reach n ps zeroD
  | step {d : Nat → Nat} {b : Nat} : Reach n ps d → b < n → canFire ps d b → Reach n ps (inc d b)

theorem inc_same (d : Nat → Nat) (b : Nat) : inc d b b = d b + 1 := by simp [inc]
theorem inc_ne {d : Nat → Nat} {b k : Nat} (h : k ≠ b) : inc d b k = d k := by simp [inc, h]
theorem le_inc (d : Nat → Nat) (b k : Nat) : d k ≤ inc d b k := by unfold inc; split <;> omega

theorem Reach.out {n : Nat} {ps : List Pipe} {d : Nat → Nat} (h : Reach n ps d) : ∀ k, n ≤ k → d k = 0 := by
  induction h with
  | zero => intro k _; rfl
  | step _ hb _ ih => intro k hk; rw [inc_ne (by omega)]; exact ih k hk

theorem mul_mono {a x y : Nat} (h : x ≤ y) : (a : Int) * (x : Int) ≤ (a : Int) * (y : Int) := by
  have : a * x ≤ a * y := Nat.mul_le_mul_left a h
  exact_mod_cast this

/-- what fires at e fires at d, if d is e at the box and nowhere less -/
theorem canFire_mono {ps : List Pipe} {d e : Nat → Nat} {b : Nat} (h : canFire ps e b) (he : e b = d b) (hl : ∀ k, e k ≤ d k) : canFire ps d b := fun p hp ho => by
  have h1 := h p hp ho
  have h2 := mul_mono (a := p.give) (hl p.one)
  unfold tok at *
  rw [ho] at *
  rw [he] at h1
  omega

/-- tokens never below 0 -/
theorem Reach.nonneg {n : Nat} {ps : List Pipe} {d : Nat → Nat} (h : Reach n ps d) : ∀ p ∈ ps, 0 ≤ tok d p := by
  induction h with
  | zero => intro p _; simp [tok, zeroD]
  | @step d b _ hb hf ih =>
    intro p hp
    have h0 := ih p hp
    by_cases ho : p.other = b
    · have h1 := hf p hp ho
      have h2 := mul_mono (a := p.give) (le_inc d b p.one)
      have h3 : inc d b p.other = d p.other + 1 := by rw [ho]; exact inc_same d b
      unfold tok at *
      rw [h3]
      rw [Int.natCast_add, Int.mul_add]
      omega
    · have h2 := mul_mono (a := p.give) (le_inc d b p.one)
      unfold tok at *
      rw [inc_ne ho]
      omega

/-- of what can be done, as much as c asks can be done, if c leaves nothing below 0 -/
theorem Reach.restrict {n : Nat} {ps : List Pipe} {d c : Nat → Nat} (h : Reach n ps d) (hc : ∀ p ∈ ps, 0 ≤ tok c p) : Reach n ps (minD d c) := by
  induction h with
  | zero =>
    have : minD zeroD c = zeroD := by funext k; simp [minD, zeroD]
    rw [this]; exact .zero
  | @step d b _ hb hf ih =>
    by_cases hlt : d b < c b
    · have e : minD (inc d b) c = inc (minD d c) b := by
        funext k
        by_cases hk : k = b
        · subst hk; rw [inc_same]; unfold minD; rw [inc_same]; omega
        · rw [inc_ne hk]; unfold minD; rw [inc_ne hk]
      rw [e]
      refine .step ih hb fun p hp ho => ?_
      have h1 := hf p hp ho
      have h2 := hc p hp
      have e1 : minD d c p.other = d b := by unfold minD; rw [ho]; omega
      by_cases hle : d p.one ≤ c p.one
      · have e2 : minD d c p.one = d p.one := by unfold minD; omega
        unfold tok at *
        rw [e1, e2]; rw [ho] at h1; exact h1
      · have e2 : minD d c p.one = c p.one := by unfold minD; omega
        have h3 := mul_mono (a := p.eat) (show d b + 1 ≤ c b by omega)
        unfold tok at *
        rw [e1, e2]; rw [ho] at h2
        rw [Int.natCast_add, Int.mul_add] at h3
        omega
    · have e : minD (inc d b) c = minD d c := by
        funext k
        by_cases hk : k = b
        · subst hk; unfold minD; rw [inc_same]; omega
        · unfold minD; rw [inc_ne hk]
      rw [e]; exact ih

/-- nothing that is asked for can be fired -/
def stuck (n : Nat) (ps : List Pipe) (c d : Nat → Nat) : Prop := ∀ b, b < n → d b < c b → ¬ canFire ps d b

/-- what is stuck below c is above all that can be done below c -/
theorem Reach.le_stuck {n : Nat} {ps : List Pipe} {c d e : Nat → Nat} (h : Reach n ps e) (hs : stuck n ps c d) (hec : ∀ k, e k ≤ c k) : ∀ k, e k ≤ d k := by
  induction h with
  | zero => intro k; simp [zeroD]
  | @step e b _ hb hf ih =>
    have h1 := ih fun k => Nat.le_trans (le_inc e b k) (hec k)
    intro k
    by_cases hk : k = b
    · subst hk
      rw [inc_same]
      have h2 := h1 k
      have h3 := hec k
      rw [inc_same] at h3
      by_cases hlt : e k < d k
      · omega
      · have he : e k = d k := by omega
        exact absurd (canFire_mono hf he h1) (hs k hb (by omega))
    · rw [inc_ne hk]; exact h1 k

theorem Reach.eq_stuck {n : Nat} {ps : List Pipe} {c d : Nat → Nat} (h : Reach n ps c) (hs : stuck n ps c d) (hd : ∀ k, d k ≤ c k) : d = c := by
  funext k
  have := h.le_stuck hs (fun k => Nat.le_refl _) k
  have := hd k
  omega

/-- counts that leave all pipes as they were -/
def Bal (ps : List Pipe) (L : Nat → Nat) : Prop := ∀ p ∈ ps, p.give * L p.one = p.eat * L p.other

theorem tok_add {ps : List Pipe} {L d : Nat → Nat} (hL : Bal ps L) {p : Pipe} (hp : p ∈ ps) : tok (addD L d) p = tok d p := by
  have h : (p.give : Int) * (L p.one : Int) = (p.eat : Int) * (L p.other : Int) := by exact_mod_cast hL p hp
  unfold tok addD
  rw [Int.natCast_add, Int.natCast_add, Int.mul_add, Int.mul_add]
  omega

theorem Reach.add {n : Nat} {ps : List Pipe} {L d : Nat → Nat} (hL : Bal ps L) (h0 : Reach n ps L) (h : Reach n ps d) : Reach n ps (addD L d) := by
  induction h with
  | zero =>
    have : addD L zeroD = L := by funext k; simp [addD, zeroD]
    rw [this]; exact h0
  | @step d b _ hb hf ih =>
    have e : addD L (inc d b) = inc (addD L d) b := by
      funext k
      by_cases hk : k = b
      · subst hk; rw [inc_same]; unfold addD; rw [inc_same]; omega
      · rw [inc_ne hk]; unfold addD; rw [inc_ne hk]
    rw [e]
    refine .step ih hb fun p hp ho => ?_
    rw [tok_add hL hp]
    exact hf p hp ho

def mulD (m : Nat) (L : Nat → Nat) : Nat → Nat := fun k => m * L k
theorem Reach.mul {n : Nat} {ps : List Pipe} {L : Nat → Nat} (hL : Bal ps L) (h0 : Reach n ps L) : ∀ m, Reach n ps (mulD m L)
  | 0 => by
    have : mulD 0 L = zeroD := by funext k; simp [mulD, zeroD]
    rw [this]; exact .zero
  | m + 1 => by
    have e : mulD (m + 1) L = addD L (mulD m L) := by funext k; unfold mulD addD; rw [Nat.add_mul, Nat.one_mul, Nat.add_comm]
    rw [e]; exact Reach.add hL h0 (Reach.mul hL h0 m)

/-- the flow lives: some positive balanced counts can be done -/
def Live (n : Nat) (ps : List Pipe) : Prop := ∃ L, Bal ps L ∧ (∀ k, k < n → 1 ≤ L k) ∧ Reach n ps L

def sumTo : Nat → (Nat → Nat) → Nat
  | 0, _ => 0
  | n + 1, d => sumTo n d + d n
theorem le_sumTo {d : Nat → Nat} : ∀ {n k : Nat}, k < n → d k ≤ sumTo n d
  | n + 1, k, h => by
    unfold sumTo
    by_cases e : k = n
    · subst e; omega
    · have := le_sumTo (d := d) (n := n) (k := k) (by omega); omega

/-- THE LAW: in a flow that lives, counts can be done exactly if they leave no pipe below nothing -/
theorem Live.iff {n : Nat} {ps : List Pipe} (h : Live n ps) {c : Nat → Nat} (hc : ∀ k, n ≤ k → c k = 0) : Reach n ps c ↔ ∀ p ∈ ps, 0 ≤ tok c p := by
  refine ⟨fun r => r.nonneg, fun q => ?_⟩
  obtain ⟨L, hB, hP, hR⟩ := h
  have hM := hR.mul hB (sumTo n c)
  have := hM.restrict q
  have e : minD (mulD (sumTo n c) L) c = c := by
    funext k
    unfold minD mulD
    by_cases hk : k < n
    · have h1 := le_sumTo (d := c) hk
      have h2 : sumTo n c * 1 ≤ sumTo n c * L k := Nat.mul_le_mul_left _ (hP k hk)
      omega
    · rw [hc k (by omega)]; omega
  rw [e] at this; exact this

/-! sums -/
theorem sumTo_congr {d e : Nat → Nat} : ∀ {n : Nat}, (∀ k, k < n → d k = e k) → sumTo n d = sumTo n e
  | 0, _ => rfl
  | n + 1, h => by unfold sumTo; rw [sumTo_congr (n := n) fun k hk => h k (by omega), h n (by omega)]
theorem sumTo_inc {d : Nat → Nat} {b : Nat} : ∀ {n : Nat}, b < n → sumTo n (inc d b) = sumTo n d + 1
  | n + 1, h => by
    unfold sumTo
    by_cases e : b = n
    · subst e
      rw [sumTo_congr (n := b) (d := inc d b) (e := d) fun k hk => inc_ne (by omega), inc_same]; omega
    · rw [sumTo_inc (n := n) (by omega), inc_ne (by omega : n ≠ b)]; omega
theorem sumTo_le {d e : Nat → Nat} : ∀ {n : Nat}, (∀ k, k < n → d k ≤ e k) → sumTo n d ≤ sumTo n e
  | 0, _ => Nat.le_refl _
  | n + 1, h => by
    unfold sumTo
    have := sumTo_le (n := n) fun k hk => h k (by omega)
    have := h n (by omega); omega
theorem sumTo_lt {d e : Nat → Nat} : ∀ {n : Nat}, (∀ k, k < n → d k ≤ e k) → (∃ k, k < n ∧ d k < e k) → sumTo n d < sumTo n e
  | 0, _, h => by obtain ⟨k, hk, _⟩ := h; omega
  | n + 1, h, hx => by
    unfold sumTo
    obtain ⟨k, hk, hlt⟩ := hx
    by_cases e : k = n
    · subst e
      have := sumTo_le (n := k) fun k' hk' => h k' (by omega)
      omega
    · have := sumTo_lt (n := n) (fun k' hk' => h k' (by omega)) ⟨k, by omega, hlt⟩
      have := h n (by omega); omega
theorem sumTo_bound {d : Nat → Nat} {m : Nat} : ∀ {n : Nat}, (∀ k, k < n → d k ≤ m) → sumTo n d ≤ n * m
  | 0, _ => by simp [sumTo]
  | n + 1, h => by
    unfold sumTo
    have := sumTo_bound (n := n) (m := m) fun k hk => h k (by omega)
    have := h n (by omega)
    rw [Nat.add_mul]; omega

theorem sumTo_zero : ∀ {n : Nat}, sumTo n zeroD = 0
  | 0 => rfl
  | n + 1 => by unfold sumTo; rw [sumTo_zero (n := n)]; rfl

/-- if counts c can be done and d below c is not c, some box can be fired on -/
theorem Reach.more {n : Nat} {ps : List Pipe} {c d : Nat → Nat} (h : Reach n ps c) (hd : ∀ k, d k ≤ c k) (hne : d ≠ c) : ∃ b, b < n ∧ d b < c b ∧ canFire ps d b := by
  apply Classical.byContradiction
  intro hn
  refine hne (h.eq_stuck (fun b hb hlt hf => hn ⟨b, hb, hlt, hf⟩) hd)

/-- if below c all that is left can be fired, c can be done -/
theorem Reach.all {n : Nat} {ps : List Pipe} {c : Nat → Nat} (hc : ∀ k, n ≤ k → c k = 0) (h : ∀ d, (∀ k, d k ≤ c k) → ∀ b, b < n → d b < c b → canFire ps d b) :
    ∀ (m : Nat) (d : Nat → Nat), Reach n ps d → (∀ k, d k ≤ c k) → sumTo n c = sumTo n d + m → Reach n ps c
  | 0, d, r, hd, e => by
    have : d = c := by
      funext k
      by_cases hk : k < n
      · apply Classical.byContradiction
        intro hne
        have := sumTo_lt (d := d) (e := c) (n := n) (fun k _ => hd k) ⟨k, hk, by have := hd k; omega⟩
        omega
      · have := hd k
        have := hc k (by omega)
        omega
    rw [← this]; exact r
  | m + 1, d, r, hd, e => by
    have : ∃ b, b < n ∧ d b < c b := by
      apply Classical.byContradiction
      intro hn
      have := sumTo_le (d := c) (e := d) (n := n) fun k hk => by
        apply Classical.byContradiction
        intro hh
        exact hn ⟨k, hk, by omega⟩
      omega
    obtain ⟨b, hb, hlt⟩ := this
    refine Reach.all hc h m (inc d b) (.step r hb (h d hd b hb hlt)) (fun k => ?_) (by rw [sumTo_inc hb]; omega)
    by_cases hk : k = b
    · subst hk; rw [inc_same]; omega
    · rw [inc_ne hk]; exact hd k

/-! words -/
def fires (n : Nat) (ps : List Pipe) : (Nat → Nat) → List Nat → Prop
  | _, [] => True
  | d, b :: w => b < n ∧ canFire ps d b ∧ fires n ps (inc d b) w
def behindW : (Nat → Nat) → List Nat → (Nat → Nat)
  | d, [] => d
  | d, b :: w => behindW (inc d b) w
theorem fires_snoc {n : Nat} {ps : List Pipe} {b : Nat} : ∀ {w : List Nat} {d : Nat → Nat}, fires n ps d w → b < n → canFire ps (behindW d w) b → fires n ps d (w ++ [b])
  | [], _, _, hb, hf => ⟨hb, hf, trivial⟩
  | _ :: _, _, h, hb, hf => ⟨h.1, h.2.1, fires_snoc h.2.2 hb hf⟩
theorem behindW_snoc {b : Nat} : ∀ {w : List Nat} {d : Nat → Nat}, behindW d (w ++ [b]) = inc (behindW d w) b
  | [], _ => rfl
  | _ :: w, _ => behindW_snoc (w := w)
theorem behindW_count : ∀ {w : List Nat} {d : Nat → Nat} (k : Nat), behindW d w k = d k + w.count k
  | [], _, _ => by simp [behindW]
  | b :: w, d, k => by
    unfold behindW
    rw [behindW_count k]
    by_cases h : k = b
    · subst h; rw [inc_same, List.count_cons_self]; omega
    · rw [inc_ne h, List.count_cons_of_ne (by simpa using fun e => h e.symm)]
theorem fires_lt {n : Nat} {ps : List Pipe} : ∀ {w : List Nat} {d : Nat → Nat}, fires n ps d w → ∀ b ∈ w, b < n
  | [], _, _, b, hb => by simp at hb
  | a :: w, d, h, b, hb => by
    rcases List.mem_cons.mp hb with e | e
    · subst e; exact h.1
    · exact fires_lt h.2.2 b e
theorem fires_at {n : Nat} {ps : List Pipe} : ∀ {w : List Nat} {d : Nat → Nat} {i b : Nat}, fires n ps d w → w[i]? = some b → canFire ps (behindW d (w.take i)) b
  | [], _, _, _, _, e => by simp at e
  | a :: w, d, 0, b, h, e => by
    have : a = b := Option.some.inj e
    subst this; exact h.2.1
  | a :: w, d, i + 1, b, h, e => fires_at (w := w) (d := inc d a) (i := i) h.2.2 (by simpa using e)
theorem behindW_take {w : List Nat} {d : Nat → Nat} {i b : Nat} (e : w[i]? = some b) : behindW d (w.take (i + 1)) = inc (behindW d (w.take i)) b := by
  rw [List.take_add_one, e]
  exact behindW_snoc

/-- tokens behind one more firing -/
theorem tok_inc (d : Nat → Nat) (b : Nat) (p : Pipe) : tok (inc d b) p = tok d p + ((if p.one = b then (p.give : Int) else 0) - (if p.other = b then (p.eat : Int) else 0)) := by
  unfold tok
  have h1 : (p.give : Int) * (inc d b p.one : Int) = (p.give : Int) * (d p.one : Int) + (if p.one = b then (p.give : Int) else 0) := by
    by_cases h : p.one = b
    · rw [if_pos h, h, inc_same, Int.natCast_add, Int.mul_add]; omega
    · rw [if_neg h, inc_ne h]; omega
  have h2 : (p.eat : Int) * (inc d b p.other : Int) = (p.eat : Int) * (d p.other : Int) + (if p.other = b then (p.eat : Int) else 0) := by
    by_cases h : p.other = b
    · rw [if_pos h, h, inc_same, Int.natCast_add, Int.mul_add]; omega
    · rw [if_neg h, inc_ne h]; omega
  rw [h1, h2]; omega
end K8

-- K8Rate
/-! K8Rate: ratios, parts of boxes, the counts of a round. Plain Lean. -/
namespace K8

/-- a ratio without a common divisor -/
def red (a b : Nat) : Nat × Nat := (a / Nat.gcd a b, b / Nat.gcd a b)
theorem red_pos {a b : Nat} (ha : 0 < a) (hb : 0 < b) : 0 < (red a b).1 ∧ 0 < (red a b).2 := by
  have hg : 0 < Nat.gcd a b := Nat.gcd_pos_of_pos_left b ha
  exact ⟨Nat.div_pos (Nat.le_of_dvd ha (Nat.gcd_dvd_left a b)) hg, Nat.div_pos (Nat.le_of_dvd hb (Nat.gcd_dvd_right a b)) hg⟩
theorem red_cross {a b : Nat} : (red a b).1 * b = (red a b).2 * a := by
  show a / Nat.gcd a b * b = b / Nat.gcd a b * a
  obtain ⟨x, hx⟩ := Nat.gcd_dvd_left a b
  obtain ⟨y, hy⟩ := Nat.gcd_dvd_right a b
  rcases Nat.eq_zero_or_pos (Nat.gcd a b) with h | h
  · rw [h] at hx hy; simp at hx hy; subst hx; subst hy; rfl
  · generalize Nat.gcd a b = g at *
    subst hx; subst hy
    rw [Nat.mul_div_cancel_left x h, Nat.mul_div_cancel_left y h]
    rw [Nat.mul_left_comm x g y, Nat.mul_left_comm y g x, Nat.mul_comm x y]
theorem red_le {a b : Nat} : (red a b).1 ≤ a ∧ (red a b).2 ≤ b := ⟨Nat.div_le_self _ _, Nat.div_le_self _ _⟩
theorem red_coprime {a b : Nat} (ha : 0 < a) : Nat.gcd (red a b).1 (red a b).2 = 1 := Nat.coprime_iff_gcd_eq_one.mp (Nat.coprime_div_gcd_div_gcd (Nat.gcd_pos_of_pos_left b ha))
theorem red_dvd {a b : Nat} : (red a b).2 ∣ b := Nat.div_dvd_of_dvd (Nat.gcd_dvd_right a b)
/-- coprime pairs of one ratio are equal -/
theorem cop_eq {a b x y : Nat} (hb : 0 < b) (hy : 0 < y) (h1 : Nat.gcd a b = 1) (h2 : Nat.gcd x y = 1) (h : a * y = b * x) : a = x ∧ b = y := by
  have d1 : b ∣ y := by
    have : b ∣ a * y := ⟨x, h⟩
    exact Nat.Coprime.dvd_of_dvd_mul_left (show Nat.Coprime b a from by rw [Nat.coprime_iff_gcd_eq_one, Nat.gcd_comm]; exact h1) this
  have d2 : y ∣ b := by
    have : y ∣ x * b := ⟨a, by rw [Nat.mul_comm x b, ← h, Nat.mul_comm]⟩
    exact Nat.Coprime.dvd_of_dvd_mul_left (show Nat.Coprime y x from by rw [Nat.coprime_iff_gcd_eq_one, Nat.gcd_comm]; exact h2) this
  have e : b = y := Nat.dvd_antisymm d1 d2
  subst e
  refine ⟨?_, rfl⟩
  rw [Nat.mul_comm b x] at h
  exact Nat.eq_of_mul_eq_mul_right hb h
theorem red_eq {a b x y : Nat} (ha : 0 < a) (hb : 0 < b) (hx : 0 < x) (hy : 0 < y) (h : a * y = b * x) : red a b = red x y := by
  have p1 := red_pos ha hb
  have p2 := red_pos hx hy
  have c1 := red_cross (a := a) (b := b)
  have c2 := red_cross (a := x) (b := y)
  have e : (red a b).1 * (red x y).2 = (red a b).2 * (red x y).1 := by
    -- (n1 * d2) * (b * x) = n1*b * (d2 * x) = d1 * a * (n2 * y) = (d1 * n2) * (a*y)
    have : ((red a b).1 * (red x y).2) * (b * x) = ((red a b).2 * (red x y).1) * (b * x) := by
      calc ((red a b).1 * (red x y).2) * (b * x) = ((red a b).1 * b) * ((red x y).2 * x) := by ac_rfl
        _ = ((red a b).2 * a) * ((red x y).1 * y) := by rw [c1, c2]
        _ = ((red a b).2 * (red x y).1) * (a * y) := by ac_rfl
        _ = _ := by rw [h]
    exact Nat.eq_of_mul_eq_mul_right (Nat.mul_pos hb hx) this
  have := cop_eq p1.2 p2.2 (red_coprime ha) (red_coprime hx) e
  exact Prod.ext this.1 this.2
/-- the step along a pipe: a ratio times a rate -/
theorem red_step {co f g e : Nat} {a : Nat} (hco : 0 < co) (hf : 0 < f) (ha : 0 < a) (hg : 0 < g) (he : 0 < e) (h : g * co = e * a) : red ((red co f).1 * g) ((red co f).2 * e) = red a f := by
  have p := red_pos hco hf
  refine red_eq (Nat.mul_pos p.1 hg) (Nat.mul_pos p.2 he) ha hf ?_
  have c := red_cross (a := co) (b := f)
  calc (red co f).1 * g * f = ((red co f).1 * f) * g := by ac_rfl
    _ = (red co f).2 * co * g := by rw [c]
    _ = (red co f).2 * (g * co) := by ac_rfl
    _ = (red co f).2 * (e * a) := by rw [h]
    _ = _ := by ac_rfl

/-! parts -/
inductive Conn (ps : List Pipe) (a : Nat) : Nat → Prop
  | refl : Conn ps a a
  | fwd {p : Pipe} : Conn ps a p.one → p ∈ ps → Conn ps a p.other
  | bwd {p : Pipe} : Conn ps a p.other → p ∈ ps → Conn ps a p.one
theorem Conn.trans {ps : List Pipe} {a b c : Nat} (h : Conn ps a b) (h2 : Conn ps b c) : Conn ps a c := by
  induction h2 with
  | refl => exact h
  | fwd _ hp ih => exact .fwd ih hp
  | bwd _ hp ih => exact .bwd ih hp
theorem Conn.symm {ps : List Pipe} {a b : Nat} (h : Conn ps a b) : Conn ps b a := by
  induction h with
  | refl => exact .refl
  | @fwd p _ hp ih => exact (Conn.bwd .refl hp : Conn ps p.other p.one).trans ih
  | @bwd p _ hp ih => exact (Conn.fwd .refl hp : Conn ps p.one p.other).trans ih
def EndsOk (n : Nat) (ps : List Pipe) : Prop := ∀ p ∈ ps, p.one < n ∧ p.other < n
theorem Conn.lt {n : Nat} {ps : List Pipe} (w : EndsOk n ps) {a b : Nat} (ha : a < n) (h : Conn ps a b) : b < n := by
  induction h with
  | refl => exact ha
  | fwd _ hp _ => exact (w _ hp).2
  | bwd _ hp _ => exact (w _ hp).1
/-- a set that is closed under pipes and holds a holds its part -/
def Closed (ps : List Pipe) (S : Nat → Prop) : Prop := ∀ p ∈ ps, (S p.one → S p.other) ∧ (S p.other → S p.one)
theorem Closed.all {ps : List Pipe} {S : Nat → Prop} (c : Closed ps S) {a b : Nat} (ha : S a) (h : Conn ps a b) : S b := by
  induction h with
  | refl => exact ha
  | fwd _ hp ih => exact (c _ hp).1 ih
  | bwd _ hp ih => exact (c _ hp).2 ih

open Classical in
/-- the part of a box, ascending -/
noncomputable def compL (n : Nat) (ps : List Pipe) (a : Nat) : List Nat := (List.range n).filter fun b => decide (Conn ps a b)
theorem mem_compL {n : Nat} {ps : List Pipe} {a b : Nat} : b ∈ compL n ps a ↔ b < n ∧ Conn ps a b := by
  unfold compL; rw [List.mem_filter, List.mem_range]; simp
theorem self_compL {n : Nat} {ps : List Pipe} {a : Nat} (h : a < n) : a ∈ compL n ps a := mem_compL.mpr ⟨h, .refl⟩
theorem range_sorted (n : Nat) : (List.range n).Pairwise (· < ·) := List.pairwise_lt_range
theorem compL_sorted {n : Nat} {ps : List Pipe} {a : Nat} : (compL n ps a).Pairwise (· < ·) := (range_sorted n).filter _
theorem compL_congr {n : Nat} {ps : List Pipe} {a b : Nat} (h : Conn ps a b) : compL n ps a = compL n ps b := by
  unfold compL
  congr 1
  funext c
  have : Conn ps a c ↔ Conn ps b c := ⟨fun q => h.symm.trans q, fun q => h.trans q⟩
  simp [this]
theorem compL_len {n : Nat} {ps : List Pipe} {a : Nat} : (compL n ps a).length ≤ n := by
  unfold compL
  have := List.length_filter_le (fun b => @decide (Conn ps a b) (Classical.propDecidable _)) (List.range n)
  rw [List.length_range] at this; exact this
/-- the least box of a part -/
noncomputable def root (n : Nat) (ps : List Pipe) (a : Nat) : Nat := (compL n ps a).headD 0
theorem root_congr {n : Nat} {ps : List Pipe} {a b : Nat} (h : Conn ps a b) : root n ps a = root n ps b := by unfold root; rw [compL_congr h]
theorem compL_cons {n : Nat} {ps : List Pipe} {a : Nat} (h : a < n) : ∃ r, compL n ps a = root n ps a :: r := by
  have := self_compL (ps := ps) h
  unfold root
  cases e : compL n ps a with
  | nil => rw [e] at this; simp at this
  | cons x r => exact ⟨r, rfl⟩
theorem root_mem {n : Nat} {ps : List Pipe} {a : Nat} (h : a < n) : root n ps a ∈ compL n ps a := by
  obtain ⟨r, e⟩ := compL_cons (ps := ps) h; rw [e]; exact List.mem_cons_self
theorem root_lt {n : Nat} {ps : List Pipe} {a : Nat} (h : a < n) : root n ps a < n := (mem_compL.mp (root_mem h)).1
theorem root_conn {n : Nat} {ps : List Pipe} {a : Nat} (h : a < n) : Conn ps a (root n ps a) := (mem_compL.mp (root_mem h)).2
theorem root_le {n : Nat} {ps : List Pipe} {a b : Nat} (h : a < n) (hb : b < n) (hc : Conn ps a b) : root n ps a ≤ b := by
  obtain ⟨r, e⟩ := compL_cons (ps := ps) h
  have hm : b ∈ compL n ps a := mem_compL.mpr ⟨hb, hc⟩
  have hs := compL_sorted (n := n) (ps := ps) (a := a)
  rw [e] at hm hs
  rcases List.mem_cons.mp hm with q | q
  · omega
  · exact Nat.le_of_lt ((List.pairwise_cons.mp hs).1 b q)
theorem root_root {n : Nat} {ps : List Pipe} {a : Nat} (h : a < n) : root n ps (root n ps a) = root n ps a := (root_congr (root_conn h)).symm
theorem conn_of_root {n : Nat} {ps : List Pipe} {a b : Nat} (ha : a < n) (hb : b < n) (h : root n ps a = root n ps b) : Conn ps a b := by
  have h1 := root_conn (ps := ps) ha
  have h2 := root_conn (ps := ps) hb
  rw [← h] at h2
  exact h1.trans h2.symm

/-- ascending lists with the same members are one -/
theorem sorted_ext : ∀ {l m : List Int}, l.Pairwise (· < ·) → m.Pairwise (· < ·) → (∀ x, x ∈ l ↔ x ∈ m) → l = m
  | [], [], _, _, _ => rfl
  | [], y :: m, _, _, h => absurd ((h y).mpr List.mem_cons_self) (by simp)
  | x :: l, [], _, _, h => absurd ((h x).mp List.mem_cons_self) (by simp)
  | x :: l, y :: m, hl, hm, h => by
    have h1 := List.pairwise_cons.mp hl
    have h2 := List.pairwise_cons.mp hm
    have e : x = y := by
      rcases List.mem_cons.mp ((h x).mp List.mem_cons_self) with q | q
      · exact q
      · rcases List.mem_cons.mp ((h y).mpr List.mem_cons_self) with r | r
        · exact r.symm
        · have := h1.1 y r; have := h2.1 x q; omega
    subst e
    congr 1
    refine sorted_ext h1.2 h2.2 fun z => ?_
    have hz := h z
    rw [List.mem_cons, List.mem_cons] at hz
    constructor
    · intro q
      rcases hz.mp (.inr q) with r | r
      · subst r; exact absurd (h1.1 z q) (by omega)
      · exact r
    · intro q
      rcases hz.mpr (.inr q) with r | r
      · subst r; exact absurd (h2.1 z q) (by omega)
      · exact r

/-! a flow that is balanced by small counts c0 -/
structure WF (n : Nat) (ps : List Pipe) (c0 : Nat → Nat) : Prop where
  n1 : 1 ≤ n
  n5 : n ≤ 5
  len : ps.length ≤ 16
  ends : EndsOk n ps
  rates : ∀ p ∈ ps, 1 ≤ p.give ∧ p.give ≤ 8 ∧ 1 ≤ p.eat ∧ p.eat ≤ 8
  small : ∀ k, k < n → 1 ≤ c0 k ∧ c0 k ≤ 4
  bal : Bal ps c0

section
variable {n : Nat} {ps : List Pipe} {c0 : Nat → Nat}
noncomputable def shr (n : Nat) (ps : List Pipe) (c0 : Nat → Nat) (k : Nat) : Nat × Nat := red (c0 k) (c0 (root n ps k))
theorem WF.shr_pos (w : WF n ps c0) {k : Nat} (h : k < n) : 0 < (shr n ps c0 k).1 ∧ 0 < (shr n ps c0 k).2 :=
  red_pos (w.small k h).1 (w.small _ (root_lt h)).1
theorem WF.shr_le (w : WF n ps c0) {k : Nat} (h : k < n) : (shr n ps c0 k).1 ≤ 4 ∧ (shr n ps c0 k).2 ≤ 4 := by
  have h1 := red_le (a := c0 k) (b := c0 (root n ps k))
  have h2 := (w.small k h).2
  have h3 := (w.small _ (root_lt (ps := ps) h)).2
  exact ⟨Nat.le_trans h1.1 h2, Nat.le_trans h1.2 h3⟩
theorem WF.shr_root (w : WF n ps c0) {k : Nat} (h : k < n) (e : root n ps k = k) : shr n ps c0 k = (1, 1) := by
  unfold shr red
  rw [e, Nat.gcd_self]
  have := (w.small k h).1
  rw [Nat.div_self (by omega)]
theorem WF.shr_fwd (w : WF n ps c0) {p : Pipe} (hp : p ∈ ps) : red ((shr n ps c0 p.one).1 * p.give) ((shr n ps c0 p.one).2 * p.eat) = shr n ps c0 p.other := by
  have he := w.ends p hp
  have hr := w.rates p hp
  have e : root n ps p.one = root n ps p.other := root_congr (.fwd .refl hp)
  unfold shr
  rw [← e]
  exact red_step (w.small _ he.1).1 (w.small _ (root_lt he.1)).1 (w.small _ he.2).1 hr.1 hr.2.2.1 (w.bal p hp)
theorem WF.shr_bwd (w : WF n ps c0) {p : Pipe} (hp : p ∈ ps) : red ((shr n ps c0 p.other).1 * p.eat) ((shr n ps c0 p.other).2 * p.give) = shr n ps c0 p.one := by
  have he := w.ends p hp
  have hr := w.rates p hp
  have e : root n ps p.other = root n ps p.one := root_congr (.bwd .refl hp)
  unfold shr
  rw [← e]
  exact red_step (w.small _ he.2).1 (w.small _ (root_lt he.2)).1 (w.small _ he.1).1 hr.2.2.1 hr.1 (w.bal p hp).symm

/-- the least number below which all shares of some boxes stand -/
def belF (f : Nat → Nat × Nat) (l : List Nat) : Nat := l.foldl (fun acc k => acc * (f k).2 / Nat.gcd acc (f k).2) 1
theorem bel_fold {f : Nat → Nat × Nat} {F : Nat} : ∀ {l : List Nat} {acc : Nat}, 0 < acc → acc ∣ F → (∀ k ∈ l, (f k).2 ∣ F ∧ 0 < (f k).2) →
    0 < l.foldl (fun acc k => acc * (f k).2 / Nat.gcd acc (f k).2) acc ∧ l.foldl (fun acc k => acc * (f k).2 / Nat.gcd acc (f k).2) acc ∣ F ∧ acc ∣ l.foldl (fun acc k => acc * (f k).2 / Nat.gcd acc (f k).2) acc ∧
      ∀ k ∈ l, (f k).2 ∣ l.foldl (fun acc k => acc * (f k).2 / Nat.gcd acc (f k).2) acc
  | [], acc, h0, hF, _ => ⟨h0, hF, Nat.dvd_refl _, fun k hk => by simp at hk⟩
  | x :: l, acc, h0, hF, h => by
    have hx := h x List.mem_cons_self
    have e : acc * (f x).2 / Nat.gcd acc (f x).2 = Nat.lcm acc (f x).2 := rfl
    rw [List.foldl_cons, e]
    have ih := bel_fold (f := f) (F := F) (l := l) (acc := Nat.lcm acc (f x).2) (Nat.lcm_pos h0 hx.2) (Nat.lcm_dvd hF hx.1) fun k hk => h k (List.mem_cons_of_mem _ hk)
    refine ⟨ih.1, ih.2.1, Nat.dvd_trans (Nat.dvd_lcm_left _ _) ih.2.2.1, fun k hk => ?_⟩
    rcases List.mem_cons.mp hk with q | q
    · subst q; exact Nat.dvd_trans (Nat.dvd_lcm_right _ _) ih.2.2.1
    · exact ih.2.2.2 k q
noncomputable def bel (n : Nat) (ps : List Pipe) (c0 : Nat → Nat) (a : Nat) : Nat := belF (shr n ps c0) (compL n ps a)
theorem WF.bel_ok (w : WF n ps c0) {a : Nat} (h : a < n) : 0 < bel n ps c0 a ∧ bel n ps c0 a ∣ c0 (root n ps a) ∧ ∀ k ∈ compL n ps a, (shr n ps c0 k).2 ∣ bel n ps c0 a := by
  have q := bel_fold (f := shr n ps c0) (F := c0 (root n ps a)) (l := compL n ps a) (acc := 1) (by decide) (Nat.one_dvd _) fun k hk => by
    obtain ⟨hk1, hk2⟩ := mem_compL.mp hk
    refine ⟨?_, (w.shr_pos hk1).2⟩
    rw [root_congr hk2]
    exact red_dvd
  exact ⟨q.1, q.2.1, q.2.2.2⟩
theorem bel_congr {a b : Nat} (h : Conn ps a b) : bel n ps c0 a = bel n ps c0 b := by unfold bel; rw [compL_congr h]
/-- partial folds stay small -/
theorem WF.bel_le (w : WF n ps c0) {a : Nat} (h : a < n) {l : List Nat} (hl : ∀ k ∈ l, k ∈ compL n ps a) : 0 < belF (shr n ps c0) l ∧ belF (shr n ps c0) l ≤ 4 := by
  have q := bel_fold (f := shr n ps c0) (F := c0 (root n ps a)) (l := l) (acc := 1) (by decide) (Nat.one_dvd _) fun k hk => by
    obtain ⟨hk1, hk2⟩ := mem_compL.mp (hl k hk)
    refine ⟨?_, (w.shr_pos hk1).2⟩
    rw [root_congr hk2]
    exact red_dvd
  have h3 := w.small _ (root_lt (ps := ps) h)
  exact ⟨q.1, Nat.le_trans (Nat.le_of_dvd (by omega) q.2.1) h3.2⟩

/-- a box's count, ahead of any common divisor -/
noncomputable def raw (n : Nat) (ps : List Pipe) (c0 : Nat → Nat) (k : Nat) : Nat := bel n ps c0 k * (shr n ps c0 k).1 / (shr n ps c0 k).2
theorem WF.raw_eq (w : WF n ps c0) {k : Nat} (h : k < n) : raw n ps c0 k * c0 (root n ps k) = bel n ps c0 k * c0 k := by
  have hp := w.shr_pos h
  obtain ⟨q, hq⟩ := (w.bel_ok h).2.2 k (self_compL h)
  have c := red_cross (a := c0 k) (b := c0 (root n ps k))
  have hs : red (c0 k) (c0 (root n ps k)) = shr n ps c0 k := rfl
  rw [hs] at c
  unfold raw
  rw [hq, Nat.mul_assoc, Nat.mul_div_cancel_left _ hp.2]
  calc q * (shr n ps c0 k).1 * c0 (root n ps k) = q * ((shr n ps c0 k).1 * c0 (root n ps k)) := by ac_rfl
    _ = q * ((shr n ps c0 k).2 * c0 k) := by rw [c]
    _ = _ := by ac_rfl
theorem WF.raw_le (w : WF n ps c0) {k : Nat} (h : k < n) : 1 ≤ raw n ps c0 k ∧ raw n ps c0 k ≤ 4 := by
  have e := w.raw_eq h
  have hb := w.bel_ok h
  have hr := w.small _ (root_lt (ps := ps) h)
  have hk := w.small _ h
  have hle : bel n ps c0 k ≤ c0 (root n ps k) := Nat.le_of_dvd (by omega) hb.2.1
  constructor
  · rcases Nat.eq_zero_or_pos (raw n ps c0 k) with q | q
    · rw [q, Nat.zero_mul] at e
      have := Nat.mul_pos hb.1 (show 0 < c0 k by omega)
      omega
    · exact q
  · have h1 : raw n ps c0 k * c0 (root n ps k) ≤ c0 k * c0 (root n ps k) := by
      rw [e, Nat.mul_comm]
      exact Nat.mul_le_mul_left _ hle
    have := Nat.le_of_mul_le_mul_right h1 (by omega)
    omega
theorem WF.raw_bal (w : WF n ps c0) {p : Pipe} (hp : p ∈ ps) : p.give * raw n ps c0 p.one = p.eat * raw n ps c0 p.other := by
  have he := w.ends p hp
  have cn : Conn ps p.one p.other := .fwd .refl hp
  have e1 := w.raw_eq he.1
  have e2 := w.raw_eq he.2
  rw [← root_congr cn, ← bel_congr cn] at e2
  have hr := w.small _ (root_lt (ps := ps) he.1)
  refine Nat.eq_of_mul_eq_mul_right (show 0 < c0 (root n ps p.one) by omega) ?_
  calc p.give * raw n ps c0 p.one * c0 (root n ps p.one) = p.give * (raw n ps c0 p.one * c0 (root n ps p.one)) := by ac_rfl
    _ = bel n ps c0 p.one * (p.give * c0 p.one) := by rw [e1]; ac_rfl
    _ = bel n ps c0 p.one * (p.eat * c0 p.other) := by rw [w.bal p hp]
    _ = p.eat * (bel n ps c0 p.one * c0 p.other) := by ac_rfl
    _ = p.eat * (raw n ps c0 p.other * c0 (root n ps p.one)) := by rw [e2]
    _ = _ := by ac_rfl
/-- the round of the program -/
noncomputable def rep (n : Nat) (ps : List Pipe) (c0 : Nat → Nat) : Nat → Nat := fun k => if k < n then raw n ps c0 k else 0
theorem WF.rep_bal (w : WF n ps c0) : Bal ps (rep n ps c0) := fun p hp => by
  have he := w.ends p hp
  unfold rep
  rw [if_pos he.1, if_pos he.2]
  exact w.raw_bal hp
theorem WF.rep_le (w : WF n ps c0) (k : Nat) : rep n ps c0 k ≤ 4 := by
  unfold rep
  split
  · exact (w.raw_le (by assumption)).2
  · omega

/-! the round of the law -/
noncomputable def com (n : Nat) (ps : List Pipe) (c0 : Nat → Nat) (a : Nat) : Nat := (compL n ps a).foldl (fun acc k => Nat.gcd acc (raw n ps c0 k)) 0
theorem com_fold {f : Nat → Nat} : ∀ {l : List Nat} {acc : Nat}, l.foldl (fun acc k => Nat.gcd acc (f k)) acc ∣ acc ∧ ∀ k ∈ l, l.foldl (fun acc k => Nat.gcd acc (f k)) acc ∣ f k
  | [], acc => ⟨Nat.dvd_refl _, fun k hk => by simp at hk⟩
  | x :: l, acc => by
    have ih := com_fold (f := f) (l := l) (acc := Nat.gcd acc (f x))
    rw [List.foldl_cons]
    refine ⟨Nat.dvd_trans ih.1 (Nat.gcd_dvd_left _ _), fun k hk => ?_⟩
    rcases List.mem_cons.mp hk with q | q
    · subst q; exact Nat.dvd_trans ih.1 (Nat.gcd_dvd_right _ _)
    · exact ih.2 k q
theorem com_congr {a b : Nat} (h : Conn ps a b) : com n ps c0 a = com n ps c0 b := by unfold com; rw [compL_congr h]
theorem com_dvd {a : Nat} {k : Nat} (hk : k ∈ compL n ps a) : com n ps c0 a ∣ raw n ps c0 k := com_fold.2 k hk
theorem WF.com_pos (w : WF n ps c0) {a : Nat} (h : a < n) : 0 < com n ps c0 a ∧ com n ps c0 a ≤ 4 := by
  have d := com_dvd (c0 := c0) (self_compL (ps := ps) h)
  have q := w.raw_le h
  exact ⟨Nat.pos_of_dvd_of_pos d (by omega), Nat.le_trans (Nat.le_of_dvd (by omega) d) q.2⟩
/-- the round of the law -/
noncomputable def lrep (n : Nat) (ps : List Pipe) (c0 : Nat → Nat) : Nat → Nat := fun k => if k < n then raw n ps c0 k / com n ps c0 k else 0
theorem WF.lrep_pos (w : WF n ps c0) {k : Nat} (h : k < n) : 1 ≤ lrep n ps c0 k := by
  have d := com_dvd (c0 := c0) (self_compL (ps := ps) h)
  have q := w.raw_le h
  unfold lrep
  rw [if_pos h]
  exact Nat.div_pos (Nat.le_of_dvd (by omega) d) (w.com_pos h).1
theorem WF.lrep_le (w : WF n ps c0) (k : Nat) : lrep n ps c0 k ≤ 4 := by
  unfold lrep
  split
  · exact Nat.le_trans (Nat.div_le_self _ _) (w.raw_le (by assumption)).2
  · omega
theorem WF.lrep_bal (w : WF n ps c0) : Bal ps (lrep n ps c0) := fun p hp => by
  have he := w.ends p hp
  have cn : Conn ps p.one p.other := .fwd .refl hp
  unfold lrep
  rw [if_pos he.1, if_pos he.2, ← com_congr cn]
  have d1 := com_dvd (c0 := c0) (self_compL (ps := ps) he.1)
  have d2 := com_dvd (c0 := c0) (a := p.one) (k := p.other) (mem_compL.mpr ⟨he.2, cn⟩)
  rw [← Nat.mul_div_assoc _ d1, ← Nat.mul_div_assoc _ d2, w.raw_bal hp]
theorem rep_out {k : Nat} (h : n ≤ k) : rep n ps c0 k = 0 := if_neg (by omega)
theorem lrep_out {k : Nat} (h : n ≤ k) : lrep n ps c0 k = 0 := if_neg (by omega)

/-- a flow in which the law's round can be done lives -/
theorem WF.live (w : WF n ps c0) (h : Reach n ps (lrep n ps c0)) : Live n ps := ⟨_, w.lrep_bal, fun _ hk => w.lrep_pos hk, h⟩
/-- .. and the program's round can be done -/
theorem WF.rep_reach (w : WF n ps c0) (h : Live n ps) : Reach n ps (rep n ps c0) := by
  refine (h.iff fun k hk => rep_out hk).mpr fun p hp => ?_
  have q := tok_add (d := zeroD) w.rep_bal hp
  have e : addD (rep n ps c0) zeroD = rep n ps c0 := by funext k; simp [addD, zeroD]
  rw [e] at q
  rw [q]
  simp [tok, zeroD]
end
end K8

-- K8Base
/-! K8Base: the text by places; what the top has written. Printed by gen_base.py -/
namespace K8
open PySem PySem.Spec PyProof.Rows L2
def topS (i : Nat) : Stmt := PySem.Challenge.pw_rateflows_k08_whole_counts_in_live_flows.main.body.getD i (.Pass ⟨0, 0, 0, 0⟩)
abbrev s_is_in : Stmt := topS 7
abbrev s_gcd : Stmt := topS 8
abbrev s_reduced : Stmt := topS 9
abbrev s_times : Stmt := topS 10
abbrev s_is_pipe : Stmt := topS 16
abbrev s_need_flow : Stmt := topS 17
abbrev s_reach_of : Stmt := topS 18
abbrev s_parts_in : Stmt := topS 19
abbrev s_marks_in : Stmt := topS 20
abbrev s_lacks : Stmt := topS 23
abbrev s_behind : Stmt := topS 24
abbrev s_fireable_in : Stmt := topS 25
abbrev s_is_boxes : Stmt := topS 26
abbrev s_line_in : Stmt := topS 27
abbrev s_counts_in : Stmt := topS 28
abbrev s_need_counts : Stmt := topS 31
abbrev s_need_both : Stmt := topS 32
abbrev s_ends_in : Stmt := topS 33
abbrev s_ends : Stmt := topS 34
abbrev s_most_in : Stmt := topS 35
abbrev s_most_done : Stmt := topS 36
abbrev s_does : Stmt := topS 37
abbrev s_can_do : Stmt := topS 38
abbrev s_least_in : Stmt := topS 39
abbrev s_word_for : Stmt := topS 40
abbrev s_shows_word : Stmt := topS 41
abbrev s_shares_in : Stmt := topS 43
abbrev s_bad_pipe : Stmt := topS 44
abbrev s_repetitions_in : Stmt := topS 45
abbrev s_round_of : Stmt := topS 48
abbrev s_lives : Stmt := topS 49
abbrev s_is_live : Stmt := topS 50
abbrev s_law_taken : Stmt := topS 52
abbrev s_law_pick : Stmt := topS 53
abbrev s_law_gcd : Stmt := topS 54
abbrev s_law_flow : Stmt := topS 55
abbrev s_law_ratio : Stmt := topS 56
abbrev s_law_joined : Stmt := topS 57
abbrev s_law_round : Stmt := topS 58
abbrev s_law_some : Stmt := topS 59
abbrev s_law_can : Stmt := topS 60
abbrev s_law_next : Stmt := topS 61
abbrev s_law_do : Stmt := topS 62
abbrev s_law_with : Stmt := topS 63
abbrev s_law_live : Stmt := topS 64
abbrev s_law_counts : Stmt := topS 65
abbrev s_law_alike : Stmt := topS 66
abbrev s_law_run : Stmt := topS 67
abbrev s_law : Stmt := topS 68

/-- what the top has written, where the law's call begins -/
structure Txt (K : PySem.W.Frag) (mg : Str → Option Value) : Prop where
  f_is_in : ∃ f fd, Fun K "is_in" "is_in" s_is_in f fd ∧ mg "is_in" = some (.ref f)
  f_gcd : ∃ f fd, Fun K "gcd" "gcd" s_gcd f fd ∧ mg "gcd" = some (.ref f)
  f_reduced : ∃ f fd, Fun K "reduced" "reduced" s_reduced f fd ∧ mg "reduced" = some (.ref f)
  f_times : ∃ f fd, Fun K "times" "times" s_times f fd ∧ mg "times" = some (.ref f)
  f_is_pipe : ∃ f fd, Fun K "is_pipe" "is_pipe" s_is_pipe f fd ∧ mg "is_pipe" = some (.ref f)
  f_need_flow : ∃ f fd, Fun K "need_flow" "need_flow" s_need_flow f fd ∧ mg "need_flow" = some (.ref f)
  f_reach_of : ∃ f fd, Fun K "reach_of" "reach_of" s_reach_of f fd ∧ mg "reach_of" = some (.ref f)
  f_parts_in : ∃ f fd, Fun K "parts_in" "parts_in" s_parts_in f fd ∧ mg "parts_in" = some (.ref f)
  f_marks_in : ∃ f fd, Fun K "marks_in" "marks_in" s_marks_in f fd ∧ mg "marks_in" = some (.ref f)
  f_lacks : ∃ f fd, Fun K "lacks" "lacks" s_lacks f fd ∧ mg "lacks" = some (.ref f)
  f_behind : ∃ f fd, Fun K "behind" "behind" s_behind f fd ∧ mg "behind" = some (.ref f)
  f_fireable_in : ∃ f fd, Fun K "fireable_in" "fireable_in" s_fireable_in f fd ∧ mg "fireable_in" = some (.ref f)
  f_is_boxes : ∃ f fd, Fun K "is_boxes" "is_boxes" s_is_boxes f fd ∧ mg "is_boxes" = some (.ref f)
  f_line_in : ∃ f fd, Fun K "line_in" "line_in" s_line_in f fd ∧ mg "line_in" = some (.ref f)
  f_counts_in : ∃ f fd, Fun K "counts_in" "counts_in" s_counts_in f fd ∧ mg "counts_in" = some (.ref f)
  f_need_counts : ∃ f fd, Fun K "need_counts" "need_counts" s_need_counts f fd ∧ mg "need_counts" = some (.ref f)
  f_need_both : ∃ f fd, Fun K "need_both" "need_both" s_need_both f fd ∧ mg "need_both" = some (.ref f)
  f_ends_in : ∃ f fd, Fun K "ends_in" "ends_in" s_ends_in f fd ∧ mg "ends_in" = some (.ref f)
  f_ends : ∃ f fd, Fun K "ends" "ends" s_ends f fd ∧ mg "ends" = some (.ref f)
  f_most_in : ∃ f fd, Fun K "most_in" "most_in" s_most_in f fd ∧ mg "most_in" = some (.ref f)
  f_most_done : ∃ f fd, Fun K "most_done" "most_done" s_most_done f fd ∧ mg "most_done" = some (.ref f)
  f_does : ∃ f fd, Fun K "does" "does" s_does f fd ∧ mg "does" = some (.ref f)
  f_can_do : ∃ f fd, Fun K "can_do" "can_do" s_can_do f fd ∧ mg "can_do" = some (.ref f)
  f_least_in : ∃ f fd, Fun K "least_in" "least_in" s_least_in f fd ∧ mg "least_in" = some (.ref f)
  f_word_for : ∃ f fd, Fun K "word_for" "word_for" s_word_for f fd ∧ mg "word_for" = some (.ref f)
  f_shows_word : ∃ f fd, Fun K "shows_word" "shows_word" s_shows_word f fd ∧ mg "shows_word" = some (.ref f)
  f_shares_in : ∃ f fd, Fun K "shares_in" "shares_in" s_shares_in f fd ∧ mg "shares_in" = some (.ref f)
  f_bad_pipe : ∃ f fd, Fun K "bad_pipe" "bad_pipe" s_bad_pipe f fd ∧ mg "bad_pipe" = some (.ref f)
  f_repetitions_in : ∃ f fd, Fun K "repetitions_in" "repetitions_in" s_repetitions_in f fd ∧ mg "repetitions_in" = some (.ref f)
  f_round_of : ∃ f fd, Fun K "round_of" "round_of" s_round_of f fd ∧ mg "round_of" = some (.ref f)
  f_lives : ∃ f fd, Fun K "lives" "lives" s_lives f fd ∧ mg "lives" = some (.ref f)
  f_is_live : ∃ f fd, Fun K "is_live" "is_live" s_is_live f fd ∧ mg "is_live" = some (.ref f)
  f_law_taken : ∃ f fd, Fun K "_law_taken" "_law_taken" s_law_taken f fd ∧ mg "_law_taken" = some (.ref f)
  f_law_pick : ∃ f fd, Fun K "_law_pick" "_law_pick" s_law_pick f fd ∧ mg "_law_pick" = some (.ref f)
  f_law_gcd : ∃ f fd, Fun K "_law_gcd" "_law_gcd" s_law_gcd f fd ∧ mg "_law_gcd" = some (.ref f)
  f_law_flow : ∃ f fd, Fun K "_law_flow" "_law_flow" s_law_flow f fd ∧ mg "_law_flow" = some (.ref f)
  f_law_ratio : ∃ f fd, Fun K "_law_ratio" "_law_ratio" s_law_ratio f fd ∧ mg "_law_ratio" = some (.ref f)
  f_law_joined : ∃ f fd, Fun K "_law_joined" "_law_joined" s_law_joined f fd ∧ mg "_law_joined" = some (.ref f)
  f_law_round : ∃ f fd, Fun K "_law_round" "_law_round" s_law_round f fd ∧ mg "_law_round" = some (.ref f)
  f_law_some : ∃ f fd, Fun K "_law_some" "_law_some" s_law_some f fd ∧ mg "_law_some" = some (.ref f)
  f_law_can : ∃ f fd, Fun K "_law_can" "_law_can" s_law_can f fd ∧ mg "_law_can" = some (.ref f)
  f_law_next : ∃ f fd, Fun K "_law_next" "_law_next" s_law_next f fd ∧ mg "_law_next" = some (.ref f)
  f_law_do : ∃ f fd, Fun K "_law_do" "_law_do" s_law_do f fd ∧ mg "_law_do" = some (.ref f)
  f_law_with : ∃ f fd, Fun K "_law_with" "_law_with" s_law_with f fd ∧ mg "_law_with" = some (.ref f)
  f_law_live : ∃ f fd, Fun K "_law_live" "_law_live" s_law_live f fd ∧ mg "_law_live" = some (.ref f)
  f_law_counts : ∃ f fd, Fun K "_law_counts" "_law_counts" s_law_counts f fd ∧ mg "_law_counts" = some (.ref f)
  f_law_alike : ∃ f fd, Fun K "_law_alike" "_law_alike" s_law_alike f fd ∧ mg "_law_alike" = some (.ref f)
  f_law_run : ∃ f fd, Fun K "_law_run" "_law_run" s_law_run f fd ∧ mg "_law_run" = some (.ref f)
  f_law : ∃ f fd, Fun K "law" "law" s_law f fd ∧ mg "law" = some (.ref f)
  c_MOST_BOXES : ∃ t, mg "MOST_BOXES" = some (.int 8 t)
  c_MOST_PIPES : ∃ t, mg "MOST_PIPES" = some (.int 16 t)
  c_MOST_RATE : ∃ t, mg "MOST_RATE" = some (.int 999 t)
  c_MOST_TOKENS : ∃ t, mg "MOST_TOKENS" = some (.int 99999 t)
  c_MOST_WORD : ∃ t, mg "MOST_WORD" = some (.int 2000 t)
  c_MOST_COUNT : ∃ t, mg "MOST_COUNT" = some (.int 200 t)
  c_MOST_ROUND : ∃ t, mg "MOST_ROUND" = some (.int 2000 t)
  b_abs : mg "abs" = none
  b_bool : mg "bool" = none
  b_enumerate : mg "enumerate" = none
  b_int : mg "int" = none
  b_isinstance : mg "isinstance" = none
  b_len : mg "len" = none
  b_list : mg "list" = none
  b_range : mg "range" = none
  b_sorted : mg "sorted" = none
  b_str : mg "str" = none
  b_sum : mg "sum" = none
  b_tuple : mg "tuple" = none

theorem txt_of {K : PySem.W.Frag} {h : Heap} {mg : Str → Option Value} {x : Str} {st : Stmt} {f : Addr} {od an : Option Addr} {osl : Array (Option Value)} {oc kV doc pm cdv ct : Value} (X : K.In h) (G : h.Ns mainGlobals mg)
    (a : PySem.W.nsIn K mainGlobals x = some (some (.ref f))) (l : K.lookup f = some ⟨oc, od, .func (PySem.W.fnOf x x (defArgs st) (defBody st) (defScope st) .none kV doc pm an cdv ct), osl⟩)
    (c : PySem.W.codeIn K cdv x = true) (k : PySem.W.keepIn K (.ref f) = true) : ∃ f fd, Fun K x x st f fd ∧ mg x = some (.ref f) := ⟨f, _, fun_mk l c k, PySem.W.mg_of X G a⟩
theorem txt_c {K : PySem.W.Frag} {h : Heap} {mg : Str → Option Value} {x : Str} {i : Int} {t : Tok} (X : K.In h) (G : h.Ns mainGlobals mg) (a : PySem.W.nsIn K mainGlobals x = some (some (.int i t))) : ∃ t, mg x = some (.int i t) := ⟨t, PySem.W.mg_of X G a⟩

section
variable (P : Program) (w : World) (K : PySem.W.Frag) (mg : Str → Option Value) (base : Heap)
/-- a def that keeps its promise, by its name -/
structure Def (k : Nat) (x : Str) (ps : List Str) (sp : Sp) : Prop where
  ex : ∃ f fd, FnOk P w K mg base CX0 k f fd ps sp ∧ mg x = some (.ref f) ∧ PySem.W.keepIn K (.ref f) = true ∧ Binds K fd ps []
end
section
variable {X : Cx}
theorem pe_def {k : Nat} {x : Str} {ps : List Str} {sp : Sp} {e : Expr} {es : List Expr} {t : TA} {p pos : Pos} (D : Def X.prog X.w X.K X.mg X.base k x ps sp) (hr : Room k X.A) (hg : Gl X x) (ha : PA X (e :: es) t)
    (hd : (x == ("__debug__" : Str)) = false := by decide) (he : starEach (e :: es) X.env = (false, eval e X.env) :: starEach es X.env := by rfl) (hpl : (backTo pos (starEach es X.env)).any (·.1) = false := by rfl) :
    PE X (.Call (.Name x p) (e :: es) [] pos) (tCall sp [] E0 t) := by
  obtain ⟨f, fd, F, g, kp, b⟩ := D.ex
  exact pe_call F hr hg g kp b .nil pass0 ha hd he hpl
theorem pe_const {x : Str} {i : Int} {p : Pos} (h : ∃ t, X.mg x = some (.int i t)) (hg : Gl X x) (hd : (x == ("__debug__" : Str)) = false := by decide) : PE X (.Name x p) (tC (.int i)) := by
  obtain ⟨t, h⟩ := h
  exact pe_glob hg h ⟨t, rfl⟩ hd
end
end K8

-- K8Rules
/-! K8Rules: rules that the layer lacks: enumerate(tuple), xs[i] op= e of a list, tuple.count. -/
namespace K8
open PySem PySem.Spec PyProof.Rows L2

/-! ### enumerate(tuple) -/
theorem meets_enumerate_newB1 {v : Value} {o : Obj} {H : Heap → Prop} (B : Begins v o H) :
    Meets (Builtin.«enumerate.__new__» ⟨[.type "enumerate", v], []⟩) (fun _ R s => H s.heap ∧
      R (.ok (.ret (.ref (s.heap.push o).objs.size))) { s with heap := (s.heap.push o).push { cls := .type "enumerate", data := .fields #[.none, .bool false, .ref s.heap.objs.size, rawInt 0, .none, .none] } }) :=
  .of_wp fun prog w A R s h => by
    obtain ⟨hp, g, d, tk, os⟩ := s; obtain ⟨h1, h⟩ := h
    have hsub := sub_enumerate
    have q1 : ∀ {A' : Around} {E : Value → Shared → Prop} {Q : Value → Shared → Prop}, Q (.ref hp.objs.size) ⟨hp.push o, g, d, tk, os⟩ → wpAny (model prog w) A' (pyIter v) Q E ⟨hp, g, d, tk, os⟩ :=
      fun q => B.iter prog w _ _ ⟨hp, g, d, tk, os⟩ _ h1 q
    wp_walk using q1
    refine wpAny_stack_any fun st => wpAny_pure ?_
    split
    · rename_i c _ _ _ _ _
      cases (c == Value.type "enumerate")
      · wp_walk using q1
        exact ⟨_, rfl, h⟩
      · wp_walk using q1
        exact ⟨_, rfl, h⟩
    · wp_walk using q1
      exact ⟨_, rfl, h⟩
section
variable {prog : Program} {w : World} {A : Around} {E : Value → Shared → Prop} {s : Shared}
theorem enum_begins1 {v : Value} {o : Obj} {H : Heap → Prop} {Q : Value → Shared → Prop} (B : Begins v o H) (h1 : H s.heap)
    (h : ∀ h', IsEnum h' (s.heap.objs.size + 1) s.heap.objs.size 0 .none → h'.get? s.heap.objs.size = some o → h'.objs.size = s.heap.objs.size + 2 →
      (∀ b o, s.heap.get? b = some o → h'.get? b = some o) → Q (.ref (s.heap.objs.size + 1)) { s with heap := h' }) :
    wpAny (model prog w) A (call (.type "enumerate") [v]) Q E s := by
  refine callType_new F.called_enumerate (by decide) (F.typeCall_enumerate_1 _) (F.newCall_enumerate_1 _) (fun obj => F.args_object_init_2 obj _) F.entry_enumerate_new
    (meets_enumerate_newB1 B) ⟨h1, ?_⟩
  have hz : (s.heap.push o).objs.size = s.heap.objs.size + 1 := Heap.size_push ..
  show _ ∧ _
  rw [hz]
  have he : IsEnum ((s.heap.push o).push { cls := .type "enumerate", data := .fields #[.none, .bool false, .ref s.heap.objs.size, rawInt 0, .none, .none] }) (s.heap.objs.size + 1) s.heap.objs.size 0 .none := by
    have := Heap.get?_push_size (s.heap.push o) (o := { cls := .type "enumerate", data := .fields #[.none, .bool false, .ref s.heap.objs.size, rawInt 0, .none, .none] }) rfl
    rw [hz] at this; exact this
  refine ⟨⟨_, he, rfl⟩, h _ he (Heap.get?_push_of_some _ (Heap.get?_push_size _ B.free)) (by rw [Heap.size_push, hz]) fun b o x => Heap.get?_push_of_some _ (Heap.get?_push_of_some _ x)⟩
end

/-- the tuple at a as it stands at each turn, each item in a new pair -/
def Itet (K : PySem.W.Frag) (a : Addr) : It :=
  ⟨fun i H => ∃ (xs : List V) (x : V), SqT K H a xs ∧ xs[i]? = some x, fun i H v H' => ∃ T x, v = .ref T ∧ H T = none ∧ H' = upd H T (.tup [.int (i : Nat), x]) ∧ ∀ xs, SqT K H a xs → xs[i]? = some x, fun i H => ∃ xs : List V, SqT K H a xs ∧ xs.length ≤ i⟩
theorem turn_enumT {P : Program} {w : World} {K : PySem.W.Frag} {elts : List Expr} {kk : Nat} {tpos : Pos} (a e it : Addr) (hei : e ≠ it) (hai : a ≠ it) (hae : a ≠ e) :
    Turn P w K (.Tuple elts kk tpos) (Itet K a) [e, it] e (fun i h => (∃ old, IsEnum h e it ((i : Nat) : Int) old) ∧ h.IsTupleIter it a i) where
  mem := by simp
  obj := fun i h st b hb => by
    obtain ⟨⟨old, he⟩, ⟨o, ho, hc, hd⟩⟩ := st
    have e' : b = e ∨ b = it := by simpa using hb
    rcases e' with z | z
    · rw [z]; exact ⟨_, he, fun v q => nomatch q⟩
    · rw [z]; exact ⟨o, ho, fun v q => by rw [hd] at q; cases q⟩
  keep := fun i h h' st k => let ⟨⟨old, he⟩, hi⟩ := st; ⟨⟨old, k e (by simp) _ he⟩, hi.at fun o q => k it (by simp) o q⟩
  item := by
    intro X hP hw hK hc i pins s σ H E I hf st hg
    subst hP hw hK
    obtain ⟨⟨old, he⟩, hit⟩ := st
    obtain ⟨xs, x, hq, hx⟩ := hg
    obtain ⟨its, rv, p, hz⟩ := I.tuple hq
    obtain ⟨u, hu, ru⟩ := rv.get hx
    have hel : e < s.heap.objs.size := Heap.lt_size he
    have hil : it < s.heap.objs.size := by obtain ⟨_, q, _⟩ := hit; exact Heap.lt_size q
    have hlt : i < its.toArray.size := by
      rw [List.size_toArray]
      exact (List.getElem?_eq_some_iff.mp hu).1
    have pT : s.heap.IsTuple a its.toArray := p
    refine wpAny_pyNext_enum_itemC (Draws.tuple (A := X.A.in1) (I.ok.hd hc) it a hai its.toArray) he ⟨hit, pT⟩ hlt hei (by simp [hei, Ne.symm hae]) fun x' h' tk hx' ho hst' hT hsz hk => ?_
    have exu : x' = u := by
      have h1 : its[i]? = some x' := by simpa using hx'
      rw [hu] at h1
      exact (Option.some.inj h1).symm
    subst exu
    refine ⟨_, rfl, wpAny_letOwnedTupleGo_enum (s := { s with heap := h', toks := tk + 1 }) ho fun h'' he' sb => ?_⟩
    have hT2 : h''.get? s.heap.objs.size = some { cls := .type "tuple", data := .seq #[.int i tk, x'] } := (sb.2 _ (Nat.ne_of_gt hel)).trans hT
    have new : ObjOk X.prog X.w (upd H s.heap.objs.size (.tup [.int (i : Nat), x])) h'' s.heap.objs.size (.tup [.int (i : Nat), x]) :=
      ⟨by show 2 ≤ sizeLine; decide, [.int i tk, x'], .cons ⟨_, rfl⟩ (.cons ru .nil), ⟨_, hT2, rfl, _, rfl⟩⟩
    have I1 : Inv X pins σ (upd H s.heap.objs.size (.tup [.int (i : Nat), x])) { s with heap := h'', toks := tk + 1 } :=
      I.turnedNew (ch := [e, it]) (fun b ob hb q => (sb.2 b (fun z => hb (by simp [z]))).trans (hk b ob (fun z => hb (by simp [z])) (fun z => hb (by simp [z])) q)) hf (Nat.le_refl _) new
    refine ⟨.ref s.heap.objs.size, _, I1, rfl, ⟨_, x, rfl, I.hok.fresh (Nat.le_refl _), rfl, fun ys hy => by rw [I.tuple_inj hy hq]; exact hx⟩, ⟨⟨x', ?_⟩, hst'.1.at fun o q => (sb.2 it (Ne.symm hei)).trans q⟩, fun b hb => ?_⟩
    · have e1 : ((i + 1 : Nat) : Int) = (i : Int) + 1 := by omega
      rw [e1]; exact he'
    · have hb' : b < s.heap.objs.size := by
        have e' : b = e ∨ b = it := by simpa using hb
        rcases e' with z | z
        · rw [z]; exact hel
        · rw [z]; exact hil
      rw [upd_ne (Nat.ne_of_lt hb')]
      exact (hf b hb).1
  done := by
    intro X hP hw hK hc i pins s σ H E I hf st hg
    subst hP hw hK
    obtain ⟨⟨old, he⟩, hit⟩ := st
    obtain ⟨xs, hq, hx⟩ := hg
    obtain ⟨its, rv, p, hz⟩ := I.tuple hq
    obtain ⟨f0, f1, f2, f3, f4, f5⟩ := hf it (by simp)
    have hl := rv.length
    have pT : s.heap.IsTuple a its.toArray := p
    have D0 := Draws.tuple (prog := X.prog) (w := X.w) (A := X.A.in1) (I.ok.hd hc) it a hai its.toArray
    have D : Draws X.prog X.w X.A.in1 it [it, a] i (fun _ _ => True) (fun j h => j = i ∧ h.IsTupleIter it a i ∧ h.IsTuple a its.toArray) :=
      { live := fun j h st => D0.live i h st.2
        frame := fun j h h' st hk => ⟨st.1, D0.frame i h h' st.2 hk⟩
        item := fun j s' Q' E' hj st' hQ' => absurd st'.1 (Nat.ne_of_lt hj)
        done := fun s' Q' E' st' hE' => wpAny_nextOf_tuple_end (I.ok.hd hc) st'.2.1 st'.2.2 (by rw [Array.getElem?_eq_none]; rw [List.size_toArray]; omega) hE' }
    exact wpAny_pyNext_enum_endD D he ⟨rfl, hit, pT⟩ fun h' eb => ⟨rfl, I.turned (t' := s.toks) (fun b o hb q => eb b o hb q) f0 f1 f3 f4 f5⟩
  self := fun A i s Q E st h => let ⟨⟨_, he⟩, _⟩ := st; wpAny_pyIter_enum he h
def iEnumT (K : PySem.W.Frag) (ta : TA) : TI := fun σ H R => ta σ H fun vs H1 => ∃ a xs, vs = [.ref a] ∧ SqT K H1 a xs ∧ R (Itet K a) H1
theorem pi_enumT {X : Cx} {e : Expr} {ta : TA} {p pos tpos : Pos} {elts : List Expr} {kk : Nat} (hg : Gl X "enumerate") (hm : X.mg "enumerate" = none) (ha : PA X [e] ta) (hs : starEach [e] X.env = [(false, eval e X.env)] := by rfl) :
    PI X (.Tuple elts kk tpos) (.Call (.Name "enumerate" p) [e] [] pos) (iEnumT X.K ta) := by
  refine ⟨fun pins s σ H R I h => ?_⟩
  refine Call_ (ld_blt I hg hm boot_enumerate (PyProof.Rows.callWith_type1 (thn (ha.run pos pins s σ H _ I h) fun us s1 ⟨vs, H1, I1, r1, q1⟩ => ?_) hs rfl))
  obtain ⟨a, xs, ex, hq, q⟩ := q1
  subst ex
  cases r1 with
  | cons r rr =>
    cases rr
    cases r
    obtain ⟨its, rv, p', hz⟩ := I1.tuple hq
    have pT : s1.heap.IsTuple a its.toArray := p'
    have hal : a < s1.heap.objs.size := p'.lt
    refine enum_begins1 (begins_tuple a its.toArray) pT fun h' he hit hsz hk => wpAny_pyIter_enum he ?_
    have I2 : Inv X pins σ H1 { s1 with heap := h' } := I1.kept (t' := s1.toks) hk
    refine ⟨s1.heap.objs.size + 1, [s1.heap.objs.size + 1, s1.heap.objs.size], _, _, H1, rfl, I2, turn_enumT a (s1.heap.objs.size + 1) s1.heap.objs.size (Nat.succ_ne_self _) (Nat.ne_of_lt hal) (Nat.ne_of_lt (Nat.lt_succ_of_lt hal)), ⟨⟨.none, he⟩, ⟨_, hit, rfl, rfl⟩⟩, fun b hb => ?_, q⟩
    have e' : b = s1.heap.objs.size + 1 ∨ b = s1.heap.objs.size := by simpa using hb
    have hle : s1.heap.objs.size ≤ b := by
      rcases e' with z | z
      · rw [z]; exact Nat.le_add_right _ _
      · rw [z]; exact Nat.le_refl _
    exact I1.fpOk hle (I1.hok.fresh hle)
/-- a for over it -/
theorem for_enumT {K : PySem.W.Frag} {a : Addr} {xs : List V} {g : TG} {tb : TS} {D : Ends} {σ : L2.St} {H : Hp} (Pv : Nat → L2.St → Hp → Prop) (h0 : Pv 0 σ H) (hl : ∀ i σ H, i ≤ xs.length → Pv i σ H → SqT K H a xs)
    (hs : ∀ i x σ H T, xs[i]? = some x → Pv i σ H → H T = none → g (.ref T) σ (upd H T (.tup [.int (i : Nat), x])) fun σ2 H2 => tb { D with nx := Pv (i + 1), ct := Pv (i + 1), bk := D.nx } σ2 H2) (hd : ∀ σ H, Pv xs.length σ H → D.nx σ H) :
    ∃ W : Nat → Nat → L2.St → Hp → Prop, (∃ m, W 0 m σ H) ∧ ∀ i m σ H, W i m σ H →
      ((Itet K a).stop i H ∧ D.nx σ H) ∨ ((Itet K a).go i H ∧ ∃ N : L2.St → Hp → Prop, (∀ σ' H', N σ' H' → ∃ m', m' < m ∧ W (i + 1) m' σ' H') ∧ ∀ x H', (Itet K a).yld i H x H' → g x σ H' fun σ2 H2 => tb { D with nx := N, ct := N, bk := D.nx } σ2 H2) := by
  refine ⟨fun i m σ H => m = xs.length - i ∧ i ≤ xs.length ∧ Pv i σ H, ⟨xs.length, by simp, Nat.zero_le _, h0⟩, ?_⟩
  rintro i m σ H ⟨rfl, hi, p⟩
  have q := hl i σ H hi p
  by_cases hlt : i < xs.length
  · refine .inr ⟨⟨xs, xs[i], q, by simp [hlt]⟩, Pv (i + 1), fun σ' H' p' => ⟨xs.length - (i + 1), by omega, rfl, hlt, p'⟩, fun x H' y => ?_⟩
    obtain ⟨T, x1, rfl, hT, rfl, hx⟩ := y
    exact hs i x1 σ H T (hx xs q) p hT
  · have e : i = xs.length := by omega
    subst e
    exact .inl ⟨⟨xs, q, Nat.le_refl _⟩, hd σ H p⟩

/-! ### xs[i] op= e, xs a list -/
theorem get_list {X : Cx} : PGet X (rIxL X.K) := by
  intro pins s σ H x y v u Q I rx ry h
  obtain ⟨p, xs, i, z, rfl, rfl, hq, he, q⟩ := h
  cases rx
  obtain ⟨t, rfl⟩ := ry
  obtain ⟨its, r, pl, hz⟩ := I.list hq
  obtain ⟨j, h1, h2, h3, h4, h5⟩ := atI_get he
  obtain ⟨w, ew, rw'⟩ := r.get h2
  have hl := r.length
  have hn := line63
  have fin : EP X pins σ Q w s := ⟨z, H, I, rw', q⟩
  by_cases h0 : 0 ≤ i
  · have hj : i.toNat = j := by
      rw [seqIndex_of h0 h5] at h1
      exact Option.some.inj h1
    exact wpAny_getItem_list pl.isList h0 (by omega) (by rw [hj]; simpa using ew) fin
  · have hj : (i + (its.toArray.size : Int)).toNat = j := by
      rw [seqIndex_neg (by omega) h4] at h1
      rw [List.size_toArray, ← hl]
      exact Option.some.inj h1
    exact wpAny_getItem_list_neg pl.isList (by omega) (by rw [List.size_toArray] <;> omega) (by omega) (by rw [hj]; simpa using ew) fin

/-! ### tuple.count of whole numbers -/
def rCntT (K : PySem.W.Frag) : V → List V → Hp → VK → Prop := fun x xs H Q => ∃ (p : Addr) (ns : List Int) (k : Int), x = .ref p ∧ xs = [.int k] ∧ SqT K H p (ns.map V.int) ∧ Q (.int (ns.count k : Nat)) H
theorem mt_tcount {X : Cx} : MtR X "tuple.count" (rCntT X.K) := by
  intro pins s σ H x xs v us Q I rx rxs h
  obtain ⟨p, ns, k, rfl, rfl, hs, q⟩ := h
  cases rx
  obtain ⟨u, rfl, ru⟩ := rxs.one
  obtain ⟨t, rfl⟩ := ru
  obtain ⟨its, rv, hp, hlen⟩ := I.tuple hs
  obtain ⟨⟨cls, dd, data, sl⟩, ho, hc, n, hd⟩ := hp
  simp only at hc hd
  subst hc hd
  have hi := ints_of_vals rv
  refine call_meets PySem.F.slot_tuple_count ⟨_, ho, rfl⟩ PySem.F.entry_tuple_count (PySem.F.args_tuple_count_2 _ _)
    (SeqAt.tuple_countAt p its.toArray n dd sl (.int k t) (eqk k)) ⟨ho, fun y hy => (eqk_gives hi y (by simpa using hy)).at _ _, ?_⟩
  have ec : its.toArray.toList.countP (eqk k) = ns.count k := eqk_count hi
  refine ⟨.int (ns.count k : Nat), H, I.tok _, ⟨s.toks, ?_⟩, q⟩
  show Value.int ((its.toArray.toList.countP (eqk k) : Nat) : Int) s.toks = Value.int ((ns.count k : Nat) : Int) s.toks
  rw [ec]

/-! ### d[k] = v as a target -/
def rSetD : V → V → V → Hp → (Hp → Prop) → Prop := fun o i v H Q => ∃ a H', o = .ref a ∧ DPut H a i v H' ∧ Q H'
theorem set_dict {X : Cx} (hu : X.A.units + 1 < cLine) : PSet X rSetD := by
  intro pins s σ H o i v ov iv u Q I ro ri rv h
  obtain ⟨a, H', rfl, g, q⟩ := h
  cases ro
  exact d_setItem hu I g ri rv fun s' I' => ⟨H', I', q⟩

/-! ### rules by name -/
def rTupS (K : PySem.W.Frag) : List V → Hp → VK → Prop := fun xs H Q => ∃ p ys, xs = [.ref p] ∧ ((SqL K H p ys ∧ ∀ l, H l = none → Q (.ref l) (upd H l (.tup ys))) ∨ (SqT K H p ys ∧ Q (.ref p) H))
theorem c_tup {X : Cx} : CallR X (.type "tuple") (rTupS X.K) := call_tuple_of
theorem c_list {X : Cx} : CallR X (.type "list") (Evl.rListS X.K) := call_list_of
theorem c_len {X : Cx} : CallR X (.builtin "len") (Evl.rLenS X.K) := call_len_seq
def rAbs : List V → Hp → VK → Prop := fun xs H Q => ∃ i, xs = [.int i] ∧ Q (.int (if i < 0 then -i else i)) H
theorem c_abs {X : Cx} : CallR X (.builtin "abs") rAbs := call_abs
def rInt1 : List V → Hp → VK → Prop := fun xs H Q => (∃ i, xs = [.int i] ∧ Q (.int i) H) ∨ ∃ k, xs = [.bl k] ∧ Q (.int (if k then 1 else 0)) H
theorem c_int {X : Cx} : CallR X (.type "int") rInt1 := call_int1

/-! ### sum of whole numbers: a list or a tuple -/
def rSumT (K : PySem.W.Frag) : List V → Hp → VK → Prop := fun vs H Q => ∃ (a : Addr) (ns : List Int), vs = [V.ref a] ∧ SqT K H a (ns.map V.int) ∧ Q (.int ns.sum) H
theorem cr_sumT {X : Cx} (hc : X.calm = true) : CallR X (.builtin "sum") (rSumT X.K) := by
  intro pins s σ H vs us Q I r h
  obtain ⟨a, ns, rfl, hs, q⟩ := h
  obtain ⟨its, rv, hl, _⟩ := I.tuple hs
  rw [Vals.ref1 r]
  have hi := rv.ints
  obtain ⟨xs, e⟩ := hi.allInts.items
  have hn : numsOf (intItems xs).toList = ns := by rw [← e]; exact hi.numsOf
  rw [nums_intItems] at hn
  have hl' : s.heap.IsTuple a its.toArray := hl
  rw [e] at hl'
  refine PySem.W.ktm_sumG (I.ok.hd hc) hl' fun h' tk t' hk => ?_
  rw [preSum_eq, List.take_of_length_le (by simp), hn]
  exact ⟨.int _, H, I.kept hk, ⟨_, rfl⟩, q⟩
def rSumA (K : PySem.W.Frag) : List V → Hp → VK → Prop := fun vs H Q => rSum K vs H Q ∨ rSumT K vs H Q
theorem c_sum {X : Cx} (hc : X.calm = true) : CallR X (.builtin "sum") (rSumA X.K) := (cr_sum hc).or (cr_sumT hc)

/-! ### tuple(list), the new tuple's object told: its methods may be called -/
def rTupF (K : PySem.W.Frag) : List V → Hp → VK → Prop := fun xs H Q => ∃ p ys, xs = [.ref p] ∧ SqL K H p ys ∧ ∀ l o, H l = none → o.dict = none → Q (.ref l) (upd H l (.frz o (.tup ys)))
theorem c_tupF {X : Cx} : CallR X (.type "tuple") (rTupF X.K) := by
  intro pins s σ H xs us Q I r h
  obtain ⟨p, ys, rfl, hq, q⟩ := h
  obtain ⟨u, rfl, rx⟩ := vals1 r
  cases rx
  obtain ⟨its, r', pl, hz⟩ := I.list hq
  have hlen := r'.length
  refine call_tuple_list pl.isList (fun h' kp => ?_) (by simp only [List.size_toArray] <;> omega)
  have I1 : Inv X pins σ H { s with heap := h' } := I.kept (t' := s.toks) kp
  have I2 : Inv X pins σ (upd H h'.objs.size (.frz { cls := .type "tuple", data := .seq its.toArray } (.tup ys))) { s with heap := h'.push { cls := .type "tuple", data := .seq its.toArray } } :=
    I1.laid (t' := s.toks) (fun b o e => Heap.get?_push_of_some _ e) (Nat.le_refl _) (show ObjOk X.prog X.w _ _ _ (.frz _ (.tup ys)) from ⟨Heap.get?_push_size _ rfl, hz, its, r', IsTup.new _ _⟩)
  exact ⟨.ref h'.objs.size, _, I2, rfl, q _ _ (I1.hok.fresh (Nat.le_refl _)) rfl⟩
def tBMF (K : PySem.W.Frag) (r : V → List V → Hp → VK → Prop) (to : TE) (t : TA) : TE := fun σ H Q => to σ H fun x H1 => (∃ p o ys, x = .ref p ∧ H1 p = some (.frz o (.tup ys)) ∧ o.dict = none) ∧ t σ H1 fun xs H2 => r x xs H2 Q
theorem pe_bmF {X : Cx} {o e : Expr} {es : List Expr} {to : TE} {t : TA} {name : Str} {apos cpos : Pos} {id : String} {r : V → List V → Hp → VK → Prop} (pa : PlainAttrs "tuple") (slot : Slot "tuple" name id) (hty : typeOf (.builtin id) = pure (.type "method_descriptor")) (hm : MtR X id r) (ho : PE X o to) (ha : PA X (e :: es) t)
    (hbase : attributeBase o name X.env (eval o X.env) = eval o X.env := by rfl)
    (hfew : ((backTo cpos (starEach (e :: es) X.env)).all (fun x => !x.1) && (backToKw cpos (keywordEach [] X.env)).all (fun x => x.1.isSome)
      && decide ((e :: es).length + ([] : List Keyword).length + (if ([] : List Keyword).isEmpty then 0 else 1) < 30)) = true := by rfl)
    (hline : (apos.endLine == cpos.line) = true := by rfl) (hs : starEach (e :: es) X.env = (false, eval e X.env) :: starEach es X.env := by rfl) (hplain : (backTo cpos (starEach es X.env)).any (·.1) = false := by rfl) :
    PE X (.Call (.Attribute o name apos) (e :: es) [] cpos) (tBMF X.K r to t) := by
  refine ⟨fun pins s σ H Q I h => ?_⟩
  refine wpAny_Call_method_late hbase hfew hline rfl (thn (ho.run pins s σ H _ I h) fun v s1 ⟨x, H1, I1, r1, ty, q1⟩ => ?_)
  obtain ⟨p, ob, ys, rfl, hp, hd⟩ := ty
  have hv : v = Value.ref p := r1
  subst hv
  obtain ⟨hg, _, its, _, o2, hg2, hc2, _⟩ := (show ObjOk X.prog X.w H1 s1.heap p (.frz ob (.tup ys)) from I1.hok p _ hp)
  have eo : o2 = ob := by
    rw [hg] at hg2
    exact (Option.some.inj hg2).symm
  subst eo
  refine ⟨"tuple", id, pa, slot, hty, ⟨o2, hg, hc2⟩, fun a ea => by cases ea; exact ⟨o2, hg, hd⟩, ?_⟩
  have hA := ha.run cpos pins s1 σ H1 _ I1 q1
  rw [hs] at hA ⊢
  refine Calls.callWith_builtin (by show (false || (backTo cpos (starEach es X.env)).any (·.1)) = false; rw [hplain] <;> rfl) (Calls.evalArgs_plain ?_)
  exact thn hA fun us s2 ⟨vs, H2, I2, r2, q2⟩ => hm pins s2 σ H2 _ vs _ us Q I2 r1 r2 q2
end K8

-- K8Der0
/-! Printed by gen_der.py: each def's names, its body's reading (t_), that it is that (der_), the def from its reading (def_) -/
namespace K8
open PySem PySem.Spec PyProof.Rows L2
/-! ### is_in: slots 0 value 1 least 2 most -/
theorem sc_is_in : FnScope ["value", "least", "most"] ["value", "least", "most"] (defScope s_is_in) := ⟨rfl, rfl, rfl, by decide +kernel, rfl, by decide +kernel, by decide +kernel⟩
def t_is_in (K : PySem.W.Frag) : TS :=
  tRet (tAndV (tCB (rIsi K) (tCons (tVar 0) (tCons (tC (.ty "int")) (tNil)))) (tAndV (tNotV (tCB (rIsi K) (tCons (tVar 0) (tCons (tC (.ty "bool")) (tNil))))) (tChain (rI0 fun i j => .bl (decide (i ≤ j))) (rI0 fun i j => .bl (decide (i ≤ j))) (tVar 1) (tVar 0) (tVar 2))))
theorem der_is_in {P : Program} {w : World} {K : PySem.W.Frag} {mg : Str → Option Value} {base : Heap} (T : Txt K mg)
    {f : Addr} {cdv : Value} {A : Around} {outer : List Env} {s : Shared} {H : Hp} {E : XK} (hr : Room 0 (A.deeper (envOfC "is_in" (defScope s_is_in) s.heap.objs.size f cdv))) :
    PSs (cxOf CX0 P w K mg base ["value", "least", "most"] "is_in" (defScope s_is_in) f cdv A outer s H E).nox (defBody s_is_in) (t_is_in K) := by
  unfold t_is_in
  exact (pss_one (ps_ret (pe_and (pe_callB call_isi (by rfl) T.b_isinstance (by decide +kernel) (pa_cons (pv 0) (pa_cons (pe_bltn (by rfl) T.b_int (by decide +kernel) rfl) pa_nil))) (pe_and (pe_not (pe_callB call_isi (by rfl) T.b_isinstance (by decide +kernel) (pa_cons (pv 0) (pa_cons (pe_bltn (by rfl) T.b_bool (by decide +kernel) rfl) pa_nil)))) (pe_one (pe_chain op_le op_le (pv 1) (pv 0) (pv 2)))))))
theorem def_is_in {P : Program} {w : World} {K : PySem.W.Frag} {mg : Str → Option Value} {base : Heap} {sp : Sp} (T : Txt K mg)
    (hl : ∀ vs H Q E, sp vs H Q E → vs.length = 3) (h : ∀ vs H Q E, sp vs H Q E → t_is_in K { nx := fun _ H' => Q .non H', rt := Q } (start ["value", "least", "most"] vs) H) : Def P w K mg base 1 "is_in" ["value", "least", "most"] sp := by
  obtain ⟨f, fd, F, g⟩ := T.f_is_in
  have b := F.binds (ps := ["value", "least", "most"]) fun _ _ _ _ _ _ us hl => match us, hl with | [_, _, _], _ => rfl
  exact ⟨f, fd, F.ok sc_is_in hl fun cdv A outer s H vs Q E hr q => ⟨_, der_is_in T hr, h vs H Q E q⟩, g, F.kp, b⟩

/-! ### gcd: slots 0 one 1 other -/
theorem sc_gcd : FnScope ["one", "other"] ["one", "other"] (defScope s_gcd) := ⟨rfl, rfl, rfl, by decide +kernel, rfl, by decide +kernel, by decide +kernel⟩
def t_gcd (K : PySem.W.Frag) : TS :=
  tSeq (tPar 0 1 (tCons (tCB rAbs (tCons (tVar 0) (tNil))) (tCons (tCB rAbs (tCons (tVar 1) (tNil))) (tNil))))
    (tSeq (tWhile (tTest (tOp rNe (tVar 1) (tC (.int 0))))
      (tPar 0 1 (tCons (tVar 1) (tCons (tOp (rI (fun _ j => 0 < j) fun i j => .int (i % j)) (tVar 0) (tVar 1)) (tNil)))))
    (tRet (tVar 0)))
theorem der_gcd {P : Program} {w : World} {K : PySem.W.Frag} {mg : Str → Option Value} {base : Heap} (T : Txt K mg)
    {f : Addr} {cdv : Value} {A : Around} {outer : List Env} {s : Shared} {H : Hp} {E : XK} (hr : Room 0 (A.deeper (envOfC "gcd" (defScope s_gcd) s.heap.objs.size f cdv))) :
    PSs (cxOf CX0 P w K mg base ["one", "other"] "gcd" (defScope s_gcd) f cdv A outer s H E).nox (defBody s_gcd) (t_gcd K) := by
  unfold t_gcd
  exact (pss_cons (ps_par (i := 0) (j := 1) rfl sc_gcd.nd rfl rfl (by decide) rfl rfl (pa_cons (pe_callB c_abs (by rfl) T.b_abs (by decide +kernel) (pa_cons (pv 0) pa_nil)) (pa_cons (pe_callB c_abs (by rfl) T.b_abs (by decide +kernel) (pa_cons (pv 1) pa_nil)) pa_nil)) (by rfl))
      (pss_cons (ps_while PassesOwn.never (pt_cmpR op_ne (pv 1) pe_int (nomark _)) (pss_one (ps_par (i := 0) (j := 1) rfl sc_gcd.nd rfl rfl (by decide) rfl rfl (pa_cons (pv 1) (pa_cons (pe_op op_mod (pv 0) (pv 1)) pa_nil)) (by rfl))))
      (pss_one (ps_ret (pv 0)))))
theorem def_gcd {P : Program} {w : World} {K : PySem.W.Frag} {mg : Str → Option Value} {base : Heap} {sp : Sp} (T : Txt K mg)
    (hl : ∀ vs H Q E, sp vs H Q E → vs.length = 2) (h : ∀ vs H Q E, sp vs H Q E → t_gcd K { nx := fun _ H' => Q .non H', rt := Q } (start ["one", "other"] vs) H) : Def P w K mg base 1 "gcd" ["one", "other"] sp := by
  obtain ⟨f, fd, F, g⟩ := T.f_gcd
  have b := F.binds (ps := ["one", "other"]) fun _ _ _ _ _ _ us hl => match us, hl with | [_, _], _ => rfl
  exact ⟨f, fd, F.ok sc_gcd hl fun cdv A outer s H vs Q E hr q => ⟨_, der_gcd T hr, h vs H Q E q⟩, g, F.kp, b⟩

/-! ### reduced: slots 0 numerator 1 denominator 2 common -/
theorem sc_reduced : FnScope ["numerator", "denominator", "common"] ["numerator", "denominator"] (defScope s_reduced) := ⟨rfl, rfl, rfl, by decide +kernel, rfl, by decide +kernel, by decide +kernel⟩
def t_reduced (K : PySem.W.Frag) (p_gcd : Sp) : TS :=
  tSeq (tAsg (tCall p_gcd [] E0 (tCons (tVar 0) (tCons (tVar 1) (tNil)))) (gName 2))
    (tSeq (tIfS (tTest (tOp (rI0 fun i j => .bl (decide (i < j))) (tVar 1) (tC (.int 0)))) (tAsg (tUn (rU fun i => .int (-i)) (tVar 2)) (gName 2)) (tNext))
    (tRet (tTup (tCons (tOp (rI CDiv fun i j => .int (i / j)) (tVar 0) (tVar 2)) (tCons (tOp (rI CDiv fun i j => .int (i / j)) (tVar 1) (tVar 2)) (tNil))))))
theorem der_reduced {P : Program} {w : World} {K : PySem.W.Frag} {mg : Str → Option Value} {base : Heap} {p_gcd : Sp} (T : Txt K mg) (D_gcd : Def P w K mg base 1 "gcd" ["one", "other"] p_gcd)
    {f : Addr} {cdv : Value} {A : Around} {outer : List Env} {s : Shared} {H : Hp} {E : XK} (hr : Room 1 (A.deeper (envOfC "reduced" (defScope s_reduced) s.heap.objs.size f cdv))) :
    PSs (cxOf CX0 P w K mg base ["numerator", "denominator", "common"] "reduced" (defScope s_reduced) f cdv A outer s H E).nox (defBody s_reduced) (t_reduced K p_gcd) := by
  unfold t_reduced
  exact (pss_cons (ps_set (i := 2) sc_reduced.nd rfl (Or.inl rfl) (pe_def D_gcd (hr.mono (by decide)) (by rfl) (pa_cons (pv 0) (pa_cons (pv 1) pa_nil))))
      (pss_cons (ps_if (pt_cmpR op_lt (pv 1) pe_int (nomark _)) (pss_one (ps_set (i := 2) sc_reduced.nd rfl (Or.inl rfl) (pe_un un_neg (pv 2)))) pss_nil)
      (pss_one (ps_ret (pe_tup (pa_cons (pe_op op_fdiv (pv 0) (pv 2)) (pa_cons (pe_op op_fdiv (pv 1) (pv 2)) pa_nil)))))))
theorem def_reduced {P : Program} {w : World} {K : PySem.W.Frag} {mg : Str → Option Value} {base : Heap} {p_gcd : Sp} {sp : Sp} (T : Txt K mg) (D_gcd : Def P w K mg base 1 "gcd" ["one", "other"] p_gcd)
    (hl : ∀ vs H Q E, sp vs H Q E → vs.length = 2) (h : ∀ vs H Q E, sp vs H Q E → t_reduced K p_gcd { nx := fun _ H' => Q .non H', rt := Q } (start ["numerator", "denominator", "common"] vs) H) : Def P w K mg base 2 "reduced" ["numerator", "denominator"] sp := by
  obtain ⟨f, fd, F, g⟩ := T.f_reduced
  have b := F.binds (ps := ["numerator", "denominator"]) fun _ _ _ _ _ _ us hl => match us, hl with | [_, _], _ => rfl
  exact ⟨f, fd, F.ok sc_reduced hl fun cdv A outer s H vs Q E hr q => ⟨_, der_reduced T D_gcd hr, h vs H Q E q⟩, g, F.kp, b⟩

/-! ### times: slots 0 one 1 other -/
theorem sc_times : FnScope ["one", "other"] ["one", "other"] (defScope s_times) := ⟨rfl, rfl, rfl, by decide +kernel, rfl, by decide +kernel, by decide +kernel⟩
def t_times (K : PySem.W.Frag) (p_reduced : Sp) : TS :=
  tRet (tCall p_reduced [] E0 (tCons (tOp (rI CMul fun i j => .int (i * j)) (tOp (rIx K) (tVar 0) (tC (.int 0))) (tOp (rIx K) (tVar 1) (tC (.int 0)))) (tCons (tOp (rI CMul fun i j => .int (i * j)) (tOp (rIx K) (tVar 0) (tC (.int 1))) (tOp (rIx K) (tVar 1) (tC (.int 1)))) (tNil))))
theorem der_times {P : Program} {w : World} {K : PySem.W.Frag} {mg : Str → Option Value} {base : Heap} {p_reduced : Sp} (T : Txt K mg) (D_reduced : Def P w K mg base 2 "reduced" ["numerator", "denominator"] p_reduced)
    {f : Addr} {cdv : Value} {A : Around} {outer : List Env} {s : Shared} {H : Hp} {E : XK} (hr : Room 2 (A.deeper (envOfC "times" (defScope s_times) s.heap.objs.size f cdv))) :
    PSs (cxOf CX0 P w K mg base ["one", "other"] "times" (defScope s_times) f cdv A outer s H E).nox (defBody s_times) (t_times K p_reduced) := by
  unfold t_times
  exact (pss_one (ps_ret (pe_def D_reduced (hr.mono (by decide)) (by rfl) (pa_cons (pe_op op_mul (pe_ix ix_seq (pv 0) pe_int (fun _ _ => rfl)) (pe_ix ix_seq (pv 1) pe_int (fun _ _ => rfl))) (pa_cons (pe_op op_mul (pe_ix ix_seq (pv 0) pe_int (fun _ _ => rfl)) (pe_ix ix_seq (pv 1) pe_int (fun _ _ => rfl))) pa_nil)))))
theorem def_times {P : Program} {w : World} {K : PySem.W.Frag} {mg : Str → Option Value} {base : Heap} {p_reduced : Sp} {sp : Sp} (T : Txt K mg) (D_reduced : Def P w K mg base 2 "reduced" ["numerator", "denominator"] p_reduced)
    (hl : ∀ vs H Q E, sp vs H Q E → vs.length = 2) (h : ∀ vs H Q E, sp vs H Q E → t_times K p_reduced { nx := fun _ H' => Q .non H', rt := Q } (start ["one", "other"] vs) H) : Def P w K mg base 3 "times" ["one", "other"] sp := by
  obtain ⟨f, fd, F, g⟩ := T.f_times
  have b := F.binds (ps := ["one", "other"]) fun _ _ _ _ _ _ us hl => match us, hl with | [_, _], _ => rfl
  exact ⟨f, fd, F.ok sc_times hl fun cdv A outer s H vs Q E hr q => ⟨_, der_times T D_reduced hr, h vs H Q E q⟩, g, F.kp, b⟩

/-! ### is_pipe: slots 0 value 1 boxes -/
theorem sc_is_pipe : FnScope ["value", "boxes"] ["value", "boxes"] (defScope s_is_pipe) := ⟨rfl, rfl, rfl, by decide +kernel, rfl, by decide +kernel, by decide +kernel⟩
def t_is_pipe (K : PySem.W.Frag) (p_is_in : Sp) : TS :=
  tSeq (tIfS (tOr (tNot (tB (tCB (rIsi K) (tCons (tVar 0) (tCons (tC (.ty "tuple")) (tNil)))))) (tTest (tOp rNe (tCB (Evl.rLenS K) (tCons (tVar 0) (tNil))) (tC (.int 5))))) (tRet (tC (.bl false))) (tNext))
    (tSeq (tIfS (tOr (tNot (tB (tCall p_is_in [] E0 (tCons (tOp (rIx K) (tVar 0) (tC (.int 0))) (tCons (tC (.int 0)) (tCons (tOp (rI0 fun i j => .int (i - j)) (tVar 1) (tC (.int 1))) (tNil))))))) (tNot (tB (tCall p_is_in [] E0 (tCons (tOp (rIx K) (tVar 0) (tC (.int 1))) (tCons (tC (.int 0)) (tCons (tOp (rI0 fun i j => .int (i - j)) (tVar 1) (tC (.int 1))) (tNil)))))))) (tRet (tC (.bl false))) (tNext))
    (tSeq (tIfS (tOr (tNot (tB (tCall p_is_in [] E0 (tCons (tOp (rIx K) (tVar 0) (tC (.int 2))) (tCons (tC (.int 1)) (tCons (tC (.int 999)) (tNil))))))) (tNot (tB (tCall p_is_in [] E0 (tCons (tOp (rIx K) (tVar 0) (tC (.int 3))) (tCons (tC (.int 1)) (tCons (tC (.int 999)) (tNil)))))))) (tRet (tC (.bl false))) (tNext))
    (tRet (tCall p_is_in [] E0 (tCons (tOp (rIx K) (tVar 0) (tC (.int 4))) (tCons (tC (.int 0)) (tCons (tC (.int 99999)) (tNil))))))))
theorem der_is_pipe {P : Program} {w : World} {K : PySem.W.Frag} {mg : Str → Option Value} {base : Heap} {p_is_in : Sp} (T : Txt K mg) (D_is_in : Def P w K mg base 1 "is_in" ["value", "least", "most"] p_is_in)
    {f : Addr} {cdv : Value} {A : Around} {outer : List Env} {s : Shared} {H : Hp} {E : XK} (hr : Room 1 (A.deeper (envOfC "is_pipe" (defScope s_is_pipe) s.heap.objs.size f cdv))) :
    PSs (cxOf CX0 P w K mg base ["value", "boxes"] "is_pipe" (defScope s_is_pipe) f cdv A outer s H E).nox (defBody s_is_pipe) (t_is_pipe K p_is_in) := by
  unfold t_is_pipe
  exact (pss_cons (ps_if (PW.pt (pw_or (pt_not (pt_val (pe_callB call_isi (by rfl) T.b_isinstance (by decide +kernel) (pa_cons (pv 0) (pa_cons (pe_bltn (by rfl) T.b_tuple (by decide +kernel) rfl) pa_nil))))) (pw_or1 (pt_cmpR op_ne (pe_callB c_len (by rfl) T.b_len PySem.boot_len (pa_cons (pv 0) pa_nil)) pe_int (nomark _))))) (pss_one (ps_ret pe_bl)) pss_nil)
      (pss_cons (ps_if (PW.pt (pw_or (pt_not (pt_val (pe_def D_is_in (hr.mono (by decide)) (by rfl) (pa_cons (pe_ix ix_seq (pv 0) pe_int (fun _ _ => rfl)) (pa_cons pe_int (pa_cons (pe_op op_sub (pv 1) pe_int) pa_nil)))))) (pw_or1 (pt_not (pt_val (pe_def D_is_in (hr.mono (by decide)) (by rfl) (pa_cons (pe_ix ix_seq (pv 0) pe_int (fun _ _ => rfl)) (pa_cons pe_int (pa_cons (pe_op op_sub (pv 1) pe_int) pa_nil))))))))) (pss_one (ps_ret pe_bl)) pss_nil)
      (pss_cons (ps_if (PW.pt (pw_or (pt_not (pt_val (pe_def D_is_in (hr.mono (by decide)) (by rfl) (pa_cons (pe_ix ix_seq (pv 0) pe_int (fun _ _ => rfl)) (pa_cons pe_int (pa_cons (pe_const T.c_MOST_RATE (by rfl)) pa_nil)))))) (pw_or1 (pt_not (pt_val (pe_def D_is_in (hr.mono (by decide)) (by rfl) (pa_cons (pe_ix ix_seq (pv 0) pe_int (fun _ _ => rfl)) (pa_cons pe_int (pa_cons (pe_const T.c_MOST_RATE (by rfl)) pa_nil))))))))) (pss_one (ps_ret pe_bl)) pss_nil)
      (pss_one (ps_ret (pe_def D_is_in (hr.mono (by decide)) (by rfl) (pa_cons (pe_ix ix_seq (pv 0) pe_int (fun _ _ => rfl)) (pa_cons pe_int (pa_cons (pe_const T.c_MOST_TOKENS (by rfl)) pa_nil)))))))))
theorem def_is_pipe {P : Program} {w : World} {K : PySem.W.Frag} {mg : Str → Option Value} {base : Heap} {p_is_in : Sp} {sp : Sp} (T : Txt K mg) (D_is_in : Def P w K mg base 1 "is_in" ["value", "least", "most"] p_is_in)
    (hl : ∀ vs H Q E, sp vs H Q E → vs.length = 2) (h : ∀ vs H Q E, sp vs H Q E → t_is_pipe K p_is_in { nx := fun _ H' => Q .non H', rt := Q } (start ["value", "boxes"] vs) H) : Def P w K mg base 2 "is_pipe" ["value", "boxes"] sp := by
  obtain ⟨f, fd, F, g⟩ := T.f_is_pipe
  have b := F.binds (ps := ["value", "boxes"]) fun _ _ _ _ _ _ us hl => match us, hl with | [_, _], _ => rfl
  exact ⟨f, fd, F.ok sc_is_pipe hl fun cdv A outer s H vs Q E hr q => ⟨_, der_is_pipe T D_is_in hr, h vs H Q E q⟩, g, F.kp, b⟩

/-! ### need_flow: slots 0 flow 1 index 2 pipe -/
theorem sc_need_flow : FnScope ["flow", "index", "pipe"] ["flow"] (defScope s_need_flow) := ⟨rfl, rfl, rfl, by decide +kernel, rfl, by decide +kernel, by decide +kernel⟩
def t_need_flow (K : PySem.W.Frag) (p_is_in : Sp) (p_is_pipe : Sp) : TS :=
  tSeq (tIfS (tOr (tNot (tB (tCB (rIsi K) (tCons (tVar 0) (tCons (tC (.ty "tuple")) (tNil)))))) (tOr (tTest (tOp rNe (tCB (Evl.rLenS K) (tCons (tVar 0) (tNil))) (tC (.int 2)))) (tNot (tB (tCall p_is_in [] E0 (tCons (tOp (rIx K) (tVar 0) (tC (.int 0))) (tCons (tC (.int 1)) (tCons (tC (.int 8)) (tNil))))))))) (tNever) (tNext))
    (tSeq (tIfS (tOr (tNot (tB (tCB (rIsi K) (tCons (tOp (rIx K) (tVar 0) (tC (.int 1))) (tCons (tC (.ty "tuple")) (tNil)))))) (tTest (tOp (rI0 fun i j => .bl (decide (j < i))) (tCB (Evl.rLenS K) (tCons (tOp (rIx K) (tVar 0) (tC (.int 1))) (tNil))) (tC (.int 16))))) (tNever) (tNext))
    (tFor (iEnumT K (tCons (tOp (rIx K) (tVar 0) (tC (.int 1))) (tNil))) (gTup K 2 (gCons (gName 1) (gCons (gName 2) gNil)))
      (tIfS (tNot (tB (tCall p_is_pipe [] E0 (tCons (tVar 2) (tCons (tOp (rIx K) (tVar 0) (tC (.int 0))) (tNil)))))) (tNever) (tNext))))
theorem der_need_flow {P : Program} {w : World} {K : PySem.W.Frag} {mg : Str → Option Value} {base : Heap} {p_is_in : Sp} {p_is_pipe : Sp} (T : Txt K mg) (D_is_in : Def P w K mg base 1 "is_in" ["value", "least", "most"] p_is_in) (D_is_pipe : Def P w K mg base 2 "is_pipe" ["value", "boxes"] p_is_pipe)
    {f : Addr} {cdv : Value} {A : Around} {outer : List Env} {s : Shared} {H : Hp} {E : XK} (hr : Room 2 (A.deeper (envOfC "need_flow" (defScope s_need_flow) s.heap.objs.size f cdv))) :
    PSs (cxOf CX0 P w K mg base ["flow", "index", "pipe"] "need_flow" (defScope s_need_flow) f cdv A outer s H E).nox (defBody s_need_flow) (t_need_flow K p_is_in p_is_pipe) := by
  unfold t_need_flow
  exact (pss_cons (ps_if (PW.pt (pw_or (pt_not (pt_val (pe_callB call_isi (by rfl) T.b_isinstance (by decide +kernel) (pa_cons (pv 0) (pa_cons (pe_bltn (by rfl) T.b_tuple (by decide +kernel) rfl) pa_nil))))) (pw_or (pt_cmpR op_ne (pe_callB c_len (by rfl) T.b_len PySem.boot_len (pa_cons (pv 0) pa_nil)) pe_int (nomark _)) (pw_or1 (pt_not (pt_val (pe_def D_is_in (hr.mono (by decide)) (by rfl) (pa_cons (pe_ix ix_seq (pv 0) pe_int (fun _ _ => rfl)) (pa_cons pe_int (pa_cons (pe_const T.c_MOST_BOXES (by rfl)) pa_nil)))))))))) pss_never pss_nil)
      (pss_cons (ps_if (PW.pt (pw_or (pt_not (pt_val (pe_callB call_isi (by rfl) T.b_isinstance (by decide +kernel) (pa_cons (pe_ix ix_seq (pv 0) pe_int (fun _ _ => rfl)) (pa_cons (pe_bltn (by rfl) T.b_tuple (by decide +kernel) rfl) pa_nil))))) (pw_or1 (pt_cmpR op_gt (pe_callB c_len (by rfl) T.b_len PySem.boot_len (pa_cons (pe_ix ix_seq (pv 0) pe_int (fun _ _ => rfl)) pa_nil)) (pe_const T.c_MOST_PIPES (by rfl)) (nomark _))))) pss_never pss_nil)
      (pss_one (ps_for PassesOwn.never rfl (pi_enumT (by rfl) T.b_enumerate (pa_cons (pe_ix ix_seq (pv 0) pe_int (fun _ _ => rfl)) pa_nil)) (pg_tup rfl (pgs_cons (pg_name (i := 1) sc_need_flow.nd rfl (Or.inl rfl)) (pgs_cons (pg_name (i := 2) sc_need_flow.nd rfl (Or.inl rfl)) pgs_nil))) (pss_one (ps_if (pt_not (pt_val (pe_def D_is_pipe (hr.mono (by decide)) (by rfl) (pa_cons (pv 2) (pa_cons (pe_ix ix_seq (pv 0) pe_int (fun _ _ => rfl)) pa_nil))))) pss_never pss_nil))))))
theorem def_need_flow {P : Program} {w : World} {K : PySem.W.Frag} {mg : Str → Option Value} {base : Heap} {p_is_in : Sp} {p_is_pipe : Sp} {sp : Sp} (T : Txt K mg) (D_is_in : Def P w K mg base 1 "is_in" ["value", "least", "most"] p_is_in) (D_is_pipe : Def P w K mg base 2 "is_pipe" ["value", "boxes"] p_is_pipe)
    (hl : ∀ vs H Q E, sp vs H Q E → vs.length = 1) (h : ∀ vs H Q E, sp vs H Q E → t_need_flow K p_is_in p_is_pipe { nx := fun _ H' => Q .non H', rt := Q } (start ["flow", "index", "pipe"] vs) H) : Def P w K mg base 3 "need_flow" ["flow"] sp := by
  obtain ⟨f, fd, F, g⟩ := T.f_need_flow
  have b := F.binds (ps := ["flow"]) fun _ _ _ _ _ _ us hl => match us, hl with | [_], _ => rfl
  exact ⟨f, fd, F.ok sc_need_flow hl fun cdv A outer s H vs Q E hr q => ⟨_, der_need_flow T D_is_in D_is_pipe hr, h vs H Q E q⟩, g, F.kp, b⟩

/-! ### reach_of: slots 0 flow 1 box 2 both 3 found 4 rows 5 here 6 near 7 there 8 pipe -/
theorem sc_reach_of : FnScope ["flow", "box", "both", "found", "rows", "here", "near", "there", "pipe"] ["flow", "box", "both"] (defScope s_reach_of) := ⟨rfl, rfl, rfl, by decide +kernel, rfl, by decide +kernel, by decide +kernel⟩
def t_reach_of (K : PySem.W.Frag) : TS :=
  tSeq (tPar 3 4 (tCons (tLst (tCons (tVar 1) (tNil))) (tCons (tLst (tCons (tVar 1) (tNil))) (tNil))))
    (tSeq (tWhile (tTest (tOp (rNeD K) (tVar 4) (tLst (tNil))))
      (tSeq (tAsg (tBM0 K "list" rPop (tVar 4)) (gName 5))
    (tSeq (tAsg (tLc (iTup K (tOp (rIx K) (tVar 0) (tC (.int 1)))) (gName 8) (tTest (tOp rEq (tOp (rIx K) (tVar 8) (tC (.int 0))) (tVar 5))) (tOp (rIx K) (tVar 8) (tC (.int 1))) [8]) (gName 6))
    (tSeq (tAsg (tOp rCat (tVar 6) (tIf (tB (tVar 2)) (tLc (iTup K (tOp (rIx K) (tVar 0) (tC (.int 1)))) (gName 8) (tTest (tOp rEq (tOp (rIx K) (tVar 8) (tC (.int 1))) (tVar 5))) (tOp (rIx K) (tVar 8) (tC (.int 0))) [8]) (tLst (tNil)))) (gName 6))
    (tFor (iList K (tVar 6)) (gName 7)
      (tIfS (tTest (tOp (rIn K true) (tVar 7) (tVar 3))) (tSeq (tDrop (tBM K "list" rAppend (tVar 3) (tCons (tVar 7) (tNil))))
    (tDrop (tBM K "list" rAppend (tVar 4) (tCons (tVar 7) (tNil))))) (tNext)))))))
    (tRet (tCB (rSortedI K) (tCons (tVar 3) (tNil)))))
theorem der_reach_of {P : Program} {w : World} {K : PySem.W.Frag} {mg : Str → Option Value} {base : Heap} (T : Txt K mg)
    {f : Addr} {cdv : Value} {A : Around} {outer : List Env} {s : Shared} {H : Hp} {E : XK} (hr : Room 0 (A.deeper (envOfC "reach_of" (defScope s_reach_of) s.heap.objs.size f cdv))) :
    PSs (cxOf CX0 P w K mg base ["flow", "box", "both", "found", "rows", "here", "near", "there", "pipe"] "reach_of" (defScope s_reach_of) f cdv A outer s H E).nox (defBody s_reach_of) (t_reach_of K) := by
  unfold t_reach_of
  exact (pss_cons (ps_par (i := 3) (j := 4) rfl sc_reach_of.nd rfl rfl (by decide) rfl rfl (pa_cons (pe_lst (pa_cons (pv 1) pa_nil)) (pa_cons (pe_lst (pa_cons (pv 1) pa_nil)) pa_nil)) (by rfl))
      (pss_cons (ps_while PassesOwn.never (pt_cmpR (op_neD hr.units) (pv 4) (pe_lst pa_nil) (nomark _)) (pss_cons (ps_set (i := 5) sc_reach_of.nd rfl (Or.inr rfl) (pe_bm0 PySem.F.plainAttrs_list PySem.F.slot_list_pop PySem.F.type_list_pop mt_pop (pv 4)))
      (pss_cons (ps_setLc (i := 6) (own := [("pipe", 8)]) (g := (gName 8)) (tt := (tTest (tOp rEq (tOp (rIx K) (tVar 8) (tC (.int 0))) (tVar 5)))) rfl sc_reach_of.nd rfl rfl (sw_true rfl rfl rfl (by decide +kernel)) (pi_tup (pe_ix ix_seq (pv 0) pe_int (fun _ _ => rfl))) (blkOk_by (N := ["flow", "box", "both", "found", "rows", "here", "near", "there", "pipe"]) (sc := defScope s_reach_of) (by decide +kernel)) (fun _ _ _ _ _ => (pg_name (i := 8) sc_reach_of.nd rfl (Or.inl rfl))) (fun _ _ _ _ _ => (pts_one (pt_cmpR op_eq (pe_ix ix_seq (pv 8) pe_int (fun _ _ => rfl)) (pv 5) (nomark _)))) (fun _ _ _ _ _ => (pe_ix ix_seq (pv 8) pe_int (fun _ _ => rfl))))
      (pss_cons (ps_set (i := 6) sc_reach_of.nd rfl (Or.inl rfl) (pe_op op_cat (pv 6) (pe_ifExp (pt_val (pv 2)) (pe_lc (own := [("pipe", 8)]) (g := (gName 8)) (tt := (tTest (tOp rEq (tOp (rIx K) (tVar 8) (tC (.int 1))) (tVar 5)))) rfl sc_reach_of.nd (pi_tup (pe_ix ix_seq (pv 0) pe_int (fun _ _ => rfl))) (blkOk_by (N := ["flow", "box", "both", "found", "rows", "here", "near", "there", "pipe"]) (sc := defScope s_reach_of) (by decide +kernel)) (fun _ _ _ _ _ => (pg_name (i := 8) sc_reach_of.nd rfl (Or.inl rfl))) (fun _ _ _ _ _ => (pts_one (pt_cmpR op_eq (pe_ix ix_seq (pv 8) pe_int (fun _ _ => rfl)) (pv 5) (nomark _)))) (fun _ _ _ _ _ => (pe_ix ix_seq (pv 8) pe_int (fun _ _ => rfl)))) (pe_lst pa_nil))))
      (pss_one (ps_for PassesOwn.never rfl (pi_list (pv 6)) (pg_name (i := 7) sc_reach_of.nd rfl (Or.inl rfl)) (pss_one (ps_if (pt_cmpR op_notIn_seq (pv 7) (pv 3) (by rfl)) (pss_cons (ps_expr (pe_bm PySem.F.plainAttrs_list PySem.F.slot_list_append PySem.F.type_list_append mt_append (pv 3) (pa_cons (pv 7) pa_nil)))
      (pss_one (ps_expr (pe_bm PySem.F.plainAttrs_list PySem.F.slot_list_append PySem.F.type_list_append mt_append (pv 4) (pa_cons (pv 7) pa_nil))))) pss_nil))))))))
      (pss_one (ps_ret (pe_callB cr_sortedI (by rfl) T.b_sorted (by decide +kernel) (pa_cons (pv 3) pa_nil))))))
theorem def_reach_of {P : Program} {w : World} {K : PySem.W.Frag} {mg : Str → Option Value} {base : Heap} {sp : Sp} (T : Txt K mg)
    (hl : ∀ vs H Q E, sp vs H Q E → vs.length = 3) (h : ∀ vs H Q E, sp vs H Q E → t_reach_of K { nx := fun _ H' => Q .non H', rt := Q } (start ["flow", "box", "both", "found", "rows", "here", "near", "there", "pipe"] vs) H) : Def P w K mg base 1 "reach_of" ["flow", "box", "both"] sp := by
  obtain ⟨f, fd, F, g⟩ := T.f_reach_of
  have b := F.binds (ps := ["flow", "box", "both"]) fun _ _ _ _ _ _ us hl => match us, hl with | [_, _, _], _ => rfl
  exact ⟨f, fd, F.ok sc_reach_of hl fun cdv A outer s H vs Q E hr q => ⟨_, der_reach_of T hr, h vs H Q E q⟩, g, F.kp, b⟩

/-! ### parts_in: slots 0 flow 1 found 2 box 3 part -/
theorem sc_parts_in : FnScope ["flow", "found", "box", "part"] ["flow"] (defScope s_parts_in) := ⟨rfl, rfl, rfl, by decide +kernel, rfl, by decide +kernel, by decide +kernel⟩
def t_parts_in (K : PySem.W.Frag) (p_reach_of : Sp) : TS :=
  tSeq (tAsg (tLst (tNil)) (gName 1))
    (tSeq (tFor (iRng1 (tCons (tOp (rIx K) (tVar 0) (tC (.int 0))) (tNil))) (gName 2)
      (tSeq (tAsg (tCall p_reach_of [] E0 (tCons (tVar 0) (tCons (tVar 2) (tCons (tC (.bl true)) (tNil))))) (gName 3))
    (tIfS (tTest (tOp rEq (tOp (rIx K) (tVar 3) (tC (.int 0))) (tVar 2))) (tDrop (tBM K "list" rAppend (tVar 1) (tCons (tCB (rTupS K) (tCons (tVar 3) (tNil))) (tNil)))) (tNext))))
    (tRet (tVar 1)))
theorem der_parts_in {P : Program} {w : World} {K : PySem.W.Frag} {mg : Str → Option Value} {base : Heap} {p_reach_of : Sp} (T : Txt K mg) (D_reach_of : Def P w K mg base 1 "reach_of" ["flow", "box", "both"] p_reach_of)
    {f : Addr} {cdv : Value} {A : Around} {outer : List Env} {s : Shared} {H : Hp} {E : XK} (hr : Room 1 (A.deeper (envOfC "parts_in" (defScope s_parts_in) s.heap.objs.size f cdv))) :
    PSs (cxOf CX0 P w K mg base ["flow", "found", "box", "part"] "parts_in" (defScope s_parts_in) f cdv A outer s H E).nox (defBody s_parts_in) (t_parts_in K p_reach_of) := by
  unfold t_parts_in
  exact (pss_cons (ps_set (i := 1) sc_parts_in.nd rfl (Or.inl rfl) (pe_lst pa_nil))
      (pss_cons (ps_for PassesOwn.never rfl (pi_range1 (by rfl) T.b_range (pa_cons (pe_ix ix_seq (pv 0) pe_int (fun _ _ => rfl)) pa_nil)) (pg_name (i := 2) sc_parts_in.nd rfl (Or.inl rfl)) (pss_cons (ps_set (i := 3) sc_parts_in.nd rfl (Or.inl rfl) (pe_def D_reach_of (hr.mono (by decide)) (by rfl) (pa_cons (pv 0) (pa_cons (pv 2) (pa_cons pe_bl pa_nil)))))
      (pss_one (ps_if (pt_cmpR op_eq (pe_ix ix_seq (pv 3) pe_int (fun _ _ => rfl)) (pv 2) (nomark _)) (pss_one (ps_expr (pe_bm PySem.F.plainAttrs_list PySem.F.slot_list_append PySem.F.type_list_append mt_append (pv 1) (pa_cons (pe_callTy c_tup (by rfl) T.b_tuple (by decide +kernel) (pa_cons (pv 3) pa_nil)) pa_nil)))) pss_nil))))
      (pss_one (ps_ret (pv 1)))))
theorem def_parts_in {P : Program} {w : World} {K : PySem.W.Frag} {mg : Str → Option Value} {base : Heap} {p_reach_of : Sp} {sp : Sp} (T : Txt K mg) (D_reach_of : Def P w K mg base 1 "reach_of" ["flow", "box", "both"] p_reach_of)
    (hl : ∀ vs H Q E, sp vs H Q E → vs.length = 1) (h : ∀ vs H Q E, sp vs H Q E → t_parts_in K p_reach_of { nx := fun _ H' => Q .non H', rt := Q } (start ["flow", "found", "box", "part"] vs) H) : Def P w K mg base 2 "parts_in" ["flow"] sp := by
  obtain ⟨f, fd, F, g⟩ := T.f_parts_in
  have b := F.binds (ps := ["flow"]) fun _ _ _ _ _ _ us hl => match us, hl with | [_], _ => rfl
  exact ⟨f, fd, F.ok sc_parts_in hl fun cdv A outer s H vs Q E hr q => ⟨_, der_parts_in T D_reach_of hr, h vs H Q E q⟩, g, F.kp, b⟩

/-! ### marks_in: slots 0 flow 1 pipe -/
theorem sc_marks_in : FnScope ["flow", "pipe"] ["flow"] (defScope s_marks_in) := ⟨rfl, rfl, rfl, by decide +kernel, rfl, by decide +kernel, by decide +kernel⟩
def t_marks_in (K : PySem.W.Frag) : TS :=
  tRet (tCB (rTupS K) (tCons (tLc (iTup K (tOp (rIx K) (tVar 0) (tC (.int 1)))) (gName 1) tYes (tOp (rIx K) (tVar 1) (tC (.int 4))) [1]) (tNil)))
theorem der_marks_in {P : Program} {w : World} {K : PySem.W.Frag} {mg : Str → Option Value} {base : Heap} (T : Txt K mg)
    {f : Addr} {cdv : Value} {A : Around} {outer : List Env} {s : Shared} {H : Hp} {E : XK} (hr : Room 0 (A.deeper (envOfC "marks_in" (defScope s_marks_in) s.heap.objs.size f cdv))) :
    PSs (cxOf CX0 P w K mg base ["flow", "pipe"] "marks_in" (defScope s_marks_in) f cdv A outer s H E).nox (defBody s_marks_in) (t_marks_in K) := by
  unfold t_marks_in
  exact (pss_one (ps_ret (pe_callTy c_tup (by rfl) T.b_tuple (by decide +kernel) (pa_cons (pe_lc (own := [("pipe", 1)]) (g := (gName 1)) (tt := tYes) rfl sc_marks_in.nd (pi_tup (pe_ix ix_seq (pv 0) pe_int (fun _ _ => rfl))) (blkOk_by (N := ["flow", "pipe"]) (sc := defScope s_marks_in) (by decide +kernel)) (fun _ _ _ _ _ => (pg_name (i := 1) sc_marks_in.nd rfl (Or.inl rfl))) (fun _ _ _ _ _ => pts_nil) (fun _ _ _ _ _ => (pe_ix ix_seq (pv 1) pe_int (fun _ _ => rfl)))) pa_nil))))
theorem def_marks_in {P : Program} {w : World} {K : PySem.W.Frag} {mg : Str → Option Value} {base : Heap} {sp : Sp} (T : Txt K mg)
    (hl : ∀ vs H Q E, sp vs H Q E → vs.length = 1) (h : ∀ vs H Q E, sp vs H Q E → t_marks_in K { nx := fun _ H' => Q .non H', rt := Q } (start ["flow", "pipe"] vs) H) : Def P w K mg base 1 "marks_in" ["flow"] sp := by
  obtain ⟨f, fd, F, g⟩ := T.f_marks_in
  have b := F.binds (ps := ["flow"]) fun _ _ _ _ _ _ us hl => match us, hl with | [_], _ => rfl
  exact ⟨f, fd, F.ok sc_marks_in hl fun cdv A outer s H vs Q E hr q => ⟨_, der_marks_in T hr, h vs H Q E q⟩, g, F.kp, b⟩
end K8

-- K8Der1
/-! Printed by gen_der.py: each def's names, its body's reading (t_), that it is that (der_), the def from its reading (def_) -/
namespace K8
open PySem PySem.Spec PyProof.Rows L2
/-! ### lacks: slots 0 flow 1 some 2 box 3 index 4 one 5 other 6 give 7 eat 8 start -/
theorem sc_lacks : FnScope ["flow", "some", "box", "index", "one", "other", "give", "eat", "start"] ["flow", "some", "box"] (defScope s_lacks) := ⟨rfl, rfl, rfl, by decide +kernel, rfl, by decide +kernel, by decide +kernel⟩
def t_lacks (K : PySem.W.Frag) : TS :=
  tSeq (tFor (iEnumT K (tCons (tOp (rIx K) (tVar 0) (tC (.int 1))) (tNil))) (gTup K 2 (gCons (gName 3) (gCons (gTup K 5 (gCons (gName 4) (gCons (gName 5) (gCons (gName 6) (gCons (gName 7) (gCons (gName 8) gNil)))))) gNil)))
      (tIfS (tAnd (tTest (tOp rEq (tVar 5) (tVar 2))) (tTest (tOp (rI0 fun i j => .bl (decide (i < j))) (tOp (rIx K) (tVar 1) (tVar 3)) (tVar 7)))) (tRet (tVar 3)) (tNext)))
    (tRet (tC .non))
theorem der_lacks {P : Program} {w : World} {K : PySem.W.Frag} {mg : Str → Option Value} {base : Heap} (T : Txt K mg)
    {f : Addr} {cdv : Value} {A : Around} {outer : List Env} {s : Shared} {H : Hp} {E : XK} (hr : Room 0 (A.deeper (envOfC "lacks" (defScope s_lacks) s.heap.objs.size f cdv))) :
    PSs (cxOf CX0 P w K mg base ["flow", "some", "box", "index", "one", "other", "give", "eat", "start"] "lacks" (defScope s_lacks) f cdv A outer s H E).nox (defBody s_lacks) (t_lacks K) := by
  unfold t_lacks
  exact (pss_cons (ps_for PassesOwn.never rfl (pi_enumT (by rfl) T.b_enumerate (pa_cons (pe_ix ix_seq (pv 0) pe_int (fun _ _ => rfl)) pa_nil)) (pg_tup rfl (pgs_cons (pg_name (i := 3) sc_lacks.nd rfl (Or.inl rfl)) (pgs_cons (pg_tup rfl (pgs_cons (pg_name (i := 4) sc_lacks.nd rfl (Or.inl rfl)) (pgs_cons (pg_name (i := 5) sc_lacks.nd rfl (Or.inl rfl)) (pgs_cons (pg_name (i := 6) sc_lacks.nd rfl (Or.inl rfl)) (pgs_cons (pg_name (i := 7) sc_lacks.nd rfl (Or.inl rfl)) (pgs_cons (pg_name (i := 8) sc_lacks.nd rfl (Or.inl rfl)) pgs_nil)))))) pgs_nil))) (pss_one (ps_if (PW.pt (pw_and (pt_cmpR op_eq (pv 5) (pv 2) (nomark _)) (pw_and1 (pt_cmpR op_lt (pe_ix ix_seq (pv 1) (pv 3) (fun _ _ => rfl)) (pv 7) (nomark _))))) (pss_one (ps_ret (pv 3))) pss_nil)))
      (pss_one (ps_ret pe_non)))
theorem def_lacks {P : Program} {w : World} {K : PySem.W.Frag} {mg : Str → Option Value} {base : Heap} {sp : Sp} (T : Txt K mg)
    (hl : ∀ vs H Q E, sp vs H Q E → vs.length = 3) (h : ∀ vs H Q E, sp vs H Q E → t_lacks K { nx := fun _ H' => Q .non H', rt := Q } (start ["flow", "some", "box", "index", "one", "other", "give", "eat", "start"] vs) H) : Def P w K mg base 1 "lacks" ["flow", "some", "box"] sp := by
  obtain ⟨f, fd, F, g⟩ := T.f_lacks
  have b := F.binds (ps := ["flow", "some", "box"]) fun _ _ _ _ _ _ us hl => match us, hl with | [_, _, _], _ => rfl
  exact ⟨f, fd, F.ok sc_lacks hl fun cdv A outer s H vs Q E hr q => ⟨_, der_lacks T hr, h vs H Q E q⟩, g, F.kp, b⟩

/-! ### behind: slots 0 flow 1 some 2 box 3 found 4 index 5 one 6 other 7 give 8 eat 9 start -/
theorem sc_behind : FnScope ["flow", "some", "box", "found", "index", "one", "other", "give", "eat", "start"] ["flow", "some", "box"] (defScope s_behind) := ⟨rfl, rfl, rfl, by decide +kernel, rfl, by decide +kernel, by decide +kernel⟩
def t_behind (K : PySem.W.Frag) : TS :=
  tSeq (tAsg (tCB (Evl.rListS K) (tCons (tVar 1) (tNil))) (gName 3))
    (tSeq (tFor (iEnumT K (tCons (tOp (rIx K) (tVar 0) (tC (.int 1))) (tNil))) (gTup K 2 (gCons (gName 4) (gCons (gTup K 5 (gCons (gName 5) (gCons (gName 6) (gCons (gName 7) (gCons (gName 8) (gCons (gName 9) gNil)))))) gNil)))
      (tAugS (tVar 3) (tVar 4) (tOp (rI0 fun i j => .int (i - j)) (tIf (tTest (tOp rEq (tVar 5) (tVar 2))) (tVar 7) (tC (.int 0))) (tIf (tTest (tOp rEq (tVar 6) (tVar 2))) (tVar 8) (tC (.int 0)))) (rIxL K) (ipI fun i j => i + j) rSetL))
    (tRet (tCB (rTupS K) (tCons (tVar 3) (tNil)))))
theorem der_behind {P : Program} {w : World} {K : PySem.W.Frag} {mg : Str → Option Value} {base : Heap} (T : Txt K mg)
    {f : Addr} {cdv : Value} {A : Around} {outer : List Env} {s : Shared} {H : Hp} {E : XK} (hr : Room 0 (A.deeper (envOfC "behind" (defScope s_behind) s.heap.objs.size f cdv))) :
    PSs (cxOf CX0 P w K mg base ["flow", "some", "box", "found", "index", "one", "other", "give", "eat", "start"] "behind" (defScope s_behind) f cdv A outer s H E).nox (defBody s_behind) (t_behind K) := by
  unfold t_behind
  exact (pss_cons (ps_set (i := 3) sc_behind.nd rfl (Or.inl rfl) (pe_callTy c_list (by rfl) T.b_list (by decide +kernel) (pa_cons (pv 1) pa_nil)))
      (pss_cons (ps_for PassesOwn.never rfl (pi_enumT (by rfl) T.b_enumerate (pa_cons (pe_ix ix_seq (pv 0) pe_int (fun _ _ => rfl)) pa_nil)) (pg_tup rfl (pgs_cons (pg_name (i := 4) sc_behind.nd rfl (Or.inl rfl)) (pgs_cons (pg_tup rfl (pgs_cons (pg_name (i := 5) sc_behind.nd rfl (Or.inl rfl)) (pgs_cons (pg_name (i := 6) sc_behind.nd rfl (Or.inl rfl)) (pgs_cons (pg_name (i := 7) sc_behind.nd rfl (Or.inl rfl)) (pgs_cons (pg_name (i := 8) sc_behind.nd rfl (Or.inl rfl)) (pgs_cons (pg_name (i := 9) sc_behind.nd rfl (Or.inl rfl)) pgs_nil)))))) pgs_nil))) (pss_one (ps_augS (pv 3) (pv 4) get_list (pe_op op_sub (pe_ifExp (pt_cmpR op_eq (pv 5) (pv 2) (nomark _)) (pv 7) pe_int) (pe_ifExp (pt_cmpR op_eq (pv 6) (pv 2) (nomark _)) (pv 8) pe_int)) ip_add set_list)))
      (pss_one (ps_ret (pe_callTy c_tup (by rfl) T.b_tuple (by decide +kernel) (pa_cons (pv 3) pa_nil))))))
theorem def_behind {P : Program} {w : World} {K : PySem.W.Frag} {mg : Str → Option Value} {base : Heap} {sp : Sp} (T : Txt K mg)
    (hl : ∀ vs H Q E, sp vs H Q E → vs.length = 3) (h : ∀ vs H Q E, sp vs H Q E → t_behind K { nx := fun _ H' => Q .non H', rt := Q } (start ["flow", "some", "box", "found", "index", "one", "other", "give", "eat", "start"] vs) H) : Def P w K mg base 1 "behind" ["flow", "some", "box"] sp := by
  obtain ⟨f, fd, F, g⟩ := T.f_behind
  have b := F.binds (ps := ["flow", "some", "box"]) fun _ _ _ _ _ _ us hl => match us, hl with | [_, _, _], _ => rfl
  exact ⟨f, fd, F.ok sc_behind hl fun cdv A outer s H vs Q E hr q => ⟨_, der_behind T hr, h vs H Q E q⟩, g, F.kp, b⟩

/-! ### fireable_in: slots 0 flow 1 some 2 box -/
theorem sc_fireable_in : FnScope ["flow", "some", "box"] ["flow", "some"] (defScope s_fireable_in) := ⟨rfl, rfl, rfl, by decide +kernel, rfl, by decide +kernel, by decide +kernel⟩
def t_fireable_in (K : PySem.W.Frag) (p_lacks : Sp) : TS :=
  tRet (tLc (iRng1 (tCons (tOp (rIx K) (tVar 0) (tC (.int 0))) (tNil))) (gName 2) (tB (tIsN (tCall p_lacks [] E0 (tCons (tVar 0) (tCons (tVar 1) (tCons (tVar 2) (tNil))))))) (tVar 2) [2])
theorem der_fireable_in {P : Program} {w : World} {K : PySem.W.Frag} {mg : Str → Option Value} {base : Heap} {p_lacks : Sp} (T : Txt K mg) (D_lacks : Def P w K mg base 1 "lacks" ["flow", "some", "box"] p_lacks)
    {f : Addr} {cdv : Value} {A : Around} {outer : List Env} {s : Shared} {H : Hp} {E : XK} (hr : Room 1 (A.deeper (envOfC "fireable_in" (defScope s_fireable_in) s.heap.objs.size f cdv))) :
    PSs (cxOf CX0 P w K mg base ["flow", "some", "box"] "fireable_in" (defScope s_fireable_in) f cdv A outer s H E).nox (defBody s_fireable_in) (t_fireable_in K p_lacks) := by
  unfold t_fireable_in
  exact (pss_one (ps_ret (pe_lc (own := [("box", 2)]) (g := (gName 2)) (tt := (tB (tIsN (tCall p_lacks [] E0 (tCons (tVar 0) (tCons (tVar 1) (tCons (tVar 2) (tNil)))))))) rfl sc_fireable_in.nd (pi_range1 (by rfl) T.b_range (pa_cons (pe_ix ix_seq (pv 0) pe_int (fun _ _ => rfl)) pa_nil)) (blkOk_by (N := ["flow", "some", "box"]) (sc := defScope s_fireable_in) (by decide +kernel)) (fun _ _ _ _ _ => (pg_name (i := 2) sc_fireable_in.nd rfl (Or.inl rfl))) (fun _ _ _ _ _ => (pts_one (pt_cmp (pc_isN (pe_def D_lacks (hr.mono (by decide)) (by rfl) (pa_cons (pv 0) (pa_cons (pv 1) (pa_cons (pv 2) pa_nil)))))))) (fun _ _ _ _ _ => (pv 2)))))
theorem def_fireable_in {P : Program} {w : World} {K : PySem.W.Frag} {mg : Str → Option Value} {base : Heap} {p_lacks : Sp} {sp : Sp} (T : Txt K mg) (D_lacks : Def P w K mg base 1 "lacks" ["flow", "some", "box"] p_lacks)
    (hl : ∀ vs H Q E, sp vs H Q E → vs.length = 2) (h : ∀ vs H Q E, sp vs H Q E → t_fireable_in K p_lacks { nx := fun _ H' => Q .non H', rt := Q } (start ["flow", "some", "box"] vs) H) : Def P w K mg base 2 "fireable_in" ["flow", "some"] sp := by
  obtain ⟨f, fd, F, g⟩ := T.f_fireable_in
  have b := F.binds (ps := ["flow", "some"]) fun _ _ _ _ _ _ us hl => match us, hl with | [_, _], _ => rfl
  exact ⟨f, fd, F.ok sc_fireable_in hl fun cdv A outer s H vs Q E hr q => ⟨_, der_fireable_in T D_lacks hr, h vs H Q E q⟩, g, F.kp, b⟩

/-! ### is_boxes: slots 0 flow 1 value 2 box -/
theorem sc_is_boxes : FnScope ["flow", "value", "box"] ["flow", "value"] (defScope s_is_boxes) := ⟨rfl, rfl, rfl, by decide +kernel, rfl, by decide +kernel, by decide +kernel⟩
def t_is_boxes (K : PySem.W.Frag) (p_is_in : Sp) : TS :=
  tSeq (tIfS (tOr (tNot (tB (tCB (rIsi K) (tCons (tVar 1) (tCons (tC (.ty "tuple")) (tNil)))))) (tTest (tOp (rI0 fun i j => .bl (decide (j < i))) (tCB (Evl.rLenS K) (tCons (tVar 1) (tNil))) (tC (.int 2000))))) (tRet (tC (.bl false))) (tNext))
    (tRet (tOp (rEqD K) (tLc (iTup K (tVar 1)) (gName 2) (tNot (tB (tCall p_is_in [] E0 (tCons (tVar 2) (tCons (tC (.int 0)) (tCons (tOp (rI0 fun i j => .int (i - j)) (tOp (rIx K) (tVar 0) (tC (.int 0))) (tC (.int 1))) (tNil))))))) (tVar 2) [2]) (tLst (tNil))))
theorem der_is_boxes {P : Program} {w : World} {K : PySem.W.Frag} {mg : Str → Option Value} {base : Heap} {p_is_in : Sp} (T : Txt K mg) (D_is_in : Def P w K mg base 1 "is_in" ["value", "least", "most"] p_is_in)
    {f : Addr} {cdv : Value} {A : Around} {outer : List Env} {s : Shared} {H : Hp} {E : XK} (hr : Room 1 (A.deeper (envOfC "is_boxes" (defScope s_is_boxes) s.heap.objs.size f cdv))) :
    PSs (cxOf CX0 P w K mg base ["flow", "value", "box"] "is_boxes" (defScope s_is_boxes) f cdv A outer s H E).nox (defBody s_is_boxes) (t_is_boxes K p_is_in) := by
  unfold t_is_boxes
  exact (pss_cons (ps_if (PW.pt (pw_or (pt_not (pt_val (pe_callB call_isi (by rfl) T.b_isinstance (by decide +kernel) (pa_cons (pv 1) (pa_cons (pe_bltn (by rfl) T.b_tuple (by decide +kernel) rfl) pa_nil))))) (pw_or1 (pt_cmpR op_gt (pe_callB c_len (by rfl) T.b_len PySem.boot_len (pa_cons (pv 1) pa_nil)) (pe_const T.c_MOST_WORD (by rfl)) (nomark _))))) (pss_one (ps_ret pe_bl)) pss_nil)
      (pss_one (ps_ret (pe_cmpR (op_eqD hr.units) (pe_lc (own := [("box", 2)]) (g := (gName 2)) (tt := (tNot (tB (tCall p_is_in [] E0 (tCons (tVar 2) (tCons (tC (.int 0)) (tCons (tOp (rI0 fun i j => .int (i - j)) (tOp (rIx K) (tVar 0) (tC (.int 0))) (tC (.int 1))) (tNil)))))))) rfl sc_is_boxes.nd (pi_tup (pv 1)) (blkOk_by (N := ["flow", "value", "box"]) (sc := defScope s_is_boxes) (by decide +kernel)) (fun _ _ _ _ _ => (pg_name (i := 2) sc_is_boxes.nd rfl (Or.inl rfl))) (fun _ _ _ _ _ => (pts_one (pt_not (pt_val (pe_def D_is_in (hr.mono (by decide)) (by rfl) (pa_cons (pv 2) (pa_cons pe_int (pa_cons (pe_op op_sub (pe_ix ix_seq (pv 0) pe_int (fun _ _ => rfl)) pe_int) pa_nil)))))))) (fun _ _ _ _ _ => (pv 2))) (pe_lst pa_nil) (nomark _)))))
theorem def_is_boxes {P : Program} {w : World} {K : PySem.W.Frag} {mg : Str → Option Value} {base : Heap} {p_is_in : Sp} {sp : Sp} (T : Txt K mg) (D_is_in : Def P w K mg base 1 "is_in" ["value", "least", "most"] p_is_in)
    (hl : ∀ vs H Q E, sp vs H Q E → vs.length = 2) (h : ∀ vs H Q E, sp vs H Q E → t_is_boxes K p_is_in { nx := fun _ H' => Q .non H', rt := Q } (start ["flow", "value", "box"] vs) H) : Def P w K mg base 2 "is_boxes" ["flow", "value"] sp := by
  obtain ⟨f, fd, F, g⟩ := T.f_is_boxes
  have b := F.binds (ps := ["flow", "value"]) fun _ _ _ _ _ _ us hl => match us, hl with | [_, _], _ => rfl
  exact ⟨f, fd, F.ok sc_is_boxes hl fun cdv A outer s H vs Q E hr q => ⟨_, der_is_boxes T D_is_in hr, h vs H Q E q⟩, g, F.kp, b⟩

/-! ### line_in: slots 0 flow 1 word 2 found 3 box -/
theorem sc_line_in : FnScope ["flow", "word", "found", "box"] ["flow", "word"] (defScope s_line_in) := ⟨rfl, rfl, rfl, by decide +kernel, rfl, by decide +kernel, by decide +kernel⟩
def t_line_in (K : PySem.W.Frag) (p_marks_in : Sp) (p_lacks : Sp) (p_behind : Sp) : TS :=
  tSeq (tAsg (tLst (tCons (tCall p_marks_in [] E0 (tCons (tVar 0) (tNil))) (tNil))) (gName 2))
    (tSeq (tFor (iTup K (tVar 1)) (gName 3)
      (tSeq (tIfS (tB (tNotN (tCall p_lacks [] E0 (tCons (tVar 0) (tCons (tOp (rIx K) (tVar 2) (tUn (rU fun i => .int (-i)) (tC (.int 1)))) (tCons (tVar 3) (tNil))))))) (tRet (tVar 2)) (tNext))
    (tDrop (tBM K "list" rAppend (tVar 2) (tCons (tCall p_behind [] E0 (tCons (tVar 0) (tCons (tOp (rIx K) (tVar 2) (tUn (rU fun i => .int (-i)) (tC (.int 1)))) (tCons (tVar 3) (tNil))))) (tNil))))))
    (tRet (tVar 2)))
theorem der_line_in {P : Program} {w : World} {K : PySem.W.Frag} {mg : Str → Option Value} {base : Heap} {p_marks_in : Sp} {p_lacks : Sp} {p_behind : Sp} (T : Txt K mg) (D_marks_in : Def P w K mg base 1 "marks_in" ["flow"] p_marks_in) (D_lacks : Def P w K mg base 1 "lacks" ["flow", "some", "box"] p_lacks) (D_behind : Def P w K mg base 1 "behind" ["flow", "some", "box"] p_behind)
    {f : Addr} {cdv : Value} {A : Around} {outer : List Env} {s : Shared} {H : Hp} {E : XK} (hr : Room 1 (A.deeper (envOfC "line_in" (defScope s_line_in) s.heap.objs.size f cdv))) :
    PSs (cxOf CX0 P w K mg base ["flow", "word", "found", "box"] "line_in" (defScope s_line_in) f cdv A outer s H E).nox (defBody s_line_in) (t_line_in K p_marks_in p_lacks p_behind) := by
  unfold t_line_in
  exact (pss_cons (ps_set (i := 2) sc_line_in.nd rfl (Or.inl rfl) (pe_lst (pa_cons (pe_def D_marks_in (hr.mono (by decide)) (by rfl) (pa_cons (pv 0) pa_nil)) pa_nil)))
      (pss_cons (ps_for PassesOwn.never rfl (pi_tup (pv 1)) (pg_name (i := 3) sc_line_in.nd rfl (Or.inl rfl)) (pss_cons (ps_if (pt_cmp (pc_notN (pe_def D_lacks (hr.mono (by decide)) (by rfl) (pa_cons (pv 0) (pa_cons (pe_ix ix_seq (pv 2) (pe_un un_neg pe_int) (fun _ _ => rfl)) (pa_cons (pv 3) pa_nil)))))) (pss_one (ps_ret (pv 2))) pss_nil)
      (pss_one (ps_expr (pe_bm PySem.F.plainAttrs_list PySem.F.slot_list_append PySem.F.type_list_append mt_append (pv 2) (pa_cons (pe_def D_behind (hr.mono (by decide)) (by rfl) (pa_cons (pv 0) (pa_cons (pe_ix ix_seq (pv 2) (pe_un un_neg pe_int) (fun _ _ => rfl)) (pa_cons (pv 3) pa_nil)))) pa_nil))))))
      (pss_one (ps_ret (pv 2)))))
theorem def_line_in {P : Program} {w : World} {K : PySem.W.Frag} {mg : Str → Option Value} {base : Heap} {p_marks_in : Sp} {p_lacks : Sp} {p_behind : Sp} {sp : Sp} (T : Txt K mg) (D_marks_in : Def P w K mg base 1 "marks_in" ["flow"] p_marks_in) (D_lacks : Def P w K mg base 1 "lacks" ["flow", "some", "box"] p_lacks) (D_behind : Def P w K mg base 1 "behind" ["flow", "some", "box"] p_behind)
    (hl : ∀ vs H Q E, sp vs H Q E → vs.length = 2) (h : ∀ vs H Q E, sp vs H Q E → t_line_in K p_marks_in p_lacks p_behind { nx := fun _ H' => Q .non H', rt := Q } (start ["flow", "word", "found", "box"] vs) H) : Def P w K mg base 2 "line_in" ["flow", "word"] sp := by
  obtain ⟨f, fd, F, g⟩ := T.f_line_in
  have b := F.binds (ps := ["flow", "word"]) fun _ _ _ _ _ _ us hl => match us, hl with | [_, _], _ => rfl
  exact ⟨f, fd, F.ok sc_line_in hl fun cdv A outer s H vs Q E hr q => ⟨_, der_line_in T D_marks_in D_lacks D_behind hr, h vs H Q E q⟩, g, F.kp, b⟩

/-! ### counts_in: slots 0 flow 1 word 2 box -/
theorem sc_counts_in : FnScope ["flow", "word", "box"] ["flow", "word"] (defScope s_counts_in) := ⟨rfl, rfl, rfl, by decide +kernel, rfl, by decide +kernel, by decide +kernel⟩
def t_counts_in (K : PySem.W.Frag) : TS :=
  tRet (tCB (rTupS K) (tCons (tLc (iRng1 (tCons (tOp (rIx K) (tVar 0) (tC (.int 0))) (tNil))) (gName 2) tYes (tBMF K (rCntT K) (tVar 1) (tCons (tVar 2) (tNil))) [2]) (tNil)))
theorem der_counts_in {P : Program} {w : World} {K : PySem.W.Frag} {mg : Str → Option Value} {base : Heap} (T : Txt K mg)
    {f : Addr} {cdv : Value} {A : Around} {outer : List Env} {s : Shared} {H : Hp} {E : XK} (hr : Room 0 (A.deeper (envOfC "counts_in" (defScope s_counts_in) s.heap.objs.size f cdv))) :
    PSs (cxOf CX0 P w K mg base ["flow", "word", "box"] "counts_in" (defScope s_counts_in) f cdv A outer s H E).nox (defBody s_counts_in) (t_counts_in K) := by
  unfold t_counts_in
  exact (pss_one (ps_ret (pe_callTy c_tup (by rfl) T.b_tuple (by decide +kernel) (pa_cons (pe_lc (own := [("box", 2)]) (g := (gName 2)) (tt := tYes) rfl sc_counts_in.nd (pi_range1 (by rfl) T.b_range (pa_cons (pe_ix ix_seq (pv 0) pe_int (fun _ _ => rfl)) pa_nil)) (blkOk_by (N := ["flow", "word", "box"]) (sc := defScope s_counts_in) (by decide +kernel)) (fun _ _ _ _ _ => (pg_name (i := 2) sc_counts_in.nd rfl (Or.inl rfl))) (fun _ _ _ _ _ => pts_nil) (fun _ _ _ _ _ => (pe_bmF PySem.F.plainAttrs_tuple PySem.F.slot_tuple_count PySem.F.type_tuple_count mt_tcount (pv 1) (pa_cons (pv 2) pa_nil)))) pa_nil))))
theorem def_counts_in {P : Program} {w : World} {K : PySem.W.Frag} {mg : Str → Option Value} {base : Heap} {sp : Sp} (T : Txt K mg)
    (hl : ∀ vs H Q E, sp vs H Q E → vs.length = 2) (h : ∀ vs H Q E, sp vs H Q E → t_counts_in K { nx := fun _ H' => Q .non H', rt := Q } (start ["flow", "word", "box"] vs) H) : Def P w K mg base 1 "counts_in" ["flow", "word"] sp := by
  obtain ⟨f, fd, F, g⟩ := T.f_counts_in
  have b := F.binds (ps := ["flow", "word"]) fun _ _ _ _ _ _ us hl => match us, hl with | [_, _], _ => rfl
  exact ⟨f, fd, F.ok sc_counts_in hl fun cdv A outer s H vs Q E hr q => ⟨_, der_counts_in T hr, h vs H Q E q⟩, g, F.kp, b⟩

/-! ### need_counts: slots 0 flow 1 counts 2 index 3 one -/
theorem sc_need_counts : FnScope ["flow", "counts", "index", "one"] ["flow", "counts"] (defScope s_need_counts) := ⟨rfl, rfl, rfl, by decide +kernel, rfl, by decide +kernel, by decide +kernel⟩
def t_need_counts (K : PySem.W.Frag) (p_is_in : Sp) : TS :=
  tSeq (tIfS (tOr (tNot (tB (tCB (rIsi K) (tCons (tVar 1) (tCons (tC (.ty "tuple")) (tNil)))))) (tTest (tOp rNe (tCB (Evl.rLenS K) (tCons (tVar 1) (tNil))) (tOp (rIx K) (tVar 0) (tC (.int 0)))))) (tNever) (tNext))
    (tFor (iEnumT K (tCons (tVar 1) (tNil))) (gTup K 2 (gCons (gName 2) (gCons (gName 3) gNil)))
      (tIfS (tNot (tB (tCall p_is_in [] E0 (tCons (tVar 3) (tCons (tC (.int 0)) (tCons (tC (.int 200)) (tNil))))))) (tNever) (tNext)))
theorem der_need_counts {P : Program} {w : World} {K : PySem.W.Frag} {mg : Str → Option Value} {base : Heap} {p_is_in : Sp} (T : Txt K mg) (D_is_in : Def P w K mg base 1 "is_in" ["value", "least", "most"] p_is_in)
    {f : Addr} {cdv : Value} {A : Around} {outer : List Env} {s : Shared} {H : Hp} {E : XK} (hr : Room 1 (A.deeper (envOfC "need_counts" (defScope s_need_counts) s.heap.objs.size f cdv))) :
    PSs (cxOf CX0 P w K mg base ["flow", "counts", "index", "one"] "need_counts" (defScope s_need_counts) f cdv A outer s H E).nox (defBody s_need_counts) (t_need_counts K p_is_in) := by
  unfold t_need_counts
  exact (pss_cons (ps_if (PW.pt (pw_or (pt_not (pt_val (pe_callB call_isi (by rfl) T.b_isinstance (by decide +kernel) (pa_cons (pv 1) (pa_cons (pe_bltn (by rfl) T.b_tuple (by decide +kernel) rfl) pa_nil))))) (pw_or1 (pt_cmpR op_ne (pe_callB c_len (by rfl) T.b_len PySem.boot_len (pa_cons (pv 1) pa_nil)) (pe_ix ix_seq (pv 0) pe_int (fun _ _ => rfl)) (nomark _))))) pss_never pss_nil)
      (pss_one (ps_for PassesOwn.never rfl (pi_enumT (by rfl) T.b_enumerate (pa_cons (pv 1) pa_nil)) (pg_tup rfl (pgs_cons (pg_name (i := 2) sc_need_counts.nd rfl (Or.inl rfl)) (pgs_cons (pg_name (i := 3) sc_need_counts.nd rfl (Or.inl rfl)) pgs_nil))) (pss_one (ps_if (pt_not (pt_val (pe_def D_is_in (hr.mono (by decide)) (by rfl) (pa_cons (pv 3) (pa_cons pe_int (pa_cons (pe_const T.c_MOST_COUNT (by rfl)) pa_nil)))))) pss_never pss_nil)))))
theorem def_need_counts {P : Program} {w : World} {K : PySem.W.Frag} {mg : Str → Option Value} {base : Heap} {p_is_in : Sp} {sp : Sp} (T : Txt K mg) (D_is_in : Def P w K mg base 1 "is_in" ["value", "least", "most"] p_is_in)
    (hl : ∀ vs H Q E, sp vs H Q E → vs.length = 2) (h : ∀ vs H Q E, sp vs H Q E → t_need_counts K p_is_in { nx := fun _ H' => Q .non H', rt := Q } (start ["flow", "counts", "index", "one"] vs) H) : Def P w K mg base 2 "need_counts" ["flow", "counts"] sp := by
  obtain ⟨f, fd, F, g⟩ := T.f_need_counts
  have b := F.binds (ps := ["flow", "counts"]) fun _ _ _ _ _ _ us hl => match us, hl with | [_, _], _ => rfl
  exact ⟨f, fd, F.ok sc_need_counts hl fun cdv A outer s H vs Q E hr q => ⟨_, der_need_counts T D_is_in hr, h vs H Q E q⟩, g, F.kp, b⟩

/-! ### need_both: slots 0 flow 1 counts -/
theorem sc_need_both : FnScope ["flow", "counts"] ["flow", "counts"] (defScope s_need_both) := ⟨rfl, rfl, rfl, by decide +kernel, rfl, by decide +kernel, by decide +kernel⟩
def t_need_both (K : PySem.W.Frag) (p_need_flow : Sp) (p_need_counts : Sp) : TS :=
  tSeq (tDrop (tCall p_need_flow [] E0 (tCons (tVar 0) (tNil))))
    (tDrop (tCall p_need_counts [] E0 (tCons (tVar 0) (tCons (tVar 1) (tNil)))))
theorem der_need_both {P : Program} {w : World} {K : PySem.W.Frag} {mg : Str → Option Value} {base : Heap} {p_need_flow : Sp} {p_need_counts : Sp} (T : Txt K mg) (D_need_flow : Def P w K mg base 3 "need_flow" ["flow"] p_need_flow) (D_need_counts : Def P w K mg base 2 "need_counts" ["flow", "counts"] p_need_counts)
    {f : Addr} {cdv : Value} {A : Around} {outer : List Env} {s : Shared} {H : Hp} {E : XK} (hr : Room 3 (A.deeper (envOfC "need_both" (defScope s_need_both) s.heap.objs.size f cdv))) :
    PSs (cxOf CX0 P w K mg base ["flow", "counts"] "need_both" (defScope s_need_both) f cdv A outer s H E).nox (defBody s_need_both) (t_need_both K p_need_flow p_need_counts) := by
  unfold t_need_both
  exact (pss_cons (ps_expr (pe_def D_need_flow (hr.mono (by decide)) (by rfl) (pa_cons (pv 0) pa_nil)))
      (pss_one (ps_expr (pe_def D_need_counts (hr.mono (by decide)) (by rfl) (pa_cons (pv 0) (pa_cons (pv 1) pa_nil))))))
theorem def_need_both {P : Program} {w : World} {K : PySem.W.Frag} {mg : Str → Option Value} {base : Heap} {p_need_flow : Sp} {p_need_counts : Sp} {sp : Sp} (T : Txt K mg) (D_need_flow : Def P w K mg base 3 "need_flow" ["flow"] p_need_flow) (D_need_counts : Def P w K mg base 2 "need_counts" ["flow", "counts"] p_need_counts)
    (hl : ∀ vs H Q E, sp vs H Q E → vs.length = 2) (h : ∀ vs H Q E, sp vs H Q E → t_need_both K p_need_flow p_need_counts { nx := fun _ H' => Q .non H', rt := Q } (start ["flow", "counts"] vs) H) : Def P w K mg base 4 "need_both" ["flow", "counts"] sp := by
  obtain ⟨f, fd, F, g⟩ := T.f_need_both
  have b := F.binds (ps := ["flow", "counts"]) fun _ _ _ _ _ _ us hl => match us, hl with | [_, _], _ => rfl
  exact ⟨f, fd, F.ok sc_need_both hl fun cdv A outer s H vs Q E hr q => ⟨_, der_need_both T D_need_flow D_need_counts hr, h vs H Q E q⟩, g, F.kp, b⟩

/-! ### ends_in: slots 0 flow 1 counts 2 one 3 other 4 give 5 eat 6 start -/
theorem sc_ends_in : FnScope ["flow", "counts", "one", "other", "give", "eat", "start"] ["flow", "counts"] (defScope s_ends_in) := ⟨rfl, rfl, rfl, by decide +kernel, rfl, by decide +kernel, by decide +kernel⟩
def t_ends_in (K : PySem.W.Frag) : TS :=
  tRet (tLc (iTup K (tOp (rIx K) (tVar 0) (tC (.int 1)))) (gTup K 5 (gCons (gName 2) (gCons (gName 3) (gCons (gName 4) (gCons (gName 5) (gCons (gName 6) gNil)))))) tYes (tOp (rI0 fun i j => .int (i - j)) (tOp (rI0 fun i j => .int (i + j)) (tVar 6) (tOp (rI CMul fun i j => .int (i * j)) (tVar 4) (tOp (rIx K) (tVar 1) (tVar 2)))) (tOp (rI CMul fun i j => .int (i * j)) (tVar 5) (tOp (rIx K) (tVar 1) (tVar 3)))) [2, 3, 4, 5, 6])
theorem der_ends_in {P : Program} {w : World} {K : PySem.W.Frag} {mg : Str → Option Value} {base : Heap} (T : Txt K mg)
    {f : Addr} {cdv : Value} {A : Around} {outer : List Env} {s : Shared} {H : Hp} {E : XK} (hr : Room 0 (A.deeper (envOfC "ends_in" (defScope s_ends_in) s.heap.objs.size f cdv))) :
    PSs (cxOf CX0 P w K mg base ["flow", "counts", "one", "other", "give", "eat", "start"] "ends_in" (defScope s_ends_in) f cdv A outer s H E).nox (defBody s_ends_in) (t_ends_in K) := by
  unfold t_ends_in
  exact (pss_one (ps_ret (pe_lc (own := [("one", 2), ("other", 3), ("give", 4), ("eat", 5), ("start", 6)]) (g := (gTup K 5 (gCons (gName 2) (gCons (gName 3) (gCons (gName 4) (gCons (gName 5) (gCons (gName 6) gNil))))))) (tt := tYes) rfl sc_ends_in.nd (pi_tup (pe_ix ix_seq (pv 0) pe_int (fun _ _ => rfl))) (blkOk_by (N := ["flow", "counts", "one", "other", "give", "eat", "start"]) (sc := defScope s_ends_in) (by decide +kernel)) (fun _ _ _ _ _ => (pg_tup rfl (pgs_cons (pg_name (i := 2) sc_ends_in.nd rfl (Or.inl rfl)) (pgs_cons (pg_name (i := 3) sc_ends_in.nd rfl (Or.inl rfl)) (pgs_cons (pg_name (i := 4) sc_ends_in.nd rfl (Or.inl rfl)) (pgs_cons (pg_name (i := 5) sc_ends_in.nd rfl (Or.inl rfl)) (pgs_cons (pg_name (i := 6) sc_ends_in.nd rfl (Or.inl rfl)) pgs_nil))))))) (fun _ _ _ _ _ => pts_nil) (fun _ _ _ _ _ => (pe_op op_sub (pe_op op_add (pv 6) (pe_op op_mul (pv 4) (pe_ix ix_seq (pv 1) (pv 2) (fun _ _ => rfl)))) (pe_op op_mul (pv 5) (pe_ix ix_seq (pv 1) (pv 3) (fun _ _ => rfl))))))))
theorem def_ends_in {P : Program} {w : World} {K : PySem.W.Frag} {mg : Str → Option Value} {base : Heap} {sp : Sp} (T : Txt K mg)
    (hl : ∀ vs H Q E, sp vs H Q E → vs.length = 2) (h : ∀ vs H Q E, sp vs H Q E → t_ends_in K { nx := fun _ H' => Q .non H', rt := Q } (start ["flow", "counts", "one", "other", "give", "eat", "start"] vs) H) : Def P w K mg base 1 "ends_in" ["flow", "counts"] sp := by
  obtain ⟨f, fd, F, g⟩ := T.f_ends_in
  have b := F.binds (ps := ["flow", "counts"]) fun _ _ _ _ _ _ us hl => match us, hl with | [_, _], _ => rfl
  exact ⟨f, fd, F.ok sc_ends_in hl fun cdv A outer s H vs Q E hr q => ⟨_, der_ends_in T hr, h vs H Q E q⟩, g, F.kp, b⟩
end K8

-- K8Der2
/-! Printed by gen_der.py: each def's names, its body's reading (t_), that it is that (der_), the def from its reading (def_) -/
namespace K8
open PySem PySem.Spec PyProof.Rows L2
/-! ### ends: slots 0 flow 1 counts -/
theorem sc_ends : FnScope ["flow", "counts"] ["flow", "counts"] (defScope s_ends) := ⟨rfl, rfl, rfl, by decide +kernel, rfl, by decide +kernel, by decide +kernel⟩
def t_ends (K : PySem.W.Frag) (p_need_both : Sp) (p_ends_in : Sp) : TS :=
  tSeq (tDrop (tCall p_need_both [] E0 (tCons (tVar 0) (tCons (tVar 1) (tNil)))))
    (tRet (tCB (rTupS K) (tCons (tCall p_ends_in [] E0 (tCons (tVar 0) (tCons (tVar 1) (tNil)))) (tNil))))
theorem der_ends {P : Program} {w : World} {K : PySem.W.Frag} {mg : Str → Option Value} {base : Heap} {p_need_both : Sp} {p_ends_in : Sp} (T : Txt K mg) (D_need_both : Def P w K mg base 4 "need_both" ["flow", "counts"] p_need_both) (D_ends_in : Def P w K mg base 1 "ends_in" ["flow", "counts"] p_ends_in)
    {f : Addr} {cdv : Value} {A : Around} {outer : List Env} {s : Shared} {H : Hp} {E : XK} (hr : Room 4 (A.deeper (envOfC "ends" (defScope s_ends) s.heap.objs.size f cdv))) :
    PSs (cxOf CX0 P w K mg base ["flow", "counts"] "ends" (defScope s_ends) f cdv A outer s H E).nox (defBody s_ends) (t_ends K p_need_both p_ends_in) := by
  unfold t_ends
  exact (pss_cons (ps_expr (pe_def D_need_both (hr.mono (by decide)) (by rfl) (pa_cons (pv 0) (pa_cons (pv 1) pa_nil))))
      (pss_one (ps_ret (pe_callTy c_tup (by rfl) T.b_tuple (by decide +kernel) (pa_cons (pe_def D_ends_in (hr.mono (by decide)) (by rfl) (pa_cons (pv 0) (pa_cons (pv 1) pa_nil))) pa_nil)))))
theorem def_ends {P : Program} {w : World} {K : PySem.W.Frag} {mg : Str → Option Value} {base : Heap} {p_need_both : Sp} {p_ends_in : Sp} {sp : Sp} (T : Txt K mg) (D_need_both : Def P w K mg base 4 "need_both" ["flow", "counts"] p_need_both) (D_ends_in : Def P w K mg base 1 "ends_in" ["flow", "counts"] p_ends_in)
    (hl : ∀ vs H Q E, sp vs H Q E → vs.length = 2) (h : ∀ vs H Q E, sp vs H Q E → t_ends K p_need_both p_ends_in { nx := fun _ H' => Q .non H', rt := Q } (start ["flow", "counts"] vs) H) : Def P w K mg base 5 "ends" ["flow", "counts"] sp := by
  obtain ⟨f, fd, F, g⟩ := T.f_ends
  have b := F.binds (ps := ["flow", "counts"]) fun _ _ _ _ _ _ us hl => match us, hl with | [_, _], _ => rfl
  exact ⟨f, fd, F.ok sc_ends hl fun cdv A outer s H vs Q E hr q => ⟨_, der_ends T D_need_both D_ends_in hr, h vs H Q E q⟩, g, F.kp, b⟩

/-! ### most_in: slots 0 flow 1 counts 2 done 3 some 4 going 5 box -/
theorem sc_most_in : FnScope ["flow", "counts", "done", "some", "going", "box"] ["flow", "counts"] (defScope s_most_in) := ⟨rfl, rfl, rfl, by decide +kernel, rfl, by decide +kernel, by decide +kernel⟩
def t_most_in (K : PySem.W.Frag) (p_marks_in : Sp) (p_lacks : Sp) (p_behind : Sp) : TS :=
  tSeq (tPar3 2 3 4 (tCons (tOp rRep (tLst (tCons (tC (.int 0)) (tNil))) (tOp (rIx K) (tVar 0) (tC (.int 0)))) (tCons (tCall p_marks_in [] E0 (tCons (tVar 0) (tNil))) (tCons (tC (.bl true)) (tNil)))))
    (tSeq (tWhile (tB (tVar 4))
      (tSeq (tAsg (tC (.bl false)) (gName 4))
    (tFor (iRng1 (tCons (tOp (rIx K) (tVar 0) (tC (.int 0))) (tNil))) (gName 5)
      (tWhile (tAnd (tTest (tOp (rI0 fun i j => .bl (decide (i < j))) (tOp (rIx K) (tVar 2) (tVar 5)) (tOp (rIx K) (tVar 1) (tVar 5)))) (tB (tIsN (tCall p_lacks [] E0 (tCons (tVar 0) (tCons (tVar 3) (tCons (tVar 5) (tNil))))))))
      (tSeq (tAsg (tCall p_behind [] E0 (tCons (tVar 0) (tCons (tVar 3) (tCons (tVar 5) (tNil))))) (gName 3))
    (tSeq (tAugS (tVar 2) (tVar 5) (tC (.int 1)) (rIxL K) (ipI fun i j => i + j) rSetL)
    (tAsg (tC (.bl true)) (gName 4))))))))
    (tRet (tTup (tCons (tVar 2) (tCons (tVar 3) (tNil))))))
theorem der_most_in {P : Program} {w : World} {K : PySem.W.Frag} {mg : Str → Option Value} {base : Heap} {p_marks_in : Sp} {p_lacks : Sp} {p_behind : Sp} (T : Txt K mg) (D_marks_in : Def P w K mg base 1 "marks_in" ["flow"] p_marks_in) (D_lacks : Def P w K mg base 1 "lacks" ["flow", "some", "box"] p_lacks) (D_behind : Def P w K mg base 1 "behind" ["flow", "some", "box"] p_behind)
    {f : Addr} {cdv : Value} {A : Around} {outer : List Env} {s : Shared} {H : Hp} {E : XK} (hr : Room 1 (A.deeper (envOfC "most_in" (defScope s_most_in) s.heap.objs.size f cdv))) :
    PSs (cxOf CX0 P w K mg base ["flow", "counts", "done", "some", "going", "box"] "most_in" (defScope s_most_in) f cdv A outer s H E).nox (defBody s_most_in) (t_most_in K p_marks_in p_lacks p_behind) := by
  unfold t_most_in
  exact (pss_cons (ps_par3 (i := 2) (j := 3) (l := 4) rfl sc_most_in.nd rfl rfl rfl (by decide) (by decide) (by decide) rfl rfl rfl (pa_cons (pe_op op_rep (pe_lst (pa_cons pe_int pa_nil)) (pe_ix ix_seq (pv 0) pe_int (fun _ _ => rfl))) (pa_cons (pe_def D_marks_in (hr.mono (by decide)) (by rfl) (pa_cons (pv 0) pa_nil)) (pa_cons pe_bl pa_nil))) (by rfl))
      (pss_cons (ps_while PassesOwn.never (pt_val (pv 4)) (pss_cons (ps_set (i := 4) sc_most_in.nd rfl (Or.inl rfl) pe_bl)
      (pss_one (ps_for PassesOwn.never rfl (pi_range1 (by rfl) T.b_range (pa_cons (pe_ix ix_seq (pv 0) pe_int (fun _ _ => rfl)) pa_nil)) (pg_name (i := 5) sc_most_in.nd rfl (Or.inl rfl)) (pss_one (ps_while PassesOwn.never (PW.pt (pw_and (pt_cmpR op_lt (pe_ix ix_seq (pv 2) (pv 5) (fun _ _ => rfl)) (pe_ix ix_seq (pv 1) (pv 5) (fun _ _ => rfl)) (nomark _)) (pw_and1 (pt_cmp (pc_isN (pe_def D_lacks (hr.mono (by decide)) (by rfl) (pa_cons (pv 0) (pa_cons (pv 3) (pa_cons (pv 5) pa_nil))))))))) (pss_cons (ps_set (i := 3) sc_most_in.nd rfl (Or.inl rfl) (pe_def D_behind (hr.mono (by decide)) (by rfl) (pa_cons (pv 0) (pa_cons (pv 3) (pa_cons (pv 5) pa_nil)))))
      (pss_cons (ps_augS (pv 2) (pv 5) get_list pe_int ip_add set_list)
      (pss_one (ps_set (i := 4) sc_most_in.nd rfl (Or.inl rfl) pe_bl))))))))))
      (pss_one (ps_ret (pe_tup (pa_cons (pv 2) (pa_cons (pv 3) pa_nil)))))))
theorem def_most_in {P : Program} {w : World} {K : PySem.W.Frag} {mg : Str → Option Value} {base : Heap} {p_marks_in : Sp} {p_lacks : Sp} {p_behind : Sp} {sp : Sp} (T : Txt K mg) (D_marks_in : Def P w K mg base 1 "marks_in" ["flow"] p_marks_in) (D_lacks : Def P w K mg base 1 "lacks" ["flow", "some", "box"] p_lacks) (D_behind : Def P w K mg base 1 "behind" ["flow", "some", "box"] p_behind)
    (hl : ∀ vs H Q E, sp vs H Q E → vs.length = 2) (h : ∀ vs H Q E, sp vs H Q E → t_most_in K p_marks_in p_lacks p_behind { nx := fun _ H' => Q .non H', rt := Q } (start ["flow", "counts", "done", "some", "going", "box"] vs) H) : Def P w K mg base 2 "most_in" ["flow", "counts"] sp := by
  obtain ⟨f, fd, F, g⟩ := T.f_most_in
  have b := F.binds (ps := ["flow", "counts"]) fun _ _ _ _ _ _ us hl => match us, hl with | [_, _], _ => rfl
  exact ⟨f, fd, F.ok sc_most_in hl fun cdv A outer s H vs Q E hr q => ⟨_, der_most_in T D_marks_in D_lacks D_behind hr, h vs H Q E q⟩, g, F.kp, b⟩

/-! ### most_done: slots 0 flow 1 counts -/
theorem sc_most_done : FnScope ["flow", "counts"] ["flow", "counts"] (defScope s_most_done) := ⟨rfl, rfl, rfl, by decide +kernel, rfl, by decide +kernel, by decide +kernel⟩
def t_most_done (K : PySem.W.Frag) (p_need_both : Sp) (p_most_in : Sp) : TS :=
  tSeq (tDrop (tCall p_need_both [] E0 (tCons (tVar 0) (tCons (tVar 1) (tNil)))))
    (tRet (tCB (rTupS K) (tCons (tOp (rIx K) (tCall p_most_in [] E0 (tCons (tVar 0) (tCons (tVar 1) (tNil)))) (tC (.int 0))) (tNil))))
theorem der_most_done {P : Program} {w : World} {K : PySem.W.Frag} {mg : Str → Option Value} {base : Heap} {p_need_both : Sp} {p_most_in : Sp} (T : Txt K mg) (D_need_both : Def P w K mg base 4 "need_both" ["flow", "counts"] p_need_both) (D_most_in : Def P w K mg base 2 "most_in" ["flow", "counts"] p_most_in)
    {f : Addr} {cdv : Value} {A : Around} {outer : List Env} {s : Shared} {H : Hp} {E : XK} (hr : Room 4 (A.deeper (envOfC "most_done" (defScope s_most_done) s.heap.objs.size f cdv))) :
    PSs (cxOf CX0 P w K mg base ["flow", "counts"] "most_done" (defScope s_most_done) f cdv A outer s H E).nox (defBody s_most_done) (t_most_done K p_need_both p_most_in) := by
  unfold t_most_done
  exact (pss_cons (ps_expr (pe_def D_need_both (hr.mono (by decide)) (by rfl) (pa_cons (pv 0) (pa_cons (pv 1) pa_nil))))
      (pss_one (ps_ret (pe_callTy c_tup (by rfl) T.b_tuple (by decide +kernel) (pa_cons (pe_ix ix_seq (pe_def D_most_in (hr.mono (by decide)) (by rfl) (pa_cons (pv 0) (pa_cons (pv 1) pa_nil))) pe_int (fun _ _ => rfl)) pa_nil)))))
theorem def_most_done {P : Program} {w : World} {K : PySem.W.Frag} {mg : Str → Option Value} {base : Heap} {p_need_both : Sp} {p_most_in : Sp} {sp : Sp} (T : Txt K mg) (D_need_both : Def P w K mg base 4 "need_both" ["flow", "counts"] p_need_both) (D_most_in : Def P w K mg base 2 "most_in" ["flow", "counts"] p_most_in)
    (hl : ∀ vs H Q E, sp vs H Q E → vs.length = 2) (h : ∀ vs H Q E, sp vs H Q E → t_most_done K p_need_both p_most_in { nx := fun _ H' => Q .non H', rt := Q } (start ["flow", "counts"] vs) H) : Def P w K mg base 5 "most_done" ["flow", "counts"] sp := by
  obtain ⟨f, fd, F, g⟩ := T.f_most_done
  have b := F.binds (ps := ["flow", "counts"]) fun _ _ _ _ _ _ us hl => match us, hl with | [_, _], _ => rfl
  exact ⟨f, fd, F.ok sc_most_done hl fun cdv A outer s H vs Q E hr q => ⟨_, der_most_done T D_need_both D_most_in hr, h vs H Q E q⟩, g, F.kp, b⟩

/-! ### does: slots 0 flow 1 counts -/
theorem sc_does : FnScope ["flow", "counts"] ["flow", "counts"] (defScope s_does) := ⟨rfl, rfl, rfl, by decide +kernel, rfl, by decide +kernel, by decide +kernel⟩
def t_does (K : PySem.W.Frag) (p_most_in : Sp) : TS :=
  tRet (tOp (rEqD K) (tOp (rIx K) (tCall p_most_in [] E0 (tCons (tVar 0) (tCons (tVar 1) (tNil)))) (tC (.int 0))) (tCB (Evl.rListS K) (tCons (tVar 1) (tNil))))
theorem der_does {P : Program} {w : World} {K : PySem.W.Frag} {mg : Str → Option Value} {base : Heap} {p_most_in : Sp} (T : Txt K mg) (D_most_in : Def P w K mg base 2 "most_in" ["flow", "counts"] p_most_in)
    {f : Addr} {cdv : Value} {A : Around} {outer : List Env} {s : Shared} {H : Hp} {E : XK} (hr : Room 2 (A.deeper (envOfC "does" (defScope s_does) s.heap.objs.size f cdv))) :
    PSs (cxOf CX0 P w K mg base ["flow", "counts"] "does" (defScope s_does) f cdv A outer s H E).nox (defBody s_does) (t_does K p_most_in) := by
  unfold t_does
  exact (pss_one (ps_ret (pe_cmpR (op_eqD hr.units) (pe_ix ix_seq (pe_def D_most_in (hr.mono (by decide)) (by rfl) (pa_cons (pv 0) (pa_cons (pv 1) pa_nil))) pe_int (fun _ _ => rfl)) (pe_callTy c_list (by rfl) T.b_list (by decide +kernel) (pa_cons (pv 1) pa_nil)) (nomark _))))
theorem def_does {P : Program} {w : World} {K : PySem.W.Frag} {mg : Str → Option Value} {base : Heap} {p_most_in : Sp} {sp : Sp} (T : Txt K mg) (D_most_in : Def P w K mg base 2 "most_in" ["flow", "counts"] p_most_in)
    (hl : ∀ vs H Q E, sp vs H Q E → vs.length = 2) (h : ∀ vs H Q E, sp vs H Q E → t_does K p_most_in { nx := fun _ H' => Q .non H', rt := Q } (start ["flow", "counts"] vs) H) : Def P w K mg base 3 "does" ["flow", "counts"] sp := by
  obtain ⟨f, fd, F, g⟩ := T.f_does
  have b := F.binds (ps := ["flow", "counts"]) fun _ _ _ _ _ _ us hl => match us, hl with | [_, _], _ => rfl
  exact ⟨f, fd, F.ok sc_does hl fun cdv A outer s H vs Q E hr q => ⟨_, der_does T D_most_in hr, h vs H Q E q⟩, g, F.kp, b⟩

/-! ### can_do: slots 0 flow 1 counts -/
theorem sc_can_do : FnScope ["flow", "counts"] ["flow", "counts"] (defScope s_can_do) := ⟨rfl, rfl, rfl, by decide +kernel, rfl, by decide +kernel, by decide +kernel⟩
def t_can_do (K : PySem.W.Frag) (p_need_both : Sp) (p_does : Sp) : TS :=
  tSeq (tDrop (tCall p_need_both [] E0 (tCons (tVar 0) (tCons (tVar 1) (tNil)))))
    (tRet (tCall p_does [] E0 (tCons (tVar 0) (tCons (tVar 1) (tNil)))))
theorem der_can_do {P : Program} {w : World} {K : PySem.W.Frag} {mg : Str → Option Value} {base : Heap} {p_need_both : Sp} {p_does : Sp} (T : Txt K mg) (D_need_both : Def P w K mg base 4 "need_both" ["flow", "counts"] p_need_both) (D_does : Def P w K mg base 3 "does" ["flow", "counts"] p_does)
    {f : Addr} {cdv : Value} {A : Around} {outer : List Env} {s : Shared} {H : Hp} {E : XK} (hr : Room 4 (A.deeper (envOfC "can_do" (defScope s_can_do) s.heap.objs.size f cdv))) :
    PSs (cxOf CX0 P w K mg base ["flow", "counts"] "can_do" (defScope s_can_do) f cdv A outer s H E).nox (defBody s_can_do) (t_can_do K p_need_both p_does) := by
  unfold t_can_do
  exact (pss_cons (ps_expr (pe_def D_need_both (hr.mono (by decide)) (by rfl) (pa_cons (pv 0) (pa_cons (pv 1) pa_nil))))
      (pss_one (ps_ret (pe_def D_does (hr.mono (by decide)) (by rfl) (pa_cons (pv 0) (pa_cons (pv 1) pa_nil))))))
theorem def_can_do {P : Program} {w : World} {K : PySem.W.Frag} {mg : Str → Option Value} {base : Heap} {p_need_both : Sp} {p_does : Sp} {sp : Sp} (T : Txt K mg) (D_need_both : Def P w K mg base 4 "need_both" ["flow", "counts"] p_need_both) (D_does : Def P w K mg base 3 "does" ["flow", "counts"] p_does)
    (hl : ∀ vs H Q E, sp vs H Q E → vs.length = 2) (h : ∀ vs H Q E, sp vs H Q E → t_can_do K p_need_both p_does { nx := fun _ H' => Q .non H', rt := Q } (start ["flow", "counts"] vs) H) : Def P w K mg base 5 "can_do" ["flow", "counts"] sp := by
  obtain ⟨f, fd, F, g⟩ := T.f_can_do
  have b := F.binds (ps := ["flow", "counts"]) fun _ _ _ _ _ _ us hl => match us, hl with | [_, _], _ => rfl
  exact ⟨f, fd, F.ok sc_can_do hl fun cdv A outer s H vs Q E hr q => ⟨_, der_can_do T D_need_both D_does hr, h vs H Q E q⟩, g, F.kp, b⟩

/-! ### least_in: slots 0 flow 1 counts 2 found 3 some 4 left 5 box 6 k -/
theorem sc_least_in : FnScope ["flow", "counts", "found", "some", "left", "box", "k"] ["flow", "counts"] (defScope s_least_in) := ⟨rfl, rfl, rfl, by decide +kernel, rfl, by decide +kernel, by decide +kernel⟩
def t_least_in (K : PySem.W.Frag) (p_marks_in : Sp) (p_fireable_in : Sp) (p_behind : Sp) : TS :=
  tSeq (tAsg (tTup (tCons (tLst (tNil)) (tCons (tCall p_marks_in [] E0 (tCons (tVar 0) (tNil))) (tCons (tCB (Evl.rListS K) (tCons (tVar 1) (tNil))) (tNil))))) (gTup K 3 (gCons (gName 2) (gCons (gName 3) (gCons (gName 4) gNil)))))
    (tSeq (tWhile (tTest (tOp (rI0 fun i j => .bl (decide (j < i))) (tCB (rSumA K) (tCons (tVar 4) (tNil))) (tC (.int 0))))
      (tSeq (tAsg (tOp (rIx K) (tLc (iList K (tCall p_fireable_in [] E0 (tCons (tVar 0) (tCons (tVar 3) (tNil))))) (gName 6) (tTest (tOp (rI0 fun i j => .bl (decide (j < i))) (tOp (rIx K) (tVar 4) (tVar 6)) (tC (.int 0)))) (tVar 6) [6]) (tC (.int 0))) (gName 5))
    (tSeq (tDrop (tBM K "list" rAppend (tVar 2) (tCons (tVar 5) (tNil))))
    (tSeq (tAsg (tCall p_behind [] E0 (tCons (tVar 0) (tCons (tVar 3) (tCons (tVar 5) (tNil))))) (gName 3))
    (tAugS (tVar 4) (tVar 5) (tC (.int 1)) (rIxL K) (ipI fun i j => i - j) rSetL)))))
    (tRet (tVar 2)))
theorem der_least_in {P : Program} {w : World} {K : PySem.W.Frag} {mg : Str → Option Value} {base : Heap} {p_marks_in : Sp} {p_fireable_in : Sp} {p_behind : Sp} (T : Txt K mg) (D_marks_in : Def P w K mg base 1 "marks_in" ["flow"] p_marks_in) (D_fireable_in : Def P w K mg base 2 "fireable_in" ["flow", "some"] p_fireable_in) (D_behind : Def P w K mg base 1 "behind" ["flow", "some", "box"] p_behind)
    {f : Addr} {cdv : Value} {A : Around} {outer : List Env} {s : Shared} {H : Hp} {E : XK} (hr : Room 2 (A.deeper (envOfC "least_in" (defScope s_least_in) s.heap.objs.size f cdv))) :
    PSs (cxOf CX0 P w K mg base ["flow", "counts", "found", "some", "left", "box", "k"] "least_in" (defScope s_least_in) f cdv A outer s H E).nox (defBody s_least_in) (t_least_in K p_marks_in p_fireable_in p_behind) := by
  unfold t_least_in
  exact (pss_cons (ps_asg (pe_tup (pa_cons (pe_lst pa_nil) (pa_cons (pe_def D_marks_in (hr.mono (by decide)) (by rfl) (pa_cons (pv 0) pa_nil)) (pa_cons (pe_callTy c_list (by rfl) T.b_list (by decide +kernel) (pa_cons (pv 1) pa_nil)) pa_nil)))) (pg_tup rfl (pgs_cons (pg_name (i := 2) sc_least_in.nd rfl (Or.inl rfl)) (pgs_cons (pg_name (i := 3) sc_least_in.nd rfl (Or.inl rfl)) (pgs_cons (pg_name (i := 4) sc_least_in.nd rfl (Or.inr rfl)) pgs_nil)))))
      (pss_cons (ps_while PassesOwn.never (pt_cmpR op_gt (pe_callB (c_sum rfl) (by rfl) T.b_sum (by decide +kernel) (pa_cons (pv 4) pa_nil)) pe_int (nomark _)) (pss_cons (ps_set (i := 5) sc_least_in.nd rfl (Or.inl rfl) (pe_ix ix_seq (pe_lc (own := [("k", 6)]) (g := (gName 6)) (tt := (tTest (tOp (rI0 fun i j => .bl (decide (j < i))) (tOp (rIx K) (tVar 4) (tVar 6)) (tC (.int 0))))) rfl sc_least_in.nd (pi_list (pe_def D_fireable_in (hr.mono (by decide)) (by rfl) (pa_cons (pv 0) (pa_cons (pv 3) pa_nil)))) (blkOk_by (N := ["flow", "counts", "found", "some", "left", "box", "k"]) (sc := defScope s_least_in) (by decide +kernel)) (fun _ _ _ _ _ => (pg_name (i := 6) sc_least_in.nd rfl (Or.inl rfl))) (fun _ _ _ _ _ => (pts_one (pt_cmpR op_gt (pe_ix ix_seq (pv 4) (pv 6) (fun _ _ => rfl)) pe_int (nomark _)))) (fun _ _ _ _ _ => (pv 6))) pe_int (fun _ _ => rfl)))
      (pss_cons (ps_expr (pe_bm PySem.F.plainAttrs_list PySem.F.slot_list_append PySem.F.type_list_append mt_append (pv 2) (pa_cons (pv 5) pa_nil)))
      (pss_cons (ps_set (i := 3) sc_least_in.nd rfl (Or.inl rfl) (pe_def D_behind (hr.mono (by decide)) (by rfl) (pa_cons (pv 0) (pa_cons (pv 3) (pa_cons (pv 5) pa_nil)))))
      (pss_one (ps_augS (pv 4) (pv 5) get_list pe_int ip_sub set_list))))))
      (pss_one (ps_ret (pv 2)))))
theorem def_least_in {P : Program} {w : World} {K : PySem.W.Frag} {mg : Str → Option Value} {base : Heap} {p_marks_in : Sp} {p_fireable_in : Sp} {p_behind : Sp} {sp : Sp} (T : Txt K mg) (D_marks_in : Def P w K mg base 1 "marks_in" ["flow"] p_marks_in) (D_fireable_in : Def P w K mg base 2 "fireable_in" ["flow", "some"] p_fireable_in) (D_behind : Def P w K mg base 1 "behind" ["flow", "some", "box"] p_behind)
    (hl : ∀ vs H Q E, sp vs H Q E → vs.length = 2) (h : ∀ vs H Q E, sp vs H Q E → t_least_in K p_marks_in p_fireable_in p_behind { nx := fun _ H' => Q .non H', rt := Q } (start ["flow", "counts", "found", "some", "left", "box", "k"] vs) H) : Def P w K mg base 3 "least_in" ["flow", "counts"] sp := by
  obtain ⟨f, fd, F, g⟩ := T.f_least_in
  have b := F.binds (ps := ["flow", "counts"]) fun _ _ _ _ _ _ us hl => match us, hl with | [_, _], _ => rfl
  exact ⟨f, fd, F.ok sc_least_in hl fun cdv A outer s H vs Q E hr q => ⟨_, der_least_in T D_marks_in D_fireable_in D_behind hr, h vs H Q E q⟩, g, F.kp, b⟩

/-! ### word_for: slots 0 flow 1 counts -/
theorem sc_word_for : FnScope ["flow", "counts"] ["flow", "counts"] (defScope s_word_for) := ⟨rfl, rfl, rfl, by decide +kernel, rfl, by decide +kernel, by decide +kernel⟩
def t_word_for (K : PySem.W.Frag) (p_need_both : Sp) (p_does : Sp) (p_least_in : Sp) : TS :=
  tSeq (tDrop (tCall p_need_both [] E0 (tCons (tVar 0) (tCons (tVar 1) (tNil)))))
    (tRet (tIf (tB (tCall p_does [] E0 (tCons (tVar 0) (tCons (tVar 1) (tNil))))) (tCB (rTupF K) (tCons (tCall p_least_in [] E0 (tCons (tVar 0) (tCons (tVar 1) (tNil)))) (tNil))) (tC .non)))
theorem der_word_for {P : Program} {w : World} {K : PySem.W.Frag} {mg : Str → Option Value} {base : Heap} {p_need_both : Sp} {p_does : Sp} {p_least_in : Sp} (T : Txt K mg) (D_need_both : Def P w K mg base 4 "need_both" ["flow", "counts"] p_need_both) (D_does : Def P w K mg base 3 "does" ["flow", "counts"] p_does) (D_least_in : Def P w K mg base 3 "least_in" ["flow", "counts"] p_least_in)
    {f : Addr} {cdv : Value} {A : Around} {outer : List Env} {s : Shared} {H : Hp} {E : XK} (hr : Room 4 (A.deeper (envOfC "word_for" (defScope s_word_for) s.heap.objs.size f cdv))) :
    PSs (cxOf CX0 P w K mg base ["flow", "counts"] "word_for" (defScope s_word_for) f cdv A outer s H E).nox (defBody s_word_for) (t_word_for K p_need_both p_does p_least_in) := by
  unfold t_word_for
  exact (pss_cons (ps_expr (pe_def D_need_both (hr.mono (by decide)) (by rfl) (pa_cons (pv 0) (pa_cons (pv 1) pa_nil))))
      (pss_one (ps_ret (pe_ifExp (pt_val (pe_def D_does (hr.mono (by decide)) (by rfl) (pa_cons (pv 0) (pa_cons (pv 1) pa_nil)))) (pe_callTy c_tupF (by rfl) T.b_tuple (by decide +kernel) (pa_cons (pe_def D_least_in (hr.mono (by decide)) (by rfl) (pa_cons (pv 0) (pa_cons (pv 1) pa_nil))) pa_nil)) pe_non))))
theorem def_word_for {P : Program} {w : World} {K : PySem.W.Frag} {mg : Str → Option Value} {base : Heap} {p_need_both : Sp} {p_does : Sp} {p_least_in : Sp} {sp : Sp} (T : Txt K mg) (D_need_both : Def P w K mg base 4 "need_both" ["flow", "counts"] p_need_both) (D_does : Def P w K mg base 3 "does" ["flow", "counts"] p_does) (D_least_in : Def P w K mg base 3 "least_in" ["flow", "counts"] p_least_in)
    (hl : ∀ vs H Q E, sp vs H Q E → vs.length = 2) (h : ∀ vs H Q E, sp vs H Q E → t_word_for K p_need_both p_does p_least_in { nx := fun _ H' => Q .non H', rt := Q } (start ["flow", "counts"] vs) H) : Def P w K mg base 5 "word_for" ["flow", "counts"] sp := by
  obtain ⟨f, fd, F, g⟩ := T.f_word_for
  have b := F.binds (ps := ["flow", "counts"]) fun _ _ _ _ _ _ us hl => match us, hl with | [_, _], _ => rfl
  exact ⟨f, fd, F.ok sc_word_for hl fun cdv A outer s H vs Q E hr q => ⟨_, der_word_for T D_need_both D_does D_least_in hr, h vs H Q E q⟩, g, F.kp, b⟩

/-! ### shows_word: slots 0 flow 1 counts 2 value -/
theorem sc_shows_word : FnScope ["flow", "counts", "value"] ["flow", "counts", "value"] (defScope s_shows_word) := ⟨rfl, rfl, rfl, by decide +kernel, rfl, by decide +kernel, by decide +kernel⟩
def t_shows_word (K : PySem.W.Frag) (p_need_both : Sp) (p_does : Sp) (p_is_boxes : Sp) (p_counts_in : Sp) (p_line_in : Sp) : TS :=
  tSeq (tDrop (tCall p_need_both [] E0 (tCons (tVar 0) (tCons (tVar 1) (tNil)))))
    (tSeq (tIfS (tNot (tB (tCall p_does [] E0 (tCons (tVar 0) (tCons (tVar 1) (tNil)))))) (tRet (tIsN (tVar 2))) (tNext))
    (tSeq (tIfS (tOr (tNot (tB (tCall p_is_boxes [] E0 (tCons (tVar 0) (tCons (tVar 2) (tNil)))))) (tTest (tOp (rNeD K) (tCall p_counts_in [] E0 (tCons (tVar 0) (tCons (tVar 2) (tNil)))) (tVar 1)))) (tRet (tC (.bl false))) (tNext))
    (tRet (tOp (rI0 fun i j => .bl (decide (j < i))) (tCB (Evl.rLenS K) (tCons (tCall p_line_in [] E0 (tCons (tVar 0) (tCons (tVar 2) (tNil)))) (tNil))) (tCB (Evl.rLenS K) (tCons (tVar 2) (tNil)))))))
theorem der_shows_word {P : Program} {w : World} {K : PySem.W.Frag} {mg : Str → Option Value} {base : Heap} {p_need_both : Sp} {p_does : Sp} {p_is_boxes : Sp} {p_counts_in : Sp} {p_line_in : Sp} (T : Txt K mg) (D_need_both : Def P w K mg base 4 "need_both" ["flow", "counts"] p_need_both) (D_does : Def P w K mg base 3 "does" ["flow", "counts"] p_does) (D_is_boxes : Def P w K mg base 2 "is_boxes" ["flow", "value"] p_is_boxes) (D_counts_in : Def P w K mg base 1 "counts_in" ["flow", "word"] p_counts_in) (D_line_in : Def P w K mg base 2 "line_in" ["flow", "word"] p_line_in)
    {f : Addr} {cdv : Value} {A : Around} {outer : List Env} {s : Shared} {H : Hp} {E : XK} (hr : Room 4 (A.deeper (envOfC "shows_word" (defScope s_shows_word) s.heap.objs.size f cdv))) :
    PSs (cxOf CX0 P w K mg base ["flow", "counts", "value"] "shows_word" (defScope s_shows_word) f cdv A outer s H E).nox (defBody s_shows_word) (t_shows_word K p_need_both p_does p_is_boxes p_counts_in p_line_in) := by
  unfold t_shows_word
  exact (pss_cons (ps_expr (pe_def D_need_both (hr.mono (by decide)) (by rfl) (pa_cons (pv 0) (pa_cons (pv 1) pa_nil))))
      (pss_cons (ps_if (pt_not (pt_val (pe_def D_does (hr.mono (by decide)) (by rfl) (pa_cons (pv 0) (pa_cons (pv 1) pa_nil))))) (pss_one (ps_ret (pe_cmp (pc_isN (pv 2)) rfl))) pss_nil)
      (pss_cons (ps_if (PW.pt (pw_or (pt_not (pt_val (pe_def D_is_boxes (hr.mono (by decide)) (by rfl) (pa_cons (pv 0) (pa_cons (pv 2) pa_nil))))) (pw_or1 (pt_cmpR (op_neD hr.units) (pe_def D_counts_in (hr.mono (by decide)) (by rfl) (pa_cons (pv 0) (pa_cons (pv 2) pa_nil))) (pv 1) (nomark _))))) (pss_one (ps_ret pe_bl)) pss_nil)
      (pss_one (ps_ret (pe_cmpR op_gt (pe_callB c_len (by rfl) T.b_len PySem.boot_len (pa_cons (pe_def D_line_in (hr.mono (by decide)) (by rfl) (pa_cons (pv 0) (pa_cons (pv 2) pa_nil))) pa_nil)) (pe_callB c_len (by rfl) T.b_len PySem.boot_len (pa_cons (pv 2) pa_nil)) (nomark _)))))))
theorem def_shows_word {P : Program} {w : World} {K : PySem.W.Frag} {mg : Str → Option Value} {base : Heap} {p_need_both : Sp} {p_does : Sp} {p_is_boxes : Sp} {p_counts_in : Sp} {p_line_in : Sp} {sp : Sp} (T : Txt K mg) (D_need_both : Def P w K mg base 4 "need_both" ["flow", "counts"] p_need_both) (D_does : Def P w K mg base 3 "does" ["flow", "counts"] p_does) (D_is_boxes : Def P w K mg base 2 "is_boxes" ["flow", "value"] p_is_boxes) (D_counts_in : Def P w K mg base 1 "counts_in" ["flow", "word"] p_counts_in) (D_line_in : Def P w K mg base 2 "line_in" ["flow", "word"] p_line_in)
    (hl : ∀ vs H Q E, sp vs H Q E → vs.length = 3) (h : ∀ vs H Q E, sp vs H Q E → t_shows_word K p_need_both p_does p_is_boxes p_counts_in p_line_in { nx := fun _ H' => Q .non H', rt := Q } (start ["flow", "counts", "value"] vs) H) : Def P w K mg base 5 "shows_word" ["flow", "counts", "value"] sp := by
  obtain ⟨f, fd, F, g⟩ := T.f_shows_word
  have b := F.binds (ps := ["flow", "counts", "value"]) fun _ _ _ _ _ _ us hl => match us, hl with | [_, _, _], _ => rfl
  exact ⟨f, fd, F.ok sc_shows_word hl fun cdv A outer s H vs Q E hr q => ⟨_, der_shows_word T D_need_both D_does D_is_boxes D_counts_in D_line_in hr, h vs H Q E q⟩, g, F.kp, b⟩

/-! ### shares_in: slots 0 flow 1 shares 2 lines 3 part 4 rows 5 here 6 index 7 one 8 other 9 give 10 eat 11 start 12 forward 13 near 14 there 15 rate -/
theorem sc_shares_in : FnScope ["flow", "shares", "lines", "part", "rows", "here", "index", "one", "other", "give", "eat", "start", "forward", "near", "there", "rate"] ["flow"] (defScope s_shares_in) := ⟨rfl, rfl, rfl, by decide +kernel, rfl, by decide +kernel, by decide +kernel⟩
def t_shares_in (K : PySem.W.Frag) (p_parts_in : Sp) (p_times : Sp) : TS :=
  tSeq (tPar 1 2 (tCons (tDNewK) (tCons (tDNewK) (tNil))))
    (tSeq (tFor (iList K (tCall p_parts_in [] E0 (tCons (tVar 0) (tNil)))) (gName 3)
      (tSeq (tAsg (tTup (tCons (tTup (tCons (tC (.int 1)) (tCons (tC (.int 1)) (tNil)))) (tCons (tTup (tNil)) (tCons (tLst (tCons (tOp (rIx K) (tVar 3) (tC (.int 0))) (tNil))) (tNil))))) (gTup K 3 (gCons (gSub (tVar 1) (tOp (rIx K) (tVar 3) (tC (.int 0))) rSetD) (gCons (gSub (tVar 2) (tOp (rIx K) (tVar 3) (tC (.int 0))) rSetD) (gCons (gName 4) gNil)))))
    (tWhile (tTest (tOp (rNeD K) (tVar 4) (tLst (tNil))))
      (tSeq (tAsg (tBM0 K "list" rPop (tVar 4)) (gName 5))
    (tFor (iEnumT K (tCons (tOp (rIx K) (tVar 0) (tC (.int 1))) (tNil))) (gTup K 2 (gCons (gName 6) (gCons (gTup K 5 (gCons (gName 7) (gCons (gName 8) (gCons (gName 9) (gCons (gName 10) (gCons (gName 11) gNil)))))) gNil)))
      (tFor (iTup K (tTup (tCons (tC (.bl true)) (tCons (tC (.bl false)) (tNil))))) (gName 12)
      (tSeq (tAsg (tIf (tB (tVar 12)) (tTup (tCons (tVar 7) (tCons (tVar 8) (tNil)))) (tTup (tCons (tVar 8) (tCons (tVar 7) (tNil))))) (gTup K 2 (gCons (gName 13) (gCons (gName 14) gNil))))
    (tIfS (tAnd (tTest (tOp rEq (tVar 13) (tVar 5))) (tB (tDNotIn (tVar 14) (tVar 1)))) (tSeq (tAsg (tIf (tB (tVar 12)) (tTup (tCons (tVar 9) (tCons (tVar 10) (tNil)))) (tTup (tCons (tVar 10) (tCons (tVar 9) (tNil))))) (gName 15))
    (tSeq (sDPut (tVar 1) (tVar 14) (tCall p_times [] E0 (tCons (tDGet (tVar 1) (tVar 5)) (tCons (tVar 15) (tNil)))))
    (tSeq (sDPut (tVar 2) (tVar 14) (tOp (rCatA K) (tDGet (tVar 2) (tVar 5)) (tTup (tCons (tTup (tCons (tVar 6) (tCons (tVar 12) (tNil)))) (tNil)))))
    (tDrop (tBM K "list" rAppend (tVar 4) (tCons (tVar 14) (tNil))))))) (tNext)))))))))
    (tRet (tTup (tCons (tVar 1) (tCons (tVar 2) (tNil))))))
theorem der_shares_in {P : Program} {w : World} {K : PySem.W.Frag} {mg : Str → Option Value} {base : Heap} {p_parts_in : Sp} {p_times : Sp} (T : Txt K mg) (D_parts_in : Def P w K mg base 2 "parts_in" ["flow"] p_parts_in) (D_times : Def P w K mg base 3 "times" ["one", "other"] p_times)
    {f : Addr} {cdv : Value} {A : Around} {outer : List Env} {s : Shared} {H : Hp} {E : XK} (hr : Room 3 (A.deeper (envOfC "shares_in" (defScope s_shares_in) s.heap.objs.size f cdv))) :
    PSs (cxOf CX0 P w K mg base ["flow", "shares", "lines", "part", "rows", "here", "index", "one", "other", "give", "eat", "start", "forward", "near", "there", "rate"] "shares_in" (defScope s_shares_in) f cdv A outer s H E).nox (defBody s_shares_in) (t_shares_in K p_parts_in p_times) := by
  unfold t_shares_in
  exact (pss_cons (ps_par (i := 1) (j := 2) rfl sc_shares_in.nd rfl rfl (by decide) rfl rfl (pa_cons pe_dnewK (pa_cons pe_dnewK pa_nil)) (by rfl))
      (pss_cons (ps_for PassesOwn.never rfl (pi_list (pe_def D_parts_in (hr.mono (by decide)) (by rfl) (pa_cons (pv 0) pa_nil))) (pg_name (i := 3) sc_shares_in.nd rfl (Or.inl rfl)) (pss_cons (ps_asg (pe_tup (pa_cons (pe_tup (pa_cons pe_int (pa_cons pe_int pa_nil))) (pa_cons (pe_tup pa_nil) (pa_cons (pe_lst (pa_cons (pe_ix ix_seq (pv 3) pe_int (fun _ _ => rfl)) pa_nil)) pa_nil)))) (pg_tup rfl (pgs_cons (pg_sub (pv 1) (pe_ix ix_seq (pv 3) pe_int (fun _ _ => rfl)) (set_dict (hu_of hr))) (pgs_cons (pg_sub (pv 2) (pe_ix ix_seq (pv 3) pe_int (fun _ _ => rfl)) (set_dict (hu_of hr))) (pgs_cons (pg_name (i := 4) sc_shares_in.nd rfl (Or.inl rfl)) pgs_nil)))))
      (pss_one (ps_while PassesOwn.never (pt_cmpR (op_neD hr.units) (pv 4) (pe_lst pa_nil) (nomark _)) (pss_cons (ps_set (i := 5) sc_shares_in.nd rfl (Or.inl rfl) (pe_bm0 PySem.F.plainAttrs_list PySem.F.slot_list_pop PySem.F.type_list_pop mt_pop (pv 4)))
      (pss_one (ps_for PassesOwn.never rfl (pi_enumT (by rfl) T.b_enumerate (pa_cons (pe_ix ix_seq (pv 0) pe_int (fun _ _ => rfl)) pa_nil)) (pg_tup rfl (pgs_cons (pg_name (i := 6) sc_shares_in.nd rfl (Or.inl rfl)) (pgs_cons (pg_tup rfl (pgs_cons (pg_name (i := 7) sc_shares_in.nd rfl (Or.inl rfl)) (pgs_cons (pg_name (i := 8) sc_shares_in.nd rfl (Or.inl rfl)) (pgs_cons (pg_name (i := 9) sc_shares_in.nd rfl (Or.inl rfl)) (pgs_cons (pg_name (i := 10) sc_shares_in.nd rfl (Or.inl rfl)) (pgs_cons (pg_name (i := 11) sc_shares_in.nd rfl (Or.inl rfl)) pgs_nil)))))) pgs_nil))) (pss_one (ps_for PassesOwn.never rfl (pi_tup (pe_tup (pa_cons pe_bl (pa_cons pe_bl pa_nil)))) (pg_name (i := 12) sc_shares_in.nd rfl (Or.inl rfl)) (pss_cons (ps_asg (pe_ifExp (pt_val (pv 12)) (pe_tup (pa_cons (pv 7) (pa_cons (pv 8) pa_nil))) (pe_tup (pa_cons (pv 8) (pa_cons (pv 7) pa_nil)))) (pg_tup rfl (pgs_cons (pg_name (i := 13) sc_shares_in.nd rfl (Or.inl rfl)) (pgs_cons (pg_name (i := 14) sc_shares_in.nd rfl (Or.inl rfl)) pgs_nil))))
      (pss_one (ps_if (PW.pt (pw_and (pt_cmpR op_eq (pv 13) (pv 5) (nomark _)) (pw_and1 (pt_cmp (pc_dnotin (hu_of hr) (pv 14) (pv 1)))))) (pss_cons (ps_set (i := 15) sc_shares_in.nd rfl (Or.inl rfl) (pe_ifExp (pt_val (pv 12)) (pe_tup (pa_cons (pv 9) (pa_cons (pv 10) pa_nil))) (pe_tup (pa_cons (pv 10) (pa_cons (pv 9) pa_nil)))))
      (pss_cons (ps_dput (hu_of hr) (pv 1) (pv 14) (pe_def D_times (hr.mono (by decide)) (by rfl) (pa_cons (pe_dget (hu_of hr) (pv 1) (pv 5) (fun _ _ => rfl)) (pa_cons (pv 15) pa_nil))) rfl)
      (pss_cons (ps_dput (hu_of hr) (pv 2) (pv 14) (pe_op op_catA (pe_dget (hu_of hr) (pv 2) (pv 5) (fun _ _ => rfl)) (pe_tup (pa_cons (pe_tup (pa_cons (pv 6) (pa_cons (pv 12) pa_nil))) pa_nil))) rfl)
      (pss_one (ps_expr (pe_bm PySem.F.plainAttrs_list PySem.F.slot_list_append PySem.F.type_list_append mt_append (pv 4) (pa_cons (pv 14) pa_nil))))))) pss_nil))))))))))))
      (pss_one (ps_ret (pe_tup (pa_cons (pv 1) (pa_cons (pv 2) pa_nil)))))))
theorem def_shares_in {P : Program} {w : World} {K : PySem.W.Frag} {mg : Str → Option Value} {base : Heap} {p_parts_in : Sp} {p_times : Sp} {sp : Sp} (T : Txt K mg) (D_parts_in : Def P w K mg base 2 "parts_in" ["flow"] p_parts_in) (D_times : Def P w K mg base 3 "times" ["one", "other"] p_times)
    (hl : ∀ vs H Q E, sp vs H Q E → vs.length = 1) (h : ∀ vs H Q E, sp vs H Q E → t_shares_in K p_parts_in p_times { nx := fun _ H' => Q .non H', rt := Q } (start ["flow", "shares", "lines", "part", "rows", "here", "index", "one", "other", "give", "eat", "start", "forward", "near", "there", "rate"] vs) H) : Def P w K mg base 4 "shares_in" ["flow"] sp := by
  obtain ⟨f, fd, F, g⟩ := T.f_shares_in
  have b := F.binds (ps := ["flow"]) fun _ _ _ _ _ _ us hl => match us, hl with | [_], _ => rfl
  exact ⟨f, fd, F.ok sc_shares_in hl fun cdv A outer s H vs Q E hr q => ⟨_, der_shares_in T D_parts_in D_times hr, h vs H Q E q⟩, g, F.kp, b⟩
end K8

-- K8Der3
/-! Printed by gen_der.py: each def's names, its body's reading (t_), that it is that (der_), the def from its reading (def_) -/
namespace K8
open PySem PySem.Spec PyProof.Rows L2
/-! ### bad_pipe: slots 0 flow 1 shares 2 index 3 one 4 other 5 give 6 eat 7 start -/
theorem sc_bad_pipe : FnScope ["flow", "shares", "index", "one", "other", "give", "eat", "start"] ["flow", "shares"] (defScope s_bad_pipe) := ⟨rfl, rfl, rfl, by decide +kernel, rfl, by decide +kernel, by decide +kernel⟩
def t_bad_pipe (K : PySem.W.Frag) (p_times : Sp) : TS :=
  tSeq (tFor (iEnumT K (tCons (tOp (rIx K) (tVar 0) (tC (.int 1))) (tNil))) (gTup K 2 (gCons (gName 2) (gCons (gTup K 5 (gCons (gName 3) (gCons (gName 4) (gCons (gName 5) (gCons (gName 6) (gCons (gName 7) gNil)))))) gNil)))
      (tIfS (tTest (tOp (rNeD K) (tCall p_times [] E0 (tCons (tDGet (tVar 1) (tVar 3)) (tCons (tTup (tCons (tVar 5) (tCons (tVar 6) (tNil)))) (tNil)))) (tDGet (tVar 1) (tVar 4)))) (tRet (tVar 2)) (tNext)))
    (tRet (tC .non))
theorem der_bad_pipe {P : Program} {w : World} {K : PySem.W.Frag} {mg : Str → Option Value} {base : Heap} {p_times : Sp} (T : Txt K mg) (D_times : Def P w K mg base 3 "times" ["one", "other"] p_times)
    {f : Addr} {cdv : Value} {A : Around} {outer : List Env} {s : Shared} {H : Hp} {E : XK} (hr : Room 3 (A.deeper (envOfC "bad_pipe" (defScope s_bad_pipe) s.heap.objs.size f cdv))) :
    PSs (cxOf CX0 P w K mg base ["flow", "shares", "index", "one", "other", "give", "eat", "start"] "bad_pipe" (defScope s_bad_pipe) f cdv A outer s H E).nox (defBody s_bad_pipe) (t_bad_pipe K p_times) := by
  unfold t_bad_pipe
  exact (pss_cons (ps_for PassesOwn.never rfl (pi_enumT (by rfl) T.b_enumerate (pa_cons (pe_ix ix_seq (pv 0) pe_int (fun _ _ => rfl)) pa_nil)) (pg_tup rfl (pgs_cons (pg_name (i := 2) sc_bad_pipe.nd rfl (Or.inl rfl)) (pgs_cons (pg_tup rfl (pgs_cons (pg_name (i := 3) sc_bad_pipe.nd rfl (Or.inl rfl)) (pgs_cons (pg_name (i := 4) sc_bad_pipe.nd rfl (Or.inl rfl)) (pgs_cons (pg_name (i := 5) sc_bad_pipe.nd rfl (Or.inl rfl)) (pgs_cons (pg_name (i := 6) sc_bad_pipe.nd rfl (Or.inl rfl)) (pgs_cons (pg_name (i := 7) sc_bad_pipe.nd rfl (Or.inl rfl)) pgs_nil)))))) pgs_nil))) (pss_one (ps_if (pt_cmpR (op_neD hr.units) (pe_def D_times (hr.mono (by decide)) (by rfl) (pa_cons (pe_dget (hu_of hr) (pv 1) (pv 3) (fun _ _ => rfl)) (pa_cons (pe_tup (pa_cons (pv 5) (pa_cons (pv 6) pa_nil))) pa_nil))) (pe_dget (hu_of hr) (pv 1) (pv 4) (fun _ _ => rfl)) (nomark _)) (pss_one (ps_ret (pv 2))) pss_nil)))
      (pss_one (ps_ret pe_non)))
theorem def_bad_pipe {P : Program} {w : World} {K : PySem.W.Frag} {mg : Str → Option Value} {base : Heap} {p_times : Sp} {sp : Sp} (T : Txt K mg) (D_times : Def P w K mg base 3 "times" ["one", "other"] p_times)
    (hl : ∀ vs H Q E, sp vs H Q E → vs.length = 2) (h : ∀ vs H Q E, sp vs H Q E → t_bad_pipe K p_times { nx := fun _ H' => Q .non H', rt := Q } (start ["flow", "shares", "index", "one", "other", "give", "eat", "start"] vs) H) : Def P w K mg base 4 "bad_pipe" ["flow", "shares"] sp := by
  obtain ⟨f, fd, F, g⟩ := T.f_bad_pipe
  have b := F.binds (ps := ["flow", "shares"]) fun _ _ _ _ _ _ us hl => match us, hl with | [_, _], _ => rfl
  exact ⟨f, fd, F.ok sc_bad_pipe hl fun cdv A outer s H vs Q E hr q => ⟨_, der_bad_pipe T D_times hr, h vs H Q E q⟩, g, F.kp, b⟩

/-! ### repetitions_in: slots 0 flow 1 shares 2 lines 3 found 4 part 5 below 6 box -/
theorem sc_repetitions_in : FnScope ["flow", "shares", "lines", "found", "part", "below", "box"] ["flow"] (defScope s_repetitions_in) := ⟨rfl, rfl, rfl, by decide +kernel, rfl, by decide +kernel, by decide +kernel⟩
def t_repetitions_in (K : PySem.W.Frag) (p_shares_in : Sp) (p_bad_pipe : Sp) (p_parts_in : Sp) (p_gcd : Sp) : TS :=
  tSeq (tAsg (tCall p_shares_in [] E0 (tCons (tVar 0) (tNil))) (gTup K 2 (gCons (gName 1) (gCons (gName 2) gNil))))
    (tSeq (tIfS (tB (tNotN (tCall p_bad_pipe [] E0 (tCons (tVar 0) (tCons (tVar 1) (tNil)))))) (tNever) (tNext))
    (tSeq (tAsg (tOp rRep (tLst (tCons (tC (.int 0)) (tNil))) (tOp (rIx K) (tVar 0) (tC (.int 0)))) (gName 3))
    (tSeq (tFor (iList K (tCall p_parts_in [] E0 (tCons (tVar 0) (tNil)))) (gName 4)
      (tSeq (tAsg (tC (.int 1)) (gName 5))
    (tSeq (tFor (iTup K (tVar 4)) (gName 6)
      (tAsg (tOp (rI CDiv fun i j => .int (i / j)) (tOp (rI CMul fun i j => .int (i * j)) (tVar 5) (tOp (rIx K) (tDGet (tVar 1) (tVar 6)) (tC (.int 1)))) (tCall p_gcd [] E0 (tCons (tVar 5) (tCons (tOp (rIx K) (tDGet (tVar 1) (tVar 6)) (tC (.int 1))) (tNil))))) (gName 5)))
    (tFor (iTup K (tVar 4)) (gName 6)
      (tAsg (tOp (rI CDiv fun i j => .int (i / j)) (tOp (rI CMul fun i j => .int (i * j)) (tVar 5) (tOp (rIx K) (tDGet (tVar 1) (tVar 6)) (tC (.int 0)))) (tOp (rIx K) (tDGet (tVar 1) (tVar 6)) (tC (.int 1)))) (gSub (tVar 3) (tVar 6) rSetL))))))
    (tRet (tVar 3)))))
theorem der_repetitions_in {P : Program} {w : World} {K : PySem.W.Frag} {mg : Str → Option Value} {base : Heap} {p_shares_in : Sp} {p_bad_pipe : Sp} {p_parts_in : Sp} {p_gcd : Sp} (T : Txt K mg) (D_shares_in : Def P w K mg base 4 "shares_in" ["flow"] p_shares_in) (D_bad_pipe : Def P w K mg base 4 "bad_pipe" ["flow", "shares"] p_bad_pipe) (D_parts_in : Def P w K mg base 2 "parts_in" ["flow"] p_parts_in) (D_gcd : Def P w K mg base 1 "gcd" ["one", "other"] p_gcd)
    {f : Addr} {cdv : Value} {A : Around} {outer : List Env} {s : Shared} {H : Hp} {E : XK} (hr : Room 4 (A.deeper (envOfC "repetitions_in" (defScope s_repetitions_in) s.heap.objs.size f cdv))) :
    PSs (cxOf CX0 P w K mg base ["flow", "shares", "lines", "found", "part", "below", "box"] "repetitions_in" (defScope s_repetitions_in) f cdv A outer s H E).nox (defBody s_repetitions_in) (t_repetitions_in K p_shares_in p_bad_pipe p_parts_in p_gcd) := by
  unfold t_repetitions_in
  exact (pss_cons (ps_asg (pe_def D_shares_in (hr.mono (by decide)) (by rfl) (pa_cons (pv 0) pa_nil)) (pg_tup rfl (pgs_cons (pg_name (i := 1) sc_repetitions_in.nd rfl (Or.inl rfl)) (pgs_cons (pg_name (i := 2) sc_repetitions_in.nd rfl (Or.inl rfl)) pgs_nil))))
      (pss_cons (ps_if (pt_cmp (pc_notN (pe_def D_bad_pipe (hr.mono (by decide)) (by rfl) (pa_cons (pv 0) (pa_cons (pv 1) pa_nil))))) pss_never pss_nil)
      (pss_cons (ps_set (i := 3) sc_repetitions_in.nd rfl (Or.inl rfl) (pe_op op_rep (pe_lst (pa_cons pe_int pa_nil)) (pe_ix ix_seq (pv 0) pe_int (fun _ _ => rfl))))
      (pss_cons (ps_for PassesOwn.never rfl (pi_list (pe_def D_parts_in (hr.mono (by decide)) (by rfl) (pa_cons (pv 0) pa_nil))) (pg_name (i := 4) sc_repetitions_in.nd rfl (Or.inl rfl)) (pss_cons (ps_set (i := 5) sc_repetitions_in.nd rfl (Or.inl rfl) pe_int)
      (pss_cons (ps_for PassesOwn.never rfl (pi_tup (pv 4)) (pg_name (i := 6) sc_repetitions_in.nd rfl (Or.inl rfl)) (pss_one (ps_set (i := 5) sc_repetitions_in.nd rfl (Or.inl rfl) (pe_op op_fdiv (pe_op op_mul (pv 5) (pe_ix ix_seq (pe_dget (hu_of hr) (pv 1) (pv 6) (fun _ _ => rfl)) pe_int (fun _ _ => rfl))) (pe_def D_gcd (hr.mono (by decide)) (by rfl) (pa_cons (pv 5) (pa_cons (pe_ix ix_seq (pe_dget (hu_of hr) (pv 1) (pv 6) (fun _ _ => rfl)) pe_int (fun _ _ => rfl)) pa_nil)))))))
      (pss_one (ps_for PassesOwn.never rfl (pi_tup (pv 4)) (pg_name (i := 6) sc_repetitions_in.nd rfl (Or.inl rfl)) (pss_one (ps_asg (pe_op op_fdiv (pe_op op_mul (pv 5) (pe_ix ix_seq (pe_dget (hu_of hr) (pv 1) (pv 6) (fun _ _ => rfl)) pe_int (fun _ _ => rfl))) (pe_ix ix_seq (pe_dget (hu_of hr) (pv 1) (pv 6) (fun _ _ => rfl)) pe_int (fun _ _ => rfl))) (pg_sub (pv 3) (pv 6) set_list))))))))
      (pss_one (ps_ret (pv 3)))))))
theorem def_repetitions_in {P : Program} {w : World} {K : PySem.W.Frag} {mg : Str → Option Value} {base : Heap} {p_shares_in : Sp} {p_bad_pipe : Sp} {p_parts_in : Sp} {p_gcd : Sp} {sp : Sp} (T : Txt K mg) (D_shares_in : Def P w K mg base 4 "shares_in" ["flow"] p_shares_in) (D_bad_pipe : Def P w K mg base 4 "bad_pipe" ["flow", "shares"] p_bad_pipe) (D_parts_in : Def P w K mg base 2 "parts_in" ["flow"] p_parts_in) (D_gcd : Def P w K mg base 1 "gcd" ["one", "other"] p_gcd)
    (hl : ∀ vs H Q E, sp vs H Q E → vs.length = 1) (h : ∀ vs H Q E, sp vs H Q E → t_repetitions_in K p_shares_in p_bad_pipe p_parts_in p_gcd { nx := fun _ H' => Q .non H', rt := Q } (start ["flow", "shares", "lines", "found", "part", "below", "box"] vs) H) : Def P w K mg base 5 "repetitions_in" ["flow"] sp := by
  obtain ⟨f, fd, F, g⟩ := T.f_repetitions_in
  have b := F.binds (ps := ["flow"]) fun _ _ _ _ _ _ us hl => match us, hl with | [_], _ => rfl
  exact ⟨f, fd, F.ok sc_repetitions_in hl fun cdv A outer s H vs Q E hr q => ⟨_, der_repetitions_in T D_shares_in D_bad_pipe D_parts_in D_gcd hr, h vs H Q E q⟩, g, F.kp, b⟩

/-! ### round_of: slots 0 flow 1 found -/
theorem sc_round_of : FnScope ["flow", "found"] ["flow"] (defScope s_round_of) := ⟨rfl, rfl, rfl, by decide +kernel, rfl, by decide +kernel, by decide +kernel⟩
def t_round_of (K : PySem.W.Frag) (p_repetitions_in : Sp) : TS :=
  tSeq (tAsg (tCall p_repetitions_in [] E0 (tCons (tVar 0) (tNil))) (gName 1))
    (tSeq (tIfS (tTest (tOp (rI0 fun i j => .bl (decide (j < i))) (tCB (rSumA K) (tCons (tVar 1) (tNil))) (tC (.int 2000)))) (tNever) (tNext))
    (tRet (tVar 1)))
theorem der_round_of {P : Program} {w : World} {K : PySem.W.Frag} {mg : Str → Option Value} {base : Heap} {p_repetitions_in : Sp} (T : Txt K mg) (D_repetitions_in : Def P w K mg base 5 "repetitions_in" ["flow"] p_repetitions_in)
    {f : Addr} {cdv : Value} {A : Around} {outer : List Env} {s : Shared} {H : Hp} {E : XK} (hr : Room 5 (A.deeper (envOfC "round_of" (defScope s_round_of) s.heap.objs.size f cdv))) :
    PSs (cxOf CX0 P w K mg base ["flow", "found"] "round_of" (defScope s_round_of) f cdv A outer s H E).nox (defBody s_round_of) (t_round_of K p_repetitions_in) := by
  unfold t_round_of
  exact (pss_cons (ps_set (i := 1) sc_round_of.nd rfl (Or.inl rfl) (pe_def D_repetitions_in (hr.mono (by decide)) (by rfl) (pa_cons (pv 0) pa_nil)))
      (pss_cons (ps_if (pt_cmpR op_gt (pe_callB (c_sum rfl) (by rfl) T.b_sum (by decide +kernel) (pa_cons (pv 1) pa_nil)) (pe_const T.c_MOST_ROUND (by rfl)) (nomark _)) pss_never pss_nil)
      (pss_one (ps_ret (pv 1)))))
theorem def_round_of {P : Program} {w : World} {K : PySem.W.Frag} {mg : Str → Option Value} {base : Heap} {p_repetitions_in : Sp} {sp : Sp} (T : Txt K mg) (D_repetitions_in : Def P w K mg base 5 "repetitions_in" ["flow"] p_repetitions_in)
    (hl : ∀ vs H Q E, sp vs H Q E → vs.length = 1) (h : ∀ vs H Q E, sp vs H Q E → t_round_of K p_repetitions_in { nx := fun _ H' => Q .non H', rt := Q } (start ["flow", "found"] vs) H) : Def P w K mg base 6 "round_of" ["flow"] sp := by
  obtain ⟨f, fd, F, g⟩ := T.f_round_of
  have b := F.binds (ps := ["flow"]) fun _ _ _ _ _ _ us hl => match us, hl with | [_], _ => rfl
  exact ⟨f, fd, F.ok sc_round_of hl fun cdv A outer s H vs Q E hr q => ⟨_, der_round_of T D_repetitions_in hr, h vs H Q E q⟩, g, F.kp, b⟩

/-! ### lives: slots 0 flow -/
theorem sc_lives : FnScope ["flow"] ["flow"] (defScope s_lives) := ⟨rfl, rfl, rfl, by decide +kernel, rfl, by decide +kernel, by decide +kernel⟩
def t_lives (K : PySem.W.Frag) (p_round_of : Sp) (p_does : Sp) : TS :=
  tRet (tCall p_does [] E0 (tCons (tVar 0) (tCons (tCall p_round_of [] E0 (tCons (tVar 0) (tNil))) (tNil))))
theorem der_lives {P : Program} {w : World} {K : PySem.W.Frag} {mg : Str → Option Value} {base : Heap} {p_round_of : Sp} {p_does : Sp} (T : Txt K mg) (D_round_of : Def P w K mg base 6 "round_of" ["flow"] p_round_of) (D_does : Def P w K mg base 3 "does" ["flow", "counts"] p_does)
    {f : Addr} {cdv : Value} {A : Around} {outer : List Env} {s : Shared} {H : Hp} {E : XK} (hr : Room 6 (A.deeper (envOfC "lives" (defScope s_lives) s.heap.objs.size f cdv))) :
    PSs (cxOf CX0 P w K mg base ["flow"] "lives" (defScope s_lives) f cdv A outer s H E).nox (defBody s_lives) (t_lives K p_round_of p_does) := by
  unfold t_lives
  exact (pss_one (ps_ret (pe_def D_does (hr.mono (by decide)) (by rfl) (pa_cons (pv 0) (pa_cons (pe_def D_round_of (hr.mono (by decide)) (by rfl) (pa_cons (pv 0) pa_nil)) pa_nil)))))
theorem def_lives {P : Program} {w : World} {K : PySem.W.Frag} {mg : Str → Option Value} {base : Heap} {p_round_of : Sp} {p_does : Sp} {sp : Sp} (T : Txt K mg) (D_round_of : Def P w K mg base 6 "round_of" ["flow"] p_round_of) (D_does : Def P w K mg base 3 "does" ["flow", "counts"] p_does)
    (hl : ∀ vs H Q E, sp vs H Q E → vs.length = 1) (h : ∀ vs H Q E, sp vs H Q E → t_lives K p_round_of p_does { nx := fun _ H' => Q .non H', rt := Q } (start ["flow"] vs) H) : Def P w K mg base 7 "lives" ["flow"] sp := by
  obtain ⟨f, fd, F, g⟩ := T.f_lives
  have b := F.binds (ps := ["flow"]) fun _ _ _ _ _ _ us hl => match us, hl with | [_], _ => rfl
  exact ⟨f, fd, F.ok sc_lives hl fun cdv A outer s H vs Q E hr q => ⟨_, der_lives T D_round_of D_does hr, h vs H Q E q⟩, g, F.kp, b⟩

/-! ### is_live: slots 0 flow -/
theorem sc_is_live : FnScope ["flow"] ["flow"] (defScope s_is_live) := ⟨rfl, rfl, rfl, by decide +kernel, rfl, by decide +kernel, by decide +kernel⟩
def t_is_live (K : PySem.W.Frag) (p_need_flow : Sp) (p_lives : Sp) : TS :=
  tSeq (tDrop (tCall p_need_flow [] E0 (tCons (tVar 0) (tNil))))
    (tRet (tCall p_lives [] E0 (tCons (tVar 0) (tNil))))
theorem der_is_live {P : Program} {w : World} {K : PySem.W.Frag} {mg : Str → Option Value} {base : Heap} {p_need_flow : Sp} {p_lives : Sp} (T : Txt K mg) (D_need_flow : Def P w K mg base 3 "need_flow" ["flow"] p_need_flow) (D_lives : Def P w K mg base 7 "lives" ["flow"] p_lives)
    {f : Addr} {cdv : Value} {A : Around} {outer : List Env} {s : Shared} {H : Hp} {E : XK} (hr : Room 7 (A.deeper (envOfC "is_live" (defScope s_is_live) s.heap.objs.size f cdv))) :
    PSs (cxOf CX0 P w K mg base ["flow"] "is_live" (defScope s_is_live) f cdv A outer s H E).nox (defBody s_is_live) (t_is_live K p_need_flow p_lives) := by
  unfold t_is_live
  exact (pss_cons (ps_expr (pe_def D_need_flow (hr.mono (by decide)) (by rfl) (pa_cons (pv 0) pa_nil)))
      (pss_one (ps_ret (pe_def D_lives (hr.mono (by decide)) (by rfl) (pa_cons (pv 0) pa_nil)))))
theorem def_is_live {P : Program} {w : World} {K : PySem.W.Frag} {mg : Str → Option Value} {base : Heap} {p_need_flow : Sp} {p_lives : Sp} {sp : Sp} (T : Txt K mg) (D_need_flow : Def P w K mg base 3 "need_flow" ["flow"] p_need_flow) (D_lives : Def P w K mg base 7 "lives" ["flow"] p_lives)
    (hl : ∀ vs H Q E, sp vs H Q E → vs.length = 1) (h : ∀ vs H Q E, sp vs H Q E → t_is_live K p_need_flow p_lives { nx := fun _ H' => Q .non H', rt := Q } (start ["flow"] vs) H) : Def P w K mg base 8 "is_live" ["flow"] sp := by
  obtain ⟨f, fd, F, g⟩ := T.f_is_live
  have b := F.binds (ps := ["flow"]) fun _ _ _ _ _ _ us hl => match us, hl with | [_], _ => rfl
  exact ⟨f, fd, F.ok sc_is_live hl fun cdv A outer s H vs Q E hr q => ⟨_, der_is_live T D_need_flow D_lives hr, h vs H Q E q⟩, g, F.kp, b⟩

/-! ### _law_taken: slots 0 _law_row 1 _law_many 2 _law_found 3 _law_cell -/
theorem sc_law_taken : FnScope ["_law_row", "_law_many", "_law_found", "_law_cell"] ["_law_row", "_law_many"] (defScope s_law_taken) := ⟨rfl, rfl, rfl, by decide +kernel, rfl, by decide +kernel, by decide +kernel⟩
def t_law_taken (K : PySem.W.Frag) : TS :=
  tSeq (tIfS (tTest (tOp (rI0 fun i j => .bl (decide (j < i))) (tOp (rIx K) (tVar 0) (tC (.int 3))) (tC (.int 0)))) (tSeq (tAsg (tOp (rI (fun _ j => 0 < j) fun i j => .int (i % j)) (tCB rInt1 (tCons (tOp (rIx K) (tVar 0) (tC (.int 3))) (tNil))) (tVar 1)) (gName 2))
    (tSeq (tAsg (tOp (rI CDiv fun i j => .int (i / j)) (tOp (rIx K) (tVar 0) (tC (.int 3))) (tVar 1)) (gSub (tVar 0) (tC (.int 3)) rSetL))
    (tRet (tVar 2)))) (tNext))
    (tSeq (tAsg (tOp (rI0 fun i j => .int (i + j)) (tOp (rIx K) (tVar 0) (tC (.int 1))) (tC (.int 1))) (gSub (tVar 0) (tC (.int 1)) rSetL))
    (tSeq (tIfS (tTest (tOp (rI0 fun i j => .bl (decide (j < i))) (tOp (rIx K) (tVar 0) (tC (.int 1))) (tCB (Evl.rLenS K) (tCons (tOp (rIx K) (tVar 0) (tC (.int 0))) (tNil))))) (tSeq (tAsg (tOp (rI (fun _ j => 0 < j) fun i j => .int (i % j)) (tCB rInt1 (tCons (tOp (rI0 fun i j => .int (i + j)) (tOp (rI CMul fun i j => .int (i * j)) (tOp (rIx K) (tVar 0) (tC (.int 2))) (tC (.int 48271))) (tC (.int 11))) (tNil))) (tC (.int 2147483647))) (gSub (tVar 0) (tC (.int 2)) rSetL))
    (tRet (tOp (rI (fun _ j => 0 < j) fun i j => .int (i % j)) (tCB rInt1 (tCons (tOp (rI CDiv fun i j => .int (i / j)) (tOp (rIx K) (tVar 0) (tC (.int 2))) (tC (.int 7))) (tNil))) (tVar 1)))) (tNext))
    (tSeq (tAsg (tOp (rIx K) (tOp (rIx K) (tVar 0) (tC (.int 0))) (tOp (rI0 fun i j => .int (i - j)) (tOp (rIx K) (tVar 0) (tC (.int 1))) (tC (.int 1)))) (gName 3))
    (tSeq (tAsg (tOp (rI (fun _ j => 0 < j) fun i j => .int (i % j)) (tCB rInt1 (tCons (tOp (rI0 fun i j => .int (i + j)) (tOp (rI0 fun i j => .int (i + j)) (tOp (rI CMul fun i j => .int (i * j)) (tOp (rIx K) (tVar 0) (tC (.int 2))) (tC (.int 48271))) (tVar 3)) (tC (.int 11))) (tNil))) (tC (.int 2147483647))) (gSub (tVar 0) (tC (.int 2)) rSetL))
    (tSeq (tIfS (tTest (tOp (rI0 fun i j => .bl (decide (j ≤ i))) (tVar 3) (tOp (rI CPow fun i j => .int (i ^ j.toNat)) (tC (.int 10)) (tC (.int 18))))) (tAsg (tOp (rI CDiv fun i j => .int (i / j)) (tVar 3) (tVar 1)) (gSub (tVar 0) (tC (.int 3)) rSetL)) (tNext))
    (tRet (tOp (rI (fun _ j => 0 < j) fun i j => .int (i % j)) (tCB rInt1 (tCons (tVar 3) (tNil))) (tVar 1))))))))
theorem der_law_taken {P : Program} {w : World} {K : PySem.W.Frag} {mg : Str → Option Value} {base : Heap} (T : Txt K mg)
    {f : Addr} {cdv : Value} {A : Around} {outer : List Env} {s : Shared} {H : Hp} {E : XK} (hr : Room 0 (A.deeper (envOfC "_law_taken" (defScope s_law_taken) s.heap.objs.size f cdv))) :
    PSs (cxOf CX0 P w K mg base ["_law_row", "_law_many", "_law_found", "_law_cell"] "_law_taken" (defScope s_law_taken) f cdv A outer s H E).nox (defBody s_law_taken) (t_law_taken K) := by
  unfold t_law_taken
  exact (pss_cons (ps_if (pt_cmpR op_gt (pe_ix ix_seq (pv 0) pe_int (fun _ _ => rfl)) pe_int (nomark _)) (pss_cons (ps_set (i := 2) sc_law_taken.nd rfl (Or.inl rfl) (pe_op op_mod (pe_callTy c_int (by rfl) T.b_int (by decide +kernel) (pa_cons (pe_ix ix_seq (pv 0) pe_int (fun _ _ => rfl)) pa_nil)) (pv 1)))
      (pss_cons (ps_asg (pe_op op_fdiv (pe_ix ix_seq (pv 0) pe_int (fun _ _ => rfl)) (pv 1)) (pg_sub (pv 0) pe_int set_list))
      (pss_one (ps_ret (pv 2))))) pss_nil)
      (pss_cons (ps_asg (pe_op op_add (pe_ix ix_seq (pv 0) pe_int (fun _ _ => rfl)) pe_int) (pg_sub (pv 0) pe_int set_list))
      (pss_cons (ps_if (pt_cmpR op_gt (pe_ix ix_seq (pv 0) pe_int (fun _ _ => rfl)) (pe_callB c_len (by rfl) T.b_len PySem.boot_len (pa_cons (pe_ix ix_seq (pv 0) pe_int (fun _ _ => rfl)) pa_nil)) (nomark _)) (pss_cons (ps_asg (pe_op op_mod (pe_callTy c_int (by rfl) T.b_int (by decide +kernel) (pa_cons (pe_op op_add (pe_op op_mul (pe_ix ix_seq (pv 0) pe_int (fun _ _ => rfl)) pe_int) pe_int) pa_nil)) pe_int) (pg_sub (pv 0) pe_int set_list))
      (pss_one (ps_ret (pe_op op_mod (pe_callTy c_int (by rfl) T.b_int (by decide +kernel) (pa_cons (pe_op op_fdiv (pe_ix ix_seq (pv 0) pe_int (fun _ _ => rfl)) pe_int) pa_nil)) (pv 1))))) pss_nil)
      (pss_cons (ps_set (i := 3) sc_law_taken.nd rfl (Or.inl rfl) (pe_ix ix_seq (pe_ix ix_seq (pv 0) pe_int (fun _ _ => rfl)) (pe_op op_sub (pe_ix ix_seq (pv 0) pe_int (fun _ _ => rfl)) pe_int) (fun _ _ => rfl)))
      (pss_cons (ps_asg (pe_op op_mod (pe_callTy c_int (by rfl) T.b_int (by decide +kernel) (pa_cons (pe_op op_add (pe_op op_add (pe_op op_mul (pe_ix ix_seq (pv 0) pe_int (fun _ _ => rfl)) pe_int) (pv 3)) pe_int) pa_nil)) pe_int) (pg_sub (pv 0) pe_int set_list))
      (pss_cons (ps_if (pt_cmpR op_ge (pv 3) (pe_op op_pow pe_int pe_int) (nomark _)) (pss_one (ps_asg (pe_op op_fdiv (pv 3) (pv 1)) (pg_sub (pv 0) pe_int set_list))) pss_nil)
      (pss_one (ps_ret (pe_op op_mod (pe_callTy c_int (by rfl) T.b_int (by decide +kernel) (pa_cons (pv 3) pa_nil)) (pv 1))))))))))
theorem def_law_taken {P : Program} {w : World} {K : PySem.W.Frag} {mg : Str → Option Value} {base : Heap} {sp : Sp} (T : Txt K mg)
    (hl : ∀ vs H Q E, sp vs H Q E → vs.length = 2) (h : ∀ vs H Q E, sp vs H Q E → t_law_taken K { nx := fun _ H' => Q .non H', rt := Q } (start ["_law_row", "_law_many", "_law_found", "_law_cell"] vs) H) : Def P w K mg base 1 "_law_taken" ["_law_row", "_law_many"] sp := by
  obtain ⟨f, fd, F, g⟩ := T.f_law_taken
  have b := F.binds (ps := ["_law_row", "_law_many"]) fun _ _ _ _ _ _ us hl => match us, hl with | [_, _], _ => rfl
  exact ⟨f, fd, F.ok sc_law_taken hl fun cdv A outer s H vs Q E hr q => ⟨_, der_law_taken T hr, h vs H Q E q⟩, g, F.kp, b⟩

/-! ### _law_pick: slots 0 _law_row 1 _law_things -/
theorem sc_law_pick : FnScope ["_law_row", "_law_things"] ["_law_row", "_law_things"] (defScope s_law_pick) := ⟨rfl, rfl, rfl, by decide +kernel, rfl, by decide +kernel, by decide +kernel⟩
def t_law_pick (K : PySem.W.Frag) (p_law_taken : Sp) : TS :=
  tRet (tOp (rIx K) (tVar 1) (tCall p_law_taken [] E0 (tCons (tVar 0) (tCons (tCB (Evl.rLenS K) (tCons (tVar 1) (tNil))) (tNil)))))
theorem der_law_pick {P : Program} {w : World} {K : PySem.W.Frag} {mg : Str → Option Value} {base : Heap} {p_law_taken : Sp} (T : Txt K mg) (D_law_taken : Def P w K mg base 1 "_law_taken" ["_law_row", "_law_many"] p_law_taken)
    {f : Addr} {cdv : Value} {A : Around} {outer : List Env} {s : Shared} {H : Hp} {E : XK} (hr : Room 1 (A.deeper (envOfC "_law_pick" (defScope s_law_pick) s.heap.objs.size f cdv))) :
    PSs (cxOf CX0 P w K mg base ["_law_row", "_law_things"] "_law_pick" (defScope s_law_pick) f cdv A outer s H E).nox (defBody s_law_pick) (t_law_pick K p_law_taken) := by
  unfold t_law_pick
  exact (pss_one (ps_ret (pe_ix ix_seq (pv 1) (pe_def D_law_taken (hr.mono (by decide)) (by rfl) (pa_cons (pv 0) (pa_cons (pe_callB c_len (by rfl) T.b_len PySem.boot_len (pa_cons (pv 1) pa_nil)) pa_nil))) (fun _ _ => rfl))))
theorem def_law_pick {P : Program} {w : World} {K : PySem.W.Frag} {mg : Str → Option Value} {base : Heap} {p_law_taken : Sp} {sp : Sp} (T : Txt K mg) (D_law_taken : Def P w K mg base 1 "_law_taken" ["_law_row", "_law_many"] p_law_taken)
    (hl : ∀ vs H Q E, sp vs H Q E → vs.length = 2) (h : ∀ vs H Q E, sp vs H Q E → t_law_pick K p_law_taken { nx := fun _ H' => Q .non H', rt := Q } (start ["_law_row", "_law_things"] vs) H) : Def P w K mg base 2 "_law_pick" ["_law_row", "_law_things"] sp := by
  obtain ⟨f, fd, F, g⟩ := T.f_law_pick
  have b := F.binds (ps := ["_law_row", "_law_things"]) fun _ _ _ _ _ _ us hl => match us, hl with | [_, _], _ => rfl
  exact ⟨f, fd, F.ok sc_law_pick hl fun cdv A outer s H vs Q E hr q => ⟨_, der_law_pick T D_law_taken hr, h vs H Q E q⟩, g, F.kp, b⟩

/-! ### _law_gcd: slots 0 _law_one 1 _law_other -/
theorem sc_law_gcd : FnScope ["_law_one", "_law_other"] ["_law_one", "_law_other"] (defScope s_law_gcd) := ⟨rfl, rfl, rfl, by decide +kernel, rfl, by decide +kernel, by decide +kernel⟩
def t_law_gcd (K : PySem.W.Frag) : TS :=
  tSeq (tPar 0 1 (tCons (tCB rAbs (tCons (tVar 0) (tNil))) (tCons (tCB rAbs (tCons (tVar 1) (tNil))) (tNil))))
    (tSeq (tWhile (tTest (tOp rNe (tVar 1) (tC (.int 0))))
      (tPar 0 1 (tCons (tVar 1) (tCons (tOp (rI (fun _ j => 0 < j) fun i j => .int (i % j)) (tCB rInt1 (tCons (tVar 0) (tNil))) (tVar 1)) (tNil)))))
    (tRet (tVar 0)))
theorem der_law_gcd {P : Program} {w : World} {K : PySem.W.Frag} {mg : Str → Option Value} {base : Heap} (T : Txt K mg)
    {f : Addr} {cdv : Value} {A : Around} {outer : List Env} {s : Shared} {H : Hp} {E : XK} (hr : Room 0 (A.deeper (envOfC "_law_gcd" (defScope s_law_gcd) s.heap.objs.size f cdv))) :
    PSs (cxOf CX0 P w K mg base ["_law_one", "_law_other"] "_law_gcd" (defScope s_law_gcd) f cdv A outer s H E).nox (defBody s_law_gcd) (t_law_gcd K) := by
  unfold t_law_gcd
  exact (pss_cons (ps_par (i := 0) (j := 1) rfl sc_law_gcd.nd rfl rfl (by decide) rfl rfl (pa_cons (pe_callB c_abs (by rfl) T.b_abs (by decide +kernel) (pa_cons (pv 0) pa_nil)) (pa_cons (pe_callB c_abs (by rfl) T.b_abs (by decide +kernel) (pa_cons (pv 1) pa_nil)) pa_nil)) (by rfl))
      (pss_cons (ps_while PassesOwn.never (pt_cmpR op_ne (pv 1) pe_int (nomark _)) (pss_one (ps_par (i := 0) (j := 1) rfl sc_law_gcd.nd rfl rfl (by decide) rfl rfl (pa_cons (pv 1) (pa_cons (pe_op op_mod (pe_callTy c_int (by rfl) T.b_int (by decide +kernel) (pa_cons (pv 0) pa_nil)) (pv 1)) pa_nil)) (by rfl))))
      (pss_one (ps_ret (pv 0)))))
theorem def_law_gcd {P : Program} {w : World} {K : PySem.W.Frag} {mg : Str → Option Value} {base : Heap} {sp : Sp} (T : Txt K mg)
    (hl : ∀ vs H Q E, sp vs H Q E → vs.length = 2) (h : ∀ vs H Q E, sp vs H Q E → t_law_gcd K { nx := fun _ H' => Q .non H', rt := Q } (start ["_law_one", "_law_other"] vs) H) : Def P w K mg base 1 "_law_gcd" ["_law_one", "_law_other"] sp := by
  obtain ⟨f, fd, F, g⟩ := T.f_law_gcd
  have b := F.binds (ps := ["_law_one", "_law_other"]) fun _ _ _ _ _ _ us hl => match us, hl with | [_, _], _ => rfl
  exact ⟨f, fd, F.ok sc_law_gcd hl fun cdv A outer s H vs Q E hr q => ⟨_, der_law_gcd T hr, h vs H Q E q⟩, g, F.kp, b⟩

/-! ### _law_flow: slots 0 _law_row 1 _law_most 2 _law_top 3 _law_many 4 _law_way 5 _law_pipes 6 _law_k 7 _law_counts_here 8 _law_pair 9 _law_turn 10 _law_found 11 _law_one 12 _law_other 13 _law_common 14 _law_more -/
theorem sc_law_flow : FnScope ["_law_row", "_law_most", "_law_top", "_law_many", "_law_way", "_law_pipes", "_law_k", "_law_counts_here", "_law_pair", "_law_turn", "_law_found", "_law_one", "_law_other", "_law_common", "_law_more"] ["_law_row", "_law_most", "_law_top"] (defScope s_law_flow) := ⟨rfl, rfl, rfl, by decide +kernel, rfl, by decide +kernel, by decide +kernel⟩
def t_law_flow (K : PySem.W.Frag) (p_law_taken : Sp) (p_law_pick : Sp) (p_law_gcd : Sp) : TS :=
  tSeq (tPar3 3 4 5 (tCons (tOp (rI0 fun i j => .int (i + j)) (tC (.int 1)) (tCall p_law_taken [] E0 (tCons (tVar 0) (tCons (tVar 1) (tNil))))) (tCons (tCall p_law_taken [] E0 (tCons (tVar 0) (tCons (tC (.int 5)) (tNil)))) (tCons (tLst (tNil)) (tNil)))))
    (tSeq (tAsg (tLc (iRng1 (tCons (tVar 3) (tNil))) (gName 6) tYes (tOp (rI0 fun i j => .int (i + j)) (tC (.int 1)) (tCall p_law_taken [] E0 (tCons (tVar 0) (tCons (tCall p_law_pick [] E0 (tCons (tVar 0) (tCons (tLst (tCons (tC (.int 1)) (tCons (tC (.int 3)) (tCons (tC (.int 4)) (tNil))))) (tNil)))) (tNil))))) [6]) (gName 7))
    (tSeq (tFor (iRng2 (tCons (tC (.int 1)) (tCons (tVar 3) (tNil)))) (gName 6)
      (tIfS (tTest (tOp (rI0 fun i j => .bl (decide (j < i))) (tCall p_law_taken [] E0 (tCons (tVar 0) (tCons (tC (.int 8)) (tNil)))) (tC (.int 0)))) (tSeq (tAsg (tTup (tCons (tIf (tTest (tOp rEq (tVar 4) (tC (.int 0)))) (tOp (rI0 fun i j => .int (i - j)) (tVar 6) (tC (.int 1))) (tCall p_law_taken [] E0 (tCons (tVar 0) (tCons (tVar 6) (tNil))))) (tCons (tVar 6) (tNil)))) (gName 8))
    (tDrop (tBM K "list" rAppend (tVar 5) (tCons (tIf (tTest (tOp (rI0 fun i j => .bl (decide (j < i))) (tCall p_law_taken [] E0 (tCons (tVar 0) (tCons (tC (.int 3)) (tNil)))) (tC (.int 0)))) (tVar 8) (tTup (tCons (tOp (rIx K) (tVar 8) (tC (.int 1))) (tCons (tOp (rIx K) (tVar 8) (tC (.int 0))) (tNil))))) (tNil))))) (tNext)))
    (tSeq (tFor (iRng1 (tCons (tIf (tTest (tOp (rI0 fun i j => .bl (decide (j < i))) (tVar 4) (tC (.int 0)))) (tCall p_law_taken [] E0 (tCons (tVar 0) (tCons (tC (.int 3)) (tNil)))) (tC (.int 0))) (tNil))) (gName 9)
      (tDrop (tBM K "list" rAppend (tVar 5) (tCons (tTup (tCons (tCall p_law_taken [] E0 (tCons (tVar 0) (tCons (tVar 3) (tNil)))) (tCons (tCall p_law_taken [] E0 (tCons (tVar 0) (tCons (tVar 3) (tNil)))) (tNil)))) (tNil)))))
    (tSeq (tAsg (tLst (tNil)) (gName 10))
    (tSeq (tFor (iList K (tVar 5)) (gTup K 2 (gCons (gName 11) (gCons (gName 12) gNil)))
      (tSeq (tAsg (tCall p_law_gcd [] E0 (tCons (tOp (rIx K) (tVar 7) (tVar 11)) (tCons (tOp (rIx K) (tVar 7) (tVar 12)) (tNil)))) (gName 13))
    (tSeq (tAsg (tCall p_law_pick [] E0 (tCons (tVar 0) (tCons (tLst (tCons (tC (.int 1)) (tCons (tC (.int 1)) (tCons (tC (.int 2)) (tNil))))) (tNil)))) (gName 14))
    (tDrop (tBM K "list" rAppend (tVar 10) (tCons (tTup (tCons (tVar 11) (tCons (tVar 12) (tCons (tOp (rI CDiv fun i j => .int (i / j)) (tOp (rI CMul fun i j => .int (i * j)) (tVar 14) (tOp (rIx K) (tVar 7) (tVar 12))) (tVar 13)) (tCons (tOp (rI CDiv fun i j => .int (i / j)) (tOp (rI CMul fun i j => .int (i * j)) (tVar 14) (tOp (rIx K) (tVar 7) (tVar 11))) (tVar 13)) (tCons (tCall p_law_taken [] E0 (tCons (tVar 0) (tCons (tOp (rI0 fun i j => .int (i + j)) (tVar 2) (tC (.int 1))) (tNil)))) (tNil))))))) (tNil)))))))
    (tRet (tTup (tCons (tVar 3) (tCons (tCB (rTupS K) (tCons (tVar 10) (tNil))) (tNil))))))))))
theorem der_law_flow {P : Program} {w : World} {K : PySem.W.Frag} {mg : Str → Option Value} {base : Heap} {p_law_taken : Sp} {p_law_pick : Sp} {p_law_gcd : Sp} (T : Txt K mg) (D_law_taken : Def P w K mg base 1 "_law_taken" ["_law_row", "_law_many"] p_law_taken) (D_law_pick : Def P w K mg base 2 "_law_pick" ["_law_row", "_law_things"] p_law_pick) (D_law_gcd : Def P w K mg base 1 "_law_gcd" ["_law_one", "_law_other"] p_law_gcd)
    {f : Addr} {cdv : Value} {A : Around} {outer : List Env} {s : Shared} {H : Hp} {E : XK} (hr : Room 2 (A.deeper (envOfC "_law_flow" (defScope s_law_flow) s.heap.objs.size f cdv))) :
    PSs (cxOf CX0 P w K mg base ["_law_row", "_law_most", "_law_top", "_law_many", "_law_way", "_law_pipes", "_law_k", "_law_counts_here", "_law_pair", "_law_turn", "_law_found", "_law_one", "_law_other", "_law_common", "_law_more"] "_law_flow" (defScope s_law_flow) f cdv A outer s H E).nox (defBody s_law_flow) (t_law_flow K p_law_taken p_law_pick p_law_gcd) := by
  unfold t_law_flow
  exact (pss_cons (ps_par3 (i := 3) (j := 4) (l := 5) rfl sc_law_flow.nd rfl rfl rfl (by decide) (by decide) (by decide) rfl rfl rfl (pa_cons (pe_op op_add pe_int (pe_def D_law_taken (hr.mono (by decide)) (by rfl) (pa_cons (pv 0) (pa_cons (pv 1) pa_nil)))) (pa_cons (pe_def D_law_taken (hr.mono (by decide)) (by rfl) (pa_cons (pv 0) (pa_cons pe_int pa_nil))) (pa_cons (pe_lst pa_nil) pa_nil))) (by rfl))
      (pss_cons (ps_setLc (i := 7) (own := [("_law_k", 6)]) (g := (gName 6)) (tt := tYes) rfl sc_law_flow.nd rfl rfl (sw_true rfl rfl rfl (by decide +kernel)) (pi_range1 (by rfl) T.b_range (pa_cons (pv 3) pa_nil)) (blkOk_by (N := ["_law_row", "_law_most", "_law_top", "_law_many", "_law_way", "_law_pipes", "_law_k", "_law_counts_here", "_law_pair", "_law_turn", "_law_found", "_law_one", "_law_other", "_law_common", "_law_more"]) (sc := defScope s_law_flow) (by decide +kernel)) (fun _ _ _ _ _ => (pg_name (i := 6) sc_law_flow.nd rfl (Or.inl rfl))) (fun _ _ _ _ _ => pts_nil) (fun _ _ _ _ _ => (pe_op op_add pe_int (pe_def D_law_taken (hr.mono (by decide)) (by rfl) (pa_cons (pv 0) (pa_cons (pe_def D_law_pick (hr.mono (by decide)) (by rfl) (pa_cons (pv 0) (pa_cons (pe_lst (pa_cons pe_int (pa_cons pe_int (pa_cons pe_int pa_nil)))) pa_nil))) pa_nil))))))
      (pss_cons (ps_for PassesOwn.never rfl (pi_range2 (by rfl) T.b_range (pa_cons pe_int (pa_cons (pv 3) pa_nil))) (pg_name (i := 6) sc_law_flow.nd rfl (Or.inl rfl)) (pss_one (ps_if (pt_cmpR op_gt (pe_def D_law_taken (hr.mono (by decide)) (by rfl) (pa_cons (pv 0) (pa_cons pe_int pa_nil))) pe_int (nomark _)) (pss_cons (ps_set (i := 8) sc_law_flow.nd rfl (Or.inl rfl) (pe_tup (pa_cons (pe_ifExp (pt_cmpR op_eq (pv 4) pe_int (nomark _)) (pe_op op_sub (pv 6) pe_int) (pe_def D_law_taken (hr.mono (by decide)) (by rfl) (pa_cons (pv 0) (pa_cons (pv 6) pa_nil)))) (pa_cons (pv 6) pa_nil))))
      (pss_one (ps_expr (pe_bm PySem.F.plainAttrs_list PySem.F.slot_list_append PySem.F.type_list_append mt_append (pv 5) (pa_cons (pe_ifExp (pt_cmpR op_gt (pe_def D_law_taken (hr.mono (by decide)) (by rfl) (pa_cons (pv 0) (pa_cons pe_int pa_nil))) pe_int (nomark _)) (pv 8) (pe_tup (pa_cons (pe_ix ix_seq (pv 8) pe_int (fun _ _ => rfl)) (pa_cons (pe_ix ix_seq (pv 8) pe_int (fun _ _ => rfl)) pa_nil)))) pa_nil))))) pss_nil)))
      (pss_cons (ps_for PassesOwn.never rfl (pi_range1 (by rfl) T.b_range (pa_cons (pe_ifExp (pt_cmpR op_gt (pv 4) pe_int (nomark _)) (pe_def D_law_taken (hr.mono (by decide)) (by rfl) (pa_cons (pv 0) (pa_cons pe_int pa_nil))) pe_int) pa_nil)) (pg_name (i := 9) sc_law_flow.nd rfl (Or.inl rfl)) (pss_one (ps_expr (pe_bm PySem.F.plainAttrs_list PySem.F.slot_list_append PySem.F.type_list_append mt_append (pv 5) (pa_cons (pe_tup (pa_cons (pe_def D_law_taken (hr.mono (by decide)) (by rfl) (pa_cons (pv 0) (pa_cons (pv 3) pa_nil))) (pa_cons (pe_def D_law_taken (hr.mono (by decide)) (by rfl) (pa_cons (pv 0) (pa_cons (pv 3) pa_nil))) pa_nil))) pa_nil)))))
      (pss_cons (ps_set (i := 10) sc_law_flow.nd rfl (Or.inl rfl) (pe_lst pa_nil))
      (pss_cons (ps_for PassesOwn.never rfl (pi_list (pv 5)) (pg_tup rfl (pgs_cons (pg_name (i := 11) sc_law_flow.nd rfl (Or.inl rfl)) (pgs_cons (pg_name (i := 12) sc_law_flow.nd rfl (Or.inl rfl)) pgs_nil))) (pss_cons (ps_set (i := 13) sc_law_flow.nd rfl (Or.inl rfl) (pe_def D_law_gcd (hr.mono (by decide)) (by rfl) (pa_cons (pe_ix ix_seq (pv 7) (pv 11) (fun _ _ => rfl)) (pa_cons (pe_ix ix_seq (pv 7) (pv 12) (fun _ _ => rfl)) pa_nil))))
      (pss_cons (ps_set (i := 14) sc_law_flow.nd rfl (Or.inl rfl) (pe_def D_law_pick (hr.mono (by decide)) (by rfl) (pa_cons (pv 0) (pa_cons (pe_lst (pa_cons pe_int (pa_cons pe_int (pa_cons pe_int pa_nil)))) pa_nil))))
      (pss_one (ps_expr (pe_bm PySem.F.plainAttrs_list PySem.F.slot_list_append PySem.F.type_list_append mt_append (pv 10) (pa_cons (pe_tup (pa_cons (pv 11) (pa_cons (pv 12) (pa_cons (pe_op op_fdiv (pe_op op_mul (pv 14) (pe_ix ix_seq (pv 7) (pv 12) (fun _ _ => rfl))) (pv 13)) (pa_cons (pe_op op_fdiv (pe_op op_mul (pv 14) (pe_ix ix_seq (pv 7) (pv 11) (fun _ _ => rfl))) (pv 13)) (pa_cons (pe_def D_law_taken (hr.mono (by decide)) (by rfl) (pa_cons (pv 0) (pa_cons (pe_op op_add (pv 2) pe_int) pa_nil))) pa_nil)))))) pa_nil)))))))
      (pss_one (ps_ret (pe_tup (pa_cons (pv 3) (pa_cons (pe_callTy c_tup (by rfl) T.b_tuple (by decide +kernel) (pa_cons (pv 10) pa_nil)) pa_nil)))))))))))
theorem def_law_flow {P : Program} {w : World} {K : PySem.W.Frag} {mg : Str → Option Value} {base : Heap} {p_law_taken : Sp} {p_law_pick : Sp} {p_law_gcd : Sp} {sp : Sp} (T : Txt K mg) (D_law_taken : Def P w K mg base 1 "_law_taken" ["_law_row", "_law_many"] p_law_taken) (D_law_pick : Def P w K mg base 2 "_law_pick" ["_law_row", "_law_things"] p_law_pick) (D_law_gcd : Def P w K mg base 1 "_law_gcd" ["_law_one", "_law_other"] p_law_gcd)
    (hl : ∀ vs H Q E, sp vs H Q E → vs.length = 3) (h : ∀ vs H Q E, sp vs H Q E → t_law_flow K p_law_taken p_law_pick p_law_gcd { nx := fun _ H' => Q .non H', rt := Q } (start ["_law_row", "_law_most", "_law_top", "_law_many", "_law_way", "_law_pipes", "_law_k", "_law_counts_here", "_law_pair", "_law_turn", "_law_found", "_law_one", "_law_other", "_law_common", "_law_more"] vs) H) : Def P w K mg base 3 "_law_flow" ["_law_row", "_law_most", "_law_top"] sp := by
  obtain ⟨f, fd, F, g⟩ := T.f_law_flow
  have b := F.binds (ps := ["_law_row", "_law_most", "_law_top"]) fun _ _ _ _ _ _ us hl => match us, hl with | [_, _, _], _ => rfl
  exact ⟨f, fd, F.ok sc_law_flow hl fun cdv A outer s H vs Q E hr q => ⟨_, der_law_flow T D_law_taken D_law_pick D_law_gcd hr, h vs H Q E q⟩, g, F.kp, b⟩
end K8

-- K8Der4
/-! Printed by gen_der.py: each def's names, its body's reading (t_), that it is that (der_), the def from its reading (def_) -/
namespace K8
open PySem PySem.Spec PyProof.Rows L2
/-! ### _law_ratio: slots 0 _law_numerator 1 _law_denominator 2 _law_common -/
theorem sc_law_ratio : FnScope ["_law_numerator", "_law_denominator", "_law_common"] ["_law_numerator", "_law_denominator"] (defScope s_law_ratio) := ⟨rfl, rfl, rfl, by decide +kernel, rfl, by decide +kernel, by decide +kernel⟩
def t_law_ratio (K : PySem.W.Frag) (p_law_gcd : Sp) : TS :=
  tSeq (tAsg (tCall p_law_gcd [] E0 (tCons (tVar 0) (tCons (tVar 1) (tNil)))) (gName 2))
    (tSeq (tAsg (tIf (tTest (tOp (rI0 fun i j => .bl (decide (i < j))) (tVar 1) (tC (.int 0)))) (tOp (rI0 fun i j => .int (i - j)) (tC (.int 0)) (tVar 2)) (tVar 2)) (gName 2))
    (tRet (tTup (tCons (tOp (rI CDiv fun i j => .int (i / j)) (tVar 0) (tVar 2)) (tCons (tOp (rI CDiv fun i j => .int (i / j)) (tVar 1) (tVar 2)) (tNil))))))
theorem der_law_ratio {P : Program} {w : World} {K : PySem.W.Frag} {mg : Str → Option Value} {base : Heap} {p_law_gcd : Sp} (T : Txt K mg) (D_law_gcd : Def P w K mg base 1 "_law_gcd" ["_law_one", "_law_other"] p_law_gcd)
    {f : Addr} {cdv : Value} {A : Around} {outer : List Env} {s : Shared} {H : Hp} {E : XK} (hr : Room 1 (A.deeper (envOfC "_law_ratio" (defScope s_law_ratio) s.heap.objs.size f cdv))) :
    PSs (cxOf CX0 P w K mg base ["_law_numerator", "_law_denominator", "_law_common"] "_law_ratio" (defScope s_law_ratio) f cdv A outer s H E).nox (defBody s_law_ratio) (t_law_ratio K p_law_gcd) := by
  unfold t_law_ratio
  exact (pss_cons (ps_set (i := 2) sc_law_ratio.nd rfl (Or.inl rfl) (pe_def D_law_gcd (hr.mono (by decide)) (by rfl) (pa_cons (pv 0) (pa_cons (pv 1) pa_nil))))
      (pss_cons (ps_set (i := 2) sc_law_ratio.nd rfl (Or.inl rfl) (pe_ifExp (pt_cmpR op_lt (pv 1) pe_int (nomark _)) (pe_op op_sub pe_int (pv 2)) (pv 2)))
      (pss_one (ps_ret (pe_tup (pa_cons (pe_op op_fdiv (pv 0) (pv 2)) (pa_cons (pe_op op_fdiv (pv 1) (pv 2)) pa_nil)))))))
theorem def_law_ratio {P : Program} {w : World} {K : PySem.W.Frag} {mg : Str → Option Value} {base : Heap} {p_law_gcd : Sp} {sp : Sp} (T : Txt K mg) (D_law_gcd : Def P w K mg base 1 "_law_gcd" ["_law_one", "_law_other"] p_law_gcd)
    (hl : ∀ vs H Q E, sp vs H Q E → vs.length = 2) (h : ∀ vs H Q E, sp vs H Q E → t_law_ratio K p_law_gcd { nx := fun _ H' => Q .non H', rt := Q } (start ["_law_numerator", "_law_denominator", "_law_common"] vs) H) : Def P w K mg base 2 "_law_ratio" ["_law_numerator", "_law_denominator"] sp := by
  obtain ⟨f, fd, F, g⟩ := T.f_law_ratio
  have b := F.binds (ps := ["_law_numerator", "_law_denominator"]) fun _ _ _ _ _ _ us hl => match us, hl with | [_, _], _ => rfl
  exact ⟨f, fd, F.ok sc_law_ratio hl fun cdv A outer s H vs Q E hr q => ⟨_, der_law_ratio T D_law_gcd hr, h vs H Q E q⟩, g, F.kp, b⟩

/-! ### _law_joined: slots 0 _law_flow_here 1 _law_box 2 _law_both 3 _law_found 4 _law_turn 5 _law_more 6 _law_pipe 7 _law_k -/
theorem sc_law_joined : FnScope ["_law_flow_here", "_law_box", "_law_both", "_law_found", "_law_turn", "_law_more", "_law_pipe", "_law_k"] ["_law_flow_here", "_law_box", "_law_both"] (defScope s_law_joined) := ⟨rfl, rfl, rfl, by decide +kernel, rfl, by decide +kernel, by decide +kernel⟩
def t_law_joined (K : PySem.W.Frag) : TS :=
  tSeq (tAsg (tLst (tCons (tVar 1) (tNil))) (gName 3))
    (tSeq (tFor (iRng1 (tCons (tOp (rIx K) (tVar 0) (tC (.int 0))) (tNil))) (gName 4)
      (tSeq (tAsg (tLc (iTup K (tOp (rIx K) (tVar 0) (tC (.int 1)))) (gName 6) (tTest (tOp (rIn K false) (tOp (rIx K) (tVar 6) (tC (.int 0))) (tVar 3))) (tOp (rIx K) (tVar 6) (tC (.int 1))) [6]) (gName 5))
    (tSeq (tAsg (tOp rCat (tVar 5) (tLc (iTup K (tOp (rIx K) (tVar 0) (tC (.int 1)))) (gName 6) (tAnd (tB (tVar 2)) (tTest (tOp (rIn K false) (tOp (rIx K) (tVar 6) (tC (.int 1))) (tVar 3)))) (tOp (rIx K) (tVar 6) (tC (.int 0))) [6])) (gName 5))
    (tAsg (tLc (iRng1 (tCons (tOp (rIx K) (tVar 0) (tC (.int 0))) (tNil))) (gName 7) (tOr (tTest (tOp (rIn K false) (tVar 7) (tVar 3))) (tTest (tOp (rIn K false) (tVar 7) (tVar 5)))) (tVar 7) [7]) (gName 3)))))
    (tRet (tVar 3)))
theorem der_law_joined {P : Program} {w : World} {K : PySem.W.Frag} {mg : Str → Option Value} {base : Heap} (T : Txt K mg)
    {f : Addr} {cdv : Value} {A : Around} {outer : List Env} {s : Shared} {H : Hp} {E : XK} (hr : Room 0 (A.deeper (envOfC "_law_joined" (defScope s_law_joined) s.heap.objs.size f cdv))) :
    PSs (cxOf CX0 P w K mg base ["_law_flow_here", "_law_box", "_law_both", "_law_found", "_law_turn", "_law_more", "_law_pipe", "_law_k"] "_law_joined" (defScope s_law_joined) f cdv A outer s H E).nox (defBody s_law_joined) (t_law_joined K) := by
  unfold t_law_joined
  exact (pss_cons (ps_set (i := 3) sc_law_joined.nd rfl (Or.inr rfl) (pe_lst (pa_cons (pv 1) pa_nil)))
      (pss_cons (ps_for PassesOwn.never rfl (pi_range1 (by rfl) T.b_range (pa_cons (pe_ix ix_seq (pv 0) pe_int (fun _ _ => rfl)) pa_nil)) (pg_name (i := 4) sc_law_joined.nd rfl (Or.inl rfl)) (pss_cons (ps_set (i := 5) sc_law_joined.nd rfl (Or.inr rfl) (pe_lc (own := [("_law_pipe", 6)]) (g := (gName 6)) (tt := (tTest (tOp (rIn K false) (tOp (rIx K) (tVar 6) (tC (.int 0))) (tVar 3)))) rfl sc_law_joined.nd (pi_tup (pe_ix ix_seq (pv 0) pe_int (fun _ _ => rfl))) (blkOk_by (N := ["_law_flow_here", "_law_box", "_law_both", "_law_found", "_law_turn", "_law_more", "_law_pipe", "_law_k"]) (sc := defScope s_law_joined) (by decide +kernel)) (fun _ _ _ _ _ => (pg_name (i := 6) sc_law_joined.nd rfl (Or.inl rfl))) (fun _ _ _ _ _ => (pts_one (pt_cmpR op_in_seq (pe_ix ix_seq (pv 6) pe_int (fun _ _ => rfl)) (pv 3) (by rfl)))) (fun _ _ _ _ _ => (pe_ix ix_seq (pv 6) pe_int (fun _ _ => rfl)))))
      (pss_cons (ps_set (i := 5) sc_law_joined.nd rfl (Or.inr rfl) (pe_op op_cat (pv 5) (pe_lc (own := [("_law_pipe", 6)]) (g := (gName 6)) (tt := (tAnd (tB (tVar 2)) (tTest (tOp (rIn K false) (tOp (rIx K) (tVar 6) (tC (.int 1))) (tVar 3))))) rfl sc_law_joined.nd (pi_tup (pe_ix ix_seq (pv 0) pe_int (fun _ _ => rfl))) (blkOk_by (N := ["_law_flow_here", "_law_box", "_law_both", "_law_found", "_law_turn", "_law_more", "_law_pipe", "_law_k"]) (sc := defScope s_law_joined) (by decide +kernel)) (fun _ _ _ _ _ => (pg_name (i := 6) sc_law_joined.nd rfl (Or.inl rfl))) (fun _ _ _ _ _ => (pts_one (PW.pt (pw_and (pt_val (pv 2)) (pw_and1 (pt_cmpR op_in_seq (pe_ix ix_seq (pv 6) pe_int (fun _ _ => rfl)) (pv 3) (by rfl))))))) (fun _ _ _ _ _ => (pe_ix ix_seq (pv 6) pe_int (fun _ _ => rfl))))))
      (pss_one (ps_set (i := 3) sc_law_joined.nd rfl (Or.inr rfl) (pe_lc (own := [("_law_k", 7)]) (g := (gName 7)) (tt := (tOr (tTest (tOp (rIn K false) (tVar 7) (tVar 3))) (tTest (tOp (rIn K false) (tVar 7) (tVar 5))))) rfl sc_law_joined.nd (pi_range1 (by rfl) T.b_range (pa_cons (pe_ix ix_seq (pv 0) pe_int (fun _ _ => rfl)) pa_nil)) (blkOk_by (N := ["_law_flow_here", "_law_box", "_law_both", "_law_found", "_law_turn", "_law_more", "_law_pipe", "_law_k"]) (sc := defScope s_law_joined) (by decide +kernel)) (fun _ _ _ _ _ => (pg_name (i := 7) sc_law_joined.nd rfl (Or.inl rfl))) (fun _ _ _ _ _ => (pts_one (PW.pt (pw_or (pt_cmpR op_in_seq (pv 7) (pv 3) (by rfl)) (pw_or1 (pt_cmpR op_in_seq (pv 7) (pv 5) (by rfl))))))) (fun _ _ _ _ _ => (pv 7))))))))
      (pss_one (ps_ret (pv 3)))))
theorem def_law_joined {P : Program} {w : World} {K : PySem.W.Frag} {mg : Str → Option Value} {base : Heap} {sp : Sp} (T : Txt K mg)
    (hl : ∀ vs H Q E, sp vs H Q E → vs.length = 3) (h : ∀ vs H Q E, sp vs H Q E → t_law_joined K { nx := fun _ H' => Q .non H', rt := Q } (start ["_law_flow_here", "_law_box", "_law_both", "_law_found", "_law_turn", "_law_more", "_law_pipe", "_law_k"] vs) H) : Def P w K mg base 1 "_law_joined" ["_law_flow_here", "_law_box", "_law_both"] sp := by
  obtain ⟨f, fd, F, g⟩ := T.f_law_joined
  have b := F.binds (ps := ["_law_flow_here", "_law_box", "_law_both"]) fun _ _ _ _ _ _ us hl => match us, hl with | [_, _, _], _ => rfl
  exact ⟨f, fd, F.ok sc_law_joined hl fun cdv A outer s H vs Q E hr q => ⟨_, der_law_joined T hr, h vs H Q E q⟩, g, F.kp, b⟩

/-! ### _law_round: slots 0 _law_flow_here 1 _law_shares 2 _law_box 3 _law_turn 4 _law_one 5 _law_other 6 _law_give 7 _law_eat 8 _law_start 9 _law_found 10 _law_part 11 _law_below 12 _law_common 13 _law_k -/
theorem sc_law_round : FnScope ["_law_flow_here", "_law_shares", "_law_box", "_law_turn", "_law_one", "_law_other", "_law_give", "_law_eat", "_law_start", "_law_found", "_law_part", "_law_below", "_law_common", "_law_k"] ["_law_flow_here"] (defScope s_law_round) := ⟨rfl, rfl, rfl, by decide +kernel, rfl, by decide +kernel, by decide +kernel⟩
def t_law_round (K : PySem.W.Frag) (p_law_ratio : Sp) (p_law_joined : Sp) (p_law_gcd : Sp) : TS :=
  tSeq (tAsg (tDNewK) (gName 1))
    (tSeq (tFor (iRng1 (tCons (tOp (rIx K) (tVar 0) (tC (.int 0))) (tNil))) (gName 2)
      (tIfS (tB (tDNotIn (tVar 2) (tVar 1))) (tSeq (sDPut (tVar 1) (tVar 2) (tTup (tCons (tC (.int 1)) (tCons (tC (.int 1)) (tNil)))))
    (tFor (iRng1 (tCons (tOp (rIx K) (tVar 0) (tC (.int 0))) (tNil))) (gName 3)
      (tFor (iTup K (tOp (rIx K) (tVar 0) (tC (.int 1)))) (gTup K 5 (gCons (gName 4) (gCons (gName 5) (gCons (gName 6) (gCons (gName 7) (gCons (gName 8) gNil))))))
      (tSeq (tIfS (tAnd (tB (tDIn (tVar 4) (tVar 1))) (tB (tDNotIn (tVar 5) (tVar 1)))) (sDPut (tVar 1) (tVar 5) (tCall p_law_ratio [] E0 (tCons (tOp (rI CMul fun i j => .int (i * j)) (tOp (rIx K) (tDGet (tVar 1) (tVar 4)) (tC (.int 0))) (tVar 6)) (tCons (tOp (rI CMul fun i j => .int (i * j)) (tOp (rIx K) (tDGet (tVar 1) (tVar 4)) (tC (.int 1))) (tVar 7)) (tNil))))) (tNext))
    (tIfS (tAnd (tB (tDIn (tVar 5) (tVar 1))) (tB (tDNotIn (tVar 4) (tVar 1)))) (sDPut (tVar 1) (tVar 4) (tCall p_law_ratio [] E0 (tCons (tOp (rI CMul fun i j => .int (i * j)) (tOp (rIx K) (tDGet (tVar 1) (tVar 5)) (tC (.int 0))) (tVar 7)) (tCons (tOp (rI CMul fun i j => .int (i * j)) (tOp (rIx K) (tDGet (tVar 1) (tVar 5)) (tC (.int 1))) (tVar 6)) (tNil))))) (tNext)))))) (tNext)))
    (tSeq (tAsg (tLst (tNil)) (gName 9))
    (tSeq (tFor (iRng1 (tCons (tOp (rIx K) (tVar 0) (tC (.int 0))) (tNil))) (gName 2)
      (tSeq (tPar3 10 11 12 (tCons (tCall p_law_joined [] E0 (tCons (tVar 0) (tCons (tVar 2) (tCons (tC (.bl true)) (tNil))))) (tCons (tC (.int 1)) (tCons (tC (.int 0)) (tNil)))))
    (tSeq (tFor (iList K (tVar 10)) (gName 13)
      (tAsg (tOp (rI CDiv fun i j => .int (i / j)) (tOp (rI CMul fun i j => .int (i * j)) (tVar 11) (tOp (rIx K) (tDGet (tVar 1) (tVar 13)) (tC (.int 1)))) (tCall p_law_gcd [] E0 (tCons (tVar 11) (tCons (tOp (rIx K) (tDGet (tVar 1) (tVar 13)) (tC (.int 1))) (tNil))))) (gName 11)))
    (tSeq (tFor (iList K (tVar 10)) (gName 13)
      (tAsg (tCall p_law_gcd [] E0 (tCons (tVar 12) (tCons (tOp (rI CDiv fun i j => .int (i / j)) (tOp (rI CMul fun i j => .int (i * j)) (tVar 11) (tOp (rIx K) (tDGet (tVar 1) (tVar 13)) (tC (.int 0)))) (tOp (rIx K) (tDGet (tVar 1) (tVar 13)) (tC (.int 1)))) (tNil)))) (gName 12)))
    (tDrop (tBM K "list" rAppend (tVar 9) (tCons (tOp (rI CDiv fun i j => .int (i / j)) (tOp (rI CDiv fun i j => .int (i / j)) (tOp (rI CMul fun i j => .int (i * j)) (tVar 11) (tOp (rIx K) (tDGet (tVar 1) (tVar 2)) (tC (.int 0)))) (tOp (rIx K) (tDGet (tVar 1) (tVar 2)) (tC (.int 1)))) (tVar 12)) (tNil))))))))
    (tRet (tVar 9)))))
theorem der_law_round {P : Program} {w : World} {K : PySem.W.Frag} {mg : Str → Option Value} {base : Heap} {p_law_ratio : Sp} {p_law_joined : Sp} {p_law_gcd : Sp} (T : Txt K mg) (D_law_ratio : Def P w K mg base 2 "_law_ratio" ["_law_numerator", "_law_denominator"] p_law_ratio) (D_law_joined : Def P w K mg base 1 "_law_joined" ["_law_flow_here", "_law_box", "_law_both"] p_law_joined) (D_law_gcd : Def P w K mg base 1 "_law_gcd" ["_law_one", "_law_other"] p_law_gcd)
    {f : Addr} {cdv : Value} {A : Around} {outer : List Env} {s : Shared} {H : Hp} {E : XK} (hr : Room 2 (A.deeper (envOfC "_law_round" (defScope s_law_round) s.heap.objs.size f cdv))) :
    PSs (cxOf CX0 P w K mg base ["_law_flow_here", "_law_shares", "_law_box", "_law_turn", "_law_one", "_law_other", "_law_give", "_law_eat", "_law_start", "_law_found", "_law_part", "_law_below", "_law_common", "_law_k"] "_law_round" (defScope s_law_round) f cdv A outer s H E).nox (defBody s_law_round) (t_law_round K p_law_ratio p_law_joined p_law_gcd) := by
  unfold t_law_round
  exact (pss_cons (ps_set (i := 1) sc_law_round.nd rfl (Or.inl rfl) pe_dnewK)
      (pss_cons (ps_for PassesOwn.never rfl (pi_range1 (by rfl) T.b_range (pa_cons (pe_ix ix_seq (pv 0) pe_int (fun _ _ => rfl)) pa_nil)) (pg_name (i := 2) sc_law_round.nd rfl (Or.inl rfl)) (pss_one (ps_if (pt_cmp (pc_dnotin (hu_of hr) (pv 2) (pv 1))) (pss_cons (ps_dput (hu_of hr) (pv 1) (pv 2) (pe_tup (pa_cons pe_int (pa_cons pe_int pa_nil))) rfl)
      (pss_one (ps_for PassesOwn.never rfl (pi_range1 (by rfl) T.b_range (pa_cons (pe_ix ix_seq (pv 0) pe_int (fun _ _ => rfl)) pa_nil)) (pg_name (i := 3) sc_law_round.nd rfl (Or.inl rfl)) (pss_one (ps_for PassesOwn.never rfl (pi_tup (pe_ix ix_seq (pv 0) pe_int (fun _ _ => rfl))) (pg_tup rfl (pgs_cons (pg_name (i := 4) sc_law_round.nd rfl (Or.inl rfl)) (pgs_cons (pg_name (i := 5) sc_law_round.nd rfl (Or.inl rfl)) (pgs_cons (pg_name (i := 6) sc_law_round.nd rfl (Or.inl rfl)) (pgs_cons (pg_name (i := 7) sc_law_round.nd rfl (Or.inl rfl)) (pgs_cons (pg_name (i := 8) sc_law_round.nd rfl (Or.inl rfl)) pgs_nil)))))) (pss_cons (ps_if (PW.pt (pw_and (pt_cmp (pc_din (hu_of hr) (pv 4) (pv 1))) (pw_and1 (pt_cmp (pc_dnotin (hu_of hr) (pv 5) (pv 1)))))) (pss_one (ps_dput (hu_of hr) (pv 1) (pv 5) (pe_def D_law_ratio (hr.mono (by decide)) (by rfl) (pa_cons (pe_op op_mul (pe_ix ix_seq (pe_dget (hu_of hr) (pv 1) (pv 4) (fun _ _ => rfl)) pe_int (fun _ _ => rfl)) (pv 6)) (pa_cons (pe_op op_mul (pe_ix ix_seq (pe_dget (hu_of hr) (pv 1) (pv 4) (fun _ _ => rfl)) pe_int (fun _ _ => rfl)) (pv 7)) pa_nil))) rfl)) pss_nil)
      (pss_one (ps_if (PW.pt (pw_and (pt_cmp (pc_din (hu_of hr) (pv 5) (pv 1))) (pw_and1 (pt_cmp (pc_dnotin (hu_of hr) (pv 4) (pv 1)))))) (pss_one (ps_dput (hu_of hr) (pv 1) (pv 4) (pe_def D_law_ratio (hr.mono (by decide)) (by rfl) (pa_cons (pe_op op_mul (pe_ix ix_seq (pe_dget (hu_of hr) (pv 1) (pv 5) (fun _ _ => rfl)) pe_int (fun _ _ => rfl)) (pv 7)) (pa_cons (pe_op op_mul (pe_ix ix_seq (pe_dget (hu_of hr) (pv 1) (pv 5) (fun _ _ => rfl)) pe_int (fun _ _ => rfl)) (pv 6)) pa_nil))) rfl)) pss_nil)))))))) pss_nil)))
      (pss_cons (ps_set (i := 9) sc_law_round.nd rfl (Or.inl rfl) (pe_lst pa_nil))
      (pss_cons (ps_for PassesOwn.never rfl (pi_range1 (by rfl) T.b_range (pa_cons (pe_ix ix_seq (pv 0) pe_int (fun _ _ => rfl)) pa_nil)) (pg_name (i := 2) sc_law_round.nd rfl (Or.inl rfl)) (pss_cons (ps_par3 (i := 10) (j := 11) (l := 12) rfl sc_law_round.nd rfl rfl rfl (by decide) (by decide) (by decide) rfl rfl rfl (pa_cons (pe_def D_law_joined (hr.mono (by decide)) (by rfl) (pa_cons (pv 0) (pa_cons (pv 2) (pa_cons pe_bl pa_nil)))) (pa_cons pe_int (pa_cons pe_int pa_nil))) (by rfl))
      (pss_cons (ps_for PassesOwn.never rfl (pi_list (pv 10)) (pg_name (i := 13) sc_law_round.nd rfl (Or.inl rfl)) (pss_one (ps_set (i := 11) sc_law_round.nd rfl (Or.inl rfl) (pe_op op_fdiv (pe_op op_mul (pv 11) (pe_ix ix_seq (pe_dget (hu_of hr) (pv 1) (pv 13) (fun _ _ => rfl)) pe_int (fun _ _ => rfl))) (pe_def D_law_gcd (hr.mono (by decide)) (by rfl) (pa_cons (pv 11) (pa_cons (pe_ix ix_seq (pe_dget (hu_of hr) (pv 1) (pv 13) (fun _ _ => rfl)) pe_int (fun _ _ => rfl)) pa_nil)))))))
      (pss_cons (ps_for PassesOwn.never rfl (pi_list (pv 10)) (pg_name (i := 13) sc_law_round.nd rfl (Or.inl rfl)) (pss_one (ps_set (i := 12) sc_law_round.nd rfl (Or.inl rfl) (pe_def D_law_gcd (hr.mono (by decide)) (by rfl) (pa_cons (pv 12) (pa_cons (pe_op op_fdiv (pe_op op_mul (pv 11) (pe_ix ix_seq (pe_dget (hu_of hr) (pv 1) (pv 13) (fun _ _ => rfl)) pe_int (fun _ _ => rfl))) (pe_ix ix_seq (pe_dget (hu_of hr) (pv 1) (pv 13) (fun _ _ => rfl)) pe_int (fun _ _ => rfl))) pa_nil))))))
      (pss_one (ps_expr (pe_bm PySem.F.plainAttrs_list PySem.F.slot_list_append PySem.F.type_list_append mt_append (pv 9) (pa_cons (pe_op op_fdiv (pe_op op_fdiv (pe_op op_mul (pv 11) (pe_ix ix_seq (pe_dget (hu_of hr) (pv 1) (pv 2) (fun _ _ => rfl)) pe_int (fun _ _ => rfl))) (pe_ix ix_seq (pe_dget (hu_of hr) (pv 1) (pv 2) (fun _ _ => rfl)) pe_int (fun _ _ => rfl))) (pv 12)) pa_nil))))))))
      (pss_one (ps_ret (pv 9)))))))
theorem def_law_round {P : Program} {w : World} {K : PySem.W.Frag} {mg : Str → Option Value} {base : Heap} {p_law_ratio : Sp} {p_law_joined : Sp} {p_law_gcd : Sp} {sp : Sp} (T : Txt K mg) (D_law_ratio : Def P w K mg base 2 "_law_ratio" ["_law_numerator", "_law_denominator"] p_law_ratio) (D_law_joined : Def P w K mg base 1 "_law_joined" ["_law_flow_here", "_law_box", "_law_both"] p_law_joined) (D_law_gcd : Def P w K mg base 1 "_law_gcd" ["_law_one", "_law_other"] p_law_gcd)
    (hl : ∀ vs H Q E, sp vs H Q E → vs.length = 1) (h : ∀ vs H Q E, sp vs H Q E → t_law_round K p_law_ratio p_law_joined p_law_gcd { nx := fun _ H' => Q .non H', rt := Q } (start ["_law_flow_here", "_law_shares", "_law_box", "_law_turn", "_law_one", "_law_other", "_law_give", "_law_eat", "_law_start", "_law_found", "_law_part", "_law_below", "_law_common", "_law_k"] vs) H) : Def P w K mg base 3 "_law_round" ["_law_flow_here"] sp := by
  obtain ⟨f, fd, F, g⟩ := T.f_law_round
  have b := F.binds (ps := ["_law_flow_here"]) fun _ _ _ _ _ _ us hl => match us, hl with | [_], _ => rfl
  exact ⟨f, fd, F.ok sc_law_round hl fun cdv A outer s H vs Q E hr q => ⟨_, der_law_round T D_law_ratio D_law_joined D_law_gcd hr, h vs H Q E q⟩, g, F.kp, b⟩

/-! ### _law_some: slots 0 _law_flow_here 1 _law_pipe -/
theorem sc_law_some : FnScope ["_law_flow_here", "_law_pipe"] ["_law_flow_here"] (defScope s_law_some) := ⟨rfl, rfl, rfl, by decide +kernel, rfl, by decide +kernel, by decide +kernel⟩
def t_law_some (K : PySem.W.Frag) : TS :=
  tRet (tCB (rTupS K) (tCons (tLc (iTup K (tOp (rIx K) (tVar 0) (tC (.int 1)))) (gName 1) tYes (tOp (rIx K) (tVar 1) (tC (.int 4))) [1]) (tNil)))
theorem der_law_some {P : Program} {w : World} {K : PySem.W.Frag} {mg : Str → Option Value} {base : Heap} (T : Txt K mg)
    {f : Addr} {cdv : Value} {A : Around} {outer : List Env} {s : Shared} {H : Hp} {E : XK} (hr : Room 0 (A.deeper (envOfC "_law_some" (defScope s_law_some) s.heap.objs.size f cdv))) :
    PSs (cxOf CX0 P w K mg base ["_law_flow_here", "_law_pipe"] "_law_some" (defScope s_law_some) f cdv A outer s H E).nox (defBody s_law_some) (t_law_some K) := by
  unfold t_law_some
  exact (pss_one (ps_ret (pe_callTy c_tup (by rfl) T.b_tuple (by decide +kernel) (pa_cons (pe_lc (own := [("_law_pipe", 1)]) (g := (gName 1)) (tt := tYes) rfl sc_law_some.nd (pi_tup (pe_ix ix_seq (pv 0) pe_int (fun _ _ => rfl))) (blkOk_by (N := ["_law_flow_here", "_law_pipe"]) (sc := defScope s_law_some) (by decide +kernel)) (fun _ _ _ _ _ => (pg_name (i := 1) sc_law_some.nd rfl (Or.inl rfl))) (fun _ _ _ _ _ => pts_nil) (fun _ _ _ _ _ => (pe_ix ix_seq (pv 1) pe_int (fun _ _ => rfl)))) pa_nil))))
theorem def_law_some {P : Program} {w : World} {K : PySem.W.Frag} {mg : Str → Option Value} {base : Heap} {sp : Sp} (T : Txt K mg)
    (hl : ∀ vs H Q E, sp vs H Q E → vs.length = 1) (h : ∀ vs H Q E, sp vs H Q E → t_law_some K { nx := fun _ H' => Q .non H', rt := Q } (start ["_law_flow_here", "_law_pipe"] vs) H) : Def P w K mg base 1 "_law_some" ["_law_flow_here"] sp := by
  obtain ⟨f, fd, F, g⟩ := T.f_law_some
  have b := F.binds (ps := ["_law_flow_here"]) fun _ _ _ _ _ _ us hl => match us, hl with | [_], _ => rfl
  exact ⟨f, fd, F.ok sc_law_some hl fun cdv A outer s H vs Q E hr q => ⟨_, der_law_some T hr, h vs H Q E q⟩, g, F.kp, b⟩

/-! ### _law_can: slots 0 _law_flow_here 1 _law_some_here 2 _law_box 3 _law_k -/
theorem sc_law_can : FnScope ["_law_flow_here", "_law_some_here", "_law_box", "_law_k"] ["_law_flow_here", "_law_some_here", "_law_box"] (defScope s_law_can) := ⟨rfl, rfl, rfl, by decide +kernel, rfl, by decide +kernel, by decide +kernel⟩
def t_law_can (K : PySem.W.Frag) : TS :=
  tRet (tOp (rEqD K) (tLc (iRng1 (tCons (tCB (Evl.rLenS K) (tCons (tVar 1) (tNil))) (tNil))) (gName 3) (tAnd (tTest (tOp rEq (tOp (rIx K) (tOp (rIx K) (tOp (rIx K) (tVar 0) (tC (.int 1))) (tVar 3)) (tC (.int 1))) (tVar 2))) (tTest (tOp (rI0 fun i j => .bl (decide (j < i))) (tOp (rIx K) (tOp (rIx K) (tOp (rIx K) (tVar 0) (tC (.int 1))) (tVar 3)) (tC (.int 3))) (tOp (rIx K) (tVar 1) (tVar 3))))) (tVar 3) [3]) (tLst (tNil)))
theorem der_law_can {P : Program} {w : World} {K : PySem.W.Frag} {mg : Str → Option Value} {base : Heap} (T : Txt K mg)
    {f : Addr} {cdv : Value} {A : Around} {outer : List Env} {s : Shared} {H : Hp} {E : XK} (hr : Room 0 (A.deeper (envOfC "_law_can" (defScope s_law_can) s.heap.objs.size f cdv))) :
    PSs (cxOf CX0 P w K mg base ["_law_flow_here", "_law_some_here", "_law_box", "_law_k"] "_law_can" (defScope s_law_can) f cdv A outer s H E).nox (defBody s_law_can) (t_law_can K) := by
  unfold t_law_can
  exact (pss_one (ps_ret (pe_cmpR (op_eqD hr.units) (pe_lc (own := [("_law_k", 3)]) (g := (gName 3)) (tt := (tAnd (tTest (tOp rEq (tOp (rIx K) (tOp (rIx K) (tOp (rIx K) (tVar 0) (tC (.int 1))) (tVar 3)) (tC (.int 1))) (tVar 2))) (tTest (tOp (rI0 fun i j => .bl (decide (j < i))) (tOp (rIx K) (tOp (rIx K) (tOp (rIx K) (tVar 0) (tC (.int 1))) (tVar 3)) (tC (.int 3))) (tOp (rIx K) (tVar 1) (tVar 3)))))) rfl sc_law_can.nd (pi_range1 (by rfl) T.b_range (pa_cons (pe_callB c_len (by rfl) T.b_len PySem.boot_len (pa_cons (pv 1) pa_nil)) pa_nil)) (blkOk_by (N := ["_law_flow_here", "_law_some_here", "_law_box", "_law_k"]) (sc := defScope s_law_can) (by decide +kernel)) (fun _ _ _ _ _ => (pg_name (i := 3) sc_law_can.nd rfl (Or.inl rfl))) (fun _ _ _ _ _ => (pts_one (PW.pt (pw_and (pt_cmpR op_eq (pe_ix ix_seq (pe_ix ix_seq (pe_ix ix_seq (pv 0) pe_int (fun _ _ => rfl)) (pv 3) (fun _ _ => rfl)) pe_int (fun _ _ => rfl)) (pv 2) (nomark _)) (pw_and1 (pt_cmpR op_gt (pe_ix ix_seq (pe_ix ix_seq (pe_ix ix_seq (pv 0) pe_int (fun _ _ => rfl)) (pv 3) (fun _ _ => rfl)) pe_int (fun _ _ => rfl)) (pe_ix ix_seq (pv 1) (pv 3) (fun _ _ => rfl)) (nomark _))))))) (fun _ _ _ _ _ => (pv 3))) (pe_lst pa_nil) (nomark _))))
theorem def_law_can {P : Program} {w : World} {K : PySem.W.Frag} {mg : Str → Option Value} {base : Heap} {sp : Sp} (T : Txt K mg)
    (hl : ∀ vs H Q E, sp vs H Q E → vs.length = 3) (h : ∀ vs H Q E, sp vs H Q E → t_law_can K { nx := fun _ H' => Q .non H', rt := Q } (start ["_law_flow_here", "_law_some_here", "_law_box", "_law_k"] vs) H) : Def P w K mg base 1 "_law_can" ["_law_flow_here", "_law_some_here", "_law_box"] sp := by
  obtain ⟨f, fd, F, g⟩ := T.f_law_can
  have b := F.binds (ps := ["_law_flow_here", "_law_some_here", "_law_box"]) fun _ _ _ _ _ _ us hl => match us, hl with | [_, _, _], _ => rfl
  exact ⟨f, fd, F.ok sc_law_can hl fun cdv A outer s H vs Q E hr q => ⟨_, der_law_can T hr, h vs H Q E q⟩, g, F.kp, b⟩

/-! ### _law_next: slots 0 _law_flow_here 1 _law_some_here 2 _law_box 3 _law_found 4 _law_k 5 _law_one 6 _law_other 7 _law_give 8 _law_eat 9 _law_start -/
theorem sc_law_next : FnScope ["_law_flow_here", "_law_some_here", "_law_box", "_law_found", "_law_k", "_law_one", "_law_other", "_law_give", "_law_eat", "_law_start"] ["_law_flow_here", "_law_some_here", "_law_box"] (defScope s_law_next) := ⟨rfl, rfl, rfl, by decide +kernel, rfl, by decide +kernel, by decide +kernel⟩
def t_law_next (K : PySem.W.Frag) : TS :=
  tSeq (tAsg (tLst (tNil)) (gName 3))
    (tSeq (tFor (iRng1 (tCons (tCB (Evl.rLenS K) (tCons (tVar 1) (tNil))) (tNil))) (gName 4)
      (tSeq (tAsg (tOp (rIx K) (tOp (rIx K) (tVar 0) (tC (.int 1))) (tVar 4)) (gTup K 5 (gCons (gName 5) (gCons (gName 6) (gCons (gName 7) (gCons (gName 8) (gCons (gName 9) gNil)))))))
    (tDrop (tBM K "list" rAppend (tVar 3) (tCons (tOp (rI0 fun i j => .int (i + j)) (tOp (rI0 fun i j => .int (i - j)) (tOp (rIx K) (tVar 1) (tVar 4)) (tIf (tTest (tOp rEq (tVar 6) (tVar 2))) (tVar 8) (tC (.int 0)))) (tIf (tTest (tOp rEq (tVar 5) (tVar 2))) (tVar 7) (tC (.int 0)))) (tNil))))))
    (tRet (tCB (rTupS K) (tCons (tVar 3) (tNil)))))
theorem der_law_next {P : Program} {w : World} {K : PySem.W.Frag} {mg : Str → Option Value} {base : Heap} (T : Txt K mg)
    {f : Addr} {cdv : Value} {A : Around} {outer : List Env} {s : Shared} {H : Hp} {E : XK} (hr : Room 0 (A.deeper (envOfC "_law_next" (defScope s_law_next) s.heap.objs.size f cdv))) :
    PSs (cxOf CX0 P w K mg base ["_law_flow_here", "_law_some_here", "_law_box", "_law_found", "_law_k", "_law_one", "_law_other", "_law_give", "_law_eat", "_law_start"] "_law_next" (defScope s_law_next) f cdv A outer s H E).nox (defBody s_law_next) (t_law_next K) := by
  unfold t_law_next
  exact (pss_cons (ps_set (i := 3) sc_law_next.nd rfl (Or.inl rfl) (pe_lst pa_nil))
      (pss_cons (ps_for PassesOwn.never rfl (pi_range1 (by rfl) T.b_range (pa_cons (pe_callB c_len (by rfl) T.b_len PySem.boot_len (pa_cons (pv 1) pa_nil)) pa_nil)) (pg_name (i := 4) sc_law_next.nd rfl (Or.inl rfl)) (pss_cons (ps_asg (pe_ix ix_seq (pe_ix ix_seq (pv 0) pe_int (fun _ _ => rfl)) (pv 4) (fun _ _ => rfl)) (pg_tup rfl (pgs_cons (pg_name (i := 5) sc_law_next.nd rfl (Or.inl rfl)) (pgs_cons (pg_name (i := 6) sc_law_next.nd rfl (Or.inl rfl)) (pgs_cons (pg_name (i := 7) sc_law_next.nd rfl (Or.inl rfl)) (pgs_cons (pg_name (i := 8) sc_law_next.nd rfl (Or.inl rfl)) (pgs_cons (pg_name (i := 9) sc_law_next.nd rfl (Or.inl rfl)) pgs_nil)))))))
      (pss_one (ps_expr (pe_bm PySem.F.plainAttrs_list PySem.F.slot_list_append PySem.F.type_list_append mt_append (pv 3) (pa_cons (pe_op op_add (pe_op op_sub (pe_ix ix_seq (pv 1) (pv 4) (fun _ _ => rfl)) (pe_ifExp (pt_cmpR op_eq (pv 6) (pv 2) (nomark _)) (pv 8) pe_int)) (pe_ifExp (pt_cmpR op_eq (pv 5) (pv 2) (nomark _)) (pv 7) pe_int)) pa_nil))))))
      (pss_one (ps_ret (pe_callTy c_tup (by rfl) T.b_tuple (by decide +kernel) (pa_cons (pv 3) pa_nil))))))
theorem def_law_next {P : Program} {w : World} {K : PySem.W.Frag} {mg : Str → Option Value} {base : Heap} {sp : Sp} (T : Txt K mg)
    (hl : ∀ vs H Q E, sp vs H Q E → vs.length = 3) (h : ∀ vs H Q E, sp vs H Q E → t_law_next K { nx := fun _ H' => Q .non H', rt := Q } (start ["_law_flow_here", "_law_some_here", "_law_box", "_law_found", "_law_k", "_law_one", "_law_other", "_law_give", "_law_eat", "_law_start"] vs) H) : Def P w K mg base 1 "_law_next" ["_law_flow_here", "_law_some_here", "_law_box"] sp := by
  obtain ⟨f, fd, F, g⟩ := T.f_law_next
  have b := F.binds (ps := ["_law_flow_here", "_law_some_here", "_law_box"]) fun _ _ _ _ _ _ us hl => match us, hl with | [_, _, _], _ => rfl
  exact ⟨f, fd, F.ok sc_law_next hl fun cdv A outer s H vs Q E hr q => ⟨_, der_law_next T hr, h vs H Q E q⟩, g, F.kp, b⟩

/-! ### _law_do: slots 0 _law_flow_here 1 _law_counts_here 2 _law_some_here 3 _law_done 4 _law_turn 5 _law_fits 6 _law_box -/
theorem sc_law_do : FnScope ["_law_flow_here", "_law_counts_here", "_law_some_here", "_law_done", "_law_turn", "_law_fits", "_law_box"] ["_law_flow_here", "_law_counts_here"] (defScope s_law_do) := ⟨rfl, rfl, rfl, by decide +kernel, rfl, by decide +kernel, by decide +kernel⟩
def t_law_do (K : PySem.W.Frag) (p_law_some : Sp) (p_law_can : Sp) (p_law_next : Sp) : TS :=
  tSeq (tAsg (tTup (tCons (tCall p_law_some [] E0 (tCons (tVar 0) (tNil))) (tCons (tOp rRep (tLst (tCons (tC (.int 0)) (tNil))) (tOp (rIx K) (tVar 0) (tC (.int 0)))) (tNil)))) (gTup K 2 (gCons (gName 2) (gCons (gName 3) gNil))))
    (tSeq (tFor (iRng1 (tCons (tOp (rI0 fun i j => .int (i + j)) (tCB (rSumA K) (tCons (tVar 1) (tNil))) (tC (.int 1))) (tNil))) (gName 4)
      (tSeq (tAsg (tLc (iRng1 (tCons (tOp (rIx K) (tVar 0) (tC (.int 0))) (tNil))) (gName 6) (tAnd (tTest (tOp (rI0 fun i j => .bl (decide (i < j))) (tOp (rIx K) (tVar 3) (tVar 6)) (tOp (rIx K) (tVar 1) (tVar 6)))) (tB (tCall p_law_can [] E0 (tCons (tVar 0) (tCons (tVar 2) (tCons (tVar 6) (tNil))))))) (tVar 6) [6]) (gName 5))
    (tSeq (tIfS (tTest (tOp (rEqD K) (tVar 5) (tLst (tNil)))) (tRet (tTup (tCons (tVar 3) (tCons (tVar 2) (tNil))))) (tNext))
    (tSeq (tAsg (tCall p_law_next [] E0 (tCons (tVar 0) (tCons (tVar 2) (tCons (tOp (rIx K) (tVar 5) (tUn (rU fun i => .int (-i)) (tC (.int 1)))) (tNil))))) (gName 2))
    (tAsg (tOp (rI0 fun i j => .int (i + j)) (tOp (rIx K) (tVar 3) (tOp (rIx K) (tVar 5) (tUn (rU fun i => .int (-i)) (tC (.int 1))))) (tC (.int 1))) (gSub (tVar 3) (tOp (rIx K) (tVar 5) (tUn (rU fun i => .int (-i)) (tC (.int 1)))) rSetL))))))
    (tRet (tTup (tCons (tVar 3) (tCons (tVar 2) (tNil))))))
theorem der_law_do {P : Program} {w : World} {K : PySem.W.Frag} {mg : Str → Option Value} {base : Heap} {p_law_some : Sp} {p_law_can : Sp} {p_law_next : Sp} (T : Txt K mg) (D_law_some : Def P w K mg base 1 "_law_some" ["_law_flow_here"] p_law_some) (D_law_can : Def P w K mg base 1 "_law_can" ["_law_flow_here", "_law_some_here", "_law_box"] p_law_can) (D_law_next : Def P w K mg base 1 "_law_next" ["_law_flow_here", "_law_some_here", "_law_box"] p_law_next)
    {f : Addr} {cdv : Value} {A : Around} {outer : List Env} {s : Shared} {H : Hp} {E : XK} (hr : Room 1 (A.deeper (envOfC "_law_do" (defScope s_law_do) s.heap.objs.size f cdv))) :
    PSs (cxOf CX0 P w K mg base ["_law_flow_here", "_law_counts_here", "_law_some_here", "_law_done", "_law_turn", "_law_fits", "_law_box"] "_law_do" (defScope s_law_do) f cdv A outer s H E).nox (defBody s_law_do) (t_law_do K p_law_some p_law_can p_law_next) := by
  unfold t_law_do
  exact (pss_cons (ps_asg (pe_tup (pa_cons (pe_def D_law_some (hr.mono (by decide)) (by rfl) (pa_cons (pv 0) pa_nil)) (pa_cons (pe_op op_rep (pe_lst (pa_cons pe_int pa_nil)) (pe_ix ix_seq (pv 0) pe_int (fun _ _ => rfl))) pa_nil))) (pg_tup rfl (pgs_cons (pg_name (i := 2) sc_law_do.nd rfl (Or.inr rfl)) (pgs_cons (pg_name (i := 3) sc_law_do.nd rfl (Or.inr rfl)) pgs_nil))))
      (pss_cons (ps_for PassesOwn.never rfl (pi_range1 (by rfl) T.b_range (pa_cons (pe_op op_add (pe_callB (c_sum rfl) (by rfl) T.b_sum (by decide +kernel) (pa_cons (pv 1) pa_nil)) pe_int) pa_nil)) (pg_name (i := 4) sc_law_do.nd rfl (Or.inl rfl)) (pss_cons (ps_setLc (i := 5) (own := [("_law_box", 6)]) (g := (gName 6)) (tt := (tAnd (tTest (tOp (rI0 fun i j => .bl (decide (i < j))) (tOp (rIx K) (tVar 3) (tVar 6)) (tOp (rIx K) (tVar 1) (tVar 6)))) (tB (tCall p_law_can [] E0 (tCons (tVar 0) (tCons (tVar 2) (tCons (tVar 6) (tNil)))))))) rfl sc_law_do.nd rfl rfl (sw_true rfl rfl rfl (by decide +kernel)) (pi_range1 (by rfl) T.b_range (pa_cons (pe_ix ix_seq (pv 0) pe_int (fun _ _ => rfl)) pa_nil)) (blkOk_by (N := ["_law_flow_here", "_law_counts_here", "_law_some_here", "_law_done", "_law_turn", "_law_fits", "_law_box"]) (sc := defScope s_law_do) (by decide +kernel)) (fun _ _ _ _ _ => (pg_name (i := 6) sc_law_do.nd rfl (Or.inl rfl))) (fun _ _ _ _ _ => (pts_one (PW.pt (pw_and (pt_cmpR op_lt (pe_ix ix_seq (pv 3) (pv 6) (fun _ _ => rfl)) (pe_ix ix_seq (pv 1) (pv 6) (fun _ _ => rfl)) (nomark _)) (pw_and1 (pt_val (pe_def D_law_can (hr.mono (by decide)) (by rfl) (pa_cons (pv 0) (pa_cons (pv 2) (pa_cons (pv 6) pa_nil)))))))))) (fun _ _ _ _ _ => (pv 6)))
      (pss_cons (ps_if (pt_cmpR (op_eqD hr.units) (pv 5) (pe_lst pa_nil) (nomark _)) (pss_one (ps_ret (pe_tup (pa_cons (pv 3) (pa_cons (pv 2) pa_nil))))) pss_nil)
      (pss_cons (ps_set (i := 2) sc_law_do.nd rfl (Or.inr rfl) (pe_def D_law_next (hr.mono (by decide)) (by rfl) (pa_cons (pv 0) (pa_cons (pv 2) (pa_cons (pe_ix ix_seq (pv 5) (pe_un un_neg pe_int) (fun _ _ => rfl)) pa_nil)))))
      (pss_one (ps_asg (pe_op op_add (pe_ix ix_seq (pv 3) (pe_ix ix_seq (pv 5) (pe_un un_neg pe_int) (fun _ _ => rfl)) (fun _ _ => rfl)) pe_int) (pg_sub (pv 3) (pe_ix ix_seq (pv 5) (pe_un un_neg pe_int) (fun _ _ => rfl)) set_list)))))))
      (pss_one (ps_ret (pe_tup (pa_cons (pv 3) (pa_cons (pv 2) pa_nil)))))))
theorem def_law_do {P : Program} {w : World} {K : PySem.W.Frag} {mg : Str → Option Value} {base : Heap} {p_law_some : Sp} {p_law_can : Sp} {p_law_next : Sp} {sp : Sp} (T : Txt K mg) (D_law_some : Def P w K mg base 1 "_law_some" ["_law_flow_here"] p_law_some) (D_law_can : Def P w K mg base 1 "_law_can" ["_law_flow_here", "_law_some_here", "_law_box"] p_law_can) (D_law_next : Def P w K mg base 1 "_law_next" ["_law_flow_here", "_law_some_here", "_law_box"] p_law_next)
    (hl : ∀ vs H Q E, sp vs H Q E → vs.length = 2) (h : ∀ vs H Q E, sp vs H Q E → t_law_do K p_law_some p_law_can p_law_next { nx := fun _ H' => Q .non H', rt := Q } (start ["_law_flow_here", "_law_counts_here", "_law_some_here", "_law_done", "_law_turn", "_law_fits", "_law_box"] vs) H) : Def P w K mg base 2 "_law_do" ["_law_flow_here", "_law_counts_here"] sp := by
  obtain ⟨f, fd, F, g⟩ := T.f_law_do
  have b := F.binds (ps := ["_law_flow_here", "_law_counts_here"]) fun _ _ _ _ _ _ us hl => match us, hl with | [_, _], _ => rfl
  exact ⟨f, fd, F.ok sc_law_do hl fun cdv A outer s H vs Q E hr q => ⟨_, der_law_do T D_law_some D_law_can D_law_next hr, h vs H Q E q⟩, g, F.kp, b⟩

/-! ### _law_with: slots 0 _law_flow_here 1 _law_some_here 2 _law_k -/
theorem sc_law_with : FnScope ["_law_flow_here", "_law_some_here", "_law_k"] ["_law_flow_here", "_law_some_here"] (defScope s_law_with) := ⟨rfl, rfl, rfl, by decide +kernel, rfl, by decide +kernel, by decide +kernel⟩
def t_law_with (K : PySem.W.Frag) : TS :=
  tRet (tTup (tCons (tOp (rIx K) (tVar 0) (tC (.int 0))) (tCons (tCB (rTupS K) (tCons (tLc (iRng1 (tCons (tCB (Evl.rLenS K) (tCons (tOp (rIx K) (tVar 0) (tC (.int 1))) (tNil))) (tNil))) (gName 2) tYes (tOp (rCatA K) (tSl (rSlA K) (tOp (rIx K) (tOp (rIx K) (tVar 0) (tC (.int 1))) (tVar 2)) tNoPart (tPart (tC (.int 4)))) (tTup (tCons (tOp (rIx K) (tVar 1) (tVar 2)) (tNil)))) [2]) (tNil))) (tNil))))
theorem der_law_with {P : Program} {w : World} {K : PySem.W.Frag} {mg : Str → Option Value} {base : Heap} (T : Txt K mg)
    {f : Addr} {cdv : Value} {A : Around} {outer : List Env} {s : Shared} {H : Hp} {E : XK} (hr : Room 0 (A.deeper (envOfC "_law_with" (defScope s_law_with) s.heap.objs.size f cdv))) :
    PSs (cxOf CX0 P w K mg base ["_law_flow_here", "_law_some_here", "_law_k"] "_law_with" (defScope s_law_with) f cdv A outer s H E).nox (defBody s_law_with) (t_law_with K) := by
  unfold t_law_with
  exact (pss_one (ps_ret (pe_tup (pa_cons (pe_ix ix_seq (pv 0) pe_int (fun _ _ => rfl)) (pa_cons (pe_callTy c_tup (by rfl) T.b_tuple (by decide +kernel) (pa_cons (pe_lc (own := [("_law_k", 2)]) (g := (gName 2)) (tt := tYes) rfl sc_law_with.nd (pi_range1 (by rfl) T.b_range (pa_cons (pe_callB c_len (by rfl) T.b_len PySem.boot_len (pa_cons (pe_ix ix_seq (pv 0) pe_int (fun _ _ => rfl)) pa_nil)) pa_nil)) (blkOk_by (N := ["_law_flow_here", "_law_some_here", "_law_k"]) (sc := defScope s_law_with) (by decide +kernel)) (fun _ _ _ _ _ => (pg_name (i := 2) sc_law_with.nd rfl (Or.inl rfl))) (fun _ _ _ _ _ => pts_nil) (fun _ _ _ _ _ => (pe_op op_catA (pe_slice sl_tupA (pe_ix ix_seq (pe_ix ix_seq (pv 0) pe_int (fun _ _ => rfl)) (pv 2) (fun _ _ => rfl)) po_none (po_some pe_int)) (pe_tup (pa_cons (pe_ix ix_seq (pv 1) (pv 2) (fun _ _ => rfl)) pa_nil))))) pa_nil)) pa_nil)))))
theorem def_law_with {P : Program} {w : World} {K : PySem.W.Frag} {mg : Str → Option Value} {base : Heap} {sp : Sp} (T : Txt K mg)
    (hl : ∀ vs H Q E, sp vs H Q E → vs.length = 2) (h : ∀ vs H Q E, sp vs H Q E → t_law_with K { nx := fun _ H' => Q .non H', rt := Q } (start ["_law_flow_here", "_law_some_here", "_law_k"] vs) H) : Def P w K mg base 1 "_law_with" ["_law_flow_here", "_law_some_here"] sp := by
  obtain ⟨f, fd, F, g⟩ := T.f_law_with
  have b := F.binds (ps := ["_law_flow_here", "_law_some_here"]) fun _ _ _ _ _ _ us hl => match us, hl with | [_, _], _ => rfl
  exact ⟨f, fd, F.ok sc_law_with hl fun cdv A outer s H vs Q E hr q => ⟨_, der_law_with T hr, h vs H Q E q⟩, g, F.kp, b⟩

/-! ### _law_live: slots 0 _law_row 1 _law_most 2 _law_top 3 _law_flow_here 4 _law_counts_here 5 _law_turn 6 _law_done 7 _law_some_here 8 _law_k 9 _law_left 10 _law_pipe -/
theorem sc_law_live : FnScope ["_law_row", "_law_most", "_law_top", "_law_flow_here", "_law_counts_here", "_law_turn", "_law_done", "_law_some_here", "_law_k", "_law_left", "_law_pipe"] ["_law_row", "_law_most", "_law_top"] (defScope s_law_live) := ⟨rfl, rfl, rfl, by decide +kernel, rfl, by decide +kernel, by decide +kernel⟩
def t_law_live (K : PySem.W.Frag) (p_law_flow : Sp) (p_law_round : Sp) (p_law_do : Sp) (p_law_pick : Sp) (p_law_some : Sp) (p_law_with : Sp) : TS :=
  tSeq (tAsg (tCall p_law_flow [] E0 (tCons (tVar 0) (tCons (tVar 1) (tCons (tVar 2) (tNil))))) (gName 3))
    (tSeq (tAsg (tCall p_law_round [] E0 (tCons (tVar 3) (tNil))) (gName 4))
    (tSeq (tFor (iRng1 (tCons (tC (.int 40)) (tNil))) (gName 5)
      (tSeq (tAsg (tCall p_law_do [] E0 (tCons (tVar 3) (tCons (tVar 4) (tNil)))) (gTup K 2 (gCons (gName 6) (gCons (gName 7) gNil))))
    (tSeq (tAsg (tLc (iRng1 (tCons (tCB (Evl.rLenS K) (tCons (tVar 7) (tNil))) (tNil))) (gName 8) (tAnd (tTest (tOp (rI0 fun i j => .bl (decide (i < j))) (tOp (rIx K) (tVar 6) (tOp (rIx K) (tOp (rIx K) (tOp (rIx K) (tVar 3) (tC (.int 1))) (tVar 8)) (tC (.int 1)))) (tOp (rIx K) (tVar 4) (tOp (rIx K) (tOp (rIx K) (tOp (rIx K) (tVar 3) (tC (.int 1))) (tVar 8)) (tC (.int 1)))))) (tTest (tOp (rI0 fun i j => .bl (decide (i < j))) (tOp (rIx K) (tVar 7) (tVar 8)) (tOp (rIx K) (tOp (rIx K) (tOp (rIx K) (tVar 3) (tC (.int 1))) (tVar 8)) (tC (.int 3)))))) (tVar 8) [8]) (gName 9))
    (tIfS (tTest (tOp (rNeD K) (tVar 9) (tLst (tNil)))) (tSeq (tAsg (tCall p_law_pick [] E0 (tCons (tVar 0) (tCons (tVar 9) (tNil)))) (gName 8))
    (tAsg (tCall p_law_with [] E0 (tCons (tVar 3) (tCons (tOp (rCatA K) (tOp (rCatA K) (tSl (rSlA K) (tCall p_law_some [] E0 (tCons (tVar 3) (tNil))) tNoPart (tPart (tVar 8))) (tTup (tCons (tOp (rI0 fun i j => .int (i + j)) (tOp (rIx K) (tOp (rIx K) (tOp (rIx K) (tVar 3) (tC (.int 1))) (tVar 8)) (tC (.int 4))) (tOp (rIx K) (tOp (rIx K) (tOp (rIx K) (tVar 3) (tC (.int 1))) (tVar 8)) (tC (.int 3)))) (tNil)))) (tSl (rSlA K) (tCall p_law_some [] E0 (tCons (tVar 3) (tNil))) (tPart (tOp (rI0 fun i j => .int (i + j)) (tVar 8) (tC (.int 1)))) tNoPart)) (tNil)))) (gName 3))) (tNext)))))
    (tSeq (tIfS (tTest (tOp (rNeD K) (tOp (rIx K) (tCall p_law_do [] E0 (tCons (tVar 3) (tCons (tVar 4) (tNil)))) (tC (.int 0))) (tVar 4))) (tAsg (tCall p_law_with [] E0 (tCons (tVar 3) (tCons (tCB (rTupS K) (tCons (tLc (iTup K (tOp (rIx K) (tVar 3) (tC (.int 1)))) (gName 10) tYes (tOp (rI CMul fun i j => .int (i * j)) (tOp (rIx K) (tVar 10) (tC (.int 3))) (tOp (rIx K) (tVar 4) (tOp (rIx K) (tVar 10) (tC (.int 1))))) [10]) (tNil))) (tNil)))) (gName 3)) (tNext))
    (tRet (tVar 3)))))
theorem der_law_live {P : Program} {w : World} {K : PySem.W.Frag} {mg : Str → Option Value} {base : Heap} {p_law_flow : Sp} {p_law_round : Sp} {p_law_do : Sp} {p_law_pick : Sp} {p_law_some : Sp} {p_law_with : Sp} (T : Txt K mg) (D_law_flow : Def P w K mg base 3 "_law_flow" ["_law_row", "_law_most", "_law_top"] p_law_flow) (D_law_round : Def P w K mg base 3 "_law_round" ["_law_flow_here"] p_law_round) (D_law_do : Def P w K mg base 2 "_law_do" ["_law_flow_here", "_law_counts_here"] p_law_do) (D_law_pick : Def P w K mg base 2 "_law_pick" ["_law_row", "_law_things"] p_law_pick) (D_law_some : Def P w K mg base 1 "_law_some" ["_law_flow_here"] p_law_some) (D_law_with : Def P w K mg base 1 "_law_with" ["_law_flow_here", "_law_some_here"] p_law_with)
    {f : Addr} {cdv : Value} {A : Around} {outer : List Env} {s : Shared} {H : Hp} {E : XK} (hr : Room 3 (A.deeper (envOfC "_law_live" (defScope s_law_live) s.heap.objs.size f cdv))) :
    PSs (cxOf CX0 P w K mg base ["_law_row", "_law_most", "_law_top", "_law_flow_here", "_law_counts_here", "_law_turn", "_law_done", "_law_some_here", "_law_k", "_law_left", "_law_pipe"] "_law_live" (defScope s_law_live) f cdv A outer s H E).nox (defBody s_law_live) (t_law_live K p_law_flow p_law_round p_law_do p_law_pick p_law_some p_law_with) := by
  unfold t_law_live
  exact (pss_cons (ps_set (i := 3) sc_law_live.nd rfl (Or.inr rfl) (pe_def D_law_flow (hr.mono (by decide)) (by rfl) (pa_cons (pv 0) (pa_cons (pv 1) (pa_cons (pv 2) pa_nil)))))
      (pss_cons (ps_set (i := 4) sc_law_live.nd rfl (Or.inr rfl) (pe_def D_law_round (hr.mono (by decide)) (by rfl) (pa_cons (pv 3) pa_nil)))
      (pss_cons (ps_for PassesOwn.never rfl (pi_range1 (by rfl) T.b_range (pa_cons pe_int pa_nil)) (pg_name (i := 5) sc_law_live.nd rfl (Or.inl rfl)) (pss_cons (ps_asg (pe_def D_law_do (hr.mono (by decide)) (by rfl) (pa_cons (pv 3) (pa_cons (pv 4) pa_nil))) (pg_tup rfl (pgs_cons (pg_name (i := 6) sc_law_live.nd rfl (Or.inr rfl)) (pgs_cons (pg_name (i := 7) sc_law_live.nd rfl (Or.inr rfl)) pgs_nil))))
      (pss_cons (ps_setLc (i := 9) (own := [("_law_k", 8)]) (g := (gName 8)) (tt := (tAnd (tTest (tOp (rI0 fun i j => .bl (decide (i < j))) (tOp (rIx K) (tVar 6) (tOp (rIx K) (tOp (rIx K) (tOp (rIx K) (tVar 3) (tC (.int 1))) (tVar 8)) (tC (.int 1)))) (tOp (rIx K) (tVar 4) (tOp (rIx K) (tOp (rIx K) (tOp (rIx K) (tVar 3) (tC (.int 1))) (tVar 8)) (tC (.int 1)))))) (tTest (tOp (rI0 fun i j => .bl (decide (i < j))) (tOp (rIx K) (tVar 7) (tVar 8)) (tOp (rIx K) (tOp (rIx K) (tOp (rIx K) (tVar 3) (tC (.int 1))) (tVar 8)) (tC (.int 3))))))) rfl sc_law_live.nd rfl rfl (sw_true rfl rfl rfl (by decide +kernel)) (pi_range1 (by rfl) T.b_range (pa_cons (pe_callB c_len (by rfl) T.b_len PySem.boot_len (pa_cons (pv 7) pa_nil)) pa_nil)) (blkOk_by (N := ["_law_row", "_law_most", "_law_top", "_law_flow_here", "_law_counts_here", "_law_turn", "_law_done", "_law_some_here", "_law_k", "_law_left", "_law_pipe"]) (sc := defScope s_law_live) (by decide +kernel)) (fun _ _ _ _ _ => (pg_name (i := 8) sc_law_live.nd rfl (Or.inl rfl))) (fun _ _ _ _ _ => (pts_one (PW.pt (pw_and (pt_cmpR op_lt (pe_ix ix_seq (pv 6) (pe_ix ix_seq (pe_ix ix_seq (pe_ix ix_seq (pv 3) pe_int (fun _ _ => rfl)) (pv 8) (fun _ _ => rfl)) pe_int (fun _ _ => rfl)) (fun _ _ => rfl)) (pe_ix ix_seq (pv 4) (pe_ix ix_seq (pe_ix ix_seq (pe_ix ix_seq (pv 3) pe_int (fun _ _ => rfl)) (pv 8) (fun _ _ => rfl)) pe_int (fun _ _ => rfl)) (fun _ _ => rfl)) (nomark _)) (pw_and1 (pt_cmpR op_lt (pe_ix ix_seq (pv 7) (pv 8) (fun _ _ => rfl)) (pe_ix ix_seq (pe_ix ix_seq (pe_ix ix_seq (pv 3) pe_int (fun _ _ => rfl)) (pv 8) (fun _ _ => rfl)) pe_int (fun _ _ => rfl)) (nomark _))))))) (fun _ _ _ _ _ => (pv 8)))
      (pss_one (ps_if (pt_cmpR (op_neD hr.units) (pv 9) (pe_lst pa_nil) (nomark _)) (pss_cons (ps_set (i := 8) sc_law_live.nd rfl (Or.inl rfl) (pe_def D_law_pick (hr.mono (by decide)) (by rfl) (pa_cons (pv 0) (pa_cons (pv 9) pa_nil))))
      (pss_one (ps_set (i := 3) sc_law_live.nd rfl (Or.inr rfl) (pe_def D_law_with (hr.mono (by decide)) (by rfl) (pa_cons (pv 3) (pa_cons (pe_op op_catA (pe_op op_catA (pe_slice sl_tupA (pe_def D_law_some (hr.mono (by decide)) (by rfl) (pa_cons (pv 3) pa_nil)) po_none (po_some (pv 8))) (pe_tup (pa_cons (pe_op op_add (pe_ix ix_seq (pe_ix ix_seq (pe_ix ix_seq (pv 3) pe_int (fun _ _ => rfl)) (pv 8) (fun _ _ => rfl)) pe_int (fun _ _ => rfl)) (pe_ix ix_seq (pe_ix ix_seq (pe_ix ix_seq (pv 3) pe_int (fun _ _ => rfl)) (pv 8) (fun _ _ => rfl)) pe_int (fun _ _ => rfl))) pa_nil))) (pe_slice sl_tupA (pe_def D_law_some (hr.mono (by decide)) (by rfl) (pa_cons (pv 3) pa_nil)) (po_some (pe_op op_add (pv 8) pe_int)) po_none)) pa_nil)))))) pss_nil)))))
      (pss_cons (ps_if (pt_cmpR (op_neD hr.units) (pe_ix ix_seq (pe_def D_law_do (hr.mono (by decide)) (by rfl) (pa_cons (pv 3) (pa_cons (pv 4) pa_nil))) pe_int (fun _ _ => rfl)) (pv 4) (nomark _)) (pss_one (ps_set (i := 3) sc_law_live.nd rfl (Or.inr rfl) (pe_def D_law_with (hr.mono (by decide)) (by rfl) (pa_cons (pv 3) (pa_cons (pe_callTy c_tup (by rfl) T.b_tuple (by decide +kernel) (pa_cons (pe_lc (own := [("_law_pipe", 10)]) (g := (gName 10)) (tt := tYes) rfl sc_law_live.nd (pi_tup (pe_ix ix_seq (pv 3) pe_int (fun _ _ => rfl))) (blkOk_by (N := ["_law_row", "_law_most", "_law_top", "_law_flow_here", "_law_counts_here", "_law_turn", "_law_done", "_law_some_here", "_law_k", "_law_left", "_law_pipe"]) (sc := defScope s_law_live) (by decide +kernel)) (fun _ _ _ _ _ => (pg_name (i := 10) sc_law_live.nd rfl (Or.inl rfl))) (fun _ _ _ _ _ => pts_nil) (fun _ _ _ _ _ => (pe_op op_mul (pe_ix ix_seq (pv 10) pe_int (fun _ _ => rfl)) (pe_ix ix_seq (pv 4) (pe_ix ix_seq (pv 10) pe_int (fun _ _ => rfl)) (fun _ _ => rfl))))) pa_nil)) pa_nil))))) pss_nil)
      (pss_one (ps_ret (pv 3)))))))
theorem def_law_live {P : Program} {w : World} {K : PySem.W.Frag} {mg : Str → Option Value} {base : Heap} {p_law_flow : Sp} {p_law_round : Sp} {p_law_do : Sp} {p_law_pick : Sp} {p_law_some : Sp} {p_law_with : Sp} {sp : Sp} (T : Txt K mg) (D_law_flow : Def P w K mg base 3 "_law_flow" ["_law_row", "_law_most", "_law_top"] p_law_flow) (D_law_round : Def P w K mg base 3 "_law_round" ["_law_flow_here"] p_law_round) (D_law_do : Def P w K mg base 2 "_law_do" ["_law_flow_here", "_law_counts_here"] p_law_do) (D_law_pick : Def P w K mg base 2 "_law_pick" ["_law_row", "_law_things"] p_law_pick) (D_law_some : Def P w K mg base 1 "_law_some" ["_law_flow_here"] p_law_some) (D_law_with : Def P w K mg base 1 "_law_with" ["_law_flow_here", "_law_some_here"] p_law_with)
    (hl : ∀ vs H Q E, sp vs H Q E → vs.length = 3) (h : ∀ vs H Q E, sp vs H Q E → t_law_live K p_law_flow p_law_round p_law_do p_law_pick p_law_some p_law_with { nx := fun _ H' => Q .non H', rt := Q } (start ["_law_row", "_law_most", "_law_top", "_law_flow_here", "_law_counts_here", "_law_turn", "_law_done", "_law_some_here", "_law_k", "_law_left", "_law_pipe"] vs) H) : Def P w K mg base 4 "_law_live" ["_law_row", "_law_most", "_law_top"] sp := by
  obtain ⟨f, fd, F, g⟩ := T.f_law_live
  have b := F.binds (ps := ["_law_row", "_law_most", "_law_top"]) fun _ _ _ _ _ _ us hl => match us, hl with | [_, _, _], _ => rfl
  exact ⟨f, fd, F.ok sc_law_live hl fun cdv A outer s H vs Q E hr q => ⟨_, der_law_live T D_law_flow D_law_round D_law_do D_law_pick D_law_some D_law_with hr, h vs H Q E q⟩, g, F.kp, b⟩
end K8

-- K8Der5
/-! Printed by gen_der.py: each def's names, its body's reading (t_), that it is that (der_), the def from its reading (def_) -/
namespace K8
open PySem PySem.Spec PyProof.Rows L2
/-! ### _law_counts: slots 0 _law_row 1 _law_flow_here 2 _law_most 3 _law_box -/
theorem sc_law_counts : FnScope ["_law_row", "_law_flow_here", "_law_most", "_law_box"] ["_law_row", "_law_flow_here", "_law_most"] (defScope s_law_counts) := ⟨rfl, rfl, rfl, by decide +kernel, rfl, by decide +kernel, by decide +kernel⟩
def t_law_counts (K : PySem.W.Frag) (p_law_taken : Sp) : TS :=
  tRet (tCB (rTupS K) (tCons (tLc (iRng1 (tCons (tOp (rIx K) (tVar 1) (tC (.int 0))) (tNil))) (gName 3) tYes (tCall p_law_taken [] E0 (tCons (tVar 0) (tCons (tOp (rI0 fun i j => .int (i + j)) (tVar 2) (tC (.int 1))) (tNil)))) [3]) (tNil)))
theorem der_law_counts {P : Program} {w : World} {K : PySem.W.Frag} {mg : Str → Option Value} {base : Heap} {p_law_taken : Sp} (T : Txt K mg) (D_law_taken : Def P w K mg base 1 "_law_taken" ["_law_row", "_law_many"] p_law_taken)
    {f : Addr} {cdv : Value} {A : Around} {outer : List Env} {s : Shared} {H : Hp} {E : XK} (hr : Room 1 (A.deeper (envOfC "_law_counts" (defScope s_law_counts) s.heap.objs.size f cdv))) :
    PSs (cxOf CX0 P w K mg base ["_law_row", "_law_flow_here", "_law_most", "_law_box"] "_law_counts" (defScope s_law_counts) f cdv A outer s H E).nox (defBody s_law_counts) (t_law_counts K p_law_taken) := by
  unfold t_law_counts
  exact (pss_one (ps_ret (pe_callTy c_tup (by rfl) T.b_tuple (by decide +kernel) (pa_cons (pe_lc (own := [("_law_box", 3)]) (g := (gName 3)) (tt := tYes) rfl sc_law_counts.nd (pi_range1 (by rfl) T.b_range (pa_cons (pe_ix ix_seq (pv 1) pe_int (fun _ _ => rfl)) pa_nil)) (blkOk_by (N := ["_law_row", "_law_flow_here", "_law_most", "_law_box"]) (sc := defScope s_law_counts) (by decide +kernel)) (fun _ _ _ _ _ => (pg_name (i := 3) sc_law_counts.nd rfl (Or.inl rfl))) (fun _ _ _ _ _ => pts_nil) (fun _ _ _ _ _ => (pe_def D_law_taken (hr.mono (by decide)) (by rfl) (pa_cons (pv 0) (pa_cons (pe_op op_add (pv 2) pe_int) pa_nil))))) pa_nil))))
theorem def_law_counts {P : Program} {w : World} {K : PySem.W.Frag} {mg : Str → Option Value} {base : Heap} {p_law_taken : Sp} {sp : Sp} (T : Txt K mg) (D_law_taken : Def P w K mg base 1 "_law_taken" ["_law_row", "_law_many"] p_law_taken)
    (hl : ∀ vs H Q E, sp vs H Q E → vs.length = 3) (h : ∀ vs H Q E, sp vs H Q E → t_law_counts K p_law_taken { nx := fun _ H' => Q .non H', rt := Q } (start ["_law_row", "_law_flow_here", "_law_most", "_law_box"] vs) H) : Def P w K mg base 2 "_law_counts" ["_law_row", "_law_flow_here", "_law_most"] sp := by
  obtain ⟨f, fd, F, g⟩ := T.f_law_counts
  have b := F.binds (ps := ["_law_row", "_law_flow_here", "_law_most"]) fun _ _ _ _ _ _ us hl => match us, hl with | [_, _, _], _ => rfl
  exact ⟨f, fd, F.ok sc_law_counts hl fun cdv A outer s H vs Q E hr q => ⟨_, der_law_counts T D_law_taken hr, h vs H Q E q⟩, g, F.kp, b⟩

/-! ### _law_alike: slots 0 _law_found 1 _law_due 2 _law_k -/
theorem sc_law_alike : FnScope ["_law_found", "_law_due", "_law_k"] ["_law_found", "_law_due"] (defScope s_law_alike) := ⟨rfl, rfl, rfl, by decide +kernel, rfl, by decide +kernel, by decide +kernel⟩
def t_law_alike (K : PySem.W.Frag) : TS :=
  tSeq (tIfS (tB (tCB (rIsiT K) (tCons (tVar 1) (tCons (tTup (tCons (tC (.ty "tuple")) (tCons (tC (.ty "list")) (tNil)))) (tNil))))) tNever tNext)
    (tSeq (tIfS (tOr (tB (tIsN (tVar 1))) (tB (tCB (rIsi K) (tCons (tVar 1) (tCons (tC (.ty "str")) (tNil)))))) (tRet (tAndV (tOp rEq (tVar 0) (tVar 1)) (tOp rEq (tCB (rIsi K) (tCons (tVar 0) (tCons (tC (.ty "str")) (tNil)))) (tCB (rIsi K) (tCons (tVar 1) (tCons (tC (.ty "str")) (tNil))))))) (tNext))
    (tRet (tAndV (tCB (rIsi K) (tCons (tVar 0) (tCons (tC (.ty "int")) (tNil)))) (tAndV (tOp rEq (tCB (rIsi K) (tCons (tVar 0) (tCons (tC (.ty "bool")) (tNil)))) (tCB (rIsi K) (tCons (tVar 1) (tCons (tC (.ty "bool")) (tNil))))) (tOp rEq (tVar 0) (tVar 1))))))
theorem der_law_alike {P : Program} {w : World} {K : PySem.W.Frag} {mg : Str → Option Value} {base : Heap} (T : Txt K mg)
    {f : Addr} {cdv : Value} {A : Around} {outer : List Env} {s : Shared} {H : Hp} {E : XK} (hr : Room 0 (A.deeper (envOfC "_law_alike" (defScope s_law_alike) s.heap.objs.size f cdv))) :
    PSs (cxOf CX0 P w K mg base ["_law_found", "_law_due", "_law_k"] "_law_alike" (defScope s_law_alike) f cdv A outer s H E).nox (defBody s_law_alike) (t_law_alike K) := by
  unfold t_law_alike
  exact (pss_cons (ps_if (pt_val (pe_callB call_isiT (by rfl) T.b_isinstance (by decide +kernel) (pa_cons (pv 1) (pa_cons (pe_tup (pa_cons (pe_bltn (by rfl) T.b_tuple (by decide +kernel) rfl) (pa_cons (pe_bltn (by rfl) T.b_list (by decide +kernel) rfl) pa_nil))) pa_nil)))) pss_never pss_nil)
      (pss_cons (ps_if (PW.pt (pw_or (pt_cmp (pc_isN (pv 1))) (pw_or1 (pt_val (pe_callB call_isi (by rfl) T.b_isinstance (by decide +kernel) (pa_cons (pv 1) (pa_cons (pe_bltn (by rfl) T.b_str (by decide +kernel) rfl) pa_nil))))))) (pss_one (ps_ret (pe_and (pe_cmpR op_eq (pv 0) (pv 1) (nomark _)) (pe_one (pe_cmpR op_eq (pe_callB call_isi (by rfl) T.b_isinstance (by decide +kernel) (pa_cons (pv 0) (pa_cons (pe_bltn (by rfl) T.b_str (by decide +kernel) rfl) pa_nil))) (pe_callB call_isi (by rfl) T.b_isinstance (by decide +kernel) (pa_cons (pv 1) (pa_cons (pe_bltn (by rfl) T.b_str (by decide +kernel) rfl) pa_nil))) (nomark _)))))) pss_nil)
      (pss_one (ps_ret (pe_and (pe_callB call_isi (by rfl) T.b_isinstance (by decide +kernel) (pa_cons (pv 0) (pa_cons (pe_bltn (by rfl) T.b_int (by decide +kernel) rfl) pa_nil))) (pe_and (pe_cmpR op_eq (pe_callB call_isi (by rfl) T.b_isinstance (by decide +kernel) (pa_cons (pv 0) (pa_cons (pe_bltn (by rfl) T.b_bool (by decide +kernel) rfl) pa_nil))) (pe_callB call_isi (by rfl) T.b_isinstance (by decide +kernel) (pa_cons (pv 1) (pa_cons (pe_bltn (by rfl) T.b_bool (by decide +kernel) rfl) pa_nil))) (nomark _)) (pe_one (pe_cmpR op_eq (pv 0) (pv 1) (nomark _)))))))))
theorem def_law_alike {P : Program} {w : World} {K : PySem.W.Frag} {mg : Str → Option Value} {base : Heap} {sp : Sp} (T : Txt K mg)
    (hl : ∀ vs H Q E, sp vs H Q E → vs.length = 2) (h : ∀ vs H Q E, sp vs H Q E → t_law_alike K { nx := fun _ H' => Q .non H', rt := Q } (start ["_law_found", "_law_due", "_law_k"] vs) H) : Def P w K mg base 1 "_law_alike" ["_law_found", "_law_due"] sp := by
  obtain ⟨f, fd, F, g⟩ := T.f_law_alike
  have b := F.binds (ps := ["_law_found", "_law_due"]) fun _ _ _ _ _ _ us hl => match us, hl with | [_, _], _ => rfl
  exact ⟨f, fd, F.ok sc_law_alike hl fun cdv A outer s H vs Q E hr q => ⟨_, der_law_alike T hr, h vs H Q E q⟩, g, F.kp, b⟩

/-! ### _law_run: slots 0 _law_flow_here 1 _law_word 2 _law_some_here 3 _law_box -/
theorem sc_law_run : FnScope ["_law_flow_here", "_law_word", "_law_some_here", "_law_box"] ["_law_flow_here", "_law_word"] (defScope s_law_run) := ⟨rfl, rfl, rfl, by decide +kernel, rfl, by decide +kernel, by decide +kernel⟩
def t_law_run (K : PySem.W.Frag) (p_law_some : Sp) (p_law_can : Sp) (p_law_next : Sp) : TS :=
  tSeq (tAsg (tCall p_law_some [] E0 (tCons (tVar 0) (tNil))) (gName 2))
    (tSeq (tFor (iTup K (tVar 1)) (gName 3)
      (tSeq (tIfS (tNot (tB (tCall p_law_can [] E0 (tCons (tVar 0) (tCons (tVar 2) (tCons (tVar 3) (tNil))))))) (tRet (tC .non)) (tNext))
    (tAsg (tCall p_law_next [] E0 (tCons (tVar 0) (tCons (tVar 2) (tCons (tVar 3) (tNil))))) (gName 2))))
    (tRet (tVar 2)))
theorem der_law_run {P : Program} {w : World} {K : PySem.W.Frag} {mg : Str → Option Value} {base : Heap} {p_law_some : Sp} {p_law_can : Sp} {p_law_next : Sp} (T : Txt K mg) (D_law_some : Def P w K mg base 1 "_law_some" ["_law_flow_here"] p_law_some) (D_law_can : Def P w K mg base 1 "_law_can" ["_law_flow_here", "_law_some_here", "_law_box"] p_law_can) (D_law_next : Def P w K mg base 1 "_law_next" ["_law_flow_here", "_law_some_here", "_law_box"] p_law_next)
    {f : Addr} {cdv : Value} {A : Around} {outer : List Env} {s : Shared} {H : Hp} {E : XK} (hr : Room 1 (A.deeper (envOfC "_law_run" (defScope s_law_run) s.heap.objs.size f cdv))) :
    PSs (cxOf CX0 P w K mg base ["_law_flow_here", "_law_word", "_law_some_here", "_law_box"] "_law_run" (defScope s_law_run) f cdv A outer s H E).nox (defBody s_law_run) (t_law_run K p_law_some p_law_can p_law_next) := by
  unfold t_law_run
  exact (pss_cons (ps_set (i := 2) sc_law_run.nd rfl (Or.inl rfl) (pe_def D_law_some (hr.mono (by decide)) (by rfl) (pa_cons (pv 0) pa_nil)))
      (pss_cons (ps_for PassesOwn.never rfl (pi_tup (pv 1)) (pg_name (i := 3) sc_law_run.nd rfl (Or.inl rfl)) (pss_cons (ps_if (pt_not (pt_val (pe_def D_law_can (hr.mono (by decide)) (by rfl) (pa_cons (pv 0) (pa_cons (pv 2) (pa_cons (pv 3) pa_nil)))))) (pss_one (ps_ret pe_non)) pss_nil)
      (pss_one (ps_set (i := 2) sc_law_run.nd rfl (Or.inl rfl) (pe_def D_law_next (hr.mono (by decide)) (by rfl) (pa_cons (pv 0) (pa_cons (pv 2) (pa_cons (pv 3) pa_nil))))))))
      (pss_one (ps_ret (pv 2)))))
theorem def_law_run {P : Program} {w : World} {K : PySem.W.Frag} {mg : Str → Option Value} {base : Heap} {p_law_some : Sp} {p_law_can : Sp} {p_law_next : Sp} {sp : Sp} (T : Txt K mg) (D_law_some : Def P w K mg base 1 "_law_some" ["_law_flow_here"] p_law_some) (D_law_can : Def P w K mg base 1 "_law_can" ["_law_flow_here", "_law_some_here", "_law_box"] p_law_can) (D_law_next : Def P w K mg base 1 "_law_next" ["_law_flow_here", "_law_some_here", "_law_box"] p_law_next)
    (hl : ∀ vs H Q E, sp vs H Q E → vs.length = 2) (h : ∀ vs H Q E, sp vs H Q E → t_law_run K p_law_some p_law_can p_law_next { nx := fun _ H' => Q .non H', rt := Q } (start ["_law_flow_here", "_law_word", "_law_some_here", "_law_box"] vs) H) : Def P w K mg base 2 "_law_run" ["_law_flow_here", "_law_word"] sp := by
  obtain ⟨f, fd, F, g⟩ := T.f_law_run
  have b := F.binds (ps := ["_law_flow_here", "_law_word"]) fun _ _ _ _ _ _ us hl => match us, hl with | [_, _], _ => rfl
  exact ⟨f, fd, F.ok sc_law_run hl fun cdv A outer s H vs Q E hr q => ⟨_, der_law_run T D_law_some D_law_can D_law_next hr, h vs H Q E q⟩, g, F.kp, b⟩

/-! ### law: slots 0 _law_script 1 _law_row 2 _law_flow_here 3 _law_turn 4 _law_counts_here 5 _law_good 6 _law_word 7 _law_one -/
theorem sc_law : FnScope ["_law_script", "_law_row", "_law_flow_here", "_law_turn", "_law_counts_here", "_law_good", "_law_word", "_law_one"] ["_law_script"] (defScope s_law) := ⟨rfl, rfl, rfl, by decide +kernel, rfl, by decide +kernel, by decide +kernel⟩
def t_law (K : PySem.W.Frag) (p_law_live : Sp) (p_is_live : Sp) (p_law_pick : Sp) (p_law_counts : Sp) (p_ends : Sp) (p_can_do : Sp) (p_law_alike : Sp) (p_law_do : Sp) (p_word_for : Sp) (p_shows_word : Sp) (p_law_run : Sp) (p_most_done : Sp) : TS :=
  tSeq (tAsg (tLst (tCons (tVar 0) (tCons (tC (.int 0)) (tCons (tC (.int 9808)) (tCons (tC (.int 0)) (tNil)))))) (gName 1))
    (tSeq (tAsg (tCall p_law_live [] E0 (tCons (tVar 1) (tCons (tC (.int 5)) (tCons (tC (.int 6)) (tNil))))) (gName 2))
    (tSeq (tIfS (tTest (tOp rNotB (tCall p_is_live [] E0 (tCons (tVar 2) (tNil))) (tC (.bl true)))) (tRet (tC (.bl false))) (tNext))
    (tSeq (tFor (iRng1 (tCons (tC (.int 6)) (tNil))) (gName 3)
      (tSeq (tAsg (tCall p_law_counts [] E0 (tCons (tVar 1) (tCons (tVar 2) (tCons (tCall p_law_pick [] E0 (tCons (tVar 1) (tCons (tLst (tCons (tC (.int 3)) (tCons (tC (.int 9)) (tNil)))) (tNil)))) (tNil))))) (gName 4))
    (tSeq (tAsg (tOp (rEqD K) (tLc (iTup K (tCall p_ends [] E0 (tCons (tVar 2) (tCons (tVar 4) (tNil))))) (gName 7) (tTest (tOp (rI0 fun i j => .bl (decide (i < j))) (tVar 7) (tC (.int 0)))) (tVar 7) [7]) (tLst (tNil))) (gName 5))
    (tSeq (tIfS (tOr (tNot (tB (tCall p_law_alike [] E0 (tCons (tCall p_can_do [] E0 (tCons (tVar 2) (tCons (tVar 4) (tNil)))) (tCons (tVar 5) (tNil)))))) (tTest (tOp rNe (tOp (rEqD K) (tOp (rIx K) (tCall p_law_do [] E0 (tCons (tVar 2) (tCons (tVar 4) (tNil)))) (tC (.int 0))) (tCB (Evl.rListS K) (tCons (tVar 4) (tNil)))) (tVar 5)))) (tRet (tC (.bl false))) (tNext))
    (tSeq (tAsg (tCall p_word_for [] E0 (tCons (tVar 2) (tCons (tVar 4) (tNil)))) (gName 6))
    (tSeq (tIfS (tOr (tTest (tOp rNe (tIsN (tVar 6)) (tNotV (tVar 5)))) (tTest (tOp rNotB (tCall p_shows_word [] E0 (tCons (tVar 2) (tCons (tVar 4) (tCons (tVar 6) (tNil))))) (tC (.bl true))))) (tRet (tC (.bl false))) (tNext))
    (tIfS (tOr (tAnd (tB (tVar 5)) (tTest (tOp (rNeD K) (tCall p_law_run [] E0 (tCons (tVar 2) (tCons (tVar 6) (tNil)))) (tCall p_ends [] E0 (tCons (tVar 2) (tCons (tVar 4) (tNil))))))) (tTest (tOp rNe (tOp (rEqD K) (tCall p_most_done [] E0 (tCons (tVar 2) (tCons (tVar 4) (tNil)))) (tVar 4)) (tVar 5)))) (tRet (tC (.bl false))) (tNext))))))))
    (tRet (tC (.bl true))))))
theorem der_law {P : Program} {w : World} {K : PySem.W.Frag} {mg : Str → Option Value} {base : Heap} {p_law_live : Sp} {p_is_live : Sp} {p_law_pick : Sp} {p_law_counts : Sp} {p_ends : Sp} {p_can_do : Sp} {p_law_alike : Sp} {p_law_do : Sp} {p_word_for : Sp} {p_shows_word : Sp} {p_law_run : Sp} {p_most_done : Sp} (T : Txt K mg) (D_law_live : Def P w K mg base 4 "_law_live" ["_law_row", "_law_most", "_law_top"] p_law_live) (D_is_live : Def P w K mg base 8 "is_live" ["flow"] p_is_live) (D_law_pick : Def P w K mg base 2 "_law_pick" ["_law_row", "_law_things"] p_law_pick) (D_law_counts : Def P w K mg base 2 "_law_counts" ["_law_row", "_law_flow_here", "_law_most"] p_law_counts) (D_ends : Def P w K mg base 5 "ends" ["flow", "counts"] p_ends) (D_can_do : Def P w K mg base 5 "can_do" ["flow", "counts"] p_can_do) (D_law_alike : Def P w K mg base 1 "_law_alike" ["_law_found", "_law_due"] p_law_alike) (D_law_do : Def P w K mg base 2 "_law_do" ["_law_flow_here", "_law_counts_here"] p_law_do) (D_word_for : Def P w K mg base 5 "word_for" ["flow", "counts"] p_word_for) (D_shows_word : Def P w K mg base 5 "shows_word" ["flow", "counts", "value"] p_shows_word) (D_law_run : Def P w K mg base 2 "_law_run" ["_law_flow_here", "_law_word"] p_law_run) (D_most_done : Def P w K mg base 5 "most_done" ["flow", "counts"] p_most_done)
    {f : Addr} {cdv : Value} {A : Around} {outer : List Env} {s : Shared} {H : Hp} {E : XK} (hr : Room 8 (A.deeper (envOfC "law" (defScope s_law) s.heap.objs.size f cdv))) :
    PSs (cxOf CX0 P w K mg base ["_law_script", "_law_row", "_law_flow_here", "_law_turn", "_law_counts_here", "_law_good", "_law_word", "_law_one"] "law" (defScope s_law) f cdv A outer s H E).nox (defBody s_law) (t_law K p_law_live p_is_live p_law_pick p_law_counts p_ends p_can_do p_law_alike p_law_do p_word_for p_shows_word p_law_run p_most_done) := by
  unfold t_law
  exact (pss_cons (ps_set (i := 1) sc_law.nd rfl (Or.inl rfl) (pe_lst (pa_cons (pv 0) (pa_cons pe_int (pa_cons pe_int (pa_cons pe_int pa_nil))))))
      (pss_cons (ps_set (i := 2) sc_law.nd rfl (Or.inl rfl) (pe_def D_law_live (hr.mono (by decide)) (by rfl) (pa_cons (pv 1) (pa_cons pe_int (pa_cons pe_int pa_nil)))))
      (pss_cons (ps_if (pt_cmpR op_notBl (pe_def D_is_live (hr.mono (by decide)) (by rfl) (pa_cons (pv 2) pa_nil)) pe_bl (nomark _)) (pss_one (ps_ret pe_bl)) pss_nil)
      (pss_cons (ps_for PassesOwn.never rfl (pi_range1 (by rfl) T.b_range (pa_cons pe_int pa_nil)) (pg_name (i := 3) sc_law.nd rfl (Or.inl rfl)) (pss_cons (ps_set (i := 4) sc_law.nd rfl (Or.inl rfl) (pe_def D_law_counts (hr.mono (by decide)) (by rfl) (pa_cons (pv 1) (pa_cons (pv 2) (pa_cons (pe_def D_law_pick (hr.mono (by decide)) (by rfl) (pa_cons (pv 1) (pa_cons (pe_lst (pa_cons pe_int (pa_cons pe_int pa_nil))) pa_nil))) pa_nil)))))
      (pss_cons (ps_set (i := 5) sc_law.nd rfl (Or.inl rfl) (pe_cmpR (op_eqD hr.units) (pe_lc (own := [("_law_one", 7)]) (g := (gName 7)) (tt := (tTest (tOp (rI0 fun i j => .bl (decide (i < j))) (tVar 7) (tC (.int 0))))) rfl sc_law.nd (pi_tup (pe_def D_ends (hr.mono (by decide)) (by rfl) (pa_cons (pv 2) (pa_cons (pv 4) pa_nil)))) (blkOk_by (N := ["_law_script", "_law_row", "_law_flow_here", "_law_turn", "_law_counts_here", "_law_good", "_law_word", "_law_one"]) (sc := defScope s_law) (by decide +kernel)) (fun _ _ _ _ _ => (pg_name (i := 7) sc_law.nd rfl (Or.inl rfl))) (fun _ _ _ _ _ => (pts_one (pt_cmpR op_lt (pv 7) pe_int (nomark _)))) (fun _ _ _ _ _ => (pv 7))) (pe_lst pa_nil) (nomark _)))
      (pss_cons (ps_if (PW.pt (pw_or (pt_not (pt_val (pe_def D_law_alike (hr.mono (by decide)) (by rfl) (pa_cons (pe_def D_can_do (hr.mono (by decide)) (by rfl) (pa_cons (pv 2) (pa_cons (pv 4) pa_nil))) (pa_cons (pv 5) pa_nil))))) (pw_or1 (pt_cmpR op_ne (pe_cmpR (op_eqD hr.units) (pe_ix ix_seq (pe_def D_law_do (hr.mono (by decide)) (by rfl) (pa_cons (pv 2) (pa_cons (pv 4) pa_nil))) pe_int (fun _ _ => rfl)) (pe_callTy c_list (by rfl) T.b_list (by decide +kernel) (pa_cons (pv 4) pa_nil)) (nomark _)) (pv 5) (nomark _))))) (pss_one (ps_ret pe_bl)) pss_nil)
      (pss_cons (ps_set (i := 6) sc_law.nd rfl (Or.inl rfl) (pe_def D_word_for (hr.mono (by decide)) (by rfl) (pa_cons (pv 2) (pa_cons (pv 4) pa_nil))))
      (pss_cons (ps_if (PW.pt (pw_or (pt_cmpR op_ne (pe_cmp (pc_isN (pv 6)) rfl) (pe_not (pv 5)) (nomark _)) (pw_or1 (pt_cmpR op_notBl (pe_def D_shows_word (hr.mono (by decide)) (by rfl) (pa_cons (pv 2) (pa_cons (pv 4) (pa_cons (pv 6) pa_nil)))) pe_bl (nomark _))))) (pss_one (ps_ret pe_bl)) pss_nil)
      (pss_one (ps_if (PW.pt (pw_or (PW.pt (pw_and (pt_val (pv 5)) (pw_and1 (pt_cmpR (op_neD hr.units) (pe_def D_law_run (hr.mono (by decide)) (by rfl) (pa_cons (pv 2) (pa_cons (pv 6) pa_nil))) (pe_def D_ends (hr.mono (by decide)) (by rfl) (pa_cons (pv 2) (pa_cons (pv 4) pa_nil))) (nomark _))))) (pw_or1 (pt_cmpR op_ne (pe_cmpR (op_eqD hr.units) (pe_def D_most_done (hr.mono (by decide)) (by rfl) (pa_cons (pv 2) (pa_cons (pv 4) pa_nil))) (pv 4) (nomark _)) (pv 5) (nomark _))))) (pss_one (ps_ret pe_bl)) pss_nil))))))))
      (pss_one (ps_ret pe_bl))))))
theorem def_law {P : Program} {w : World} {K : PySem.W.Frag} {mg : Str → Option Value} {base : Heap} {p_law_live : Sp} {p_is_live : Sp} {p_law_pick : Sp} {p_law_counts : Sp} {p_ends : Sp} {p_can_do : Sp} {p_law_alike : Sp} {p_law_do : Sp} {p_word_for : Sp} {p_shows_word : Sp} {p_law_run : Sp} {p_most_done : Sp} {sp : Sp} (T : Txt K mg) (D_law_live : Def P w K mg base 4 "_law_live" ["_law_row", "_law_most", "_law_top"] p_law_live) (D_is_live : Def P w K mg base 8 "is_live" ["flow"] p_is_live) (D_law_pick : Def P w K mg base 2 "_law_pick" ["_law_row", "_law_things"] p_law_pick) (D_law_counts : Def P w K mg base 2 "_law_counts" ["_law_row", "_law_flow_here", "_law_most"] p_law_counts) (D_ends : Def P w K mg base 5 "ends" ["flow", "counts"] p_ends) (D_can_do : Def P w K mg base 5 "can_do" ["flow", "counts"] p_can_do) (D_law_alike : Def P w K mg base 1 "_law_alike" ["_law_found", "_law_due"] p_law_alike) (D_law_do : Def P w K mg base 2 "_law_do" ["_law_flow_here", "_law_counts_here"] p_law_do) (D_word_for : Def P w K mg base 5 "word_for" ["flow", "counts"] p_word_for) (D_shows_word : Def P w K mg base 5 "shows_word" ["flow", "counts", "value"] p_shows_word) (D_law_run : Def P w K mg base 2 "_law_run" ["_law_flow_here", "_law_word"] p_law_run) (D_most_done : Def P w K mg base 5 "most_done" ["flow", "counts"] p_most_done)
    (hl : ∀ vs H Q E, sp vs H Q E → vs.length = 1) (h : ∀ vs H Q E, sp vs H Q E → t_law K p_law_live p_is_live p_law_pick p_law_counts p_ends p_can_do p_law_alike p_law_do p_word_for p_shows_word p_law_run p_most_done { nx := fun _ H' => Q .non H', rt := Q } (start ["_law_script", "_law_row", "_law_flow_here", "_law_turn", "_law_counts_here", "_law_good", "_law_word", "_law_one"] vs) H) : Def P w K mg base 9 "law" ["_law_script"] sp := by
  obtain ⟨f, fd, F, g⟩ := T.f_law
  have b := F.binds (ps := ["_law_script"]) fun _ _ _ _ _ _ us hl => match us, hl with | [_], _ => rfl
  exact ⟨f, fd, F.ok sc_law hl fun cdv A outer s H vs Q E hr q => ⟨_, der_law T D_law_live D_is_live D_law_pick D_law_counts D_ends D_can_do D_law_alike D_law_do D_word_for D_shows_word D_law_run D_most_done hr, h vs H Q E q⟩, g, F.kp, b⟩
end K8

-- K8Lib
/-! K8Lib: how flows, counts, tokens lie in the heap; readings in short. -/
namespace K8
open PySem PySem.Spec L2 Evl

/-! ### data -/
def pV (p : Pipe) : List V := [.int (p.one : Int), .int (p.other : Int), .int (p.give : Int), .int (p.eat : Int), .int (p.start : Int)]
def nZ (l : List Nat) : List Int := l.map fun (k : Nat) => (k : Int)
def cZ (n : Nat) (c : Nat → Nat) : List Int := (List.range n).map fun k => (c k : Int)
def tZ (ps : List Pipe) (d : Nat → Nat) : List Int := ps.map (tok d)
structure PipesAt (H : Hp) (as : List Addr) (ps : List Pipe) : Prop where
  len : as.length = ps.length
  item : ∀ (i : Nat) (a : Addr) (p : Pipe), as[i]? = some a → ps[i]? = some p → H a = some (.tup (pV p))
structure FlowAt (H : Hp) (t q : Addr) (as : List Addr) (n : Nat) (ps : List Pipe) : Prop where
  top : H t = some (.tup [.int (n : Int), .ref q])
  row : H q = some (.tup (as.map V.ref))
  pipes : PipesAt H as ps
def IsFlow (H : Hp) (v : V) (n : Nat) (ps : List Pipe) : Prop := ∃ t q as, v = .ref t ∧ FlowAt H t q as n ps
theorem PipesAt.mono {H H' : Hp} {as : List Addr} {ps : List Pipe} (h : PipesAt H as ps) (e : Ex H H') : PipesAt H' as ps := ⟨h.len, fun i a p x y => e _ _ (h.item i a p x y)⟩
theorem FlowAt.mono {H H' : Hp} {t q : Addr} {as : List Addr} {n : Nat} {ps : List Pipe} (h : FlowAt H t q as n ps) (e : Ex H H') : FlowAt H' t q as n ps := ⟨e _ _ h.top, e _ _ h.row, h.pipes.mono e⟩
theorem IsFlow.mono {H H' : Hp} {v : V} {n : Nat} {ps : List Pipe} (h : IsFlow H v n ps) (e : Ex H H') : IsFlow H' v n ps := by
  obtain ⟨t, q, as, rfl, F⟩ := h
  exact ⟨t, q, as, rfl, F.mono e⟩
theorem PipesAt.get {H : Hp} {as : List Addr} {ps : List Pipe} (h : PipesAt H as ps) {i : Nat} {p : Pipe} (hp : ps[i]? = some p) : ∃ a, as[i]? = some a ∧ H a = some (.tup (pV p)) := by
  have hi : i < ps.length := (List.getElem?_eq_some_iff.mp hp).1
  have hi' : i < as.length := by rw [h.len]; exact hi
  exact ⟨as[i], List.getElem?_eq_getElem hi', h.item i _ _ (List.getElem?_eq_getElem hi') hp⟩
theorem PipesAt.getp {H : Hp} {as : List Addr} {ps : List Pipe} (h : PipesAt H as ps) {i : Nat} {x : V} (hx : (as.map V.ref)[i]? = some x) : ∃ a p, x = .ref a ∧ as[i]? = some a ∧ ps[i]? = some p ∧ H a = some (.tup (pV p)) := by
  rw [List.getElem?_map] at hx
  cases ha : as[i]? with
  | none => rw [ha] at hx; cases hx
  | some a =>
    rw [ha] at hx
    have hi : i < ps.length := by rw [← h.len]; exact (List.getElem?_eq_some_iff.mp ha).1
    exact ⟨a, ps[i], (Option.some.inj hx).symm, rfl, List.getElem?_eq_getElem hi, h.item i _ _ ha (List.getElem?_eq_getElem hi)⟩

theorem cZ_len {n : Nat} {c : Nat → Nat} : (cZ n c).length = n := by simp [cZ]
theorem cV_len {n : Nat} {c : Nat → Nat} : ((cZ n c).map V.int).length = n := by simp [cZ]
theorem cZ_get {n k : Nat} {c : Nat → Nat} (h : k < n) : (cZ n c)[k]? = some (c k : Int) := by simp [cZ, h]
theorem cV_get {n k : Nat} {c : Nat → Nat} (h : k < n) : ((cZ n c).map V.int)[k]? = some (.int (c k : Int)) := by simp [cZ, h]
theorem cZ_congr {n : Nat} {c d : Nat → Nat} (h : ∀ k, k < n → c k = d k) : cZ n c = cZ n d := by
  unfold cZ
  refine List.map_congr_left fun k hk => ?_
  rw [h k (List.mem_range.mp hk)]
theorem cZ_inj {n : Nat} {c d : Nat → Nat} (h : cZ n c = cZ n d) : ∀ k, k < n → c k = d k := fun k hk => by
  have h1 := cZ_get (c := c) hk
  rw [h, cZ_get hk] at h1
  have := Option.some.inj h1
  omega
theorem cV_set {n b : Nat} {c : Nat → Nat} {z : Int} {e : Nat → Nat} (hb : b < n) (hz : z = (e b : Int)) (he : ∀ k, k < n → k ≠ b → e k = c k) : ((cZ n c).map V.int).set b (.int z) = (cZ n e).map V.int := by
  refine List.ext_getElem? fun i => ?_
  by_cases hi : i < n
  · by_cases e1 : i = b
    · subst e1
      rw [List.getElem?_set_self (by rw [cV_len]; exact hi), cV_get hi, hz]
    · rw [List.getElem?_set_ne (Ne.symm e1), cV_get hi, cV_get hi, he i hi e1]
  · rw [List.getElem?_eq_none (by rw [List.length_set, cV_len]; omega), List.getElem?_eq_none (by rw [cV_len]; omega)]
theorem tZ_len {ps : List Pipe} {d : Nat → Nat} : (tZ ps d).length = ps.length := by simp [tZ]
theorem tV_len {ps : List Pipe} {d : Nat → Nat} : ((tZ ps d).map V.int).length = ps.length := by simp [tZ]
theorem tV_get {ps : List Pipe} {d : Nat → Nat} {i : Nat} {p : Pipe} (h : ps[i]? = some p) : ((tZ ps d).map V.int)[i]? = some (.int (tok d p)) := by simp [tZ, h]
theorem tZ_zero {ps : List Pipe} : tZ ps zeroD = ps.map fun p => (p.start : Int) := by
  unfold tZ
  refine List.map_congr_left fun p _ => ?_
  simp [tok, zeroD]
theorem nZ_len {l : List Nat} : (nZ l).length = l.length := by simp [nZ]
theorem nV_get {l : List Nat} {i k : Nat} (h : l[i]? = some k) : ((nZ l).map V.int)[i]? = some (.int (k : Int)) := by simp [nZ, h]
theorem nV_getp {l : List Nat} {i : Nat} {x : V} (h : ((nZ l).map V.int)[i]? = some x) : ∃ k, l[i]? = some k ∧ x = .int (k : Int) := by
  simp only [nZ, List.map_map, List.getElem?_map] at h
  cases hk : l[i]? with
  | none => rw [hk] at h; cases h
  | some k => rw [hk] at h; exact ⟨k, rfl, (Option.some.inj h).symm⟩
theorem small_line {n : Nat} (h : n ≤ 100000) : n ≤ sizeLine := Nat.le_trans h (by decide)

/-! ### what evaluates to something, P of it -/
def EvP (te : TE) (σ : L2.St) (H : Hp) (P : V → Hp → Prop) : Prop := ∀ H1, Ex H H1 → ∀ Q : VK, (∀ v H2, Ex H1 H2 → P v H2 → Q v H2) → te σ H1 Q
/-- a def's promise at such arguments -/
def SpP (sp : Sp) (vs : List V) (H : Hp) (P : V → Hp → Prop) : Prop := ∀ H1, Ex H H1 → ∀ Q : VK, (∀ v H2, Ex H1 H2 → P v H2 → Q v H2) → ∀ E : XK, sp vs H1 Q E
section
variable {K : PySem.W.Frag} {σ : L2.St} {H H' : Hp} {ta tb te tx : TE} {t u : TT} {x y z v : V} {r : R2} {D : Ends} {tz tu tw : TS} {P : V → Hp → Prop}
theorem EvP.mono (e : Ex H H') (h : EvP te σ H P) : EvP te σ H' P := fun H1 a Q q => h H1 (e.trans a) Q q
theorem ep_call {sp : Sp} {vs : List V} {E : XK} {ta : TA} (h : EvA ta σ H vs) (hs : SpP sp vs H P) : EvP (tCall sp [] E ta) σ H P := fun H1 e Q q =>
  h H1 e _ fun H2 e2 => by
    rw [List.append_nil]
    exact hs H2 (e.trans e2) Q (fun v H3 e3 p => q v H3 (e2.trans e3) p) E
theorem ev_callV {sp : Sp} {vs : List V} {E : XK} {ta : TA} (h : EvA ta σ H vs) (hs : SpV sp vs H z) : Ev (tCall sp [] E ta) σ H z := ev_call h (by rw [List.append_nil]; exact hs)
theorem el_callL {sp : Sp} {vs xs : List V} {E : XK} {ta : TA} (h : EvA ta σ H vs) (hs : SpL sp vs H xs) : EvL (tCall sp [] E ta) σ H xs := el_call h (by rw [List.append_nil]; exact hs)
/-- a new tuple from a def -/
def SpU (sp : Sp) (vs : List V) (H : Hp) (xs : List V) : Prop := ∀ H1, Ex H H1 → ∀ Q : VK, (∀ p H2, H1 p = none → Ex H1 H2 → H2 p = some (.tup xs) → Q (.ref p) H2) → ∀ E : XK, sp vs H1 Q E
theorem eu_callU {sp : Sp} {vs xs : List V} {E : XK} {ta : TA} (h : EvA ta σ H vs) (hs : SpU sp vs H xs) : EvU (tCall sp [] E ta) σ H xs := fun H1 e Q q =>
  h H1 e _ fun H2 e2 => by
    rw [List.append_nil]
    exact hs H2 (e.trans e2) Q (fun p H3 hp e3 h3 => q p H3 (fresh_back e2 hp) (e2.trans e3) h3) E
theorem Ev.p (h : Ev te σ H v) : EvP te σ H (fun v' _ => v' = v) := fun H1 e Q q => h H1 e Q fun H2 e2 => q v H2 e2 rfl
theorem EvL.p {xs : List V} (h : EvL te σ H xs) : EvP te σ H (fun v' H' => ∃ p, v' = .ref p ∧ H' p = some (.lst xs)) := fun H1 e Q q => h H1 e Q fun p H2 hp e2 h2 => q _ H2 e2 ⟨p, rfl, h2⟩
theorem EvU.p {xs : List V} (h : EvU te σ H xs) : EvP te σ H (fun v' H' => ∃ p, v' = .ref p ∧ H' p = some (.tup xs)) := fun H1 e Q q => h H1 e Q fun p H2 hp e2 h2 => q _ H2 e2 ⟨p, rfl, h2⟩
theorem q_asgP {i : Nat} (h : EvP te σ H P) (k : ∀ v H1, Ex H H1 → P v H1 → tz D (σ.set i (some v)) H1) : tSeq (tAsg te (gName i)) tz D σ H := h H (Ex.refl H) _ fun v H1 e p => k v H1 e p
theorem s_asgP {i : Nat} (h : EvP te σ H P) (k : ∀ v H1, Ex H H1 → P v H1 → D.nx (σ.set i (some v)) H1) : tAsg te (gName i) D σ H := h H (Ex.refl H) _ fun v H1 e p => k v H1 e p
theorem q_dropP (h : EvP te σ H P) (k : ∀ v H1, Ex H H1 → P v H1 → tz D σ H1) : tSeq (tDrop te) tz D σ H := h H (Ex.refl H) _ fun v H1 e p => k v H1 e p
theorem s_retP (h : EvP te σ H P) (k : ∀ v H1, Ex H H1 → P v H1 → D.rt v H1) : tRet te D σ H := h H (Ex.refl H) _ k

theorem q_par {i j : Nat} {ta : TA} {a b : V} (h : EvA ta σ H [a, b]) (k : ∀ H1, Ex H H1 → tz D ((σ.set i (some a)).set j (some b)) H1) : tSeq (tPar i j ta) tz D σ H := h H (Ex.refl H) _ fun H1 e => ⟨a, b, rfl, k H1 e⟩
theorem s_par {i j : Nat} {ta : TA} {a b : V} (h : EvA ta σ H [a, b]) (k : ∀ H1, Ex H H1 → D.nx ((σ.set i (some a)).set j (some b)) H1) : tPar i j ta D σ H := h H (Ex.refl H) _ fun H1 e => ⟨a, b, rfl, k H1 e⟩

/-! ### items -/
theorem rv_t {p : Addr} {xs : List V} {i : Int} (h : H p = some (.tup xs)) (ha : atI xs i = some v) : RV (rIx K) (.ref p) (.int i) H v := fun H1 e _ q => .inr (.inl ⟨p, xs, i, v, rfl, rfl, SqT.of (e _ _ h), ha, q H1 (Ex.refl H1)⟩)
theorem rv_l {p : Addr} {xs : List V} {i : Int} (h : H p = some (.lst xs)) (ha : atI xs i = some v) : RV (rIx K) (.ref p) (.int i) H v := fun H1 e _ q => .inl ⟨p, xs, i, v, rfl, rfl, SqL.of (e _ _ h), ha, q H1 (Ex.refl H1)⟩
theorem rv_sl {p : Addr} {xs : List V} {i : Int} (h : SqL K H p xs) (ha : atI xs i = some v) : RV (rIx K) (.ref p) (.int i) H v := fun H1 e _ q => .inl ⟨p, xs, i, v, rfl, rfl, ex_l e h, ha, q H1 (Ex.refl H1)⟩
theorem rv_st {p : Addr} {xs : List V} {i : Int} (h : SqT K H p xs) (ha : atI xs i = some v) : RV (rIx K) (.ref p) (.int i) H v := fun H1 e _ q => .inr (.inl ⟨p, xs, i, v, rfl, rfl, ex_t e h, ha, q H1 (Ex.refl H1)⟩)
/-- t[k], t a tuple, k written -/
theorem ev_t {p : Addr} {xs : List V} (j : Nat) (ha : Ev ta σ H (.ref p)) (hb : Ev tb σ H (.int (j : Int))) (h : H p = some (.tup xs)) (hx : xs[j]? = some v) : Ev (tOp (rIx K) ta tb) σ H v := ev_op ha hb (rv_t h (atI_nat hx))
theorem ev_l {p : Addr} {xs : List V} (j : Nat) (ha : Ev ta σ H (.ref p)) (hb : Ev tb σ H (.int (j : Int))) (h : H p = some (.lst xs)) (hx : xs[j]? = some v) : Ev (tOp (rIx K) ta tb) σ H v := ev_op ha hb (rv_l h (atI_nat hx))
/-- the item of a new tuple, a new list -/
theorem ev_ut {xs : List V} (j : Nat) (ha : EvU ta σ H xs) (hb : ∀ H1, Ex H H1 → Ev tb σ H1 (.int (j : Int))) (hx : xs[j]? = some v) : Ev (tOp (rIx K) ta tb) σ H v := fun H1 e Q q =>
  ha H1 e _ fun p H2 _ e2 hp => hb H2 (e.trans e2) H2 (Ex.refl H2) _ fun H3 e3 => rv_t (e3 _ _ hp) (atI_nat hx) H3 (Ex.refl H3) Q fun H4 e4 => q H4 ((e2.trans e3).trans e4)
/-- the item of what is told by P -/
theorem ep_t {P' : V → Hp → Prop} (j : Nat) (ha : EvP ta σ H P) (hb : ∀ H1, Ex H H1 → Ev tb σ H1 (.int (j : Int))) (hp : ∀ x H1, P x H1 → ∃ p xs v, x = .ref p ∧ H1 p = some (.tup xs) ∧ xs[j]? = some v ∧ ∀ H2, Ex H1 H2 → P' v H2) : EvP (tOp (rIx K) ta tb) σ H P' := fun H1 e Q q =>
  ha H1 e _ fun x H2 e2 px => by
    obtain ⟨p, xs, v, rfl, h1, h2, h3⟩ := hp x H2 px
    exact hb H2 (e.trans e2) H2 (Ex.refl H2) _ fun H3 e3 => rv_t (e3 _ _ h1) (atI_nat h2) H3 (Ex.refl H3) Q fun H4 e4 => q v H4 ((e2.trans e3).trans e4) (h3 H4 (e3.trans e4))
variable {t0 q0 : Addr} {as : List Addr} {n : Nat} {ps : List Pipe}
theorem ev_f0 {i : Nat} (h : σ[i]? = some (some (.ref t0))) (F : FlowAt H t0 q0 as n ps) : Ev (tOp (rIx K) (tVar i) (tC (.int 0))) σ H (.int (n : Int)) := ev_t 0 (ev_var h) ev_c F.top rfl
theorem ev_f1 {i : Nat} (h : σ[i]? = some (some (.ref t0))) (F : FlowAt H t0 q0 as n ps) : Ev (tOp (rIx K) (tVar i) (tC (.int 1))) σ H (.ref q0) := ev_t 1 (ev_var h) ev_c F.top rfl

/-! ### equality of lists, tuples of whole numbers -/
theorem dpInts (ns : List Int) : DpAll K H (ns.map V.int) (ns.map PyData.int) := by
  induction ns with
  | nil => exact .nil
  | cons a r ih => exact .cons (.int a) ih
theorem eqvInts : ∀ ns ms : List Int, PyData.eqvAll (ns.map PyData.int) (ms.map PyData.int) = decide (ns = ms)
  | [], [] => rfl
  | [], _ :: _ => rfl
  | _ :: _, [] => rfl
  | a :: r, b :: s => by
    show (a == b && PyData.eqvAll (r.map PyData.int) (s.map PyData.int)) = _
    rw [eqvInts r s]
    by_cases h : a = b <;> by_cases h2 : r = s <;> simp [h, h2]
theorem layInts : ∀ ns : List Int, PyData.canLayAll0 (ns.map PyData.int) = true
  | [] => rfl
  | _ :: r => by show (true && PyData.canLayAll0 (r.map PyData.int)) = true; rw [layInts r]; rfl
theorem depthInts : ∀ ns : List Int, PyData.depthAll (ns.map PyData.int) = 0
  | [] => rfl
  | _ :: r => by show max 0 (PyData.depthAll (r.map PyData.int)) = 0; rw [depthInts r]; rfl
theorem shapedL (ns : List Int) : SeqAt.shaped (.list (ns.map PyData.int)) = true := by
  show (PyData.canLayAll0 (ns.map PyData.int) && decide (PyData.depthAll (ns.map PyData.int) + 1 ≤ 64)) = true
  rw [layInts, depthInts]; rfl
theorem shapedT (ns : List Int) : SeqAt.shaped (.tuple (ns.map PyData.int)) = true := by
  show (PyData.canLayAll0 (ns.map PyData.int) && decide (PyData.depthAll (ns.map PyData.int) + 1 ≤ 64)) = true
  rw [layInts, depthInts]; rfl
theorem rv_eqL {p q : Addr} {ns ms : List Int} (hp : SqL K H p (ns.map V.int)) (hq : SqL K H q (ms.map V.int)) : RV (rEqD K) (.ref p) (.ref q) H (.bl (decide (ns = ms))) := fun H1 e Q k => by
  refine ⟨_, _, .lst (ex_l e hp) (dpInts ns), .lst (ex_l e hq) (dpInts ms), shapedL ns, shapedL ms, ?_⟩
  show Q (.bl (PyData.eqvAll _ _)) H1
  rw [eqvInts]
  exact k H1 (Ex.refl H1)
theorem rv_neL {p q : Addr} {ns ms : List Int} (hp : SqL K H p (ns.map V.int)) (hq : SqL K H q (ms.map V.int)) : RV (rNeD K) (.ref p) (.ref q) H (.bl (!decide (ns = ms))) := fun H1 e Q k => by
  refine ⟨_, _, .lst (ex_l e hp) (dpInts ns), .lst (ex_l e hq) (dpInts ms), shapedL ns, shapedL ms, ?_⟩
  show Q (.bl (!PyData.eqvAll _ _)) H1
  rw [eqvInts]
  exact k H1 (Ex.refl H1)
theorem rv_eqT {p q : Addr} {ns ms : List Int} (hp : SqT K H p (ns.map V.int)) (hq : SqT K H q (ms.map V.int)) : RV (rEqD K) (.ref p) (.ref q) H (.bl (decide (ns = ms))) := fun H1 e Q k => by
  refine ⟨_, _, .tup (ex_t e hp) (dpInts ns), .tup (ex_t e hq) (dpInts ms), shapedT ns, shapedT ms, ?_⟩
  show Q (.bl (PyData.eqvAll _ _)) H1
  rw [eqvInts]
  exact k H1 (Ex.refl H1)
theorem rv_neT {p q : Addr} {ns ms : List Int} (hp : SqT K H p (ns.map V.int)) (hq : SqT K H q (ms.map V.int)) : RV (rNeD K) (.ref p) (.ref q) H (.bl (!decide (ns = ms))) := fun H1 e Q k => by
  refine ⟨_, _, .tup (ex_t e hp) (dpInts ns), .tup (ex_t e hq) (dpInts ms), shapedT ns, shapedT ms, ?_⟩
  show Q (.bl (!PyData.eqvAll _ _)) H1
  rw [eqvInts]
  exact k H1 (Ex.refl H1)
theorem el_nil : EvL (tLst tNil) σ H [] := el_lst ea_nil (by simp)
/-- xs == [], xs != [] of a new list of whole numbers -/
theorem ev_eqNil {ns : List Int} (h : EvL ta σ H (ns.map V.int)) : Ev (tOp (rEqD K) ta (tLst tNil)) σ H (.bl (decide (ns = []))) := ev_opLL h el_nil fun _ _ _ h1 h2 _ => rv_eqL (sq_of h1) (sq_of (show _ = some (HO.lst (([] : List Int).map V.int)) from h2))
theorem ev_neNil {ns : List Int} (h : EvL ta σ H (ns.map V.int)) : Ev (tOp (rNeD K) ta (tLst tNil)) σ H (.bl (!decide (ns = []))) := ev_opLL h el_nil fun _ _ _ h1 h2 _ => rv_neL (sq_of h1) (sq_of (show _ = some (HO.lst (([] : List Int).map V.int)) from h2))
theorem ev_eqNil' {p : Addr} {ns : List Int} (h : Ev ta σ H (.ref p)) (hp : H p = some (.lst (ns.map V.int))) : Ev (tOp (rEqD K) ta (tLst tNil)) σ H (.bl (decide (ns = []))) := ev_opL h el_nil fun _ _ h2 e => rv_eqL (sq_of (e _ _ hp)) (sq_of (show _ = some (HO.lst (([] : List Int).map V.int)) from h2))
theorem ev_neNil' {p : Addr} {ns : List Int} (h : Ev ta σ H (.ref p)) (hp : H p = some (.lst (ns.map V.int))) : Ev (tOp (rNeD K) ta (tLst tNil)) σ H (.bl (!decide (ns = []))) := ev_opL h el_nil fun _ _ h2 e => rv_neL (sq_of (e _ _ hp)) (sq_of (show _ = some (HO.lst (([] : List Int).map V.int)) from h2))
end

/-! ### comprehensions over what holds a list zs -/
section
variable {K : PySem.W.Frag} {σ : L2.St} {H : Hp} {tl te : TE} {tt : TT} {α : Type}
theorem lcz_core {J : It} {xs : List V} {zs : List α} {G : Hp → Prop} (w : Walk J xs.length G (YAt xs)) (len : xs.length = zs.length) (hz : zs.length ≤ 40000) {H1 : Hp} (hG : ∀ H', Ex H1 H' → G H')
    {g : TG} {vs : List Nat} (f : α → Bool) (v : α → V)
    (hs : ∀ (i : Nat) (x : V) (z : α) (H' : Hp), Ex H1 H' → xs[i]? = some x → zs[i]? = some z → ∀ Q : L2.St → Hp → Prop, (∀ σ2 H2, Ex H' H2 → wipe σ2 vs = wipe σ vs → EvT tt σ2 H2 (f z) → (f z = true → Ev te σ2 H2 (v z)) → Q σ2 H2) → g x (wipe σ vs) H' Q)
    {Dl : Addr} (hD : H1 Dl = none) {Qd : Hp → Prop} (hq : ∀ H', Ex H1 H' → H' Dl = some (.lst ((zs.filter f).map v)) → Qd H') :
    ∃ W : Nat → Nat → Hp → Prop, (∃ m, W 0 m (upd H1 Dl (.lst []))) ∧ ∀ i m H, W i m H →
      (J.stop i H ∧ Qd H) ∨ (J.go i H ∧ ∃ Nx : Hp → Prop, (∀ H', Nx H' → ∃ m', m' < m ∧ W (i + 1) m' H') ∧ ∀ x H', J.yld i H x H' → g x (wipe σ vs) H' fun σ2 H2 => wipe σ2 vs = wipe σ vs ∧ tt σ2 H2 fun b H3 =>
        if b = true then te σ2 H3 fun y H4 => ∃ acc, H4 Dl = some (.lst acc) ∧ acc.length < sizeLine ∧ Nx (upd H4 Dl (.lst (acc ++ [y]))) else Nx H3) := by
  refine lc_it w (Qd := Qd) (fun i H' => Ex H1 H' ∧ H' Dl = some (.lst (((zs.take i).filter f).map v))) ⟨Ex.new hD, upd_same⟩ (fun i H' _ p => hG H' p.1) (fun i x H' H'' hi p y => ?_) fun H' p => ?_
  · obtain ⟨rfl, hx⟩ := y
    obtain ⟨p1, p2⟩ := p
    have hi' : i < zs.length := by omega
    refine hs i x zs[i] _ p1 hx (List.getElem?_eq_getElem hi') _ fun σ2 H2 e2 hw ht he => ⟨hw, ?_⟩
    have et : zs.take (i + 1) = zs.take i ++ [zs[i]] := by rw [List.take_add_one, List.getElem?_eq_getElem hi']; rfl
    refine ht H2 (Ex.refl H2) _ fun H3 e3 => ?_
    cases hf : f zs[i] with
    | true =>
      refine he hf H3 e3 _ fun H4 e4 => ⟨_, e4 _ _ (e3 _ _ (e2 _ _ p2)), ?_, Ex.mut (((p1.trans e2).trans e3).trans e4) hD, ?_⟩
      · rw [List.length_map]
        refine Nat.lt_of_le_of_lt (List.length_filter_le _ _) ?_
        rw [List.length_take]
        exact sz_lt (by omega)
      · rw [upd_same, et, List.filter_append, List.map_append, List.filter_cons, if_pos hf]
        rfl
    | false =>
      refine ⟨(p1.trans e2).trans e3, ?_⟩
      rw [et, List.filter_append, List.filter_cons, if_neg (by rw [hf]; decide)]
      show H3 Dl = some (.lst (List.map v (List.filter f (List.take i zs) ++ [])))
      rw [List.append_nil]
      exact e3 _ _ (e2 _ _ p2)
  · rw [len, List.take_length] at p
    exact hq H' p.1 p.2
/-- over a tuple, the target a name -/
theorem el_lcT {q : Addr} {xs : List V} {zs : List α} {j : Nat} {vs : List Nat} (f : α → Bool) (v : α → V) (h : Ev tl σ H (.ref q)) (hx : H q = some (.tup xs)) (len : xs.length = zs.length) (hz : zs.length ≤ 40000)
    (hw : ∀ x, wipe ((wipe σ vs).set j (some x)) vs = wipe σ vs) (ht : ∀ (i : Nat) x z H1, Ex H H1 → xs[i]? = some x → zs[i]? = some z → EvT tt ((wipe σ vs).set j (some x)) H1 (f z))
    (he : ∀ (i : Nat) x z H1, Ex H H1 → xs[i]? = some x → zs[i]? = some z → f z = true → Ev te ((wipe σ vs).set j (some x)) H1 (v z)) : EvL (tLc (iTup K tl) (gName j) tt te vs) σ H ((zs.filter f).map v) := fun H0 e Q k =>
  h H0 e _ fun H1 e1 => ⟨q, rfl, ⟨xs, SqT.of (e1 _ _ (e _ _ hx))⟩, fun Dl hD => lcz_core walk_tup len hz (fun H' e' => SqT.of (e' _ _ (e1 _ _ (e _ _ hx)))) f v (fun i x z H' e' hxi hzi Q' k' =>
    k' _ H' (Ex.refl H') (hw x) (ht i x z H' ((e.trans e1).trans e') hxi hzi) (he i x z H' ((e.trans e1).trans e') hxi hzi)) hD fun H' e' h' => k Dl H' (fresh_back e1 hD) (e1.trans e') h'⟩
theorem el_lcTs {q : Addr} {xs : List V} {zs : List α} {j : Nat} {vs : List Nat} (f : α → Bool) (v : α → V) (h : Ev tl σ H (.ref q)) (hx : SqT K H q xs) (len : xs.length = zs.length) (hz : zs.length ≤ 40000)
    (hw : ∀ x, wipe ((wipe σ vs).set j (some x)) vs = wipe σ vs) (ht : ∀ (i : Nat) x z H1, Ex H H1 → xs[i]? = some x → zs[i]? = some z → EvT tt ((wipe σ vs).set j (some x)) H1 (f z))
    (he : ∀ (i : Nat) x z H1, Ex H H1 → xs[i]? = some x → zs[i]? = some z → f z = true → Ev te ((wipe σ vs).set j (some x)) H1 (v z)) : EvL (tLc (iTup K tl) (gName j) tt te vs) σ H ((zs.filter f).map v) := fun H0 e Q k =>
  h H0 e _ fun H1 e1 => ⟨q, rfl, ⟨xs, ex_t e1 (ex_t e hx)⟩, fun Dl hD => lcz_core walk_tup len hz (fun H' e' => ex_t e' (ex_t e1 (ex_t e hx))) f v (fun i x z H' e' hxi hzi Q' k' =>
    k' _ H' (Ex.refl H') (hw x) (ht i x z H' ((e.trans e1).trans e') hxi hzi) (he i x z H' ((e.trans e1).trans e') hxi hzi)) hD fun H' e' h' => k Dl H' (fresh_back e1 hD) (e1.trans e') h'⟩
/-- over a new tuple -/
theorem el_lcNT {xs : List V} {zs : List α} {j : Nat} {vs : List Nat} (f : α → Bool) (v : α → V) (h : EvU tl σ H xs) (len : xs.length = zs.length) (hz : zs.length ≤ 40000)
    (hw : ∀ x, wipe ((wipe σ vs).set j (some x)) vs = wipe σ vs) (ht : ∀ (i : Nat) x z H1, Ex H H1 → xs[i]? = some x → zs[i]? = some z → EvT tt ((wipe σ vs).set j (some x)) H1 (f z))
    (he : ∀ (i : Nat) x z H1, Ex H H1 → xs[i]? = some x → zs[i]? = some z → f z = true → Ev te ((wipe σ vs).set j (some x)) H1 (v z)) : EvL (tLc (iTup K tl) (gName j) tt te vs) σ H ((zs.filter f).map v) := fun H0 e Q k =>
  h H0 e _ fun q H1 hq e1 hx => ⟨q, rfl, ⟨xs, SqT.of hx⟩, fun Dl hD => lcz_core walk_tup len hz (fun H' e' => SqT.of (e' _ _ hx)) f v (fun i x z H' e' hxi hzi Q' k' =>
    k' _ H' (Ex.refl H') (hw x) (ht i x z H' ((e.trans e1).trans e') hxi hzi) (he i x z H' ((e.trans e1).trans e') hxi hzi)) hD fun H' e' h' => k Dl H' (fresh_back e1 hD) (e1.trans e') h'⟩
/-- over a new list -/
theorem el_lcNLz {xs : List V} {zs : List α} {j : Nat} {vs : List Nat} (f : α → Bool) (v : α → V) (h : EvL tl σ H xs) (len : xs.length = zs.length) (hz : zs.length ≤ 40000)
    (hw : ∀ x, wipe ((wipe σ vs).set j (some x)) vs = wipe σ vs) (ht : ∀ (i : Nat) x z H1, Ex H H1 → xs[i]? = some x → zs[i]? = some z → EvT tt ((wipe σ vs).set j (some x)) H1 (f z))
    (he : ∀ (i : Nat) x z H1, Ex H H1 → xs[i]? = some x → zs[i]? = some z → f z = true → Ev te ((wipe σ vs).set j (some x)) H1 (v z)) : EvL (tLc (iList K tl) (gName j) tt te vs) σ H ((zs.filter f).map v) := fun H0 e Q k =>
  h H0 e _ fun q H1 hq e1 hx => ⟨q, rfl, ⟨xs, SqL.of hx⟩, fun Dl hD => lcz_core walk_list len hz (fun H' e' => SqL.of (e' _ _ hx)) f v (fun i x z H' e' hxi hzi Q' k' =>
    k' _ H' (Ex.refl H') (hw x) (ht i x z H' ((e.trans e1).trans e') hxi hzi) (he i x z H' ((e.trans e1).trans e') hxi hzi)) hD fun H' e' h' => k Dl H' (fresh_back e1 hD) (e1.trans e') h'⟩
/-- over range(n) -/
theorem lcr_core {m : Nat} (hz : m ≤ 40000) {H1 : Hp} {j : Nat} {vs : List Nat} (f : Nat → Bool) (v : Nat → V) (hw : ∀ x, wipe ((wipe σ vs).set j (some x)) vs = wipe σ vs)
    (ht : ∀ (i : Nat) H', Ex H1 H' → i < m → EvT tt ((wipe σ vs).set j (some (.int (i : Int)))) H' (f i)) (he : ∀ (i : Nat) H', Ex H1 H' → i < m → f i = true → Ev te ((wipe σ vs).set j (some (.int (i : Int)))) H' (v i))
    {Dl : Addr} (hD : H1 Dl = none) {Qd : Hp → Prop} (hq : ∀ H', Ex H1 H' → H' Dl = some (.lst (((List.range m).filter f).map v)) → Qd H') :
    ∃ W : Nat → Nat → Hp → Prop, (∃ m, W 0 m (upd H1 Dl (.lst []))) ∧ ∀ i k H, W i k H →
      ((Itr 0 m).stop i H ∧ Qd H) ∨ ((Itr 0 m).go i H ∧ ∃ Nx : Hp → Prop, (∀ H', Nx H' → ∃ k', k' < k ∧ W (i + 1) k' H') ∧ ∀ x H', (Itr 0 m).yld i H x H' → gName j x (wipe σ vs) H' fun σ2 H2 => wipe σ2 vs = wipe σ vs ∧ tt σ2 H2 fun b H3 =>
        if b = true then te σ2 H3 fun y H4 => ∃ acc, H4 Dl = some (.lst acc) ∧ acc.length < sizeLine ∧ Nx (upd H4 Dl (.lst (acc ++ [y]))) else Nx H3) := by
  refine lc_it (walk_range (lo := 0) (n := m)) (Qd := Qd) (fun i H' => Ex H1 H' ∧ H' Dl = some (.lst (((List.range i).filter f).map v))) ⟨Ex.new hD, upd_same⟩ (fun _ _ _ _ => True.intro) (fun i x H' H'' hi p y => ?_) fun H' p => hq H' p.1 p.2
  obtain ⟨rfl, hx⟩ := y
  obtain ⟨p1, p2⟩ := p
  have ex : x = .int (i : Int) := hx.trans (congrArg V.int (Int.zero_add _))
  subst ex
  refine ⟨hw _, ht i _ p1 hi _ (Ex.refl _) _ fun H3 e3 => ?_⟩
  cases hf : f i with
  | true =>
    refine he i _ p1 hi hf H3 e3 _ fun H4 e4 => ⟨_, e4 _ _ (e3 _ _ p2), ?_, Ex.mut ((p1.trans e3).trans e4) hD, ?_⟩
    · rw [List.length_map]
      refine Nat.lt_of_le_of_lt (List.length_filter_le _ _) ?_
      rw [List.length_range]
      exact sz_lt (by omega)
    · rw [upd_same, List.range_succ, List.filter_append, List.map_append, List.filter_cons, if_pos hf]
      rfl
  | false =>
    refine ⟨p1.trans e3, ?_⟩
    rw [List.range_succ, List.filter_append, List.filter_cons, if_neg (by rw [hf]; decide)]
    show H3 Dl = some (.lst (List.map v (List.filter f (List.range i) ++ [])))
    rw [List.append_nil]
    exact e3 _ _ p2
theorem el_lcR {ta : TA} {m j : Nat} {vs : List Nat} (f : Nat → Bool) (v : Nat → V) (h : EvA ta σ H [.int (m : Int)]) (hz : m ≤ 40000) (hw : ∀ x, wipe ((wipe σ vs).set j (some x)) vs = wipe σ vs)
    (ht : ∀ (i : Nat) H', Ex H H' → i < m → EvT tt ((wipe σ vs).set j (some (.int (i : Int)))) H' (f i)) (he : ∀ (i : Nat) H', Ex H H' → i < m → f i = true → Ev te ((wipe σ vs).set j (some (.int (i : Int)))) H' (v i)) :
    EvL (tLc (iRng1 ta) (gName j) tt te vs) σ H (((List.range m).filter f).map v) := fun H0 e Q k =>
  h H0 e _ fun H1 e1 => ⟨(m : Int), rfl, by omega, by omega, fun Dl hD => by
    have em : ((m : Int)).toNat = m := by omega
    rw [em]
    exact lcr_core hz f v hw (fun i H' e' hi => ht i H' ((e.trans e1).trans e') hi) (fun i H' e' hi => he i H' ((e.trans e1).trans e') hi) hD fun H' e' h' => k Dl H' (fresh_back e1 hD) (e1.trans e') h'⟩
theorem et_yes {σ : L2.St} {H : Hp} : EvT tYes σ H true := fun H1 _ Q q => q H1 (Ex.refl H1)
theorem filter_yes {l : List α} : l.filter (fun _ => true) = l := List.filter_eq_self.mpr fun _ _ => rfl

/-! ### tuple(..), list(..), len(..) -/
theorem eu_tupN {xs : List V} (h : EvL te σ H xs) : EvU (tCB (rTupS K) (tCons te tNil)) σ H xs := fun H1 e Q q => h H1 e _ fun p H2 hp e2 h2 => ⟨p, xs, rfl, .inl ⟨SqL.of h2, fun l hl => q l _ (fresh_back e2 hl) (e2.trans (Ex.new hl)) upd_same⟩⟩
theorem eu_tupL {p : Addr} {xs : List V} (h : Ev te σ H (.ref p)) (hp : H p = some (.lst xs)) : EvU (tCB (rTupS K) (tCons te tNil)) σ H xs := fun H1 e Q q => h H1 e _ fun H2 e2 => ⟨p, xs, rfl, .inl ⟨SqL.of (e2 _ _ (e _ _ hp)), fun l hl => q l _ (fresh_back e2 hl) (e2.trans (Ex.new hl)) upd_same⟩⟩
theorem eu_tupP {P : V → Hp → Prop} {xs : List V} (h : EvP te σ H P) (hp : ∀ v H', P v H' → ∃ p, v = .ref p ∧ H' p = some (.lst xs)) : EvU (tCB (rTupS K) (tCons te tNil)) σ H xs := fun H1 e Q q => h H1 e _ fun v H2 e2 pv => by
  obtain ⟨p, rfl, h2⟩ := hp v H2 pv
  exact ⟨p, xs, rfl, .inl ⟨SqL.of h2, fun l hl => q l _ (fresh_back e2 hl) (e2.trans (Ex.new hl)) upd_same⟩⟩
theorem el_listT {p : Addr} {xs : List V} (h : Ev te σ H (.ref p)) (hp : SqL K H p xs ∨ SqT K H p xs) : EvL (tCB (rListS K) (tCons te tNil)) σ H xs := fun H1 e Q q => h H1 e _ fun H2 e2 =>
  ⟨p, xs, rfl, hp.imp (ex_l (e.trans e2)) (ex_t (e.trans e2)), fun l hl => q l _ (fresh_back e2 hl) (e2.trans (Ex.new hl)) upd_same⟩
theorem ev_lenS {p : Addr} {xs : List V} (h : Ev te σ H (.ref p)) (hp : SqL K H p xs ∨ SqT K H p xs) : Ev (tCB (rLenS K) (tCons te tNil)) σ H (.int (xs.length : Int)) := fun H1 e Q q => h H1 e _ fun H2 e2 => ⟨p, xs, rfl, hp.imp (ex_l (e.trans e2)) (ex_t (e.trans e2)), q H2 e2⟩
theorem ev_lenT {p : Addr} {xs : List V} (h : Ev te σ H (.ref p)) (hp : H p = some (.tup xs)) : Ev (tCB (rLenS K) (tCons te tNil)) σ H (.int (xs.length : Int)) := ev_lenS h (.inr (SqT.of hp))
theorem ev_lenL {p : Addr} {xs : List V} (h : Ev te σ H (.ref p)) (hp : H p = some (.lst xs)) : Ev (tCB (rLenS K) (tCons te tNil)) σ H (.int (xs.length : Int)) := ev_lenS h (.inl (SqL.of hp))
end

/-! ### the loop over a flow's pipes -/
section
variable {K : PySem.W.Frag} {σ : L2.St} {H : Hp} {D : Ends} {tb tz : TS} {t0 q0 : Addr} {as : List Addr} {n : Nat} {ps : List Pipe}
/-- for a, (b1, .., b5) in enumerate(flow[1]) -/
theorem s_forPipes {i0 a b1 b2 b3 b4 b5 : Nat} {H0 : Hp} (F : FlowAt H0 t0 q0 as n ps) (e0 : Ex H0 H) (h : σ[i0]? = some (some (.ref t0))) (Pv : Nat → L2.St → Hp → Prop) (h0 : ∀ H1, Ex H H1 → Pv 0 σ H1) (hl : ∀ i σ' H', Pv i σ' H' → Ex H0 H')
    (hs : ∀ (i : Nat) p σ' H' H2, ps[i]? = some p → Pv i σ' H' → Ex H' H2 → tb { D with nx := Pv (i + 1), ct := Pv (i + 1), bk := D.nx } ((((((σ'.set a (some (.int (i : Int)))).set b1 (some (.int (p.one : Int)))).set b2 (some (.int (p.other : Int)))).set b3 (some (.int (p.give : Int)))).set b4 (some (.int (p.eat : Int)))).set b5 (some (.int (p.start : Int)))) H2)
    (hd : ∀ σ' H', Pv ps.length σ' H' → D.nx σ' H') :
    tFor (iEnumT K (tCons (tOp (rIx K) (tVar i0) (tC (.int 1))) (tNil))) (gTup K 2 (gCons (gName a) (gCons (gTup K 5 (gCons (gName b1) (gCons (gName b2) (gCons (gName b3) (gCons (gName b4) (gCons (gName b5) gNil)))))) gNil))) tb D σ H := by
  have F1 := F.mono e0
  have ha : EvA (tCons (tOp (rIx K) (tVar i0) (tC (.int 1))) tNil) σ H [.ref q0] := ea_cons (ev_f1 h F1) ea_nil
  generalize tCons (tOp (rIx K) (tVar i0) (tC (.int 1))) tNil = ta at ha
  refine ha H (Ex.refl H) _ fun H1 e1 => ⟨q0, as.map V.ref, rfl, SqT.of (e1 _ _ F1.row), for_enumT Pv (h0 H1 e1) (fun i σ' H' _ p => SqT.of (hl i σ' H' p _ _ F.row)) (fun i x σ' H' T hx p hT => ?_) fun σ' H' p => hd σ' H' ?_⟩
  · obtain ⟨ad, pp, rfl, ha, hp, hat⟩ := F.pipes.getp hx
    refine ⟨T, _, rfl, SqT.of upd_same, rfl, _, _, rfl, _, _, rfl, ⟨ad, _, rfl, SqT.of (Ex.new hT _ _ (hl i σ' H' p _ _ hat)), rfl, _, _, rfl, _, _, rfl, _, _, rfl, _, _, rfl, _, _, rfl, rfl, rfl, ?_⟩⟩
    exact hs i pp σ' H' _ hp p (Ex.new hT)
  · rw [List.length_map, F.pipes.len] at p
    exact p
theorem q_forPipes {i0 a b1 b2 b3 b4 b5 : Nat} {H0 : Hp} (F : FlowAt H0 t0 q0 as n ps) (e0 : Ex H0 H) (h : σ[i0]? = some (some (.ref t0))) (Pv : Nat → L2.St → Hp → Prop) (h0 : ∀ H1, Ex H H1 → Pv 0 σ H1) (hl : ∀ i σ' H', Pv i σ' H' → Ex H0 H')
    (hs : ∀ (i : Nat) p σ' H' H2, ps[i]? = some p → Pv i σ' H' → Ex H' H2 → tb { D with nx := Pv (i + 1), ct := Pv (i + 1), bk := tz D } ((((((σ'.set a (some (.int (i : Int)))).set b1 (some (.int (p.one : Int)))).set b2 (some (.int (p.other : Int)))).set b3 (some (.int (p.give : Int)))).set b4 (some (.int (p.eat : Int)))).set b5 (some (.int (p.start : Int)))) H2)
    (hd : ∀ σ' H', Pv ps.length σ' H' → tz D σ' H') :
    tSeq (tFor (iEnumT K (tCons (tOp (rIx K) (tVar i0) (tC (.int 1))) (tNil))) (gTup K 2 (gCons (gName a) (gCons (gTup K 5 (gCons (gName b1) (gCons (gName b2) (gCons (gName b3) (gCons (gName b4) (gCons (gName b5) gNil)))))) gNil))) tb) tz D σ H :=
  s_forPipes (D := { D with nx := tz D }) F e0 h Pv h0 hl hs hd
/-- for a, x in enumerate(t) -/
theorem s_forEnum {a b : Nat} {q : Addr} {xs : List V} {H0 : Hp} {te : TE} (hq : H0 q = some (.tup xs)) (e0 : Ex H0 H) (h : Ev te σ H (.ref q)) (Pv : Nat → L2.St → Hp → Prop) (h0 : ∀ H1, Ex H H1 → Pv 0 σ H1) (hl : ∀ i σ' H', Pv i σ' H' → Ex H0 H')
    (hs : ∀ (i : Nat) x σ' H' H2, xs[i]? = some x → Pv i σ' H' → Ex H' H2 → tb { D with nx := Pv (i + 1), ct := Pv (i + 1), bk := D.nx } ((σ'.set a (some (.int (i : Int)))).set b (some x)) H2)
    (hd : ∀ σ' H', Pv xs.length σ' H' → D.nx σ' H') : tFor (iEnumT K (tCons te tNil)) (gTup K 2 (gCons (gName a) (gCons (gName b) gNil))) tb D σ H := by
  have ha : EvA (tCons te tNil) σ H [.ref q] := ea_cons h ea_nil
  generalize tCons te tNil = ta at ha
  refine ha H (Ex.refl H) _ fun H1 e1 => ⟨q, xs, rfl, SqT.of (e1 _ _ (e0 _ _ hq)), for_enumT Pv (h0 H1 e1) (fun i σ' H' _ p => SqT.of (hl i σ' H' p _ _ hq)) (fun i x σ' H' T hx p hT => ?_) hd⟩
  exact ⟨T, _, rfl, SqT.of upd_same, rfl, _, _, rfl, _, _, rfl, rfl, hs i x σ' H' _ hx p (Ex.new hT)⟩
end

/-! ### further statements and expressions -/
section
variable {K : PySem.W.Frag} {σ : L2.St} {H : Hp} {D : Ends} {tb tz : TS} {ta tc te to ti : TE}
/-- xs[i] op= e, xs a list of whole numbers at that place -/
theorem s_augL {l : Addr} {xs : List V} {j : Nat} {a b : Int} {f : Int → Int → Int} (ho : Ev to σ H (.ref l)) (hi : Ev ti σ H (.int (j : Int))) (hl : H l = some (.lst xs)) (hx : xs[j]? = some (.int a)) (he : Ev te σ H (.int b))
    (k : ∀ H1, Ex H H1 → D.nx σ (upd H1 l (.lst (xs.set j (.int (f a b)))))) : tAugS to ti te (rIxL K) (ipI f) rSetL D σ H :=
  ho H (Ex.refl H) _ fun H1 e1 => hi H1 e1 _ fun H2 e2 => ⟨l, xs, (j : Int), .int a, rfl, rfl, SqL.of ((e1.trans e2) _ _ hl), atI_nat hx, he H2 (e1.trans e2) _ fun H3 e3 =>
    ⟨a, b, rfl, rfl, l, xs, (j : Int), j, rfl, rfl, ((e1.trans e2).trans e3) _ _ hl, ixN_nat (List.getElem?_eq_some_iff.mp hx).1, k H3 ((e1.trans e2).trans e3)⟩⟩
theorem q_augL {l : Addr} {xs : List V} {j : Nat} {a b : Int} {f : Int → Int → Int} (ho : Ev to σ H (.ref l)) (hi : Ev ti σ H (.int (j : Int))) (hl : H l = some (.lst xs)) (hx : xs[j]? = some (.int a)) (he : Ev te σ H (.int b))
    (k : ∀ H1, Ex H H1 → tz D σ (upd H1 l (.lst (xs.set j (.int (f a b)))))) : tSeq (tAugS to ti te (rIxL K) (ipI f) rSetL) tz D σ H := s_augL (D := { D with nx := tz D }) ho hi hl hx he k
/-- a1, .., a5 = a pipe -/
theorem q_asgPipe {b1 b2 b3 b4 b5 : Nat} {a : Addr} {p : Pipe} (h : Ev te σ H (.ref a)) (ha : H a = some (.tup (pV p)))
    (k : ∀ H1, Ex H H1 → tz D (((((σ.set b1 (some (.int (p.one : Int)))).set b2 (some (.int (p.other : Int)))).set b3 (some (.int (p.give : Int)))).set b4 (some (.int (p.eat : Int)))).set b5 (some (.int (p.start : Int)))) H1) :
    tSeq (tAsg te (gTup K 5 (gCons (gName b1) (gCons (gName b2) (gCons (gName b3) (gCons (gName b4) (gCons (gName b5) gNil))))))) tz D σ H :=
  h H (Ex.refl H) _ fun H1 e1 => ⟨a, _, rfl, SqT.of (e1 _ _ ha), rfl, _, _, rfl, _, _, rfl, _, _, rfl, _, _, rfl, _, _, rfl, rfl, k H1 e1⟩
/-- a, b = e -/
theorem q_asg2 {b1 b2 : Nat} {P : V → Hp → Prop} (h : EvP te σ H P) (k : ∀ v H1, Ex H H1 → P v H1 → ∃ p x y, v = .ref p ∧ H1 p = some (.tup [x, y]) ∧ tz D ((σ.set b1 (some x)).set b2 (some y)) H1) :
    tSeq (tAsg te (gTup K 2 (gCons (gName b1) (gCons (gName b2) gNil)))) tz D σ H :=
  h H (Ex.refl H) _ fun v H1 e1 pv => by
    obtain ⟨p, x, y, rfl, hp, q⟩ := k v H1 e1 pv
    exact ⟨p, _, rfl, SqT.of hp, rfl, _, _, rfl, _, _, rfl, rfl, q⟩
/-- t[lo:hi] that is not the whole t -/
theorem eu_slice {a : Addr} {xs : List V} {tl th : TO} {lo hi : Option Int} (h : Ev te σ H (.ref a)) (hx : H a = some (.tup xs)) (h1 : EvO tl σ H lo) (h2 : EvO th σ H hi) (hn : ¬ (HT.sIx xs.length 0 lo = 0 ∧ HT.sIx xs.length xs.length hi = xs.length)) :
    EvU (tSl (rSlA K) te tl th) σ H (cutV xs lo hi) := fun H1 e Q q =>
  h H1 e _ fun H2 e2 => h1 H2 (e.trans e2) _ fun H3 e3 => h2 H3 ((e.trans e2).trans e3) _ fun H4 e4 =>
    ⟨a, xs, rfl, SqT.of ((((e.trans e2).trans e3).trans e4) _ _ hx), fun z => absurd z hn, fun _ p hp => q p _ (fresh_back ((e2.trans e3).trans e4) hp) (((e2.trans e3).trans e4).trans (Ex.new hp)) upd_same⟩
/-- .. of a new t -/
theorem eu_sliceN {xs : List V} {tl th : TO} {lo hi : Option Int} (h : EvU te σ H xs) (h1 : ∀ H1, Ex H H1 → EvO tl σ H1 lo) (h2 : ∀ H1, Ex H H1 → EvO th σ H1 hi) (hn : ¬ (HT.sIx xs.length 0 lo = 0 ∧ HT.sIx xs.length xs.length hi = xs.length)) :
    EvU (tSl (rSlA K) te tl th) σ H (cutV xs lo hi) := fun H1 e Q q =>
  h H1 e _ fun a H2 _ e2 hx => h1 H2 (e.trans e2) H2 (Ex.refl H2) _ fun H3 e3 => h2 H3 ((e.trans e2).trans e3) H3 (Ex.refl H3) _ fun H4 e4 =>
    ⟨a, xs, rfl, SqT.of ((e3.trans e4) _ _ hx), fun z => absurd z hn, fun _ p hp => q p _ (fresh_back ((e2.trans e3).trans e4) hp) (((e2.trans e3).trans e4).trans (Ex.new hp)) upd_same⟩
/-- t + u, both new -/
theorem eu_cat {xs ys : List V} (h1 : EvU ta σ H xs) (h2 : ∀ H1, Ex H H1 → EvU tc σ H1 ys) (hl : xs.length + ys.length ≤ 100000) : EvU (tOp (rCatA K) ta tc) σ H (xs ++ ys) := fun H1 e Q q =>
  h1 H1 e _ fun a H2 ha e2 hx => h2 H2 (e.trans e2) H2 (Ex.refl H2) _ fun b H3 hb e3 hy => ⟨a, b, xs, ys, rfl, rfl, SqT.of (e3 _ _ hx), SqT.of hy, sz_of hl,
    fun z => by subst z; exact q b H3 (fresh_back e2 hb) (e2.trans e3) hy,
    fun _ z => by subst z; exact q a H3 ha (e2.trans e3) (by rw [List.append_nil]; exact e3 _ _ hx),
    fun _ _ p hp => q p _ (fresh_back (e2.trans e3) hp) ((e2.trans e3).trans (Ex.new hp)) upd_same⟩
/-- a list made by one list behind another, both new -/
theorem el_cat {xs ys : List V} (h1 : EvL ta σ H xs) (h2 : ∀ H1, Ex H H1 → EvL tc σ H1 ys) (hl : xs.length + ys.length ≤ 100000) : EvL (tOp rCat ta tc) σ H (xs ++ ys) := fun H1 e Q q =>
  h1 H1 e _ fun a H2 _ e2 hx => h2 H2 (e.trans e2) H2 (Ex.refl H2) _ fun b H3 _ e3 hy => ⟨a, b, xs, ys, rfl, rfl, e3 _ _ hx, hy, sz_of hl, fun p hp => q p _ (fresh_back (e2.trans e3) hp) ((e2.trans e3).trans (Ex.new hp)) upd_same⟩
theorem el_catL {l : Addr} {xs ys : List V} (h1 : Ev ta σ H (.ref l)) (hl : H l = some (.lst xs)) (h2 : ∀ H1, Ex H H1 → EvL tc σ H1 ys) (hz : xs.length + ys.length ≤ 100000) : EvL (tOp rCat ta tc) σ H (xs ++ ys) := fun H1 e Q q =>
  h1 H1 e _ fun H2 e2 => h2 H2 (e.trans e2) H2 (Ex.refl H2) _ fun b H3 _ e3 hy => ⟨l, b, xs, ys, rfl, rfl, ((e.trans e2).trans e3) _ _ hl, hy, sz_of hz, fun p hp => q p _ (fresh_back (e2.trans e3) hp) ((e2.trans e3).trans (Ex.new hp)) upd_same⟩
/-- [x] * n -/
theorem el_rep {x : V} {n : Nat} (h1 : EvL ta σ H [x]) (h2 : ∀ H1, Ex H H1 → Ev tc σ H1 (.int (n : Int))) (hn : n ≤ 1000) : EvL (tOp rRep ta tc) σ H (List.replicate n x) := fun H1 e Q q =>
  h1 H1 e _ fun a H2 _ e2 hx => h2 H2 (e.trans e2) H2 (Ex.refl H2) _ fun H3 e3 => ⟨a, (n : Int), [x], rfl, rfl, e3 _ _ hx, by omega, by omega, by
      show 1 * (n : Int).toNat ≤ sizeLine
      exact sz_of (by omega), fun p hp => q p _ (fresh_back (e2.trans e3) hp) ((e2.trans e3).trans (Ex.new hp)) (by
      rw [upd_same]
      have en : ((n : Int)).toNat = n := by omega
      rw [en, List.flatten_replicate_singleton])⟩
end

/-! ### one step of an evaluation -/
section
variable {σ : L2.St} {H : Hp} {ta tr : TA} {te : TE} {g : TG} {D : Ends} {tz : TS} {P : V → Hp → Prop}
theorem tup_do {Q : VK} (h : ta σ H fun xs H1 => xs.length ≤ sizeLine ∧ ∀ p, H1 p = none → Q (.ref p) (upd H1 p (.tup xs))) : tTup ta σ H Q := h
theorem lst_do {Q : VK} (h : ta σ H fun xs H1 => xs.length ≤ sizeLine ∧ ∀ p, H1 p = none → Q (.ref p) (upd H1 p (.lst xs))) : tLst ta σ H Q := h
theorem cons_do {Q : List V → Hp → Prop} (h : te σ H fun x H1 => tr σ H1 fun xs H2 => Q (x :: xs) H2) : tCons te tr σ H Q := h
theorem nil_do {Q : List V → Hp → Prop} (h : Q [] H) : tNil σ H Q := h
theorem q_asgG (h : EvP te σ H P) (k : ∀ v H1, Ex H H1 → P v H1 → g v σ H1 (tz D)) : tSeq (tAsg te g) tz D σ H := h H (Ex.refl H) _ fun v H1 e p => k v H1 e p
theorem s_asgG (h : EvP te σ H P) (k : ∀ v H1, Ex H H1 → P v H1 → g v σ H1 D.nx) : tAsg te g D σ H := h H (Ex.refl H) _ fun v H1 e p => k v H1 e p
theorem call_do {sp : Sp} {E : XK} {Q : VK} (h : ta σ H fun vs H1 => sp vs H1 Q E) : tCall sp [] E ta σ H Q := by
  show ta σ H fun vs H1 => sp (vs ++ []) H1 Q E
  have e : (fun vs H1 => sp (vs ++ []) H1 Q E) = fun vs H1 => sp vs H1 Q E := by
    funext vs H1
    rw [List.append_nil]
  rw [e]
  exact h
theorem seq_do {t u : TS} (h : t { D with nx := u D } σ H) : tSeq t u D σ H := h
theorem asg_do (h : te σ H fun x H1 => g x σ H1 D.nx) : tAsg te g D σ H := h
end
end K8

-- K8RdA
/-! K8RdA: numbers: is_in, gcd, reduced, times, the law's gcd and ratio. -/
namespace K8
open PySem PySem.Spec L2 Evl
section
variable {K : PySem.W.Frag} {σ : L2.St} {H : Hp} {ta tb te : TE} {x : V} {T : String} {b : Bool}
/-! ### isinstance -/
theorem rc_isi {ty : String} (hx : ∀ H1, Ex H H1 → TyX K H1 x (.type ty)) (h : kitB ty T = some b) : RC (rIsi K) [x, .ty T] H (.bl b) := fun H1 e _ q => ⟨x, .ty T, .type ty, .type T, b, rfl, .ty T, hx H1 e, kit_ty h, q H1 (Ex.refl H1)⟩
theorem ev_isi {ty : String} (ha : Ev ta σ H x) (hx : ∀ H1, Ex H H1 → TyX K H1 x (.type ty)) (h : kitB ty T = some b) : Ev (tCB (rIsi K) (tCons ta (tCons (tC (.ty T)) tNil))) σ H (.bl b) := ev_cb (ea_cons ha (ea_cons ev_c ea_nil)) (rc_isi hx h)
theorem ty_int {i : Int} : TyX K H (.int i) (.type "int") := .base (.int i)
theorem ty_bl {i : Bool} : TyX K H (.bl i) (.type "bool") := .base (.bl i)
theorem ty_tup {p : Addr} {xs : List V} (h : H p = some (.tup xs)) : TyX K H (.ref p) (.type "tuple") := .base (.tup h)
theorem kit_ii : kitB "int" "int" = some true := by decide +kernel
theorem kit_ib : kitB "int" "bool" = some false := by decide +kernel
theorem kit_bi : kitB "bool" "int" = some true := by decide +kernel
theorem kit_bb : kitB "bool" "bool" = some true := by decide +kernel
theorem kit_tt : kitB "tuple" "tuple" = some true := by decide +kernel

theorem ev_chain {r r' : R2} {tc : TE} {y z : V} {c d : Bool} (ha : Ev ta σ H x) (hb : Ev tb σ H y) (hc : c = true → Ev tc σ H z) (h1 : RV r x y H (.bl c)) (h2 : c = true → RV r' y z H (.bl d)) : Ev (tChain r r' ta tb tc) σ H (.bl (c && d)) := fun H1 e Q q =>
  ha H1 e _ fun H2 e2 => hb H2 (e.trans e2) _ fun H3 e3 => h1 H3 ((e.trans e2).trans e3) _ fun H4 e4 => ⟨c, rfl, by
    have e14 : Ex H1 H4 := (e2.trans e3).trans e4
    cases c with
    | true => exact hc rfl H4 (e.trans e14) _ fun H5 e5 => h2 rfl H5 ((e.trans e14).trans e5) Q fun H6 e6 => q H6 ((e14.trans e5).trans e6)
    | false => exact q H4 e14⟩
end
section
variable {K : PySem.W.Frag}
/-! ### is_in -/
def sp_is_in : Sp := fun vs H Q _ => ∃ v a b : Int, vs = [.int v, .int a, .int b] ∧ ∀ H', Ex H H' → Q (.bl (decide (a ≤ v) && decide (v ≤ b))) H'
theorem rd_is_in : ∀ vs H Q E, sp_is_in vs H Q E → t_is_in K { nx := fun _ H' => Q .non H', rt := Q } (start ["value", "least", "most"] vs) H := by
  rintro vs H Q E ⟨v, a, b, rfl, q⟩
  unfold t_is_in
  refine s_ret (v := .bl (decide (a ≤ v) && decide (v ≤ b))) (ev_is (ev_andV (a := true) (b := true && (decide (a ≤ v) && decide (v ≤ b))) (ev_isi (ev_var rfl) (fun _ _ => ty_int) kit_ii) fun _ => ev_andV (a := true) (ev_notV (a := false) (ev_isi (ev_var rfl) (fun _ _ => ty_int) kit_ib)) fun _ => ?_) (by simp)) fun H1 e1 => q H1 e1
  exact ev_chain (ev_var rfl) (ev_var rfl) (fun _ => ev_var rfl) rv_I0 fun _ => rv_I0
theorem len_is_in : ∀ vs H Q E, sp_is_in vs H Q E → vs.length = 3 := by rintro vs H Q E ⟨v, a, b, rfl, q⟩; rfl
theorem sv_is_in {H : Hp} {v a b : Int} : SpV sp_is_in [.int v, .int a, .int b] H (.bl (decide (a ≤ v) && decide (v ≤ b))) := fun H1 _ Q q E => ⟨v, a, b, rfl, q⟩
theorem sv_is_in_yes {H : Hp} {v a b : Int} (h1 : a ≤ v) (h2 : v ≤ b) : SpV sp_is_in [.int v, .int a, .int b] H (.bl true) := fun H1 e Q q E => ⟨v, a, b, rfl, by rw [decide_eq_true h1, decide_eq_true h2]; exact q⟩

/-! ### gcd -/
def sp_gcd : Sp := fun vs H Q _ => ∃ a b : Nat, vs = [.int (a : Int), .int (b : Int)] ∧ ∀ H', Ex H H' → Q (.int (Nat.gcd a b : Int)) H'
theorem ev_absN {σ : L2.St} {H : Hp} {ta : TE} {a : Nat} (h : Ev ta σ H (.int (a : Int))) : Ev (tCB rAbs (tCons ta tNil)) σ H (.int (a : Int)) := fun H1 e Q q =>
  h H1 e _ fun H2 e2 => ⟨a, rfl, by rw [if_neg (by omega)]; exact q H2 e2⟩
theorem sv_gcd {H : Hp} {a b : Nat} : SpV sp_gcd [.int (a : Int), .int (b : Int)] H (.int (Nat.gcd a b : Int)) := fun H1 _ Q q E => ⟨a, b, rfl, q⟩
theorem gcd_turn {x y : Nat} (h : y ≠ 0) : Nat.gcd y (x % y) = Nat.gcd x y := by
  rw [Nat.gcd_comm x y, Nat.gcd_rec y x, Nat.gcd_comm]
theorem rd_gcd : ∀ vs H Q E, sp_gcd vs H Q E → t_gcd K { nx := fun _ H' => Q .non H', rt := Q } (start ["one", "other"] vs) H := by
  rintro vs H Q E ⟨a, b, rfl, q⟩
  unfold t_gcd
  have h0 : EvA (tCons (tCB rAbs (tCons (tVar 0) tNil)) (tCons (tCB rAbs (tCons (tVar 1) tNil)) tNil)) (start ["one", "other"] [.int (a : Int), .int (b : Int)]) H [.int (a : Int), .int (b : Int)] :=
    ea_cons (ev_absN (ev_var rfl)) (ea_cons (ev_absN (ev_var rfl)) ea_nil)
  refine q_par h0 fun H1 e1 => ?_
  refine q_while (fun m σ H' => ∃ x y : Nat, σ = [some (.int (x : Int)), some (.int (y : Int))] ∧ m = y ∧ Nat.gcd x y = Nat.gcd a b ∧ Ex H H') b ⟨a, b, rfl, rfl, rfl, e1⟩ fun m σ' H' hW => ?_
  obtain ⟨x, y, rfl, rfl, hg, e⟩ := hW
  refine ⟨_, et_test (ev_op (ev_var rfl) ev_c (rv_ne rfl)), fun hb H2 e2 => ?_, fun hb H2 e2 => ?_⟩
  · have hy : m ≠ 0 := by
      intro z
      subst z
      simp at hb
    refine ⟨fun σ' H' => ∃ x' y' : Nat, σ' = [some (.int (x' : Int)), some (.int (y' : Int))] ∧ y' < m ∧ Nat.gcd x' y' = Nat.gcd a b ∧ Ex H H', fun σ2 H3 ⟨x', y', h1, h2, h3, h4⟩ => ⟨y', h2, x', y', h1, rfl, h3, h4⟩, ?_⟩
    have h1 : EvA (tCons (tVar 1) (tCons (tOp (rI (fun _ j => 0 < j) fun i j => .int (i % j)) (tVar 0) (tVar 1)) tNil)) [some (.int (x : Int)), some (.int (m : Int))] H2 [.int (m : Int), .int ((x : Int) % (m : Int))] :=
      ea_cons (ev_var rfl) (ea_cons (ev_op (ev_var rfl) (ev_var rfl) (rv_I (by omega))) ea_nil)
    refine s_par h1 fun H3 e3 => ⟨m, x % m, ?_, Nat.mod_lt _ (by omega), (gcd_turn hy).trans hg, (e.trans e2).trans e3⟩
    rw [Int.natCast_emod]
    rfl
  · have hy : m = 0 := by
      have : ¬ (m : Int) ≠ 0 := by simpa using hb
      omega
    subst hy
    rw [Nat.gcd_zero_right] at hg
    refine s_ret (ev_var rfl) fun H3 e3 => ?_
    rw [hg]
    exact q H3 ((e.trans e2).trans e3)
theorem len_gcd : ∀ vs H Q E, sp_gcd vs H Q E → vs.length = 2 := by rintro vs H Q E ⟨a, b, rfl, q⟩; rfl
theorem ev_intN {σ : L2.St} {H : Hp} {ta : TE} {a : Int} (h : Ev ta σ H (.int a)) : Ev (tCB rInt1 (tCons ta tNil)) σ H (.int a) := fun H1 e Q q => h H1 e _ fun H2 e2 => .inl ⟨a, rfl, q H2 e2⟩
theorem rd_law_gcd : ∀ vs H Q E, sp_gcd vs H Q E → t_law_gcd K { nx := fun _ H' => Q .non H', rt := Q } (start ["_law_one", "_law_other"] vs) H := by
  rintro vs H Q E ⟨a, b, rfl, q⟩
  unfold t_law_gcd
  have h0 : EvA (tCons (tCB rAbs (tCons (tVar 0) tNil)) (tCons (tCB rAbs (tCons (tVar 1) tNil)) tNil)) (start ["_law_one", "_law_other"] [.int (a : Int), .int (b : Int)]) H [.int (a : Int), .int (b : Int)] :=
    ea_cons (ev_absN (ev_var rfl)) (ea_cons (ev_absN (ev_var rfl)) ea_nil)
  refine q_par h0 fun H1 e1 => ?_
  refine q_while (fun m σ H' => ∃ x y : Nat, σ = [some (.int (x : Int)), some (.int (y : Int))] ∧ m = y ∧ Nat.gcd x y = Nat.gcd a b ∧ Ex H H') b ⟨a, b, rfl, rfl, rfl, e1⟩ fun m σ' H' hW => ?_
  obtain ⟨x, y, rfl, rfl, hg, e⟩ := hW
  refine ⟨_, et_test (ev_op (ev_var rfl) ev_c (rv_ne rfl)), fun hb H2 e2 => ?_, fun hb H2 e2 => ?_⟩
  · have hy : m ≠ 0 := by
      intro z
      subst z
      simp at hb
    refine ⟨fun σ' H' => ∃ x' y' : Nat, σ' = [some (.int (x' : Int)), some (.int (y' : Int))] ∧ y' < m ∧ Nat.gcd x' y' = Nat.gcd a b ∧ Ex H H', fun σ2 H3 ⟨x', y', h1, h2, h3, h4⟩ => ⟨y', h2, x', y', h1, rfl, h3, h4⟩, ?_⟩
    have h1 : EvA (tCons (tVar 1) (tCons (tOp (rI (fun _ j => 0 < j) fun i j => .int (i % j)) (tCB rInt1 (tCons (tVar 0) tNil)) (tVar 1)) tNil)) [some (.int (x : Int)), some (.int (m : Int))] H2 [.int (m : Int), .int ((x : Int) % (m : Int))] :=
      ea_cons (ev_var rfl) (ea_cons (ev_op (ev_intN (ev_var rfl)) (ev_var rfl) (rv_I (by omega))) ea_nil)
    refine s_par h1 fun H3 e3 => ⟨m, x % m, ?_, Nat.mod_lt _ (by omega), (gcd_turn hy).trans hg, (e.trans e2).trans e3⟩
    rw [Int.natCast_emod]
    rfl
  · have hy : m = 0 := by
      have : ¬ (m : Int) ≠ 0 := by simpa using hb
      omega
    subst hy
    rw [Nat.gcd_zero_right] at hg
    refine s_ret (ev_var rfl) fun H3 e3 => ?_
    rw [hg]
    exact q H3 ((e.trans e2).trans e3)

/-! ### reduced, the law's ratio -/
def sp_red : Sp := fun vs H Q _ => ∃ a b : Nat, vs = [.int (a : Int), .int (b : Int)] ∧ 0 < a ∧ 0 < b ∧ a ≤ 1000 ∧ ∀ p H', H p = none → Ex H H' → H' p = some (.tup [.int ((red a b).1 : Int), .int ((red a b).2 : Int)]) → Q (.ref p) H'
theorem len_red : ∀ vs H Q E, sp_red vs H Q E → vs.length = 2 := by rintro vs H Q E ⟨a, b, rfl, q⟩; rfl
theorem gcd_div {a b : Nat} (ha : 0 < a) (h : a ≤ 1000) (x : Int) : CDiv x (Nat.gcd a b : Int) := by
  have h1 : 0 < Nat.gcd a b := Nat.gcd_pos_of_pos_left b ha
  have h2 : Nat.gcd a b ≤ a := Nat.gcd_le_left b ha
  exact ⟨by omega, by omega⟩
theorem rd_reduced : ∀ vs H Q E, sp_red vs H Q E → t_reduced K sp_gcd { nx := fun _ H' => Q .non H', rt := Q } (start ["numerator", "denominator", "common"] vs) H := by
  rintro vs H Q E ⟨a, b, rfl, ha, hb, hm, q⟩
  unfold t_reduced
  refine q_asg (v := .int (Nat.gcd a b : Int)) (ev_callV (ea_cons (ev_var rfl) (ea_cons (ev_var rfl) ea_nil)) sv_gcd) fun H1 e1 => ?_
  refine q_when (b := decide ((b : Int) < 0)) (et_test (ev_op (ev_var rfl) ev_c rv_I0)) (fun z => ?_) fun _ H2 e2 => ?_
  · have := of_decide_eq_true z; omega
  refine s_retU (xs := [.int ((red a b).1 : Int), .int ((red a b).2 : Int)]) (eu_tup (ea_cons (ev_is (ev_op (ev_var rfl) (ev_var rfl) (rv_I (gcd_div ha hm _))) ?_) (ea_cons (ev_is (ev_op (ev_var rfl) (ev_var rfl) (rv_I (gcd_div ha hm _))) ?_) ea_nil)) (by simp)) fun p H3 hp e3 h3 => q p H3 (fresh_back (e1.trans e2) hp) ((e1.trans e2).trans e3) h3
  · show V.int ((a : Int) / (Nat.gcd a b : Int)) = V.int (((a / Nat.gcd a b : Nat) : Int)); rw [Int.natCast_ediv]
  · show V.int ((b : Int) / (Nat.gcd a b : Int)) = V.int (((b / Nat.gcd a b : Nat) : Int)); rw [Int.natCast_ediv]
theorem rd_law_ratio : ∀ vs H Q E, sp_red vs H Q E → t_law_ratio K sp_gcd { nx := fun _ H' => Q .non H', rt := Q } (start ["_law_numerator", "_law_denominator", "_law_common"] vs) H := by
  rintro vs H Q E ⟨a, b, rfl, ha, hb, hm, q⟩
  unfold t_law_ratio
  refine q_asg (v := .int (Nat.gcd a b : Int)) (ev_callV (ea_cons (ev_var rfl) (ea_cons (ev_var rfl) ea_nil)) sv_gcd) fun H1 e1 => ?_
  refine q_asg (v := .int (Nat.gcd a b : Int)) (ev_if (b := decide ((b : Int) < 0)) (et_test (ev_op (ev_var rfl) ev_c rv_I0)) (fun z => ?_) fun _ => ev_var rfl) fun H2 e2 => ?_
  · have := of_decide_eq_true z; omega
  refine s_retU (xs := [.int ((red a b).1 : Int), .int ((red a b).2 : Int)]) (eu_tup (ea_cons (ev_is (ev_op (ev_var rfl) (ev_var rfl) (rv_I (gcd_div ha hm _))) ?_) (ea_cons (ev_is (ev_op (ev_var rfl) (ev_var rfl) (rv_I (gcd_div ha hm _))) ?_) ea_nil)) (by simp)) fun p H3 hp e3 h3 => q p H3 (fresh_back (e1.trans e2) hp) ((e1.trans e2).trans e3) h3
  · show V.int ((a : Int) / (Nat.gcd a b : Int)) = V.int (((a / Nat.gcd a b : Nat) : Int)); rw [Int.natCast_ediv]
  · show V.int ((b : Int) / (Nat.gcd a b : Int)) = V.int (((b / Nat.gcd a b : Nat) : Int)); rw [Int.natCast_ediv]
theorem su_red {H : Hp} {a b : Nat} (ha : 0 < a) (hb : 0 < b) (hm : a ≤ 1000) : SpU sp_red [.int (a : Int), .int (b : Int)] H [.int ((red a b).1 : Int), .int ((red a b).2 : Int)] := fun H1 _ Q q E => ⟨a, b, rfl, ha, hb, hm, q⟩

/-! ### times -/
def sp_times : Sp := fun vs H Q _ => ∃ (x y : Addr) (a b c d : Nat), vs = [.ref x, .ref y] ∧ H x = some (.tup [.int (a : Int), .int (b : Int)]) ∧ H y = some (.tup [.int (c : Int), .int (d : Int)]) ∧ 0 < a * c ∧ 0 < b * d ∧ a ≤ 100 ∧ b ≤ 100 ∧ a * c ≤ 1000 ∧
  ∀ p H', H p = none → Ex H H' → H' p = some (.tup [.int ((red (a * c) (b * d)).1 : Int), .int ((red (a * c) (b * d)).2 : Int)]) → Q (.ref p) H'
theorem len_times : ∀ vs H Q E, sp_times vs H Q E → vs.length = 2 := by rintro vs H Q E ⟨x, y, a, b, c, d, rfl, _⟩; rfl
theorem rd_times : ∀ vs H Q E, sp_times vs H Q E → t_times K sp_red { nx := fun _ H' => Q .non H', rt := Q } (start ["one", "other"] vs) H := by
  rintro vs H Q E ⟨x, y, a, b, c, d, rfl, hx, hy, h1, h2, h3, h4, h5, q⟩
  unfold t_times
  refine s_retU (eu_callU (vs := [.int ((a * c : Nat) : Int), .int ((b * d : Nat) : Int)]) (ea_cons (ev_is (ev_op (ev_t 0 (ev_var rfl) ev_c hx rfl) (ev_t 0 (ev_var rfl) ev_c hy rfl) (rv_I (.inl (by omega)))) ?_) (ea_cons (ev_is (ev_op (ev_t 1 (ev_var rfl) ev_c hx rfl) (ev_t 1 (ev_var rfl) ev_c hy rfl) (rv_I (.inl (by omega)))) ?_) ea_nil)) (su_red h1 h2 h5)) fun p H1 hp e1 g => q p H1 hp e1 g
  · rw [Int.natCast_mul]
  · rw [Int.natCast_mul]
theorem su_times {H : Hp} {x y : Addr} {a b c d : Nat} (hx : H x = some (.tup [.int (a : Int), .int (b : Int)])) (hy : H y = some (.tup [.int (c : Int), .int (d : Int)])) (h1 : 0 < a * c) (h2 : 0 < b * d) (h3 : a ≤ 100) (h4 : b ≤ 100) (h5 : a * c ≤ 1000) :
    SpU sp_times [.ref x, .ref y] H [.int ((red (a * c) (b * d)).1 : Int), .int ((red (a * c) (b * d)).2 : Int)] := fun H1 e Q q E => ⟨x, y, a, b, c, d, rfl, e _ _ hx, e _ _ hy, h1, h2, h3, h4, h5, q⟩
end
end K8

-- K8RdB
/-! K8RdB: a flow's checks, tokens, firing. -/
namespace K8
open PySem PySem.Spec L2 Evl
open Classical in
noncomputable def canB (ps : List Pipe) (d : Nat → Nat) (b : Nat) : Bool := decide (canFire ps d b)
theorem canB_iff {ps : List Pipe} {d : Nat → Nat} {b : Nat} : canB ps d b = true ↔ canFire ps d b := by unfold canB; simp
/-- a flow that passes the check -/
structure Valid (n : Nat) (ps : List Pipe) : Prop where
  n1 : 1 ≤ n
  n8 : n ≤ 8
  len : ps.length ≤ 16
  ends : EndsOk n ps
  rates : ∀ p ∈ ps, 1 ≤ p.give ∧ p.give ≤ 999 ∧ 1 ≤ p.eat ∧ p.eat ≤ 999
  toks : ∀ p ∈ ps, p.start ≤ 99999
section
variable {K : PySem.W.Frag} {n : Nat} {ps : List Pipe}
/-! ### is_pipe, need_flow -/
def sp_is_pipe : Sp := fun vs H Q _ => ∃ (a : Addr) (p : Pipe) (n : Nat), vs = [.ref a, .int (n : Int)] ∧ H a = some (.tup (pV p)) ∧ p.one < n ∧ p.other < n ∧ 1 ≤ p.give ∧ p.give ≤ 999 ∧ 1 ≤ p.eat ∧ p.eat ≤ 999 ∧ p.start ≤ 99999 ∧ ∀ H', Ex H H' → Q (.bl true) H'
theorem len_is_pipe : ∀ vs H Q E, sp_is_pipe vs H Q E → vs.length = 2 := by rintro vs H Q E ⟨a, p, n, rfl, _⟩; rfl
theorem rd_is_pipe : ∀ vs H Q E, sp_is_pipe vs H Q E → t_is_pipe K sp_is_in { nx := fun _ H' => Q .non H', rt := Q } (start ["value", "boxes"] vs) H := by
  rintro vs H Q E ⟨a, p, n, rfl, ha, h1, h2, h3, h4, h5, h6, h7, q⟩
  unfold t_is_pipe
  refine q_when (b := false || false) (et_or (et_not (a := true) (et_B (ev_isi (ev_var rfl) (fun H1 e => ty_tup (e _ _ ha)) kit_tt))) fun _ => et_is (et_test (ev_op (ev_lenT (ev_var rfl) ha) ev_c (rv_ne rfl))) rfl) (fun z => nomatch z) fun _ H1 e1 => ?_
  have ha := e1 _ _ ha
  refine q_when (b := false || false) (et_or (et_not (a := true) (et_B (ev_callV (ea_cons (ev_t 0 (ev_var rfl) ev_c ha rfl) (ea_cons ev_c (ea_cons (ev_op (ev_var rfl) ev_c rv_I0) ea_nil))) (sv_is_in_yes (by omega) (by omega))))) fun _ =>
    et_not (a := true) (et_B (ev_callV (ea_cons (ev_t 1 (ev_var rfl) ev_c ha rfl) (ea_cons ev_c (ea_cons (ev_op (ev_var rfl) ev_c rv_I0) ea_nil))) (sv_is_in_yes (by omega) (by omega))))) (fun z => nomatch z) fun _ H2 e2 => ?_
  have ha := e2 _ _ ha
  refine q_when (b := false || false) (et_or (et_not (a := true) (et_B (ev_callV (ea_cons (ev_t 2 (ev_var rfl) ev_c ha rfl) (ea_cons ev_c (ea_cons ev_c ea_nil))) (sv_is_in_yes (by omega) (by omega))))) fun _ =>
    et_not (a := true) (et_B (ev_callV (ea_cons (ev_t 3 (ev_var rfl) ev_c ha rfl) (ea_cons ev_c (ea_cons ev_c ea_nil))) (sv_is_in_yes (by omega) (by omega))))) (fun z => nomatch z) fun _ H3 e3 => ?_
  have ha := e3 _ _ ha
  exact s_ret (ev_callV (ea_cons (ev_t 4 (ev_var rfl) ev_c ha rfl) (ea_cons ev_c (ea_cons ev_c ea_nil))) (sv_is_in_yes (by omega) (by omega))) fun H4 e4 => q H4 (((e1.trans e2).trans e3).trans e4)
def sp_need_flow : Sp := fun vs H Q _ => ∃ v n ps, vs = [v] ∧ IsFlow H v n ps ∧ Valid n ps ∧ ∀ H', Ex H H' → Q .non H'
theorem len_need_flow : ∀ vs H Q E, sp_need_flow vs H Q E → vs.length = 1 := by rintro vs H Q E ⟨v, n, ps, rfl, _⟩; rfl
theorem rd_need_flow : ∀ vs H Q E, sp_need_flow vs H Q E → t_need_flow K sp_is_in sp_is_pipe { nx := fun _ H' => Q .non H', rt := Q } (start ["flow", "index", "pipe"] vs) H := by
  rintro vs H Q E ⟨v, n, ps, rfl, ⟨t, q0, as, rfl, F⟩, hv, q⟩
  have h1 := hv.n1
  have h8 := hv.n8
  unfold t_need_flow
  refine q_when (b := false || (false || false)) (et_or (et_not (a := true) (et_B (ev_isi (ev_var rfl) (fun H1 e => ty_tup (e _ _ F.top)) kit_tt))) fun _ => et_or (et_is (et_test (ev_op (ev_lenT (ev_var rfl) F.top) ev_c (rv_ne rfl))) rfl) fun _ =>
    et_not (a := true) (et_B (ev_callV (ea_cons (ev_f0 rfl F) (ea_cons ev_c (ea_cons ev_c ea_nil))) (sv_is_in_yes (by omega) (by omega))))) (fun z => nomatch z) fun _ H1 e1 => ?_
  have F1 := F.mono e1
  have hl : (as.map V.ref).length ≤ 16 := by rw [List.length_map, F.pipes.len]; exact hv.len
  refine q_when (b := false || false) (et_or (et_not (a := true) (et_B (ev_isi (ev_f1 rfl F1) (fun H1 e => ty_tup (e _ _ F1.row)) kit_tt))) fun _ => et_is (et_test (ev_op (ev_lenT (ev_f1 rfl F1) F1.row) ev_c rv_I0)) (decide_eq_false (by omega))) (fun z => nomatch z) fun _ H2 e2 => ?_
  have e12 := e1.trans e2
  have F2 := F.mono e12
  refine s_forEnum F.row e12 (ev_f1 rfl F2) (fun i σ' H' => ∃ y1 y2, σ' = [some (.ref t), y1, y2] ∧ Ex H H') (fun H3 e3 => ⟨_, _, rfl, e12.trans e3⟩) (fun i σ' H' p => let ⟨_, _, _, e⟩ := p; e) (fun i x σ' H' H3 hx p e3 => ?_) fun σ' H' p => let ⟨_, _, _, e⟩ := p; q H' e
  obtain ⟨y1, y2, rfl, e⟩ := p
  obtain ⟨a, pp, rfl, ha, hp, hat⟩ := F.pipes.getp hx
  have hm : pp ∈ ps := List.mem_of_getElem? hp
  have he := hv.ends pp hm
  have hr := hv.rates pp hm
  have ht := hv.toks pp hm
  have F3 := F.mono (e.trans e3)
  refine s_when (b := false) (et_not (a := true) (et_B (ev_callV (ea_cons (ev_var rfl) (ea_cons (ev_f0 rfl F3) ea_nil)) fun H4 e4 Q' q' E' => ⟨a, pp, n, rfl, e4 _ _ ((e.trans e3) _ _ hat), he.1, he.2, hr.1, hr.2.1, hr.2.2.1, hr.2.2.2, ht, q'⟩))) (fun z => nomatch z) fun _ H4 e4 => ⟨_, _, rfl, (e.trans e3).trans e4⟩
theorem ev_need_flow {σ : L2.St} {H : Hp} {v : V} (F : IsFlow H v n ps) (hv : Valid n ps) : SpV sp_need_flow [v] H .non := fun H1 e Q q E => ⟨v, n, ps, rfl, F.mono e, hv, q⟩

/-! ### counts that pass the check -/
def sp_need_counts : Sp := fun vs H Q _ => ∃ (v : V) (n : Nat) (ps : List Pipe) (c : Addr) (f : Nat → Nat), vs = [v, .ref c] ∧ IsFlow H v n ps ∧ H c = some (.tup ((cZ n f).map V.int)) ∧ (∀ k, k < n → f k ≤ 200) ∧ ∀ H', Ex H H' → Q .non H'
theorem len_need_counts : ∀ vs H Q E, sp_need_counts vs H Q E → vs.length = 2 := by rintro vs H Q E ⟨v, n, ps, c, f, rfl, _⟩; rfl
theorem cV_getp {n i : Nat} {c : Nat → Nat} {x : V} (h : ((cZ n c).map V.int)[i]? = some x) : i < n ∧ x = .int (c i : Int) := by
  have hi : i < n := by
    have := (List.getElem?_eq_some_iff.mp h).1
    rw [cV_len] at this; exact this
  rw [cV_get hi] at h
  exact ⟨hi, (Option.some.inj h).symm⟩
theorem rd_need_counts : ∀ vs H Q E, sp_need_counts vs H Q E → t_need_counts K sp_is_in { nx := fun _ H' => Q .non H', rt := Q } (start ["flow", "counts", "index", "one"] vs) H := by
  rintro vs H Q E ⟨v, n, ps, c, f, rfl, ⟨t, q0, as, rfl, F⟩, hc, hf, q⟩
  unfold t_need_counts
  refine q_when (b := false || false) (et_or (et_not (a := true) (et_B (ev_isi (ev_var rfl) (fun H1 e => ty_tup (e _ _ hc)) kit_tt))) fun _ => et_is (et_test (ev_op (ev_lenT (ev_var rfl) hc) (ev_f0 rfl F) (rv_ne rfl))) (by rw [cV_len, decide_eq_true rfl]; rfl)) (fun z => nomatch z) fun _ H1 e1 => ?_
  refine s_forEnum (e1 _ _ hc) (Ex.refl H1) (ev_var rfl) (fun i σ' H' => ∃ y1 y2, σ' = [some (.ref t), some (.ref c), y1, y2] ∧ Ex H1 H') (fun H3 e3 => ⟨_, _, rfl, e3⟩) (fun i σ' H' p => let ⟨_, _, _, e⟩ := p; e) (fun i x σ' H' H3 hx p e3 => ?_) fun σ' H' p => let ⟨_, _, _, e⟩ := p; q H' (e1.trans e)
  obtain ⟨y1, y2, rfl, e⟩ := p
  obtain ⟨hi, rfl⟩ := cV_getp hx
  have := hf i hi
  refine s_when (b := false) (et_not (a := true) (et_B (ev_callV (ea_cons (ev_var rfl) (ea_cons ev_c (ea_cons ev_c ea_nil))) (sv_is_in_yes (by omega) (by omega))))) (fun z => nomatch z) fun _ H4 e4 => ⟨_, _, rfl, (e.trans e3).trans e4⟩
def sp_need_both : Sp := fun vs H Q _ => ∃ (v : V) (n : Nat) (ps : List Pipe) (c : Addr) (f : Nat → Nat), vs = [v, .ref c] ∧ IsFlow H v n ps ∧ Valid n ps ∧ H c = some (.tup ((cZ n f).map V.int)) ∧ (∀ k, k < n → f k ≤ 200) ∧ ∀ H', Ex H H' → Q .non H'
theorem len_need_both : ∀ vs H Q E, sp_need_both vs H Q E → vs.length = 2 := by rintro vs H Q E ⟨v, n, ps, c, f, rfl, _⟩; rfl
theorem rd_need_both : ∀ vs H Q E, sp_need_both vs H Q E → t_need_both K sp_need_flow sp_need_counts { nx := fun _ H' => Q .non H', rt := Q } (start ["flow", "counts"] vs) H := by
  rintro vs H Q E ⟨v, n, ps, c, f, rfl, F, hv, hc, hf, q⟩
  unfold t_need_both
  refine q_drop (v := .non) (ev_callV (ea_cons (ev_var rfl) ea_nil) fun H1 e Q' q' E' => ⟨v, n, ps, rfl, F.mono e, hv, q'⟩) fun H1 e1 => ?_
  exact s_drop (v := .non) (ev_callV (ea_cons (ev_var rfl) (ea_cons (ev_var rfl) ea_nil)) fun H2 e Q' q' E' => ⟨v, n, ps, c, f, rfl, F.mono (e1.trans e), (e1.trans e) _ _ hc, hf, q'⟩) fun H2 e2 => q H2 (e1.trans e2)
theorem sv_need_both {H : Hp} {v : V} {c : Addr} {f : Nat → Nat} (F : IsFlow H v n ps) (hv : Valid n ps) (hc : H c = some (.tup ((cZ n f).map V.int))) (hf : ∀ k, k < n → f k ≤ 200) : SpV sp_need_both [v, .ref c] H .non :=
  fun H1 e Q q E => ⟨v, n, ps, c, f, rfl, F.mono e, hv, e _ _ hc, hf, q⟩

/-! ### tokens at first -/
def sp_marks : Sp := fun vs H Q _ => ∃ v n ps, vs = [v] ∧ IsFlow H v n ps ∧ ps.length ≤ 16 ∧ ∀ p H', H p = none → Ex H H' → H' p = some (.tup ((tZ ps zeroD).map V.int)) → Q (.ref p) H'
theorem len_marks : ∀ vs H Q E, sp_marks vs H Q E → vs.length = 1 := by rintro vs H Q E ⟨v, n, ps, rfl, _⟩; rfl
theorem el_col {σ : L2.St} {H : Hp} {i j : Nat} {t q0 : Addr} {as : List Addr} {vs : List Nat} (k : Nat) (f : Pipe → Int) (hi : σ[i]? = some (some (.ref t))) (F : FlowAt H t q0 as n ps) (hl : ps.length ≤ 16)
    (hw : ∀ x, wipe ((wipe σ vs).set j (some x)) vs = wipe σ vs) (hj : ∀ x, ((wipe σ vs).set j (some x))[j]? = some (some x)) (hf : ∀ p, (pV p)[k]? = some (.int (f p))) :
    EvL (tLc (iTup K (tOp (rIx K) (tVar i) (tC (.int 1)))) (gName j) tYes (tOp (rIx K) (tVar j) (tC (.int (k : Int)))) vs) σ H ((ps.map f).map V.int) := by
  have h := el_lcT (K := K) (σ := σ) (H := H) (tl := tOp (rIx K) (tVar i) (tC (.int 1))) (vs := vs) (tt := tYes) (te := tOp (rIx K) (tVar j) (tC (.int (k : Int)))) (zs := ps) (j := j) (fun _ => true) (fun p => V.int (f p)) (ev_f1 hi F) F.row (by rw [List.length_map, F.pipes.len]) (by omega) hw (fun _ _ _ _ _ _ _ => et_yes) fun i x p H1 e hx hp _ => by
    obtain ⟨a, pp, rfl, ha, hp', hat⟩ := F.pipes.getp hx
    rw [hp] at hp'
    cases hp'
    exact ev_t k (ev_var (hj _)) ev_c (e _ _ hat) (hf p)
  rw [filter_yes] at h
  rw [List.map_map]
  exact h
theorem rd_marks_in : ∀ vs H Q E, sp_marks vs H Q E → t_marks_in K { nx := fun _ H' => Q .non H', rt := Q } (start ["flow", "pipe"] vs) H := by
  rintro vs H Q E ⟨v, n, ps, rfl, ⟨t, q0, as, rfl, F⟩, hl, q⟩
  unfold t_marks_in
  rw [tZ_zero] at q
  exact s_retU (eu_tupN (el_col 4 (fun p => (p.start : Int)) rfl F hl (fun _ => rfl) (fun _ => rfl) fun _ => rfl)) fun p H1 hp e1 h1 => q p H1 hp e1 h1
theorem rd_law_some : ∀ vs H Q E, sp_marks vs H Q E → t_law_some K { nx := fun _ H' => Q .non H', rt := Q } (start ["_law_flow_here", "_law_pipe"] vs) H := by
  rintro vs H Q E ⟨v, n, ps, rfl, ⟨t, q0, as, rfl, F⟩, hl, q⟩
  unfold t_law_some
  rw [tZ_zero] at q
  exact s_retU (eu_tupN (el_col 4 (fun p => (p.start : Int)) rfl F hl (fun _ => rfl) (fun _ => rfl) fun _ => rfl)) fun p H1 hp e1 h1 => q p H1 hp e1 h1
theorem su_marks {H : Hp} {v : V} (F : IsFlow H v n ps) (hl : ps.length ≤ 16) : SpU sp_marks [v] H ((tZ ps zeroD).map V.int) := fun H1 e Q q E => ⟨v, n, ps, rfl, F.mono e, hl, q⟩

/-! ### lacks -/
def sp_lacks : Sp := fun vs H Q _ => ∃ (v : V) (n : Nat) (ps : List Pipe) (s : Addr) (d : Nat → Nat) (b : Nat), vs = [v, .ref s, .int (b : Int)] ∧ IsFlow H v n ps ∧ H s = some (.tup ((tZ ps d).map V.int)) ∧
  ∀ (u : V) H', Ex H H' → ((u = .non ∧ canFire ps d b) ∨ (∃ i, u = .int i) ∧ ¬ canFire ps d b) → Q u H'
theorem len_lacks : ∀ vs H Q E, sp_lacks vs H Q E → vs.length = 3 := by rintro vs H Q E ⟨v, n, ps, s, d, b, rfl, _⟩; rfl
theorem rd_lacks : ∀ vs H Q E, sp_lacks vs H Q E → t_lacks K { nx := fun _ H' => Q .non H', rt := Q } (start ["flow", "some", "box", "index", "one", "other", "give", "eat", "start"] vs) H := by
  rintro vs H Q E ⟨v, n, ps, s, d, b, rfl, ⟨t, q0, as, rfl, F⟩, hs, q⟩
  unfold t_lacks
  refine q_forPipes F (Ex.refl H) rfl (fun i σ' H' => ∃ y3 y4 y5 y6 y7 y8, σ' = [some (.ref t), some (.ref s), some (.int (b : Int)), y3, y4, y5, y6, y7, y8] ∧ Ex H H' ∧ ∀ (j : Nat) p, j < i → ps[j]? = some p → p.other = b → (p.eat : Int) ≤ tok d p)
    (fun H1 e1 => ⟨_, _, _, _, _, _, rfl, e1, fun j p hj => absurd hj (Nat.not_lt_zero j)⟩) (fun i σ' H' p => let ⟨_, _, _, _, _, _, _, e, _⟩ := p; e) (fun i p σ' H' H2 hp pv e2 => ?_) fun σ' H' pv => ?_
  · obtain ⟨y3, y4, y5, y6, y7, y8, rfl, e, hall⟩ := pv
    have hs2 := (e.trans e2) _ _ hs
    refine s_when (b := decide ((p.other : Int) = (b : Int)) && decide (tok d p < (p.eat : Int))) (et_and (et_is (et_test (ev_op (ev_var rfl) (ev_var rfl) (rv_eq rfl))) (by simp)) fun _ => et_test (ev_op (ev_t i (ev_var rfl) (ev_var rfl) hs2 (tV_get hp)) (ev_var rfl) rv_I0)) (fun hb H3 e3 => ?_) fun hb H3 e3 => ⟨_, _, _, _, _, _, rfl, (e.trans e2).trans e3, fun j p' hj hp' ho => ?_⟩
    · obtain ⟨h1, h2⟩ := Bool.and_eq_true_iff.mp hb
      have h1 := of_decide_eq_true h1
      have h2 := of_decide_eq_true h2
      refine s_ret (ev_var rfl) fun H4 e4 => q _ H4 (((e.trans e2).trans e3).trans e4) (.inr ⟨⟨_, rfl⟩, fun hc => ?_⟩)
      have := hc p (List.mem_of_getElem? hp) (by omega)
      omega
    · by_cases hji : j = i
      · subst hji
        rw [hp] at hp'
        cases hp'
        apply Classical.byContradiction
        intro hn
        have hb1 : decide ((p.other : Int) = (b : Int)) = true := decide_eq_true (by omega)
        have hb2 : decide (tok d p < (p.eat : Int)) = true := decide_eq_true (by omega)
        rw [hb1, hb2] at hb
        cases hb
      · exact hall j p' (by omega) hp' ho
  · obtain ⟨y3, y4, y5, y6, y7, y8, rfl, e, hall⟩ := pv
    refine s_ret ev_c fun H1 e1 => q _ H1 (e.trans e1) (.inl ⟨rfl, fun p hp ho => ?_⟩)
    obtain ⟨j, hj⟩ := List.getElem?_of_mem hp
    exact hall j p (List.getElem?_eq_some_iff.mp hj).1 hj ho
/-- a test by lacks -/
theorem ep_lacks {σ : L2.St} {H : Hp} {v : V} {s : Addr} {d : Nat → Nat} {b : Nat} {ta : TA} {E : XK} (h : EvA ta σ H [v, .ref s, .int (b : Int)]) (F : IsFlow H v n ps) (hs : H s = some (.tup ((tZ ps d).map V.int))) :
    EvP (tCall sp_lacks [] E ta) σ H (fun u _ => (u = .non ∧ canFire ps d b) ∨ (∃ i, u = .int i) ∧ ¬ canFire ps d b) := ep_call h fun H1 e Q q E => ⟨v, n, ps, s, d, b, rfl, F.mono e, e _ _ hs, fun u H' e' h' => q u H' e' h'⟩
theorem et_lacks {σ : L2.St} {H : Hp} {v : V} {s : Addr} {d : Nat → Nat} {b : Nat} {ta : TA} {E : XK} (h : EvA ta σ H [v, .ref s, .int (b : Int)]) (F : IsFlow H v n ps) (hs : H s = some (.tup ((tZ ps d).map V.int))) :
    EvT (tB (tIsN (tCall sp_lacks [] E ta))) σ H (canB ps d b) := fun H1 e Q q => by
  refine ep_lacks h F hs H1 e _ fun u H2 e2 hu => ⟨_, rfl, ?_⟩
  rcases hu with ⟨rfl, hc⟩ | ⟨⟨i, rfl⟩, hc⟩
  · have : canB ps d b = true := canB_iff.mpr hc
    rw [this] at q
    exact q H2 e2
  · have : canB ps d b = false := by
      cases hh : canB ps d b with
      | false => rfl
      | true => exact absurd (canB_iff.mp hh) hc
    rw [this] at q
    exact q H2 e2
theorem et_lacksN {σ : L2.St} {H : Hp} {v : V} {s : Addr} {d : Nat → Nat} {b : Nat} {ta : TA} {E : XK} (h : EvA ta σ H [v, .ref s, .int (b : Int)]) (F : IsFlow H v n ps) (hs : H s = some (.tup ((tZ ps d).map V.int))) :
    EvT (tB (tNotN (tCall sp_lacks [] E ta))) σ H (!canB ps d b) := fun H1 e Q q => by
  refine ep_lacks h F hs H1 e _ fun u H2 e2 hu => ⟨_, rfl, ?_⟩
  rcases hu with ⟨rfl, hc⟩ | ⟨⟨i, rfl⟩, hc⟩
  · have : canB ps d b = true := canB_iff.mpr hc
    rw [this] at q
    exact q H2 e2
  · have : canB ps d b = false := by
      cases hh : canB ps d b with
      | false => rfl
      | true => exact absurd (canB_iff.mp hh) hc
    rw [this] at q
    exact q H2 e2
end
end K8

-- K8RdC
/-! K8RdC: firing, words, what counts leave. -/
namespace K8
open PySem PySem.Spec L2 Evl
/-! ### a list that is changed item by item -/
theorem mid_get {α β : Type} {l : List α} {f g : α → β} {i : Nat} {x : α} (h : l[i]? = some x) : ((l.take i).map f ++ (l.drop i).map g)[i]? = some (g x) := by
  have hi : i < l.length := (List.getElem?_eq_some_iff.mp h).1
  have hl : ((l.take i).map f).length = i := by rw [List.length_map, List.length_take]; omega
  rw [List.getElem?_append_right (by omega), hl, Nat.sub_self, List.getElem?_map, List.getElem?_drop, Nat.add_zero, h]
  rfl
theorem mid_set {α β : Type} {l : List α} {f g : α → β} {i : Nat} {x : α} (h : l[i]? = some x) : ((l.take i).map f ++ (l.drop i).map g).set i (f x) = (l.take (i + 1)).map f ++ (l.drop (i + 1)).map g := by
  have hi : i < l.length := (List.getElem?_eq_some_iff.mp h).1
  have hl : ((l.take i).map f).length = i := by rw [List.length_map, List.length_take]; omega
  have hd : l.drop i = x :: l.drop (i + 1) := by
    have hx : l[i] = x := by rw [List.getElem?_eq_getElem hi] at h; exact Option.some.inj h
    rw [← hx]
    exact (List.drop_eq_getElem_cons hi)
  rw [List.set_append_right _ _ (by omega), hl, Nat.sub_self, hd, List.map_cons, List.set_cons_zero, List.take_add_one, h, List.map_append, List.append_assoc]
  rfl
theorem dec_cast {x y : Nat} : decide (V.int (x : Int) = V.int (y : Int)) = decide (x = y) := by
  by_cases h : x = y
  · subst h
    rw [decide_eq_true rfl, decide_eq_true rfl]
  · rw [decide_eq_false h, decide_eq_false fun z => h (by have := V.int.inj z; omega)]
theorem nV_eq (l : List Nat) : (nZ l).map V.int = l.map fun (k : Nat) => V.int (k : Int) := by
  rw [nZ, List.map_map]
  rfl
section
variable {K : PySem.W.Frag} {n : Nat} {ps : List Pipe}
/-! ### behind, the law's next -/
def sp_behind : Sp := fun vs H Q _ => ∃ (v : V) (n : Nat) (ps : List Pipe) (s : Addr) (d : Nat → Nat) (b : Nat), vs = [v, .ref s, .int (b : Int)] ∧ IsFlow H v n ps ∧ ps.length ≤ 16 ∧ H s = some (.tup ((tZ ps d).map V.int)) ∧
  ∀ p H', H p = none → Ex H H' → H' p = some (.tup ((tZ ps (inc d b)).map V.int)) → Q (.ref p) H'
theorem len_behind : ∀ vs H Q E, sp_behind vs H Q E → vs.length = 3 := by rintro vs H Q E ⟨v, n, ps, s, d, b, rfl, _⟩; rfl
theorem su_behind {H : Hp} {v : V} {s : Addr} {d : Nat → Nat} {b : Nat} (F : IsFlow H v n ps) (hl : ps.length ≤ 16) (hs : H s = some (.tup ((tZ ps d).map V.int))) : SpU sp_behind [v, .ref s, .int (b : Int)] H ((tZ ps (inc d b)).map V.int) :=
  fun H1 e Q q E => ⟨v, n, ps, s, d, b, rfl, F.mono e, hl, e _ _ hs, q⟩
theorem ite_int {σ : L2.St} {H : Hp} {x y : Nat} {ta tb tc : TE} {z : Int} (ha : Ev ta σ H (.int (x : Int))) (hb : Ev tb σ H (.int (y : Int))) (hc : Ev tc σ H (.int z)) :
    Ev (tIf (tTest (tOp rEq ta tb)) tc (tC (.int 0))) σ H (.int (if x = y then z else 0)) := by
  refine ev_if (b := decide (x = y)) (et_is (et_test (ev_op ha hb (rv_eq rfl))) dec_cast) (fun h => ?_) fun h => ?_
  · rw [if_pos (of_decide_eq_true h)]; exact hc
  · rw [if_neg (of_decide_eq_false h)]; exact ev_c
theorem rd_behind : ∀ vs H Q E, sp_behind vs H Q E → t_behind K { nx := fun _ H' => Q .non H', rt := Q } (start ["flow", "some", "box", "found", "index", "one", "other", "give", "eat", "start"] vs) H := by
  rintro vs H Q E ⟨v, n, ps, s, d, b, rfl, ⟨t, q0, as, rfl, F⟩, hlen, hs, q⟩
  unfold t_behind
  refine q_asgL (el_listT (ev_var rfl) (.inr (SqT.of hs))) fun l H1 hl e1 h1 => ?_
  have F1 := F.mono e1
  refine q_forPipes (i0 := 0) F e1 rfl (fun i σ' H' => ∃ y4 y5 y6 y7 y8 y9, σ' = [some (.ref t), some (.ref s), some (.int (b : Int)), some (.ref l), y4, y5, y6, y7, y8, y9] ∧ Ex H H' ∧ H' l = some (.lst (((ps.take i).map (fun p => V.int (tok (inc d b) p))) ++ ((ps.drop i).map (fun p => V.int (tok d p))))))
    (fun H2 e2 => ⟨_, _, _, _, _, _, rfl, e1.trans e2, ?_⟩) (fun i σ' H' p => let ⟨_, _, _, _, _, _, _, e, _⟩ := p; e) (fun i p σ' H' H2 hp pv e2 => ?_) fun σ' H' pv => ?_
  · have := e2 _ _ h1
    rw [this]
    simp [tZ, List.map_map]
  · obtain ⟨y4, y5, y6, y7, y8, y9, rfl, e, hm⟩ := pv
    refine s_augL (K := K) (j := i) (ev_var rfl) (ev_var rfl) (e2 _ _ hm) (mid_get hp) (ev_op (ite_int (ev_var rfl) (ev_var rfl) (ev_var rfl)) (ite_int (ev_var rfl) (ev_var rfl) (ev_var rfl)) rv_I0) fun H3 e3 => ⟨_, _, _, _, _, _, rfl, Ex.mut ((e.trans e2).trans e3) hl, ?_⟩
    rw [upd_same, ← mid_set hp, tok_inc]
  · obtain ⟨y4, y5, y6, y7, y8, y9, rfl, e, hm⟩ := pv
    have hm' : H' l = some (.lst ((tZ ps (inc d b)).map V.int)) := by
      rw [hm, List.take_length, List.drop_length]
      simp [tZ, List.map_map]
    exact s_retU (eu_tupL (ev_var rfl) hm') fun p H2 hp e2 h2 => q p H2 (fresh_back e hp) (e.trans e2) h2
theorem rd_law_next : ∀ vs H Q E, sp_behind vs H Q E → t_law_next K { nx := fun _ H' => Q .non H', rt := Q } (start ["_law_flow_here", "_law_some_here", "_law_box", "_law_found", "_law_k", "_law_one", "_law_other", "_law_give", "_law_eat", "_law_start"] vs) H := by
  rintro vs H Q E ⟨v, n, ps, s, d, b, rfl, ⟨t, q0, as, rfl, F⟩, hlen, hs, q⟩
  unfold t_law_next
  refine q_asgL el_nil fun l H1 hl e1 h1 => ?_
  refine q_forR1 (n := (ps.length : Int)) (ea_cons (ev_is (ev_lenT (ev_var rfl) (e1 _ _ hs)) (by rw [tV_len])) ea_nil) (by omega)
    (fun i σ' H' => ∃ y4 y5 y6 y7 y8 y9, σ' = [some (.ref t), some (.ref s), some (.int (b : Int)), some (.ref l), y4, y5, y6, y7, y8, y9] ∧ Ex H H' ∧ H' l = some (.lst ((ps.take i).map fun p => V.int (tok (inc d b) p))))
    (fun H2 e2 => ⟨_, _, _, _, _, _, rfl, e1.trans e2, e2 _ _ h1⟩) (fun i σ' H' hi pv => ?_) fun σ' H' pv => ?_
  · obtain ⟨y4, y5, y6, y7, y8, y9, rfl, e, hm⟩ := pv
    have hi' : i < ps.length := by omega
    have hp := List.getElem?_eq_getElem hi'
    obtain ⟨a, ha, hat⟩ := F.pipes.get hp
    have F1 := F.mono e
    refine q_asgPipe (p := ps[i]) (a := a) (ev_t i (ev_f1 rfl F1) (ev_var rfl) F1.row (by rw [List.getElem?_map, ha]; rfl)) (e _ _ hat) fun H2 e2 => ?_
    have e12 := e.trans e2
    refine s_app (e2 _ _ hm) (ev_var rfl) (ev_op (ev_op (ev_t i (ev_var rfl) (ev_var rfl) (e12 _ _ hs) (tV_get hp)) (ite_int (ev_var rfl) (ev_var rfl) (ev_var rfl)) rv_I0) (ite_int (ev_var rfl) (ev_var rfl) (ev_var rfl)) rv_I0) (by rw [List.length_map, List.length_take]; omega) fun H3 e3 => ⟨_, _, _, _, _, _, rfl, Ex.mut (e12.trans e3) hl, ?_⟩
    have e5 : ((tok d ps[i] - if ps[i].other = b then (ps[i].eat : Int) else 0) + if ps[i].one = b then (ps[i].give : Int) else 0) = tok (inc d b) ps[i] := by
      rw [tok_inc]
      omega
    rw [upd_same, List.take_add_one, hp, List.map_append, e5]
    rfl
  · obtain ⟨y4, y5, y6, y7, y8, y9, rfl, e, hm⟩ := pv
    have hm' : H' l = some (.lst ((tZ ps (inc d b)).map V.int)) := by
      rw [hm]
      have en : ((ps.length : Int)).toNat = ps.length := by omega
      rw [en, List.take_length]
      simp [tZ, List.map_map]
    exact s_retU (eu_tupL (ev_var rfl) hm') fun p H2 hp e2 h2 => q p H2 (fresh_back e hp) (e.trans e2) h2

/-! ### fireable_in, the law's can -/
def sp_fireable : Sp := fun vs H Q _ => ∃ (v : V) (n : Nat) (ps : List Pipe) (s : Addr) (d : Nat → Nat), vs = [v, .ref s] ∧ IsFlow H v n ps ∧ n ≤ 8 ∧ H s = some (.tup ((tZ ps d).map V.int)) ∧
  ∀ p H', H p = none → Ex H H' → H' p = some (.lst ((nZ ((List.range n).filter (canB ps d))).map V.int)) → Q (.ref p) H'
theorem len_fireable : ∀ vs H Q E, sp_fireable vs H Q E → vs.length = 2 := by rintro vs H Q E ⟨v, n, ps, s, d, rfl, _⟩; rfl
theorem rd_fireable_in : ∀ vs H Q E, sp_fireable vs H Q E → t_fireable_in K sp_lacks { nx := fun _ H' => Q .non H', rt := Q } (start ["flow", "some", "box"] vs) H := by
  rintro vs H Q E ⟨v, n, ps, s, d, rfl, ⟨t, q0, as, rfl, F⟩, hn, hs, q⟩
  unfold t_fireable_in
  have h := el_lcR (σ := start ["flow", "some", "box"] [.ref t, .ref s]) (H := H) (ta := tCons (tOp (rIx K) (tVar 0) (tC (.int 0))) tNil) (m := n) (j := 2) (vs := [2]) (tt := tB (tIsN (tCall sp_lacks [] E0 (tCons (tVar 0) (tCons (tVar 1) (tCons (tVar 2) tNil)))))) (te := tVar 2)
    (canB ps d) (fun k => V.int (k : Int)) (ea_cons (ev_f0 rfl F) ea_nil) (by omega) (fun _ => rfl) (fun i H' e _ => et_lacks (ea_cons (ev_var rfl) (ea_cons (ev_var rfl) (ea_cons (ev_var rfl) ea_nil))) ⟨t, q0, as, rfl, F.mono e⟩ (e _ _ hs)) (fun i H' e _ _ => ev_var rfl)
  rw [← nV_eq] at h
  exact s_retL h fun p H1 hp e1 h1 => q p H1 hp e1 h1
theorem sl_fireable {H : Hp} {v : V} {s : Addr} {d : Nat → Nat} (F : IsFlow H v n ps) (hn : n ≤ 8) (hs : H s = some (.tup ((tZ ps d).map V.int))) : SpL sp_fireable [v, .ref s] H ((nZ ((List.range n).filter (canB ps d))).map V.int) :=
  fun H1 e Q q E => ⟨v, n, ps, s, d, rfl, F.mono e, hn, e _ _ hs, q⟩
def sp_can : Sp := fun vs H Q _ => ∃ (v : V) (n : Nat) (ps : List Pipe) (s : Addr) (d : Nat → Nat) (b : Nat), vs = [v, .ref s, .int (b : Int)] ∧ IsFlow H v n ps ∧ ps.length ≤ 16 ∧ H s = some (.tup ((tZ ps d).map V.int)) ∧
  ∀ H', Ex H H' → Q (.bl (canB ps d b)) H'
theorem len_can : ∀ vs H Q E, sp_can vs H Q E → vs.length = 3 := by rintro vs H Q E ⟨v, n, ps, s, d, b, rfl, _⟩; rfl
theorem sv_can {H : Hp} {v : V} {s : Addr} {d : Nat → Nat} {b : Nat} (F : IsFlow H v n ps) (hl : ps.length ≤ 16) (hs : H s = some (.tup ((tZ ps d).map V.int))) : SpV sp_can [v, .ref s, .int (b : Int)] H (.bl (canB ps d b)) :=
  fun H1 e Q q E => ⟨v, n, ps, s, d, b, rfl, F.mono e, hl, e _ _ hs, q⟩
/-- the pipes on which a box lacks tokens -/
def lackF (ps : List Pipe) (d : Nat → Nat) (b i : Nat) : Bool := match ps[i]? with
  | some p => decide (p.other = b) && decide (tok d p < (p.eat : Int))
  | none => false
theorem lack_nil {ps : List Pipe} {d : Nat → Nat} {b : Nat} : decide (nZ ((List.range ps.length).filter (lackF ps d b)) = []) = canB ps d b := by
  by_cases h : canFire ps d b
  · rw [canB_iff.mpr h]
    refine decide_eq_true ?_
    have : (List.range ps.length).filter (lackF ps d b) = [] := by
      refine List.filter_eq_nil_iff.mpr fun i hi hb => ?_
      have hi' := List.mem_range.mp hi
      unfold lackF at hb
      rw [List.getElem?_eq_getElem hi'] at hb
      obtain ⟨h1, h2⟩ := Bool.and_eq_true_iff.mp hb
      have h3 := h ps[i] (List.getElem_mem hi') (of_decide_eq_true h1)
      have h4 := of_decide_eq_true h2
      omega
    rw [this]; rfl
  · have hc : canB ps d b = false := by
      cases hh : canB ps d b with
      | false => rfl
      | true => exact absurd (canB_iff.mp hh) h
    rw [hc]
    refine decide_eq_false fun z => h fun p hp ho => ?_
    apply Classical.byContradiction
    intro hn
    obtain ⟨i, hi⟩ := List.getElem?_of_mem hp
    have hm : i ∈ (List.range ps.length).filter (lackF ps d b) := by
      refine List.mem_filter.mpr ⟨List.mem_range.mpr (List.getElem?_eq_some_iff.mp hi).1, ?_⟩
      unfold lackF
      rw [hi]
      show (decide (p.other = b) && decide (tok d p < (p.eat : Int))) = true
      rw [decide_eq_true ho, decide_eq_true (by omega)]
      rfl
    have : nZ ((List.range ps.length).filter (lackF ps d b)) ≠ [] := by
      unfold nZ
      intro z'
      rw [List.map_eq_nil_iff] at z'
      rw [z'] at hm
      cases hm
    exact this z
theorem rd_law_can : ∀ vs H Q E, sp_can vs H Q E → t_law_can K { nx := fun _ H' => Q .non H', rt := Q } (start ["_law_flow_here", "_law_some_here", "_law_box", "_law_k"] vs) H := by
  rintro vs H Q E ⟨v, n, ps, s, d, b, rfl, ⟨t, q0, as, rfl, F⟩, hlen, hs, q⟩
  unfold t_law_can
  have h := el_lcR (σ := start ["_law_flow_here", "_law_some_here", "_law_box", "_law_k"] [.ref t, .ref s, .int (b : Int)]) (H := H) (ta := tCons (tCB (rLenS K) (tCons (tVar 1) tNil)) tNil) (m := ps.length) (j := 3) (vs := [3])
    (tt := tAnd (tTest (tOp rEq (tOp (rIx K) (tOp (rIx K) (tOp (rIx K) (tVar 0) (tC (.int 1))) (tVar 3)) (tC (.int 1))) (tVar 2))) (tTest (tOp (rI0 fun i j => .bl (decide (j < i))) (tOp (rIx K) (tOp (rIx K) (tOp (rIx K) (tVar 0) (tC (.int 1))) (tVar 3)) (tC (.int 3))) (tOp (rIx K) (tVar 1) (tVar 3))))) (te := tVar 3)
    (lackF ps d b) (fun k => V.int (k : Int)) (ea_cons (ev_is (ev_lenT (ev_var rfl) hs) (by rw [tV_len])) ea_nil) (by omega) (fun _ => rfl) (fun i H' e hi => by
      have hp := List.getElem?_eq_getElem hi
      obtain ⟨a, ha, hat⟩ := F.pipes.get hp
      have F1 := F.mono e
      have hit : ∀ {σ' : L2.St}, σ'[0]? = some (some (.ref t)) → σ'[3]? = some (some (.int (i : Int))) → Ev (tOp (rIx K) (tOp (rIx K) (tVar 0) (tC (.int 1))) (tVar 3)) σ' H' (.ref a) := fun h0 h3 => ev_t i (ev_f1 h0 F1) (ev_var h3) F1.row (by rw [List.getElem?_map, ha]; rfl)
      have el : lackF ps d b i = (decide (ps[i].other = b) && decide (tok d ps[i] < (ps[i].eat : Int))) := by unfold lackF; rw [hp]
      rw [el]
      refine et_and (et_is (et_test (ev_op (ev_t 1 (hit rfl rfl) ev_c (e _ _ hat) rfl) (ev_var rfl) (rv_eq rfl))) dec_cast) fun _ => et_test (ev_op (ev_t 3 (hit rfl rfl) ev_c (e _ _ hat) rfl) (ev_t i (ev_var rfl) (ev_var rfl) (e _ _ hs) (tV_get hp)) rv_I0)) (fun i H' e _ _ => ev_var rfl)
  rw [← nV_eq] at h
  refine s_ret (ev_eqNil h) fun H1 e1 => ?_
  rw [lack_nil]
  exact q H1 e1

/-! ### words: tuples of boxes whose object is told -/
def WordAt (H : Hp) (w : Addr) (ws : List Nat) : Prop := ∃ o, H w = some (.frz o (.tup ((nZ ws).map V.int))) ∧ o.dict = none
theorem WordAt.mono {H H' : Hp} {w : Addr} {ws : List Nat} (h : WordAt H w ws) (e : Ex H H') : WordAt H' w ws := by
  obtain ⟨o, h1, h2⟩ := h
  exact ⟨o, e _ _ h1, h2⟩
theorem WordAt.seq {H : Hp} {w : Addr} {ws : List Nat} (h : WordAt H w ws) : SqT K H w ((nZ ws).map V.int) := by
  obtain ⟨o, h1, h2⟩ := h
  exact .inl (.inr ⟨o, h1⟩)
theorem WordAt.ty {H : Hp} {w : Addr} {ws : List Nat} (h : WordAt H w ws) : TyX K H (.ref w) (.type "tuple") := by
  obtain ⟨o, h1, h2⟩ := h
  exact .fTuple h1

/-! ### counts_in -/
def sp_counts_in : Sp := fun vs H Q _ => ∃ (v : V) (n : Nat) (ps : List Pipe) (w : Addr) (ws : List Nat), vs = [v, .ref w] ∧ IsFlow H v n ps ∧ n ≤ 8 ∧ WordAt H w ws ∧
  ∀ p H', H p = none → Ex H H' → H' p = some (.tup ((cZ n fun k => ws.count k).map V.int)) → Q (.ref p) H'
theorem len_counts_in : ∀ vs H Q E, sp_counts_in vs H Q E → vs.length = 2 := by rintro vs H Q E ⟨v, n, ps, w, ws, rfl, _⟩; rfl
theorem count_nZ {ws : List Nat} {k : Nat} : (nZ ws).count (k : Int) = ws.count k := by
  induction ws with
  | nil => rfl
  | cons a r ih =>
    show ((a : Int) :: nZ r).count (k : Int) = _
    rw [List.count_cons, List.count_cons, ih]
    by_cases h : a = k
    · subst h; simp
    · have h2 : ¬ ((a : Int) = (k : Int)) := by omega
      simp [h, h2]
theorem ev_tcount {σ : L2.St} {H : Hp} {w : Addr} {ws : List Nat} {k : Nat} {ta tb : TE} (h : Ev ta σ H (.ref w)) (hb : Ev tb σ H (.int (k : Int))) (hw : WordAt H w ws) : Ev (tBMF K (rCntT K) ta (tCons tb tNil)) σ H (.int (ws.count k : Int)) := fun H1 e Q q =>
  h H1 e _ fun H2 e2 => ⟨by
    obtain ⟨o, h1, h2⟩ := hw.mono (e.trans e2)
    exact ⟨w, o, _, rfl, h1, h2⟩, hb H2 (e.trans e2) _ fun H3 e3 => ⟨w, nZ ws, (k : Int), rfl, rfl, (hw.mono ((e.trans e2).trans e3)).seq, by rw [count_nZ]; exact q H3 (e2.trans e3)⟩⟩
theorem rd_counts_in : ∀ vs H Q E, sp_counts_in vs H Q E → t_counts_in K { nx := fun _ H' => Q .non H', rt := Q } (start ["flow", "word", "box"] vs) H := by
  rintro vs H Q E ⟨v, n, ps, w, ws, rfl, ⟨t, q0, as, rfl, F⟩, hn, hw, q⟩
  unfold t_counts_in
  have h := el_lcR (σ := start ["flow", "word", "box"] [.ref t, .ref w]) (H := H) (ta := tCons (tOp (rIx K) (tVar 0) (tC (.int 0))) tNil) (m := n) (j := 2) (vs := [2]) (tt := tYes) (te := tBMF K (rCntT K) (tVar 1) (tCons (tVar 2) tNil))
    (fun _ => true) (fun k => V.int (ws.count k : Int)) (ea_cons (ev_f0 rfl F) ea_nil) (by omega) (fun _ => rfl) (fun i H' e _ => et_yes) (fun i H' e _ _ => ev_tcount (ev_var rfl) (ev_var rfl) (hw.mono e))
  rw [filter_yes] at h
  have e : (cZ n fun k => ws.count k).map V.int = (List.range n).map fun (k : Nat) => V.int (ws.count k : Int) := by
    rw [cZ, List.map_map]
    rfl
  rw [← e] at h
  exact s_retU (eu_tupN h) fun p H1 hp e1 h1 => q p H1 hp e1 h1

/-! ### is_boxes -/
def sp_is_boxes : Sp := fun vs H Q _ => ∃ (v : V) (n : Nat) (ps : List Pipe) (w : Addr) (ws : List Nat), vs = [v, .ref w] ∧ IsFlow H v n ps ∧ WordAt H w ws ∧ ws.length ≤ 2000 ∧ (∀ b ∈ ws, b < n) ∧ ∀ H', Ex H H' → Q (.bl true) H'
theorem len_is_boxes : ∀ vs H Q E, sp_is_boxes vs H Q E → vs.length = 2 := by rintro vs H Q E ⟨v, n, ps, w, ws, rfl, _⟩; rfl
theorem nV_len {l : List Nat} : ((nZ l).map V.int).length = l.length := by rw [List.length_map, nZ_len]
theorem rd_is_boxes : ∀ vs H Q E, sp_is_boxes vs H Q E → t_is_boxes K sp_is_in { nx := fun _ H' => Q .non H', rt := Q } (start ["flow", "value", "box"] vs) H := by
  rintro vs H Q E ⟨v, n, ps, w, ws, rfl, ⟨t, q0, as, rfl, F⟩, hw, hl, hb, q⟩
  unfold t_is_boxes
  refine q_when (b := false || false) (et_or (et_not (a := true) (et_B (ev_isi (ev_var rfl) (fun H1 e => (hw.mono e).ty) kit_tt))) fun _ => et_is (et_test (ev_op (ev_lenS (ev_var rfl) (.inr hw.seq)) ev_c rv_I0)) (decide_eq_false (by rw [nV_len]; omega))) (fun z => nomatch z) fun _ H1 e1 => ?_
  have F1 := F.mono e1
  have h := el_lcTs (K := K) (σ := start ["flow", "value", "box"] [.ref t, .ref w]) (H := H1) (tl := tVar 1) (vs := [2]) (j := 2) (tt := tNot (tB (tCall sp_is_in [] E0 (tCons (tVar 2) (tCons (tC (.int 0)) (tCons (tOp (rI0 fun i j => .int (i - j)) (tOp (rIx K) (tVar 0) (tC (.int 0))) (tC (.int 1))) tNil)))))) (te := tVar 2) (zs := ws)
    (fun _ => false) (fun k => V.int (k : Int)) (ev_var rfl) (hw.mono e1).seq nV_len (by omega) (fun _ => rfl) (fun i x z H2 e2 hx hz => by
      obtain ⟨k, hk, rfl⟩ := nV_getp hx
      rw [hz] at hk
      cases hk
      have := hb z (List.mem_of_getElem? hz)
      exact et_not (a := true) (et_B (ev_callV (ea_cons (ev_var rfl) (ea_cons ev_c (ea_cons (ev_op (ev_f0 rfl (F1.mono e2)) ev_c rv_I0) ea_nil))) (sv_is_in_yes (by omega) (by omega))))) (fun i x z H2 e2 hx hz hf => nomatch hf)
  have e : (ws.filter fun _ => false).map (fun (k : Nat) => V.int (k : Int)) = ([] : List Int).map V.int := by simp
  rw [e] at h
  exact s_ret (ev_eqNil h) fun H2 e2 => q H2 (e1.trans e2)

/-! ### line_in: along a word that can be done -/
def sp_line_in : Sp := fun vs H Q _ => ∃ (v : V) (n : Nat) (ps : List Pipe) (w : Addr) (ws : List Nat), vs = [v, .ref w] ∧ IsFlow H v n ps ∧ ps.length ≤ 16 ∧ WordAt H w ws ∧ ws.length ≤ 2000 ∧ fires n ps zeroD ws ∧
  ∀ p H' xs, H p = none → Ex H H' → H' p = some (.lst xs) → xs.length = ws.length + 1 → Q (.ref p) H'
theorem len_line_in : ∀ vs H Q E, sp_line_in vs H Q E → vs.length = 2 := by rintro vs H Q E ⟨v, n, ps, w, ws, rfl, _⟩; rfl
theorem ev_lastL {σ : L2.St} {H : Hp} {l : Addr} {xs : List V} {v : V} {ta : TE} (h : Ev ta σ H (.ref l)) (hl : H l = some (.lst (xs ++ [v]))) : Ev (tOp (rIx K) ta (tUn (rU fun i => .int (-i)) (tC (.int 1)))) σ H v := ev_op h (ev_un ev_c ru_neg) (rv_l hl (atI_last _ _))
theorem rd_line_in : ∀ vs H Q E, sp_line_in vs H Q E → t_line_in K sp_marks sp_lacks sp_behind { nx := fun _ H' => Q .non H', rt := Q } (start ["flow", "word", "found", "box"] vs) H := by
  rintro vs H Q E ⟨v, n, ps, w, ws, rfl, F, hlen, hw, hl, hf, q⟩
  unfold t_line_in
  have h0 : EvP (tLst (tCons (tCall sp_marks [] E0 (tCons (tVar 0) tNil)) tNil)) (start ["flow", "word", "found", "box"] [v, .ref w]) H (fun u H' => ∃ l s, u = .ref l ∧ H l = none ∧ H' l = some (.lst ([] ++ [.ref s])) ∧ H' s = some (.tup ((tZ ps zeroD).map V.int))) := fun H1 e Q' q' => by
    refine eu_callU (ea_cons (ev_var rfl) ea_nil) (su_marks F hlen) H1 e _ fun s H2 hs e2 h2 => ⟨sz_of (by simp), fun l hl' => q' _ _ (e2.trans (Ex.new hl')) ⟨l, s, rfl, fresh_back (e.trans e2) hl', upd_same, ?_⟩⟩
    exact Ex.new hl' _ _ h2
  refine q_asgP h0 fun u H1 e1 hu => ?_
  obtain ⟨l, s0, rfl, hl0, h1, h2⟩ := hu
  refine q_forT (a := w) (xs := (nZ ws).map V.int) (ev_var rfl) (hw.mono e1).seq (fun i σ' H' => ∃ y3 xs s, σ' = [some v, some (.ref w), some (.ref l), y3] ∧ Ex H H' ∧ H' l = some (.lst (xs ++ [.ref s])) ∧ xs.length = i ∧ H' s = some (.tup ((tZ ps (behindW zeroD (ws.take i))).map V.int)))
    (fun H2 e2 => ⟨_, [], s0, rfl, e1.trans e2, e2 _ _ h1, rfl, e2 _ _ h2⟩) (fun i σ' H' _ p => let ⟨_, _, _, _, e, _⟩ := p; (hw.mono e).seq) (fun i x σ' H' hx p => ?_) fun σ' H' p => ?_
  · obtain ⟨y3, xs, s, rfl, e, hL, hxl, hS⟩ := p
    obtain ⟨k, hk, rfl⟩ := nV_getp hx
    have hil : i < ws.length := (List.getElem?_eq_some_iff.mp hk).1
    have hc : canB ps (behindW zeroD (ws.take i)) k = true := canB_iff.mpr (fires_at hf hk)
    show tSeq _ _ _ ([some v, some (.ref w), some (.ref l), some (.int (k : Int))] : L2.St) H'
    refine q_when (b := !true) (et_is (et_lacksN (d := behindW zeroD (ws.take i)) (b := k) (ea_cons (ev_var rfl) (ea_cons (ev_lastL (ev_var rfl) hL) (ea_cons (ev_var rfl) ea_nil))) (F.mono e) hS) (by rw [hc])) (fun z => nomatch z) fun _ H2 e2 => ?_
    have hL2 := e2 _ _ hL
    refine s_appU (K := K) hL2 (ev_var rfl) (eu_callU (ea_cons (ev_var rfl) (ea_cons (ev_lastL (ev_var rfl) hL2) (ea_cons (ev_var rfl) ea_nil))) (su_behind (d := behindW zeroD (ws.take i)) (b := k) (F.mono (e.trans e2)) hlen (e2 _ _ hS))) (by rw [List.length_append]; show xs.length + 1 < 100000; omega) fun p H3 hp e3 h3 => ?_
    refine ⟨_, xs ++ [.ref s], p, rfl, Ex.mut ((e.trans e2).trans e3) hl0, upd_same, by rw [List.length_append, hxl]; rfl, ?_⟩
    have hpl : p ≠ l := fun z => by rw [z, hL2] at hp; cases hp
    rw [upd_ne hpl, h3, behindW_take hk]
  · obtain ⟨y3, xs, s, rfl, e, hL, hxl, hS⟩ := p
    rw [nV_len] at hxl
    exact s_ret (ev_var rfl) fun H2 e2 => q l H2 _ hl0 (e.trans e2) (e2 _ _ hL) (by rw [List.length_append, hxl]; rfl)

/-! ### what counts leave -/
theorem el_lcP5 {σ : L2.St} {H : Hp} {i b1 b2 b3 b4 b5 : Nat} {t q0 : Addr} {as : List Addr} {vs : List Nat} {te : TE} (f : Pipe → Int) (hi : σ[i]? = some (some (.ref t))) (F : FlowAt H t q0 as n ps) (hl : ps.length ≤ 16)
    (hw : ∀ x1 x2 x3 x4 x5, wipe ((((((wipe σ vs).set b1 x1).set b2 x2).set b3 x3).set b4 x4).set b5 x5) vs = wipe σ vs)
    (he : ∀ (p : Pipe) H1, p ∈ ps → Ex H H1 → Ev te ((((((wipe σ vs).set b1 (some (.int (p.one : Int)))).set b2 (some (.int (p.other : Int)))).set b3 (some (.int (p.give : Int)))).set b4 (some (.int (p.eat : Int)))).set b5 (some (.int (p.start : Int)))) H1 (.int (f p))) :
    EvL (tLc (iTup K (tOp (rIx K) (tVar i) (tC (.int 1)))) (gTup K 5 (gCons (gName b1) (gCons (gName b2) (gCons (gName b3) (gCons (gName b4) (gCons (gName b5) gNil)))))) tYes te vs) σ H ((ps.map f).map V.int) := fun H0 e Q k => by
  have h : Ev (tOp (rIx K) (tVar i) (tC (.int 1))) σ H (.ref q0) := ev_f1 hi F
  generalize tOp (rIx K) (tVar i) (tC (.int 1)) = tl at h
  refine h H0 e _ fun H1 e1 => ⟨q0, rfl, ⟨_, SqT.of ((e.trans e1) _ _ F.row)⟩, fun Dl hD => lcz_core (zs := ps) walk_tup (by rw [List.length_map, F.pipes.len]) (by omega) (fun H' e' => SqT.of (((e.trans e1).trans e') _ _ F.row)) (fun _ => true) (fun p => V.int (f p)) (fun j x p H' e' hx hp Q' k' => ?_) hD fun H' e' h' => k Dl H' (fresh_back e1 hD) (e1.trans e') ?_⟩
  · obtain ⟨a, pp, rfl, ha, hp', hat⟩ := F.pipes.getp hx
    rw [hp] at hp'
    cases hp'
    refine ⟨a, _, rfl, SqT.of (((e.trans e1).trans e') _ _ hat), rfl, _, _, rfl, _, _, rfl, _, _, rfl, _, _, rfl, _, _, rfl, rfl, ?_⟩
    exact k' _ H' (Ex.refl H') (hw _ _ _ _ _) et_yes fun _ => he p H' (List.mem_of_getElem? hp) ((e.trans e1).trans e')
  · rw [filter_yes] at h'
    rw [h', List.map_map]
    rfl
def sp_ends_in : Sp := fun vs H Q _ => ∃ (v : V) (n : Nat) (ps : List Pipe) (c : Addr) (f : Nat → Nat), vs = [v, .ref c] ∧ IsFlow H v n ps ∧ Valid n ps ∧ H c = some (.tup ((cZ n f).map V.int)) ∧ (∀ k, k < n → f k ≤ 200) ∧
  ∀ p H', H p = none → Ex H H' → H' p = some (.lst ((tZ ps f).map V.int)) → Q (.ref p) H'
theorem len_ends_in : ∀ vs H Q E, sp_ends_in vs H Q E → vs.length = 2 := by rintro vs H Q E ⟨v, n, ps, c, f, rfl, _⟩; rfl
theorem rd_ends_in : ∀ vs H Q E, sp_ends_in vs H Q E → t_ends_in K { nx := fun _ H' => Q .non H', rt := Q } (start ["flow", "counts", "one", "other", "give", "eat", "start"] vs) H := by
  rintro vs H Q E ⟨v, n, ps, c, f, rfl, ⟨t, q0, as, rfl, F⟩, hv, hc, hf, q⟩
  unfold t_ends_in
  show tRet _ _ ([some (.ref t), some (.ref c), none, none, none, none, none] : L2.St) H
  refine s_retL (el_lcP5 (K := K) (tok f) rfl F hv.len (fun _ _ _ _ _ => by simp [wipe]) fun p H1 hp e => ?_) fun p H1 hp e1 h1 => q p H1 hp e1 h1
  have he := hv.ends p hp
  have hr := hv.rates p hp
  have h1 := hf _ he.1
  have h2 := hf _ he.2
  show Ev _ ([some (.ref t), some (.ref c), some (.int (p.one : Int)), some (.int (p.other : Int)), some (.int (p.give : Int)), some (.int (p.eat : Int)), some (.int (p.start : Int))] : L2.St) H1 _
  exact ev_op (ev_op (ev_var rfl) (ev_op (ev_var rfl) (ev_t p.one (ev_var rfl) (ev_var rfl) (e _ _ hc) (cV_get he.1)) (rv_I (.inl (by omega)))) rv_I0) (ev_op (ev_var rfl) (ev_t p.other (ev_var rfl) (ev_var rfl) (e _ _ hc) (cV_get he.2)) (rv_I (.inl (by omega)))) rv_I0
def sp_ends : Sp := fun vs H Q _ => ∃ (v : V) (n : Nat) (ps : List Pipe) (c : Addr) (f : Nat → Nat), vs = [v, .ref c] ∧ IsFlow H v n ps ∧ Valid n ps ∧ H c = some (.tup ((cZ n f).map V.int)) ∧ (∀ k, k < n → f k ≤ 200) ∧
  ∀ p H', H p = none → Ex H H' → H' p = some (.tup ((tZ ps f).map V.int)) → Q (.ref p) H'
theorem len_ends : ∀ vs H Q E, sp_ends vs H Q E → vs.length = 2 := by rintro vs H Q E ⟨v, n, ps, c, f, rfl, _⟩; rfl
theorem rd_ends : ∀ vs H Q E, sp_ends vs H Q E → t_ends K sp_need_both sp_ends_in { nx := fun _ H' => Q .non H', rt := Q } (start ["flow", "counts"] vs) H := by
  rintro vs H Q E ⟨v, n, ps, c, f, rfl, F, hv, hc, hf, q⟩
  unfold t_ends
  refine q_drop (v := .non) (ev_callV (ea_cons (ev_var rfl) (ea_cons (ev_var rfl) ea_nil)) (sv_need_both F hv hc hf)) fun H1 e1 => ?_
  exact s_retU (eu_tupN (el_callL (ea_cons (ev_var rfl) (ea_cons (ev_var rfl) ea_nil)) fun H2 e2 Q' q' E' => ⟨v, n, ps, c, f, rfl, F.mono (e1.trans e2), hv, (e1.trans e2) _ _ hc, hf, q'⟩)) fun p H2 hp e2 h2 => q p H2 (fresh_back e1 hp) (e1.trans e2) h2
theorem su_ends {H : Hp} {v : V} {c : Addr} {f : Nat → Nat} (F : IsFlow H v n ps) (hv : Valid n ps) (hc : H c = some (.tup ((cZ n f).map V.int))) (hf : ∀ k, k < n → f k ≤ 200) : SpU sp_ends [v, .ref c] H ((tZ ps f).map V.int) :=
  fun H1 e Q q E => ⟨v, n, ps, c, f, rfl, F.mono e, hv, e _ _ hc, hf, q⟩

/-! ### the law's run of a word that can be done -/
def sp_run : Sp := fun vs H Q _ => ∃ (v : V) (n : Nat) (ps : List Pipe) (w : Addr) (ws : List Nat), vs = [v, .ref w] ∧ IsFlow H v n ps ∧ ps.length ≤ 16 ∧ WordAt H w ws ∧ fires n ps zeroD ws ∧
  ∀ p H', H p = none → Ex H H' → H' p = some (.tup ((tZ ps (behindW zeroD ws)).map V.int)) → Q (.ref p) H'
theorem len_run : ∀ vs H Q E, sp_run vs H Q E → vs.length = 2 := by rintro vs H Q E ⟨v, n, ps, w, ws, rfl, _⟩; rfl
theorem rd_law_run : ∀ vs H Q E, sp_run vs H Q E → t_law_run K sp_marks sp_can sp_behind { nx := fun _ H' => Q .non H', rt := Q } (start ["_law_flow_here", "_law_word", "_law_some_here", "_law_box"] vs) H := by
  rintro vs H Q E ⟨v, n, ps, w, ws, rfl, F, hlen, hw, hf, q⟩
  unfold t_law_run
  refine q_asgU (eu_callU (ea_cons (ev_var rfl) ea_nil) (su_marks F hlen)) fun s0 H1 hs0 e1 h1 => ?_
  refine q_forT (a := w) (xs := (nZ ws).map V.int) (ev_var rfl) (hw.mono e1).seq (fun i σ' H' => ∃ y3 s, σ' = [some v, some (.ref w), some (.ref s), y3] ∧ Ex H H' ∧ H s = none ∧ H' s = some (.tup ((tZ ps (behindW zeroD (ws.take i))).map V.int)))
    (fun H2 e2 => ⟨_, s0, rfl, e1.trans e2, hs0, e2 _ _ h1⟩) (fun i σ' H' _ p => let ⟨_, _, _, e, _⟩ := p; (hw.mono e).seq) (fun i x σ' H' hx p => ?_) fun σ' H' p => ?_
  · obtain ⟨y3, s, rfl, e, _, hS⟩ := p
    obtain ⟨k, hk, rfl⟩ := nV_getp hx
    have hc : canB ps (behindW zeroD (ws.take i)) k = true := canB_iff.mpr (fires_at hf hk)
    show tSeq _ _ _ ([some v, some (.ref w), some (.ref s), some (.int (k : Int))] : L2.St) H'
    refine q_when (b := !true) (et_is (et_not (et_B (ev_callV (ea_cons (ev_var rfl) (ea_cons (ev_var rfl) (ea_cons (ev_var rfl) ea_nil))) (sv_can (d := behindW zeroD (ws.take i)) (b := k) (F.mono e) hlen hS)))) (by rw [hc])) (fun z => nomatch z) fun _ H2 e2 => ?_
    refine s_asgU (eu_callU (ea_cons (ev_var rfl) (ea_cons (ev_var rfl) (ea_cons (ev_var rfl) ea_nil))) (su_behind (d := behindW zeroD (ws.take i)) (b := k) (F.mono (e.trans e2)) hlen (e2 _ _ hS))) fun p H3 hp e3 h3 => ⟨_, p, rfl, (e.trans e2).trans e3, fresh_back (e.trans e2) hp, ?_⟩
    rw [h3, behindW_take hk]
  · obtain ⟨y3, s, rfl, e, hn, hS⟩ := p
    rw [nV_len, List.take_length] at hS
    exact s_ret (ev_var rfl) fun H2 e2 => q s H2 hn (e.trans e2) (e2 _ _ hS)
theorem su_run {H : Hp} {v : V} {w : Addr} {ws : List Nat} (F : IsFlow H v n ps) (hl : ps.length ≤ 16) (hw : WordAt H w ws) (hf : fires n ps zeroD ws) : SpU sp_run [v, .ref w] H ((tZ ps (behindW zeroD ws)).map V.int) :=
  fun H1 e Q q E => ⟨v, n, ps, w, ws, rfl, F.mono e, hl, hw.mono e, hf, q⟩
end
end K8

-- K8RdD
/-! K8RdD: the greatest counts that can be done; words. -/
namespace K8
open PySem PySem.Spec L2 Evl
def SqA (K : PySem.W.Frag) (H : Hp) (a : Addr) (xs : List V) : Prop := SqL K H a xs ∨ SqT K H a xs
section
variable {K : PySem.W.Frag} {n : Nat} {ps : List Pipe}
theorem SqA.mono {H H' : Hp} {a : Addr} {xs : List V} (h : SqA K H a xs) (e : Ex H H') : SqA K H' a xs := h.imp (ex_l e) (ex_t e)
theorem SqA.t {H : Hp} {a : Addr} {xs : List V} (h : H a = some (.tup xs)) : SqA K H a xs := .inr (SqT.of h)
theorem SqA.l {H : Hp} {a : Addr} {xs : List V} (h : H a = some (.lst xs)) : SqA K H a xs := .inl (SqL.of h)
theorem ev_sa {σ : L2.St} {H : Hp} {ta tb : TE} {p : Addr} {xs : List V} {v : V} (j : Nat) (ha : Ev ta σ H (.ref p)) (hb : Ev tb σ H (.int (j : Int))) (h : SqA K H p xs) (hx : xs[j]? = some v) : Ev (tOp (rIx K) ta tb) σ H v := by
  rcases h with h | h
  · exact ev_op ha hb (rv_sl h (atI_nat hx))
  · exact ev_op ha hb (rv_st h (atI_nat hx))
theorem rep_zero {n : Nat} : List.replicate n (V.int 0) = (cZ n zeroD).map V.int := by
  refine List.ext_getElem? fun i => ?_
  by_cases hi : i < n
  · rw [cV_get hi, List.getElem?_replicate, if_pos hi]; rfl
  · rw [List.getElem?_replicate, if_neg hi, List.getElem?_eq_none (by rw [cV_len]; omega)]
/-! ### most_in -/
/-- where the greedy loops stand -/
structure MI (K : PySem.W.Frag) (n : Nat) (ps : List Pipe) (f : Nat → Nat) (H : Hp) (dl : Addr) (st : Addr) (d : Nat → Nat) (H' : Hp) : Prop where
  ex : Ex H H'
  dn : H' dl = some (.lst ((cZ n d).map V.int))
  sm : H' st = some (.tup ((tZ ps d).map V.int))
  re : Reach n ps d
  le : ∀ k, d k ≤ f k
theorem MI.mono {f : Nat → Nat} {H : Hp} {dl st : Addr} {d : Nat → Nat} {H' H2 : Hp} (h : MI K n ps f H dl st d H') (e : Ex H' H2) : MI K n ps f H dl st d H2 := ⟨h.ex.trans e, e _ _ h.dn, e _ _ h.sm, h.re, h.le⟩
def miW (K : PySem.W.Frag) (n : Nat) (ps : List Pipe) (f : Nat → Nat) (H : Hp) (v : V) (c dl : Addr) (d0 : Nat → Nat) (i : Nat) : Nat → L2.St → Hp → Prop := fun m σ H' => ∃ st d g, σ = [some v, some (.ref c), some (.ref dl), some (.ref st), some (.bl g), some (.int (i : Int))] ∧
  MI K n ps f H dl st d H' ∧ sumTo n d0 ≤ sumTo n d ∧ (g = true → sumTo n d0 < sumTo n d) ∧ (g = false → ∀ b, b < i → d b < f b → ¬ canFire ps d b) ∧ m = f i - d i
def miP (K : PySem.W.Frag) (n : Nat) (ps : List Pipe) (f : Nat → Nat) (H : Hp) (v : V) (c dl : Addr) (d0 : Nat → Nat) (i : Nat) : L2.St → Hp → Prop := fun σ H' => ∃ st d g y5, σ = [some v, some (.ref c), some (.ref dl), some (.ref st), some (.bl g), y5] ∧
  MI K n ps f H dl st d H' ∧ sumTo n d0 ≤ sumTo n d ∧ (g = true → sumTo n d0 < sumTo n d) ∧ (g = false → ∀ b, b < i → d b < f b → ¬ canFire ps d b)
def miO (K : PySem.W.Frag) (n : Nat) (ps : List Pipe) (f : Nat → Nat) (H : Hp) (v : V) (c dl : Addr) : Nat → L2.St → Hp → Prop := fun m σ H' => ∃ st d g y5, σ = [some v, some (.ref c), some (.ref dl), some (.ref st), some (.bl g), y5] ∧
  MI K n ps f H dl st d H' ∧ (g = false → stuck n ps f d) ∧ m = 2 * (sumTo n f - sumTo n d) + (if g = true then 1 else 0)
def sp_most (K : PySem.W.Frag) : Sp := fun vs H Q _ => ∃ (v : V) (n : Nat) (ps : List Pipe) (c : Addr) (f : Nat → Nat), vs = [v, .ref c] ∧ IsFlow H v n ps ∧ n ≤ 8 ∧ ps.length ≤ 16 ∧ SqA K H c ((cZ n f).map V.int) ∧
  ∀ p dl st d H', H p = none → H dl = none → Ex H H' → H' p = some (.tup [.ref dl, .ref st]) → H' dl = some (.lst ((cZ n d).map V.int)) → H' st = some (.tup ((tZ ps d).map V.int)) → Reach n ps d → (∀ k, d k ≤ f k) → stuck n ps f d → Q (.ref p) H'
theorem len_most : ∀ vs H Q E, sp_most K vs H Q E → vs.length = 2 := by rintro vs H Q E ⟨v, n, ps, c, f, rfl, _⟩; rfl
theorem rd_most_in : ∀ vs H Q E, sp_most K vs H Q E → t_most_in K sp_marks sp_lacks sp_behind { nx := fun _ H' => Q .non H', rt := Q } (start ["flow", "counts", "done", "some", "going", "box"] vs) H := by
  rintro vs H Q E ⟨v, n, ps, c, f, rfl, IF, hn, hlen, hc, q⟩
  obtain ⟨t, q0, as, ev, F⟩ := id IF
  unfold t_most_in
  show tSeq _ _ _ ([some v, some (.ref c), none, none, none, none] : L2.St) H
  -- done, some, going = [0] * flow[0], marks_in(flow), True
  have h1 : EvL (tOp rRep (tLst (tCons (tC (.int 0)) tNil)) (tOp (rIx K) (tVar 0) (tC (.int 0)))) ([some v, some (.ref c), none, none, none, none] : L2.St) H (List.replicate n (.int 0)) :=
    el_rep (el_lst (ea_cons ev_c ea_nil) (by simp)) (fun H1 e1 => ev_f0 (t0 := t) (by rw [ev]; rfl) (F.mono e1)) (by omega)
  refine h1 H (Ex.refl H) _ fun dl H1 hdl e1 hd => ?_
  have h2 : EvU (tCall sp_marks [] E0 (tCons (tVar 0) tNil)) ([some v, some (.ref c), none, none, none, none] : L2.St) H1 ((tZ ps zeroD).map V.int) := eu_callU (ea_cons (ev_var rfl) ea_nil) (su_marks (IF.mono e1) hlen)
  refine h2 H1 (Ex.refl H1) _ fun st H2 hst e2 hs => ⟨_, _, _, rfl, ?_⟩
  rw [rep_zero] at hd
  show tSeq _ _ _ ([some v, some (.ref c), some (.ref dl), some (.ref st), some (.bl true), none] : L2.St) H2
  refine q_while (miO K n ps f H v c dl) (2 * (sumTo n f - sumTo n zeroD) + 1) ⟨st, zeroD, true, _, rfl, ⟨e1.trans e2, e2 _ _ hd, hs, .zero, fun k => Nat.zero_le _⟩, (fun z => nomatch z), rfl⟩ fun m σ' H' hW => ?_
  obtain ⟨st, d0, g0, y5, rfl, M, hg, rfl⟩ := hW
  refine ⟨g0, et_B (ev_var rfl), fun hb H3 e3 => ?_, fun hb H3 e3 => ?_⟩
  · subst hb
    refine ⟨fun σ2 H2 => ∃ m', m' < _ ∧ miO K n ps f H v c dl m' σ2 H2, fun _ _ h => h, ?_⟩
    have M3 := M.mono e3
    refine q_asg (v := .bl false) ev_c fun H4 e4 => ?_
    have M4 := M3.mono e4
    show tFor _ _ _ _ ([some v, some (.ref c), some (.ref dl), some (.ref st), some (.bl false), y5] : L2.St) H4
    refine s_forR1 (n := (n : Int)) (ea_cons (ev_f0 (t0 := t) (by rw [ev]; rfl) (F.mono M4.ex)) ea_nil) (by omega) (miP K n ps f H v c dl d0) (fun H5 e5 => ⟨st, d0, false, y5, rfl, M4.mono e5, Nat.le_refl _, fun z => (nomatch z), fun _ b hb => absurd hb (Nat.not_lt_zero b)⟩) (fun i σ' H' hi p => ?_) fun σ' H' p => ?_
    · obtain ⟨st, d, g, y5, rfl, Mi, hle, hgt, hgf⟩ := p
      have hi' : i < n := by omega
      show tWhile _ _ _ ([some v, some (.ref c), some (.ref dl), some (.ref st), some (.bl g), some (.int (i : Int))] : L2.St) H'
      refine s_while (miW K n ps f H v c dl d0 i) (f i - d i) ⟨st, d, g, rfl, Mi, hle, hgt, hgf, rfl⟩ fun m σ' H' hW => ?_
      obtain ⟨st, d, g, rfl, Mi, hle, hgt, hgf, rfl⟩ := hW
      refine ⟨decide ((d i : Int) < (f i : Int)) && canB ps d i, et_and (et_test (ev_op (ev_l i (ev_var rfl) (ev_var rfl) Mi.dn (cV_get hi')) (ev_sa i (ev_var rfl) (ev_var rfl) (hc.mono Mi.ex) (cV_get hi')) rv_I0)) fun _ => et_lacks (ea_cons (ev_var rfl) (ea_cons (ev_var rfl) (ea_cons (ev_var rfl) ea_nil))) (IF.mono Mi.ex) Mi.sm, fun hb H5 e5 => ?_, fun hb H5 e5 => ?_⟩
      · obtain ⟨hb1, hb2⟩ := Bool.and_eq_true_iff.mp hb
        have hlt : d i < f i := by have := of_decide_eq_true hb1; omega
        have hcan := canB_iff.mp hb2
        refine ⟨fun σ2 H2 => ∃ m', m' < _ ∧ miW K n ps f H v c dl d0 i m' σ2 H2, fun _ _ h => h, ?_⟩
        have M5 := Mi.mono e5
        refine q_asgU (eu_callU (ea_cons (ev_var rfl) (ea_cons (ev_var rfl) (ea_cons (ev_var rfl) ea_nil))) (su_behind (IF.mono M5.ex) hlen M5.sm)) fun st2 H6 hst2 e6 h6 => ?_
        show tSeq _ _ _ ([some v, some (.ref c), some (.ref dl), some (.ref st2), some (.bl g), some (.int (i : Int))] : L2.St) H6
        refine q_augL (K := K) (j := i) (a := (d i : Int)) (b := 1) (ev_var rfl) (ev_var rfl) (e6 _ _ M5.dn) (cV_get hi') ev_c fun H7 e7 => ?_
        refine s_asg (v := .bl true) ev_c fun H8 e8 => ?_
        have hne : st2 ≠ dl := fun z => by rw [z, M5.dn] at hst2; cases hst2
        have e67 := e6.trans e7
        have hsum := sumTo_inc (d := d) (n := n) hi'
        refine ⟨f i - (d i + 1), by omega, st2, inc d i, true, rfl, ⟨?_, ?_, ?_, .step Mi.re hi' hcan, fun k => ?_⟩, by omega, fun _ => by omega, fun z => (nomatch z), by rw [inc_same]⟩
        · exact (Ex.mut (M5.ex.trans e67) hdl).trans e8
        · refine e8 _ _ ?_
          rw [upd_same, cV_set hi' (e := inc d i) (by rw [inc_same]; rfl) fun k _ hk => inc_ne hk]
        · refine e8 _ _ ?_
          rw [upd_ne hne]
          exact e7 _ _ h6
        · by_cases hk : k = i
          · subst hk; rw [inc_same]; omega
          · rw [inc_ne hk]; exact Mi.le k
      · refine ⟨st, d, g, _, rfl, Mi.mono e5, hle, hgt, fun hgg b hbi hdf hcan => ?_⟩
        by_cases hbe : b = i
        · subst hbe
          rw [decide_eq_true (by omega), canB_iff.mpr hcan] at hb
          cases hb
        · exact hgf hgg b (by omega) hdf hcan
    · obtain ⟨st, d, g, y5, rfl, Mi, hle, hgt, hgf⟩ := p
      have en : ((n : Int)).toNat = n := by omega
      rw [en] at hgf
      have hsf : sumTo n d ≤ sumTo n f := sumTo_le fun k _ => Mi.le k
      refine ⟨2 * (sumTo n f - sumTo n d) + (if g = true then 1 else 0), ?_, st, d, g, y5, rfl, Mi, fun hgg b hb => hgf hgg b hb, rfl⟩
      cases g with
      | true => have := hgt rfl; simp; omega
      | false => simp; omega
  · have M3 := M.mono e3
    refine s_retU (xs := [.ref dl, .ref st]) (eu_tup (ea_cons (ev_var rfl) (ea_cons (ev_var rfl) ea_nil)) (by simp)) fun p H4 hp e4 h4 => ?_
    have M4 := M3.mono e4
    exact q p dl st d0 H4 (fresh_back M3.ex hp) hdl M4.ex h4 M4.dn M4.sm M4.re M4.le (hg hb)
theorem ep_most {σ : L2.St} {H : Hp} {v : V} {c : Addr} {f : Nat → Nat} {ta : TA} {E : XK} (h : EvA ta σ H [v, .ref c]) (F : IsFlow H v n ps) (hn : n ≤ 8) (hl : ps.length ≤ 16) (hc : SqA K H c ((cZ n f).map V.int)) :
    EvP (tCall (sp_most K) [] E ta) σ H (fun u H' => ∃ p dl st d, u = .ref p ∧ H dl = none ∧ H' p = some (.tup [.ref dl, .ref st]) ∧ H' dl = some (.lst ((cZ n d).map V.int)) ∧ H' st = some (.tup ((tZ ps d).map V.int)) ∧ Reach n ps d ∧ (∀ k, d k ≤ f k) ∧ stuck n ps f d) :=
  ep_call h fun H1 e Q q E => ⟨v, n, ps, c, f, rfl, F.mono e, hn, hl, hc.mono e, fun p dl st d H' hp hdl e' h1 h2 h3 h4 h5 h6 => q _ H' e' ⟨p, dl, st, d, rfl, fresh_back e hdl, h1, h2, h3, h4, h5, h6⟩⟩
end
end K8

-- K8RdE
/-! K8RdE: what counts can be done, words for them. -/
namespace K8
open PySem PySem.Spec L2 Evl
open Classical in
noncomputable def reachB (n : Nat) (ps : List Pipe) (f : Nat → Nat) : Bool := decide (Reach n ps f)
theorem reachB_iff {n : Nat} {ps : List Pipe} {f : Nat → Nat} : reachB n ps f = true ↔ Reach n ps f := by unfold reachB; simp
theorem reachB_no {n : Nat} {ps : List Pipe} {f : Nat → Nat} (h : ¬ Reach n ps f) : reachB n ps f = false := by
  cases hh : reachB n ps f with
  | false => rfl
  | true => exact absurd (reachB_iff.mp hh) h
theorem stuck_eq {n : Nat} {ps : List Pipe} {f d : Nat → Nat} (hz : ∀ k, n ≤ k → f k = 0) (hr : Reach n ps d) (hd : ∀ k, d k ≤ f k) (hs : stuck n ps f d) : decide (cZ n d = cZ n f) = reachB n ps f := by
  by_cases h : Reach n ps f
  · rw [reachB_iff.mpr h, h.eq_stuck hs hd]
    exact decide_eq_true rfl
  · rw [reachB_no h]
    refine decide_eq_false fun z => h ?_
    have e : d = f := by
      funext k
      by_cases hk : k < n
      · exact cZ_inj z k hk
      · have := hd k; have := hz k (by omega); omega
    rw [← e]; exact hr
theorem cZ_sum {c : Nat → Nat} : ∀ {n : Nat}, (cZ n c).sum = (sumTo n c : Int)
  | 0 => rfl
  | n + 1 => by
    unfold cZ sumTo
    rw [List.range_succ, List.map_append, List.sum_append]
    have := cZ_sum (c := c) (n := n)
    unfold cZ at this
    rw [this]
    simp
section
variable {K : PySem.W.Frag} {n : Nat} {ps : List Pipe}
theorem ev_sumA {σ : L2.St} {H : Hp} {ta : TE} {p : Addr} {c : Nat → Nat} (h : Ev ta σ H (.ref p)) (hp : SqA K H p ((cZ n c).map V.int)) : Ev (tCB (rSumA K) (tCons ta tNil)) σ H (.int (sumTo n c : Int)) := fun H1 e Q q =>
  h H1 e _ fun H2 e2 => by
    have h2 := hp.mono (e.trans e2)
    rw [← cZ_sum] at q
    rcases h2 with h2 | h2
    · exact .inl ⟨p, _, rfl, h2, q H2 e2⟩
    · exact .inr ⟨p, _, rfl, h2, q H2 e2⟩
/-- the item of a new list -/
theorem ev_ul {σ : L2.St} {H : Hp} {ta tb : TE} {xs : List V} {v : V} (j : Nat) (ha : EvL ta σ H xs) (hb : ∀ H1, Ex H H1 → Ev tb σ H1 (.int (j : Int))) (hx : xs[j]? = some v) : Ev (tOp (rIx K) ta tb) σ H v := fun H1 e Q q =>
  ha H1 e _ fun p H2 _ e2 hp => hb H2 (e.trans e2) H2 (Ex.refl H2) _ fun H3 e3 => rv_l (e3 _ _ hp) (atI_nat hx) H3 (Ex.refl H3) Q fun H4 e4 => q H4 ((e2.trans e3).trans e4)
/-- an operation whose first side is told by P -/
theorem ev_opP {σ : L2.St} {H : Hp} {ta tb : TE} {r : R2} {P : V → Hp → Prop} {z : V} (ha : EvP ta σ H P) (h : ∀ x H1, Ex H H1 → P x H1 → Ev (tOp r (tC x) tb) σ H1 z) : Ev (tOp r ta tb) σ H z := fun H1 e Q q =>
  ha H1 e _ fun x H2 e2 px => h x H2 (e.trans e2) px H2 (Ex.refl H2) Q fun H3 e3 => q H3 (e2.trans e3)
/-! ### most_done, does, can_do -/
theorem ep_most0 {σ : L2.St} {H : Hp} {f : Nat → Nat} {ta : TA} {E : XK} {sp : Sp}
    (h : EvP (tCall sp [] E ta) σ H (fun u H' => ∃ p dl st d, u = .ref p ∧ H dl = none ∧ H' p = some (.tup [.ref dl, .ref st]) ∧ H' dl = some (.lst ((cZ n d).map V.int)) ∧ H' st = some (.tup ((tZ ps d).map V.int)) ∧ Reach n ps d ∧ (∀ k, d k ≤ f k) ∧ stuck n ps f d)) :
    EvP (tOp (rIx K) (tCall sp [] E ta) (tC (.int 0))) σ H (fun u H' => ∃ dl d, u = .ref dl ∧ H' dl = some (.lst ((cZ n d).map V.int)) ∧ Reach n ps d ∧ (∀ k, d k ≤ f k) ∧ stuck n ps f d) :=
  ep_t 0 h (fun _ _ => ev_c) fun x H1 ⟨p, dl, st, d, e, _, h1, h2, h3, h4, h5, h6⟩ => ⟨p, _, _, e, h1, rfl, fun H2 e2 => ⟨dl, d, rfl, e2 _ _ h2, h4, h5, h6⟩⟩
def sp_done (K : PySem.W.Frag) : Sp := fun vs H Q _ => ∃ (v : V) (n : Nat) (ps : List Pipe) (c : Addr) (f : Nat → Nat), vs = [v, .ref c] ∧ IsFlow H v n ps ∧ Valid n ps ∧ H c = some (.tup ((cZ n f).map V.int)) ∧ (∀ k, k < n → f k ≤ 200) ∧
  ∀ p d H', H p = none → Ex H H' → H' p = some (.tup ((cZ n d).map V.int)) → Reach n ps d → (∀ k, d k ≤ f k) → stuck n ps f d → Q (.ref p) H'
theorem len_done : ∀ vs H Q E, sp_done K vs H Q E → vs.length = 2 := by rintro vs H Q E ⟨v, n, ps, c, f, rfl, _⟩; rfl
theorem rd_most_done : ∀ vs H Q E, sp_done K vs H Q E → t_most_done K sp_need_both (sp_most K) { nx := fun _ H' => Q .non H', rt := Q } (start ["flow", "counts"] vs) H := by
  rintro vs H Q E ⟨v, n, ps, c, f, rfl, F, hv, hc, hf, q⟩
  unfold t_most_done
  refine q_drop (v := .non) (ev_callV (ea_cons (ev_var rfl) (ea_cons (ev_var rfl) ea_nil)) (sv_need_both F hv hc hf)) fun H1 e1 => ?_
  have h := ep_most0 (K := K) (ep_most (K := K) (E := E0) (σ := start ["flow", "counts"] [v, .ref c]) (ea_cons (ev_var (i := 0) rfl) (ea_cons (ev_var (i := 1) rfl) ea_nil)) (F.mono e1) hv.n8 hv.len (SqA.t (e1 _ _ hc)))
  refine h H1 (Ex.refl H1) _ fun u H2 e2 ⟨dl, d, eu, h1, h2, h3, h4⟩ => ?_
  subst eu
  exact ⟨dl, _, rfl, .inl ⟨SqL.of h1, fun p hp => q p d _ (fresh_back (e1.trans e2) hp) ((e1.trans e2).trans (Ex.new hp)) upd_same h2 h3 h4⟩⟩
def sp_does (K : PySem.W.Frag) : Sp := fun vs H Q _ => ∃ (v : V) (n : Nat) (ps : List Pipe) (c : Addr) (f : Nat → Nat), vs = [v, .ref c] ∧ IsFlow H v n ps ∧ n ≤ 8 ∧ ps.length ≤ 16 ∧ SqA K H c ((cZ n f).map V.int) ∧ (∀ k, n ≤ k → f k = 0) ∧
  ∀ H', Ex H H' → Q (.bl (reachB n ps f)) H'
theorem len_does : ∀ vs H Q E, sp_does K vs H Q E → vs.length = 2 := by rintro vs H Q E ⟨v, n, ps, c, f, rfl, _⟩; rfl
theorem rd_does : ∀ vs H Q E, sp_does K vs H Q E → t_does K (sp_most K) { nx := fun _ H' => Q .non H', rt := Q } (start ["flow", "counts"] vs) H := by
  rintro vs H Q E ⟨v, n, ps, c, f, rfl, F, hn, hl, hc, hz, q⟩
  unfold t_does
  refine s_ret (ev_opP (ep_most0 (K := K) (ep_most (K := K) (ea_cons (ev_var (i := 0) rfl) (ea_cons (ev_var (i := 1) rfl) ea_nil)) F hn hl hc)) fun x H1 e1 ⟨dl, d, ex, h1, h2, h3, h4⟩ => ?_) q
  subst ex
  rw [← stuck_eq hz h2 h3 h4]
  exact ev_opL ev_c (el_listT (ev_var rfl) (hc.mono e1)) fun p H2 hp e2 => rv_eqL (SqL.of (e2 _ _ h1)) (SqL.of hp)
theorem sv_does {H : Hp} {v : V} {c : Addr} {f : Nat → Nat} (F : IsFlow H v n ps) (hn : n ≤ 8) (hl : ps.length ≤ 16) (hc : SqA K H c ((cZ n f).map V.int)) (hz : ∀ k, n ≤ k → f k = 0) : SpV (sp_does K) [v, .ref c] H (.bl (reachB n ps f)) :=
  fun H1 e Q q E => ⟨v, n, ps, c, f, rfl, F.mono e, hn, hl, hc.mono e, hz, q⟩
def sp_can_do : Sp := fun vs H Q _ => ∃ (v : V) (n : Nat) (ps : List Pipe) (c : Addr) (f : Nat → Nat), vs = [v, .ref c] ∧ IsFlow H v n ps ∧ Valid n ps ∧ H c = some (.tup ((cZ n f).map V.int)) ∧ (∀ k, k < n → f k ≤ 200) ∧ (∀ k, n ≤ k → f k = 0) ∧
  ∀ H', Ex H H' → Q (.bl (reachB n ps f)) H'
theorem len_can_do : ∀ vs H Q E, sp_can_do vs H Q E → vs.length = 2 := by rintro vs H Q E ⟨v, n, ps, c, f, rfl, _⟩; rfl
theorem rd_can_do : ∀ vs H Q E, sp_can_do vs H Q E → t_can_do K sp_need_both (sp_does K) { nx := fun _ H' => Q .non H', rt := Q } (start ["flow", "counts"] vs) H := by
  rintro vs H Q E ⟨v, n, ps, c, f, rfl, F, hv, hc, hf, hz, q⟩
  unfold t_can_do
  refine q_drop (v := .non) (ev_callV (ea_cons (ev_var rfl) (ea_cons (ev_var rfl) ea_nil)) (sv_need_both F hv hc hf)) fun H1 e1 => ?_
  exact s_ret (ev_callV (ea_cons (ev_var rfl) (ea_cons (ev_var rfl) ea_nil)) (sv_does (F.mono e1) hv.n8 hv.len (SqA.t (e1 _ _ hc)) hz)) fun H2 e2 => q H2 (e1.trans e2)
theorem sv_can_do {H : Hp} {v : V} {c : Addr} {f : Nat → Nat} (F : IsFlow H v n ps) (hv : Valid n ps) (hc : H c = some (.tup ((cZ n f).map V.int))) (hf : ∀ k, k < n → f k ≤ 200) (hz : ∀ k, n ≤ k → f k = 0) : SpV sp_can_do [v, .ref c] H (.bl (reachB n ps f)) :=
  fun H1 e Q q E => ⟨v, n, ps, c, f, rfl, F.mono e, hv, e _ _ hc, hf, hz, q⟩

/-! ### least_in -/
def subD (f d : Nat → Nat) : Nat → Nat := fun k => f k - d k
theorem sumTo_sub {f d : Nat → Nat} (h : ∀ k, d k ≤ f k) : ∀ {n : Nat}, sumTo n (subD f d) + sumTo n d = sumTo n f
  | 0 => rfl
  | n + 1 => by
    have h1 := sumTo_sub h (n := n)
    have h2 := h n
    show sumTo n (subD f d) + (f n - d n) + (sumTo n d + d n) = sumTo n f + f n
    omega
structure IsWord (n : Nat) (ps : List Pipe) (f : Nat → Nat) (ws : List Nat) : Prop where
  fires : fires n ps zeroD ws
  cnt : behindW zeroD ws = f
  len : ws.length = sumTo n f
theorem behindW_sum {n : Nat} {ps : List Pipe} : ∀ {ws : List Nat} {d : Nat → Nat}, fires n ps d ws → sumTo n (behindW d ws) = sumTo n d + ws.length
  | [], _, _ => rfl
  | b :: w, d, h => by
    unfold behindW
    rw [behindW_sum h.2.2, sumTo_inc h.1, List.length_cons]
    omega
theorem fires_reach {n : Nat} {ps : List Pipe} : ∀ {ws : List Nat} {d : Nat → Nat}, Reach n ps d → fires n ps d ws → Reach n ps (behindW d ws)
  | [], _, r, _ => r
  | b :: w, d, r, h => fires_reach (ws := w) (d := inc d b) (.step r h.1 h.2.1) h.2.2
def sp_least (K : PySem.W.Frag) : Sp := fun vs H Q _ => ∃ (v : V) (n : Nat) (ps : List Pipe) (c : Addr) (f : Nat → Nat), vs = [v, .ref c] ∧ IsFlow H v n ps ∧ n ≤ 8 ∧ ps.length ≤ 16 ∧ SqA K H c ((cZ n f).map V.int) ∧ (∀ k, n ≤ k → f k = 0) ∧ Reach n ps f ∧ sumTo n f ≤ 2000 ∧
  ∀ p H' ws, H p = none → Ex H H' → H' p = some (.lst ((nZ ws).map V.int)) → IsWord n ps f ws → Q (.ref p) H'
theorem len_least : ∀ vs H Q E, sp_least K vs H Q E → vs.length = 2 := by rintro vs H Q E ⟨v, n, ps, c, f, rfl, _⟩; rfl
def liW (n : Nat) (ps : List Pipe) (f : Nat → Nat) (H : Hp) (v : V) (c fl ll : Addr) : Nat → L2.St → Hp → Prop := fun m σ H' => ∃ st ws y5, σ = [some v, some (.ref c), some (.ref fl), some (.ref st), some (.ref ll), y5, none] ∧ Ex H H' ∧
  H' fl = some (.lst ((nZ ws).map V.int)) ∧ H' st = some (.tup ((tZ ps (behindW zeroD ws)).map V.int)) ∧ H' ll = some (.lst ((cZ n (subD f (behindW zeroD ws))).map V.int)) ∧ fires n ps zeroD ws ∧ (∀ k, behindW zeroD ws k ≤ f k) ∧ m = sumTo n f - ws.length
theorem nZ_snoc {ws : List Nat} {b : Nat} : (nZ (ws ++ [b])).map V.int = (nZ ws).map V.int ++ [.int (b : Int)] := by
  unfold nZ
  rw [List.map_append, List.map_append]
  rfl
theorem rd_least_in : ∀ vs H Q E, sp_least K vs H Q E → t_least_in K sp_marks sp_fireable sp_behind { nx := fun _ H' => Q .non H', rt := Q } (start ["flow", "counts", "found", "some", "left", "box", "k"] vs) H := by
  rintro vs H Q E ⟨v, n, ps, c, f, rfl, IF, hn, hlen, hc, hz, hr, hs, q⟩
  unfold t_least_in
  show tSeq _ _ _ ([some v, some (.ref c), none, none, none, none, none] : L2.St) H
  have h1 : EvP (tTup (tCons (tLst tNil) (tCons (tCall sp_marks [] E0 (tCons (tVar 0) tNil)) (tCons (tCB (rListS K) (tCons (tVar 1) tNil)) tNil)))) ([some v, some (.ref c), none, none, none, none, none] : L2.St) H
      (fun u H' => ∃ p fl st ll, u = .ref p ∧ H' p = some (.tup [.ref fl, .ref st, .ref ll]) ∧ H fl = none ∧ H ll = none ∧ fl ≠ ll ∧ H' fl = some (.lst []) ∧ H' st = some (.tup ((tZ ps zeroD).map V.int)) ∧ H' ll = some (.lst ((cZ n f).map V.int))) := fun H0 e0 Q' q' => by
    refine tup_do (cons_do (el_nil H0 e0 _ fun fl H1 hfl e1 h1 => cons_do ?_))
    refine eu_callU (ea_cons (ev_var (i := 0) rfl) ea_nil) (su_marks (IF.mono (e0.trans e1)) hlen) H1 (Ex.refl H1) _ fun st H2 hst e2 h2 => cons_do ?_
    refine el_listT (K := K) (ev_var (i := 1) rfl) (hc.mono ((e0.trans e1).trans e2)) H2 (Ex.refl H2) _ fun ll H3 hll e3 h3 => ⟨sz_of (by simp), fun p hp => ?_⟩
    refine q' _ _ (((e1.trans e2).trans e3).trans (Ex.new hp)) ⟨p, fl, st, ll, rfl, upd_same, fresh_back e0 hfl, fresh_back ((e0.trans e1).trans e2) hll, ?_, Ex.new hp _ _ (e3 _ _ (e2 _ _ h1)), Ex.new hp _ _ (e3 _ _ h2), Ex.new hp _ _ h3⟩
    intro z
    rw [← z, e2 _ _ h1] at hll
    cases hll
  refine q_asgG h1 fun u H1 e1 ⟨p, fl, st, ll, eu, hp, hfl, hll, hne, h2, h3, h4⟩ => ?_
  subst eu
  refine ⟨p, _, rfl, SqT.of hp, rfl, _, _, rfl, _, _, rfl, _, _, rfl, rfl, ?_⟩
  show tSeq _ _ _ ([some v, some (.ref c), some (.ref fl), some (.ref st), some (.ref ll), none, none] : L2.St) H1
  refine q_while (liW n ps f H v c fl ll) (sumTo n f) ⟨st, [], none, rfl, e1, h2, h3, ?_, trivial, fun k => Nat.zero_le _, rfl⟩ fun m σ' H' hW => ?_
  · rw [h4]
    congr 3
  obtain ⟨st, ws, y5, rfl, e, hF, hS, hL, hfi, hle, rfl⟩ := hW
  have hsum := sumTo_sub hle (n := n)
  have hwl : sumTo n (behindW zeroD ws) = ws.length := by rw [behindW_sum hfi, sumTo_zero]; omega
  refine ⟨decide ((0 : Int) < (sumTo n (subD f (behindW zeroD ws)) : Int)), et_test (ev_op (ev_sumA (ev_var rfl) (SqA.l hL)) ev_c rv_I0), fun hb H2 e2 => ?_, fun hb H2 e2 => ?_⟩
  · have hpos : 0 < sumTo n (subD f (behindW zeroD ws)) := by have := of_decide_eq_true hb; omega
    have hne' : behindW zeroD ws ≠ f := fun z => by
      have h5 : sumTo n (behindW zeroD ws) = sumTo n f := by rw [z]
      omega
    obtain ⟨b0, hb0, hlt0, hc0⟩ := hr.more hle hne'
    -- the boxes that may be fired on
    have e02 := e.trans e2
    have hcomp := el_lcNLz (K := K) (σ := ([some v, some (.ref c), some (.ref fl), some (.ref st), some (.ref ll), y5, none] : L2.St)) (H := H2) (tl := tCall sp_fireable [] E0 (tCons (tVar 0) (tCons (tVar 3) tNil))) (vs := [6]) (j := 6)
      (tt := tTest (tOp (rI0 fun i j => .bl (decide (j < i))) (tOp (rIx K) (tVar 4) (tVar 6)) (tC (.int 0)))) (te := tVar 6) (zs := (List.range n).filter (canB ps (behindW zeroD ws)))
      (fun k => decide (behindW zeroD ws k < f k)) (fun (k : Nat) => V.int (k : Int)) (el_callL (ea_cons (ev_var rfl) (ea_cons (ev_var rfl) ea_nil)) (sl_fireable (IF.mono e02) hn (e2 _ _ hS))) nV_len (by
        have := List.length_filter_le (canB ps (behindW zeroD ws)) (List.range n)
        rw [List.length_range] at this
        omega) (fun _ => rfl) (fun i x z H3 e3 hx hz => by
        obtain ⟨k, hk, rfl⟩ := nV_getp hx
        rw [hz] at hk
        cases hk
        have hzn : z < n := List.mem_range.mp (List.mem_filter.mp (List.mem_of_getElem? hz)).1
        refine et_is (et_test (ev_op (ev_l z (ev_var rfl) (ev_var rfl) (e3 _ _ (e2 _ _ hL)) (cV_get hzn)) ev_c rv_I0)) ?_
        unfold subD
        by_cases hh : behindW zeroD ws z < f z
        · rw [decide_eq_true hh]; exact decide_eq_true (by omega)
        · rw [decide_eq_false hh]; exact decide_eq_false (by omega)) (fun i x z H3 e3 hx hz hf => by
        obtain ⟨k, hk, rfl⟩ := nV_getp hx
        rw [hz] at hk
        cases hk
        exact ev_var rfl)
    have hmem : b0 ∈ ((List.range n).filter (canB ps (behindW zeroD ws))).filter (fun k => decide (behindW zeroD ws k < f k)) :=
      List.mem_filter.mpr ⟨List.mem_filter.mpr ⟨List.mem_range.mpr hb0, canB_iff.mpr hc0⟩, decide_eq_true hlt0⟩
    generalize hZ : ((List.range n).filter (canB ps (behindW zeroD ws))).filter (fun k => decide (behindW zeroD ws k < f k)) = Z at hmem hcomp
    cases Z with
    | nil => cases hmem
    | cons b r =>
      have hbm : b ∈ ((List.range n).filter (canB ps (behindW zeroD ws))).filter (fun k => decide (behindW zeroD ws k < f k)) := by rw [hZ]; exact List.mem_cons_self
      obtain ⟨hbm1, hbm2⟩ := List.mem_filter.mp hbm
      obtain ⟨hbm3, hbm4⟩ := List.mem_filter.mp hbm1
      have hbn := List.mem_range.mp hbm3
      have hcan := canB_iff.mp hbm4
      have hlt := of_decide_eq_true hbm2
      have hbd : behindW zeroD (ws ++ [b]) = inc (behindW zeroD ws) b := behindW_snoc
      refine ⟨fun σ2 H2 => ∃ m', m' < _ ∧ liW n ps f H v c fl ll m' σ2 H2, fun _ _ h => h, ?_⟩
      refine q_asg (v := .int (b : Int)) (ev_ul 0 hcomp (fun _ _ => ev_c) rfl) fun H3 e3 => ?_
      show tSeq _ _ _ ([some v, some (.ref c), some (.ref fl), some (.ref st), some (.ref ll), some (.int (b : Int)), none] : L2.St) H3
      have e23 := e2.trans e3
      have hwl2 : ws.length < 100000 := by omega
      refine q_app (K := K) (e23 _ _ hF) (ev_var rfl) (ev_var rfl) (by rw [nV_len]; exact hwl2) fun H4 e4 => ?_
      have hst_fl : st ≠ fl := fun z => by rw [z, hF] at hS; cases hS
      have hst_ll : st ≠ ll := fun z => by rw [z, hL] at hS; cases hS
      have e24 := e23.trans e4
      have eo : Ex H (upd H4 fl (.lst ((nZ ws).map V.int ++ [.int (b : Int)]))) := Ex.mut (e.trans e24) hfl
      have hS4 : (upd H4 fl (.lst ((nZ ws).map V.int ++ [.int (b : Int)]))) st = some (.tup ((tZ ps (behindW zeroD ws)).map V.int)) := by rw [upd_ne hst_fl]; exact e24 _ _ hS
      have hL4 : (upd H4 fl (.lst ((nZ ws).map V.int ++ [.int (b : Int)]))) ll = some (.lst ((cZ n (subD f (behindW zeroD ws))).map V.int)) := by rw [upd_ne (Ne.symm hne)]; exact e24 _ _ hL
      have hF4 : (upd H4 fl (.lst ((nZ ws).map V.int ++ [.int (b : Int)]))) fl = some (.lst ((nZ ws).map V.int ++ [.int (b : Int)])) := upd_same
      generalize upd H4 fl (.lst ((nZ ws).map V.int ++ [.int (b : Int)])) = H5 at eo hS4 hL4 hF4
      refine q_asgU (eu_callU (ea_cons (ev_var rfl) (ea_cons (ev_var rfl) (ea_cons (ev_var rfl) ea_nil))) (su_behind (b := b) (IF.mono eo) hlen hS4)) fun st2 H6 hst2 e6 h6 => ?_
      show tAugS _ _ _ _ _ _ _ ([some v, some (.ref c), some (.ref fl), some (.ref st2), some (.ref ll), some (.int (b : Int)), none] : L2.St) H6
      refine s_augL (K := K) (j := b) (ev_var rfl) (ev_var rfl) (e6 _ _ hL4) (cV_get hbn) ev_c fun H7 e7 => ?_
      have hst2_ll : st2 ≠ ll := fun z => by rw [z, hL4] at hst2; cases hst2
      have e67 := e6.trans e7
      refine ⟨sumTo n f - (ws ++ [b]).length, by rw [List.length_append]; show sumTo n f - (ws.length + 1) < _; omega, st2, ws ++ [b], _, rfl, Ex.mut (eo.trans e67) hll, ?_, ?_, ?_, fires_snoc hfi hbn hcan, fun k => ?_, rfl⟩
      · rw [upd_ne hne, nZ_snoc]; exact e67 _ _ hF4
      · rw [upd_ne hst2_ll, hbd]; exact e7 _ _ h6
      · rw [upd_same, hbd]
        refine congrArg (fun z => some (HO.lst z)) (cV_set hbn ?_ fun k _ hk => ?_)
        · unfold subD; rw [inc_same]; omega
        · unfold subD; rw [inc_ne hk]
      · rw [hbd]
        by_cases hk : k = b
        · subst hk; rw [inc_same]; omega
        · rw [inc_ne hk]; exact hle k
  · have h0 : sumTo n (subD f (behindW zeroD ws)) = 0 := by have := of_decide_eq_false hb; omega
    have heq : behindW zeroD ws = f := by
      funext k
      by_cases hk : k < n
      · have h1 := le_sumTo (d := subD f (behindW zeroD ws)) hk
        have h2 := hle k
        have h3 : subD f (behindW zeroD ws) k = 0 := by omega
        unfold subD at h3
        omega
      · have := hle k; have := hz k (by omega); omega
    exact s_ret (ev_var rfl) fun H3 e3 => q fl H3 ws hfl ((e.trans e2).trans e3) (e3 _ _ (e2 _ _ hF)) ⟨hfi, heq, by rw [← heq, hwl]⟩

/-! ### word_for, shows_word -/
def sp_word_for : Sp := fun vs H Q _ => ∃ (v : V) (n : Nat) (ps : List Pipe) (c : Addr) (f : Nat → Nat), vs = [v, .ref c] ∧ IsFlow H v n ps ∧ Valid n ps ∧ H c = some (.tup ((cZ n f).map V.int)) ∧ (∀ k, k < n → f k ≤ 200) ∧ (∀ k, n ≤ k → f k = 0) ∧
  ∀ u H', Ex H H' → ((∃ w ws, u = .ref w ∧ WordAt H' w ws ∧ IsWord n ps f ws) ∨ (u = .non ∧ ¬ Reach n ps f)) → Q u H'
theorem len_word_for : ∀ vs H Q E, sp_word_for vs H Q E → vs.length = 2 := by rintro vs H Q E ⟨v, n, ps, c, f, rfl, _⟩; rfl
theorem sum_200 {n : Nat} {f : Nat → Nat} (hn : n ≤ 8) (hf : ∀ k, k < n → f k ≤ 200) : sumTo n f ≤ 2000 := by
  have := sumTo_bound hf
  have h2 : n * 200 ≤ 8 * 200 := Nat.mul_le_mul_right _ hn
  omega
theorem rd_word_for : ∀ vs H Q E, sp_word_for vs H Q E → t_word_for K sp_need_both (sp_does K) (sp_least K) { nx := fun _ H' => Q .non H', rt := Q } (start ["flow", "counts"] vs) H := by
  rintro vs H Q E ⟨v, n, ps, c, f, rfl, F, hv, hc, hf, hz, q⟩
  unfold t_word_for
  refine q_drop (v := .non) (ev_callV (ea_cons (ev_var rfl) (ea_cons (ev_var rfl) ea_nil)) (sv_need_both F hv hc hf)) fun H1 e1 => ?_
  have ht : EvT (tB (tCall (sp_does K) [] E0 (tCons (tVar 0) (tCons (tVar 1) tNil)))) (start ["flow", "counts"] [v, .ref c]) H1 (reachB n ps f) := et_B (ev_callV (ea_cons (ev_var rfl) (ea_cons (ev_var rfl) ea_nil)) (sv_does (F.mono e1) hv.n8 hv.len (SqA.t (e1 _ _ hc)) hz))
  refine ht H1 (Ex.refl H1) _ fun H2 e2 => ?_
  have e12 := e1.trans e2
  by_cases hr : Reach n ps f
  · rw [reachB_iff.mpr hr, if_pos rfl]
    have hl : EvP (tCall (sp_least K) [] E0 (tCons (tVar 0) (tCons (tVar 1) tNil))) (start ["flow", "counts"] [v, .ref c]) H2 (fun u H' => ∃ p ws, u = .ref p ∧ H' p = some (.lst ((nZ ws).map V.int)) ∧ IsWord n ps f ws) :=
      ep_call (ea_cons (ev_var rfl) (ea_cons (ev_var rfl) ea_nil)) fun H3 e3 Q' q' E' => ⟨v, n, ps, c, f, rfl, F.mono (e12.trans e3), hv.n8, hv.len, SqA.t ((e12.trans e3) _ _ hc), hz, hr, sum_200 hv.n8 hf, fun p H' ws _ e' h1 h2 => q' _ H' e' ⟨p, ws, rfl, h1, h2⟩⟩
    refine hl H2 (Ex.refl H2) _ fun u H3 e3 ⟨p, ws, eu, h1, h2⟩ => ?_
    subst eu
    exact ⟨p, _, rfl, SqL.of h1, fun l o hl ho => q _ _ ((e12.trans e3).trans (Ex.new hl)) (.inl ⟨l, ws, rfl, ⟨o, upd_same, ho⟩, h2⟩)⟩
  · rw [reachB_no hr, if_neg Bool.false_ne_true]
    exact q _ _ e12 (.inr ⟨rfl, hr⟩)
def sp_shows_word : Sp := fun vs H Q _ => ∃ (v : V) (n : Nat) (ps : List Pipe) (c : Addr) (f : Nat → Nat) (u : V), vs = [v, .ref c, u] ∧ IsFlow H v n ps ∧ Valid n ps ∧ H c = some (.tup ((cZ n f).map V.int)) ∧ (∀ k, k < n → f k ≤ 200) ∧ (∀ k, n ≤ k → f k = 0) ∧
  ((∃ w ws, u = .ref w ∧ WordAt H w ws ∧ IsWord n ps f ws) ∨ (u = .non ∧ ¬ Reach n ps f)) ∧ ∀ H', Ex H H' → Q (.bl true) H'
theorem len_shows_word : ∀ vs H Q E, sp_shows_word vs H Q E → vs.length = 3 := by rintro vs H Q E ⟨v, n, ps, c, f, u, rfl, _⟩; rfl
theorem IsWord.reach {f : Nat → Nat} {ws : List Nat} (h : IsWord n ps f ws) : Reach n ps f := by
  have := fires_reach .zero h.fires
  rw [h.cnt] at this; exact this
theorem IsWord.count {f : Nat → Nat} {ws : List Nat} (h : IsWord n ps f ws) (k : Nat) : ws.count k = f k := by
  have := behindW_count (w := ws) (d := zeroD) k
  rw [h.cnt] at this
  rw [this]; show _ = 0 + _; omega
theorem isN_ref {σ : L2.St} {H : Hp} {ta : TE} {p : Addr} (h : Ev ta σ H (.ref p)) : Ev (tIsN ta) σ H (.bl false) := fun H1 e Q q => h H1 e _ fun H2 e2 => q H2 e2
theorem isN_non {σ : L2.St} {H : Hp} {ta : TE} (h : Ev ta σ H .non) : Ev (tIsN ta) σ H (.bl true) := fun H1 e Q q => h H1 e _ fun H2 e2 => q H2 e2
theorem rd_shows_word : ∀ vs H Q E, sp_shows_word vs H Q E → t_shows_word K sp_need_both (sp_does K) sp_is_boxes sp_counts_in sp_line_in { nx := fun _ H' => Q .non H', rt := Q } (start ["flow", "counts", "value"] vs) H := by
  rintro vs H Q E ⟨v, n, ps, c, f, u, rfl, F, hv, hc, hf, hz, hu, q⟩
  unfold t_shows_word
  refine q_drop (v := .non) (ev_callV (ea_cons (ev_var rfl) (ea_cons (ev_var rfl) ea_nil)) (sv_need_both F hv hc hf)) fun H1 e1 => ?_
  refine q_when (b := !reachB n ps f) (et_not (et_B (ev_callV (ea_cons (ev_var rfl) (ea_cons (ev_var rfl) ea_nil)) (sv_does (F.mono e1) hv.n8 hv.len (SqA.t (e1 _ _ hc)) hz)))) (fun hb H2 e2 => ?_) fun hb H2 e2 => ?_
  · rcases hu with ⟨w, ws, rfl, hw, hW⟩ | ⟨rfl, hn⟩
    · rw [reachB_iff.mpr hW.reach] at hb
      cases hb
    · exact s_ret (isN_non (ev_var rfl)) fun H3 e3 => q H3 ((e1.trans e2).trans e3)
  · rcases hu with ⟨w, ws, rfl, hw, hW⟩ | ⟨rfl, hn⟩
    · have e12 := e1.trans e2
      have hlen : ws.length ≤ 2000 := by rw [hW.len]; exact sum_200 hv.n8 hf
      have hcz : (cZ n fun k => ws.count k) = cZ n f := cZ_congr fun k _ => hW.count k
      refine q_when (b := false || false) (et_or (et_not (a := true) (et_B (ev_callV (ea_cons (ev_var rfl) (ea_cons (ev_var rfl) ea_nil)) fun H3 e3 Q' q' E' => ⟨v, n, ps, w, ws, rfl, F.mono (e12.trans e3), hw.mono (e12.trans e3), hlen, fires_lt hW.fires, q'⟩))) fun _ =>
        et_is (et_test (ev_opP (EvU.p (xs := (cZ n f).map V.int) (eu_callU (ea_cons (ev_var rfl) (ea_cons (ev_var rfl) ea_nil)) fun H3 e3 Q' q' E' => ⟨v, n, ps, w, ws, rfl, F.mono (e12.trans e3), hv.n8, hw.mono (e12.trans e3), by rw [hcz]; exact q'⟩)) fun x H3 e3 ⟨p, ex, hp⟩ => by
          subst ex
          exact ev_op ev_c (ev_var rfl) (rv_neT (SqT.of hp) (SqT.of ((e12.trans e3) _ _ hc))))) (by rw [decide_eq_true rfl]; rfl)) (fun z => nomatch z) fun _ H3 e3 => ?_
      have e13 := e12.trans e3
      have hl : EvP (tCall sp_line_in [] E0 (tCons (tVar 0) (tCons (tVar 2) tNil))) (start ["flow", "counts", "value"] [v, .ref c, .ref w]) H3 (fun u H' => ∃ p xs, u = .ref p ∧ H' p = some (.lst xs) ∧ xs.length = ws.length + 1) :=
        ep_call (ea_cons (ev_var rfl) (ea_cons (ev_var rfl) ea_nil)) fun H4 e4 Q' q' E' => ⟨v, n, ps, w, ws, rfl, F.mono (e13.trans e4), hv.len, hw.mono (e13.trans e4), hlen, hW.fires, fun p H' xs _ e' h1 h2 => q' _ H' e' ⟨p, xs, rfl, h1, h2⟩⟩
      refine hl H3 (Ex.refl H3) _ fun u H4 e4 ⟨p, xs, eu, h1, h2⟩ => ?_
      subst eu
      refine ⟨p, xs, rfl, .inl (SqL.of h1), ?_⟩
      refine ev_lenS (K := K) (p := w) (xs := (nZ ws).map V.int) (ev_var (i := 2) (σ := start ["flow", "counts", "value"] [v, .ref c, .ref w]) rfl) (.inr (hw.mono (e13.trans e4)).seq) H4 (Ex.refl H4) _ fun H5 e5 => ⟨_, _, rfl, rfl, ?_⟩
      have ed : decide ((((nZ ws).map V.int).length : Int) < (xs.length : Int)) = true := decide_eq_true (by rw [nV_len, h2]; omega)
      show Q (.bl (decide ((((nZ ws).map V.int).length : Int) < (xs.length : Int)))) H5
      rw [ed]
      exact q H5 ((e13.trans e4).trans e5)
    · rw [reachB_no hn] at hb
      cases hb
end
end K8

-- K8RdF
/-! K8RdF: the law's own greatest counts. -/
namespace K8
open PySem PySem.Spec L2 Evl
section
variable {K : PySem.W.Frag} {n : Nat} {ps : List Pipe}
theorem nZ_nil {l : List Nat} : nZ l = [] ↔ l = [] := by unfold nZ; rw [List.map_eq_nil_iff]
def doP (K : PySem.W.Frag) (n : Nat) (ps : List Pipe) (f : Nat → Nat) (H : Hp) (v : V) (c dl : Addr) (i : Nat) : L2.St → Hp → Prop := fun σ H' => ∃ st d y4 y5, σ = [some v, some (.ref c), some (.ref st), some (.ref dl), y4, y5, none] ∧ MI K n ps f H dl st d H' ∧ sumTo n d = i
def sp_do (K : PySem.W.Frag) : Sp := fun vs H Q _ => ∃ (v : V) (n : Nat) (ps : List Pipe) (c : Addr) (f : Nat → Nat), vs = [v, .ref c] ∧ IsFlow H v n ps ∧ n ≤ 8 ∧ ps.length ≤ 16 ∧ SqA K H c ((cZ n f).map V.int) ∧ sumTo n f ≤ 10000 ∧
  ∀ p dl st d H', H p = none → H dl = none → Ex H H' → H' p = some (.tup [.ref dl, .ref st]) → H' dl = some (.lst ((cZ n d).map V.int)) → H' st = some (.tup ((tZ ps d).map V.int)) → Reach n ps d → (∀ k, d k ≤ f k) → stuck n ps f d → Q (.ref p) H'
theorem len_do : ∀ vs H Q E, sp_do K vs H Q E → vs.length = 2 := by rintro vs H Q E ⟨v, n, ps, c, f, rfl, _⟩; rfl
theorem ep_do {σ : L2.St} {H : Hp} {v : V} {c : Addr} {f : Nat → Nat} {ta : TA} {E : XK} (h : EvA ta σ H [v, .ref c]) (F : IsFlow H v n ps) (hn : n ≤ 8) (hl : ps.length ≤ 16) (hc : SqA K H c ((cZ n f).map V.int)) (hs : sumTo n f ≤ 10000) :
    EvP (tCall (sp_do K) [] E ta) σ H (fun u H' => ∃ p dl st d, u = .ref p ∧ H dl = none ∧ H' p = some (.tup [.ref dl, .ref st]) ∧ H' dl = some (.lst ((cZ n d).map V.int)) ∧ H' st = some (.tup ((tZ ps d).map V.int)) ∧ Reach n ps d ∧ (∀ k, d k ≤ f k) ∧ stuck n ps f d) :=
  ep_call h fun H1 e Q q E => ⟨v, n, ps, c, f, rfl, F.mono e, hn, hl, hc.mono e, hs, fun p dl st d H' hp hdl e' h1 h2 h3 h4 h5 h6 => q _ H' e' ⟨p, dl, st, d, rfl, fresh_back e hdl, h1, h2, h3, h4, h5, h6⟩⟩
theorem rd_law_do : ∀ vs H Q E, sp_do K vs H Q E → t_law_do K sp_marks sp_can sp_behind { nx := fun _ H' => Q .non H', rt := Q } (start ["_law_flow_here", "_law_counts_here", "_law_some_here", "_law_done", "_law_turn", "_law_fits", "_law_box"] vs) H := by
  rintro vs H Q E ⟨v, n, ps, c, f, rfl, IF, hn, hlen, hc, hsm, q⟩
  obtain ⟨t, q0, as, ev, F⟩ := id IF
  unfold t_law_do
  show tSeq _ _ _ ([some v, some (.ref c), none, none, none, none, none] : L2.St) H
  have h1 : EvP (tTup (tCons (tCall sp_marks [] E0 (tCons (tVar 0) tNil)) (tCons (tOp rRep (tLst (tCons (tC (.int 0)) tNil)) (tOp (rIx K) (tVar 0) (tC (.int 0)))) tNil))) ([some v, some (.ref c), none, none, none, none, none] : L2.St) H
      (fun u H' => ∃ p st dl, u = .ref p ∧ H' p = some (.tup [.ref st, .ref dl]) ∧ H dl = none ∧ H' st = some (.tup ((tZ ps zeroD).map V.int)) ∧ H' dl = some (.lst ((cZ n zeroD).map V.int))) := fun H0 e0 Q' q' => by
    refine tup_do (cons_do ?_)
    refine eu_callU (ea_cons (ev_var (i := 0) rfl) ea_nil) (su_marks (IF.mono e0) hlen) H0 (Ex.refl H0) _ fun st H2 hst e2 h2 => cons_do ?_
    refine el_rep (n := n) (el_lst (ea_cons ev_c ea_nil) (by simp)) (fun H1 e1 => ev_f0 (t0 := t) (by rw [ev]; rfl) (F.mono ((e0.trans e2).trans e1))) (by omega) H2 (Ex.refl H2) _ fun dl H3 hdl e3 hd => nil_do ⟨sz_of (by simp), fun p hp => ?_⟩
    rw [rep_zero] at hd
    exact q' _ _ ((e2.trans e3).trans (Ex.new hp)) ⟨p, st, dl, rfl, upd_same, fresh_back (e0.trans e2) hdl, Ex.new hp _ _ (e3 _ _ h2), Ex.new hp _ _ hd⟩
  refine q_asgG h1 fun u H1 e1 ⟨p, st, dl, eu, hp, hdl, h2, h3⟩ => ?_
  subst eu
  refine ⟨p, _, rfl, SqT.of hp, rfl, _, _, rfl, _, _, rfl, rfl, ?_⟩
  show tSeq _ _ _ ([some v, some (.ref c), some (.ref st), some (.ref dl), none, none, none] : L2.St) H1
  have e1' := e1
  refine q_forR1 (n := ((sumTo n f + 1 : Nat) : Int)) (ea_cons (ev_is (ev_op (ev_sumA (ev_var rfl) (hc.mono e1)) ev_c rv_I0) (by rw [Int.natCast_add]; rfl)) ea_nil) (by omega) (doP K n ps f H v c dl) (fun H2 e2 => ⟨st, zeroD, _, _, rfl, ⟨e1.trans e2, e2 _ _ h3, e2 _ _ h2, .zero, fun k => Nat.zero_le _⟩, sumTo_zero⟩) (fun i σ' H' hi p => ?_) fun σ' H' p => ?_
  · obtain ⟨st, d, y4, y5, rfl, M, hsi⟩ := p
    show tSeq _ _ _ ([some v, some (.ref c), some (.ref st), some (.ref dl), some (.int (i : Int)), y5, none] : L2.St) H'
    have hcomp := el_lcR (σ := ([some v, some (.ref c), some (.ref st), some (.ref dl), some (.int (i : Int)), y5, none] : L2.St)) (H := H') (ta := tCons (tOp (rIx K) (tVar 0) (tC (.int 0))) tNil) (m := n) (j := 6) (vs := [6])
      (tt := tAnd (tTest (tOp (rI0 fun i j => .bl (decide (i < j))) (tOp (rIx K) (tVar 3) (tVar 6)) (tOp (rIx K) (tVar 1) (tVar 6)))) (tB (tCall sp_can [] E0 (tCons (tVar 0) (tCons (tVar 2) (tCons (tVar 6) tNil)))))) (te := tVar 6)
      (fun b => decide (d b < f b) && canB ps d b) (fun (b : Nat) => V.int (b : Int)) (ea_cons (ev_f0 (t0 := t) (by rw [ev]; rfl) (F.mono M.ex)) ea_nil) (by omega) (fun _ => rfl) (fun b H2 e2 hb => by
        refine et_and (et_is (et_test (ev_op (ev_l b (ev_var rfl) (ev_var rfl) (e2 _ _ M.dn) (cV_get hb)) (ev_sa b (ev_var rfl) (ev_var rfl) (hc.mono (M.ex.trans e2)) (cV_get hb)) rv_I0)) ?_) fun _ => et_B (ev_callV (ea_cons (ev_var rfl) (ea_cons (ev_var rfl) (ea_cons (ev_var rfl) ea_nil))) (sv_can (IF.mono (M.ex.trans e2)) hlen (e2 _ _ M.sm)))
        by_cases hh : d b < f b
        · rw [decide_eq_true hh]; exact decide_eq_true (by omega)
        · rw [decide_eq_false hh]; exact decide_eq_false (by omega)) (fun b H2 e2 hb _ => ev_var rfl)
    rw [← nV_eq] at hcomp
    generalize hZ : (List.range n).filter (fun b => decide (d b < f b) && canB ps d b) = Z at hcomp
    refine q_asgL hcomp fun fl H2 hfl e2 hF => ?_
    show tSeq _ _ _ ([some v, some (.ref c), some (.ref st), some (.ref dl), some (.int (i : Int)), some (.ref fl), none] : L2.St) H2
    have M2 := M.mono e2
    refine q_when (b := decide (nZ Z = [])) (et_test (ev_eqNil' (ev_var rfl) hF)) (fun hb H3 e3 => ?_) fun hb H3 e3 => ?_
    · have hZn : Z = [] := nZ_nil.mp (of_decide_eq_true hb)
      have hst : stuck n ps f d := fun b hbn hlt hcan => by
        have : b ∈ (List.range n).filter (fun b => decide (d b < f b) && canB ps d b) := List.mem_filter.mpr ⟨List.mem_range.mpr hbn, by rw [decide_eq_true hlt, canB_iff.mpr hcan]; rfl⟩
        rw [hZ, hZn] at this
        cases this
      refine s_retU (xs := [.ref dl, .ref st]) (eu_tup (ea_cons (ev_var rfl) (ea_cons (ev_var rfl) ea_nil)) (by simp)) fun p H4 hp e4 h4 => ?_
      have M4 := M2.mono (e3.trans e4)
      exact q p dl st d H4 (fresh_back (M2.mono e3).ex hp) hdl M4.ex h4 M4.dn M4.sm M4.re M4.le hst
    · have hZne : Z ≠ [] := fun z => by
        rw [z] at hb
        cases hb
      have hZe : Z = Z.dropLast ++ [Z.getLast hZne] := (List.dropLast_concat_getLast hZne).symm
      generalize Z.getLast hZne = b at hZe
      generalize Z.dropLast = Z0 at hZe
      subst hZe
      have hbm : b ∈ (List.range n).filter (fun b => decide (d b < f b) && canB ps d b) := by rw [hZ]; simp
      obtain ⟨hb1, hb2⟩ := List.mem_filter.mp hbm
      obtain ⟨hb3, hb4⟩ := Bool.and_eq_true_iff.mp hb2
      have hbn := List.mem_range.mp hb1
      have hlt := of_decide_eq_true hb3
      have hcan := canB_iff.mp hb4
      rw [nZ_snoc] at hF
      have M3 := M2.mono e3
      have hF3 := e3 _ _ hF
      refine q_asgU (eu_callU (ea_cons (ev_var rfl) (ea_cons (ev_var rfl) (ea_cons (ev_lastL (ev_var rfl) hF3) ea_nil))) (su_behind (b := b) (IF.mono M3.ex) hlen M3.sm)) fun st2 H4 hst2 e4 h4 => ?_
      show tAsg _ _ _ ([some v, some (.ref c), some (.ref st2), some (.ref dl), some (.int (i : Int)), some (.ref fl), none] : L2.St) H4
      have M4 := M3.mono e4
      have hF4 := e4 _ _ hF3
      refine s_setL (j := b) (v := .int ((d b : Int) + 1)) M4.dn (ev_op (ev_op (ev_var rfl) (ev_lastL (ev_var rfl) hF4) (rv_l M4.dn (atI_nat (cV_get hbn)))) ev_c rv_I0) (ev_var rfl) (ev_lastL (ev_var rfl) hF4) (by rw [cV_len]; exact hbn) fun H5 e5 => ?_
      have hne : st2 ≠ dl := fun z => by rw [z, M3.dn] at hst2; cases hst2
      refine ⟨st2, inc d b, _, _, rfl, ⟨Ex.mut (M4.ex.trans e5) hdl, ?_, ?_, .step M.re hbn hcan, fun k => ?_⟩, by rw [sumTo_inc hbn, hsi]⟩
      · rw [upd_same, cV_set hbn (e := inc d b) (by rw [inc_same]; rfl) fun k _ hk => inc_ne hk]
      · rw [upd_ne hne]; exact e5 _ _ h4
      · by_cases hk : k = b
        · subst hk; rw [inc_same]; omega
        · rw [inc_ne hk]; exact M.le k
  · obtain ⟨st, d, y4, y5, rfl, M, hsi⟩ := p
    have := sumTo_le (n := n) fun k _ => M.le k
    omega
end
end K8

-- K8Part
/-! K8Part: searches for the part of a box. Plain Lean. -/
namespace K8
open Classical in
noncomputable def card (n : Nat) (S : Nat → Prop) : Nat := sumTo n fun k => if S k then 1 else 0
theorem card_le (n : Nat) (S : Nat → Prop) : card n S ≤ n := by
  have := sumTo_bound (n := n) (m := 1) (d := fun k => @ite _ (S k) (Classical.propDecidable _) 1 0) fun k _ => by
    by_cases h : S k <;> simp [h]
  unfold card
  omega
theorem card_mono {n : Nat} {S T : Nat → Prop} (h : ∀ k, k < n → S k → T k) : card n S ≤ card n T := by
  unfold card
  refine sumTo_le fun k hk => ?_
  by_cases h1 : S k
  · simp [h1, h k hk h1]
  · simp [h1]
theorem card_lt {n : Nat} {S T : Nat → Prop} (h : ∀ k, k < n → S k → T k) (hx : ∃ k, k < n ∧ T k ∧ ¬ S k) : card n S < card n T := by
  unfold card
  refine sumTo_lt (fun k hk => ?_) ?_
  · by_cases h1 : S k
    · simp [h1, h k hk h1]
    · simp [h1]
  · obtain ⟨k, hk, ht, hs⟩ := hx
    exact ⟨k, hk, by simp [ht, hs]⟩
theorem card_pos {n : Nat} {S : Nat → Prop} (hx : ∃ k, k < n ∧ S k) : 1 ≤ card n S := by
  obtain ⟨k, hk, hs⟩ := hx
  have := card_lt (n := n) (S := fun _ => False) (T := S) (fun _ _ h => h.elim) ⟨k, hk, hs, fun h => h⟩
  omega
theorem card_add {n x : Nat} {S T : Nat → Prop} (hx : x < n) (hs : ¬ S x) (h : ∀ k, T k ↔ S k ∨ k = x) : card n T = card n S + 1 := by
  unfold card
  rw [← sumTo_inc hx]
  congr 1
  funext k
  by_cases hk : k = x
  · subst hk
    rw [inc_same]
    simp [hs, (h k).mpr (.inr rfl)]
  · rw [inc_ne hk]
    by_cases h1 : S k
    · simp [h1, (h k).mpr (.inl h1)]
    · have h2 : ¬ T k := fun z => h1 (((h k).mp z).resolve_right hk)
      simp [h1, h2]
theorem card_full {n : Nat} {S : Nat → Prop} (h : n ≤ card n S) : ∀ k, k < n → S k := fun k hk => by
  apply Classical.byContradiction
  intro hs
  have := card_lt (n := n) (S := S) (T := fun _ => True) (fun _ _ _ => trivial) ⟨k, hk, trivial, hs⟩
  have := card_le n (fun _ => True)
  omega

/-! ### the law's search: n turns -/
def moreL (ps : List Pipe) (L : List Nat) : List Nat := (ps.filter fun p => decide (p.one ∈ L)).map (·.other) ++ (ps.filter fun p => decide (p.other ∈ L)).map (·.one)
def nextL (n : Nat) (ps : List Pipe) (L : List Nat) : List Nat := (List.range n).filter fun k => decide (k ∈ L) || decide (k ∈ moreL ps L)
theorem mem_moreL {ps : List Pipe} {L : List Nat} {k : Nat} : k ∈ moreL ps L ↔ ∃ p ∈ ps, (p.one ∈ L ∧ p.other = k) ∨ (p.other ∈ L ∧ p.one = k) := by
  unfold moreL
  rw [List.mem_append, List.mem_map, List.mem_map]
  constructor
  · rintro (⟨p, hp, e⟩ | ⟨p, hp, e⟩)
    · obtain ⟨h1, h2⟩ := List.mem_filter.mp hp
      exact ⟨p, h1, .inl ⟨of_decide_eq_true h2, e⟩⟩
    · obtain ⟨h1, h2⟩ := List.mem_filter.mp hp
      exact ⟨p, h1, .inr ⟨of_decide_eq_true h2, e⟩⟩
  · rintro ⟨p, hp, h | h⟩
    · exact .inl ⟨p, List.mem_filter.mpr ⟨hp, decide_eq_true h.1⟩, h.2⟩
    · exact .inr ⟨p, List.mem_filter.mpr ⟨hp, decide_eq_true h.1⟩, h.2⟩
theorem mem_nextL {n : Nat} {ps : List Pipe} {L : List Nat} {k : Nat} : k ∈ nextL n ps L ↔ k < n ∧ (k ∈ L ∨ k ∈ moreL ps L) := by
  unfold nextL
  rw [List.mem_filter, List.mem_range, Bool.or_eq_true, decide_eq_true_iff, decide_eq_true_iff]
/-- where the law's search stands behind i turns -/
structure JI (n : Nat) (ps : List Pipe) (a i : Nat) (L : List Nat) : Prop where
  has : a ∈ L
  ok : ∀ k ∈ L, k < n ∧ Conn ps a k
  far : i + 1 ≤ card n (· ∈ L) ∨ Closed ps (· ∈ L)
  asc : i = 0 ∨ L = (List.range n).filter fun k => decide (k ∈ L)
theorem JI.start {n : Nat} {ps : List Pipe} {a : Nat} (ha : a < n) : JI n ps a 0 [a] :=
  ⟨List.mem_cons_self, fun k hk => by
    have : k = a := List.mem_singleton.mp hk
    subst this; exact ⟨ha, .refl⟩, .inl (card_pos ⟨a, ha, List.mem_cons_self⟩), .inl rfl⟩
theorem JI.next {n : Nat} {ps : List Pipe} {a i : Nat} {L : List Nat} (w : EndsOk n ps) (h : JI n ps a i L) : JI n ps a (i + 1) (nextL n ps L) := by
  have hsub : ∀ k, k < n → k ∈ L → k ∈ nextL n ps L := fun k hk hL => mem_nextL.mpr ⟨hk, .inl hL⟩
  refine ⟨hsub a (h.ok a h.has).1 h.has, fun k hk => ?_, ?_, .inr ?_⟩
  · obtain ⟨hk, hL | hm⟩ := mem_nextL.mp hk
    · exact h.ok k hL
    · obtain ⟨p, hp, ⟨h1, h2⟩ | ⟨h1, h2⟩⟩ := mem_moreL.mp hm
      · subst h2; exact ⟨hk, .fwd (h.ok _ h1).2 hp⟩
      · subst h2; exact ⟨hk, .bwd (h.ok _ h1).2 hp⟩
  · by_cases hc : Closed ps (· ∈ L)
    · right
      have hiff : ∀ k, k ∈ nextL n ps L → k ∈ L := fun k hk => by
        obtain ⟨_, hL | hm⟩ := mem_nextL.mp hk
        · exact hL
        · obtain ⟨p, hp, ⟨h1, h2⟩ | ⟨h1, h2⟩⟩ := mem_moreL.mp hm
          · subst h2; exact (hc p hp).1 h1
          · subst h2; exact (hc p hp).2 h1
      intro p hp
      exact ⟨fun z => hsub _ (w p hp).2 ((hc p hp).1 (hiff _ z)), fun z => hsub _ (w p hp).1 ((hc p hp).2 (hiff _ z))⟩
    · left
      have h1 := h.far.resolve_right hc
      have : ∃ k, k < n ∧ k ∈ nextL n ps L ∧ ¬ k ∈ L := by
        apply Classical.byContradiction
        intro hn
        refine hc fun p hp => ⟨fun z => ?_, fun z => ?_⟩
        · apply Classical.byContradiction
          intro hz
          exact hn ⟨p.other, (w p hp).2, mem_nextL.mpr ⟨(w p hp).2, .inr (mem_moreL.mpr ⟨p, hp, .inl ⟨z, rfl⟩⟩)⟩, hz⟩
        · apply Classical.byContradiction
          intro hz
          exact hn ⟨p.one, (w p hp).1, mem_nextL.mpr ⟨(w p hp).1, .inr (mem_moreL.mpr ⟨p, hp, .inr ⟨z, rfl⟩⟩)⟩, hz⟩
      have := card_lt (n := n) (S := (· ∈ L)) (T := (· ∈ nextL n ps L)) hsub this
      omega
  · show nextL n ps L = _
    conv => lhs; unfold nextL
    refine List.filter_congr fun k hk => ?_
    have hk' := List.mem_range.mp hk
    by_cases hm : k ∈ nextL n ps L
    · rw [decide_eq_true hm]
      obtain ⟨_, h1 | h1⟩ := mem_nextL.mp hm
      · rw [decide_eq_true h1]; rfl
      · rw [decide_eq_true h1]; simp
    · rw [decide_eq_false hm, decide_eq_false fun z => hm (mem_nextL.mpr ⟨hk', .inl z⟩), decide_eq_false fun z => hm (mem_nextL.mpr ⟨hk', .inr z⟩)]
      rfl
theorem JI.done {n : Nat} {ps : List Pipe} {a : Nat} {L : List Nat} (h : JI n ps a n L) : L = compL n ps a := by
  have ha := (h.ok a h.has).1
  have hc : Closed ps (· ∈ L) := by
    rcases h.far with q | q
    · have := card_le n (· ∈ L); omega
    · exact q
  rw [h.asc.resolve_left (by omega)]
  unfold compL
  refine List.filter_congr fun k hk => ?_
  have hk' := List.mem_range.mp hk
  have : k ∈ L ↔ Conn ps a k := ⟨fun z => (h.ok k z).2, fun z => hc.all h.has z⟩
  simp [this]

/-! ### the program's search: a stack -/
def nearL (ps : List Pipe) (x : Nat) : List Nat := (ps.filter fun p => decide (p.one = x)).map (·.other) ++ (ps.filter fun p => decide (p.other = x)).map (·.one)
theorem mem_nearL {ps : List Pipe} {x k : Nat} : k ∈ nearL ps x ↔ ∃ p ∈ ps, (p.one = x ∧ p.other = k) ∨ (p.other = x ∧ p.one = k) := by
  unfold nearL
  rw [List.mem_append, List.mem_map, List.mem_map]
  constructor
  · rintro (⟨p, hp, e⟩ | ⟨p, hp, e⟩)
    · obtain ⟨h1, h2⟩ := List.mem_filter.mp hp
      exact ⟨p, h1, .inl ⟨of_decide_eq_true h2, e⟩⟩
    · obtain ⟨h1, h2⟩ := List.mem_filter.mp hp
      exact ⟨p, h1, .inr ⟨of_decide_eq_true h2, e⟩⟩
  · rintro ⟨p, hp, h | h⟩
    · exact .inl ⟨p, List.mem_filter.mpr ⟨hp, decide_eq_true h.1⟩, h.2⟩
    · exact .inr ⟨p, List.mem_filter.mpr ⟨hp, decide_eq_true h.1⟩, h.2⟩
theorem nearL_conn {ps : List Pipe} {x k : Nat} (h : k ∈ nearL ps x) : Conn ps x k := by
  obtain ⟨p, hp, ⟨h1, h2⟩ | ⟨h1, h2⟩⟩ := mem_nearL.mp h
  · subst h1; subst h2; exact .fwd .refl hp
  · subst h1; subst h2; exact .bwd .refl hp
theorem nearL_lt {n : Nat} {ps : List Pipe} {x k : Nat} (w : EndsOk n ps) (h : k ∈ nearL ps x) : k < n := by
  obtain ⟨p, hp, ⟨h1, h2⟩ | ⟨h1, h2⟩⟩ := mem_nearL.mp h
  · subst h2; exact (w p hp).2
  · subst h2; exact (w p hp).1
theorem closed_near {ps : List Pipe} {S : Nat → Prop} (h : ∀ k, S k → ∀ j ∈ nearL ps k, S j) : Closed ps S := fun p hp =>
  ⟨fun z => h _ z _ (mem_nearL.mpr ⟨p, hp, .inl ⟨rfl, rfl⟩⟩), fun z => h _ z _ (mem_nearL.mpr ⟨p, hp, .inr ⟨rfl, rfl⟩⟩)⟩
/-- what holds of the stack's search: found, rows; of the boxes that are not in rows all but x have their neighbours found -/
structure RI (n : Nat) (ps : List Pipe) (a : Nat) (x : Option Nat) (fs rs : List Nat) : Prop where
  has : a ∈ fs
  nd : fs.Nodup
  ok : ∀ k ∈ fs, k < n ∧ Conn ps a k
  sub : ∀ k ∈ rs, k ∈ fs
  near : ∀ k ∈ fs, k ∉ rs → some k ≠ x → ∀ j ∈ nearL ps k, j ∈ fs
theorem RI.start {n : Nat} {ps : List Pipe} {a : Nat} (ha : a < n) : RI n ps a none [a] [a] :=
  ⟨List.mem_cons_self, List.nodup_cons.mpr ⟨by simp, List.nodup_nil⟩, fun k hk => by
    have : k = a := List.mem_singleton.mp hk
    subst this; exact ⟨ha, .refl⟩, fun _ h => h, fun k hk hn => absurd hk hn⟩
theorem RI.pop {n : Nat} {ps : List Pipe} {a x : Nat} {fs r : List Nat} (h : RI n ps a none fs (r ++ [x])) : RI n ps a (some x) fs r :=
  ⟨h.has, h.nd, h.ok, fun k hk => h.sub k (List.mem_append_left _ hk), fun k hk hn hx => h.near k hk (fun z => by
    rcases List.mem_append.mp z with q | q
    · exact hn q
    · exact hx (by rw [List.mem_singleton.mp q])) (by simp)⟩
theorem RI.add {n : Nat} {ps : List Pipe} {a x y : Nat} {fs r : List Nat} (h : RI n ps a (some x) fs r) (hy : y < n) (hc : Conn ps a y) (hn : y ∉ fs) : RI n ps a (some x) (fs ++ [y]) (r ++ [y]) := by
  refine ⟨List.mem_append_left _ h.has, ?_, fun k hk => ?_, fun k hk => ?_, fun k hk hkr hx j hj => ?_⟩
  · rw [List.nodup_append]
    refine ⟨h.nd, List.nodup_cons.mpr ⟨by simp, List.nodup_nil⟩, fun u hu v hv => ?_⟩
    rw [List.mem_singleton.mp hv]
    intro z
    subst z
    exact hn hu
  · rcases List.mem_append.mp hk with q | q
    · exact h.ok k q
    · rw [List.mem_singleton.mp q]; exact ⟨hy, hc⟩
  · rcases List.mem_append.mp hk with q | q
    · exact List.mem_append_left _ (h.sub k q)
    · exact List.mem_append_right _ q
  · rcases List.mem_append.mp hk with q | q
    · exact List.mem_append_left _ (h.near k q (fun z => hkr (List.mem_append_left _ z)) hx j hj)
    · exact absurd (List.mem_append_right _ q) hkr
theorem RI.next {n : Nat} {ps : List Pipe} {a x : Nat} {fs r : List Nat} (h : RI n ps a (some x) fs r) (hx : ∀ j ∈ nearL ps x, j ∈ fs) : RI n ps a none fs r :=
  ⟨h.has, h.nd, h.ok, h.sub, fun k hk hn _ j hj => by
    by_cases e : k = x
    · subst e; exact hx j hj
    · exact h.near k hk hn (by simp [e]) j hj⟩
theorem RI.mem {n : Nat} {ps : List Pipe} {a : Nat} {fs : List Nat} (h : RI n ps a none fs []) {k : Nat} : k ∈ fs ↔ k ∈ compL n ps a := by
  rw [mem_compL]
  exact ⟨fun z => h.ok k z, fun z => (closed_near (S := (· ∈ fs)) fun j hj => h.near j hj (by simp) (by simp)).all h.has z.2⟩
/-- the sorted list of what was found -/
theorem RI.sorted {n : Nat} {ps : List Pipe} {a : Nat} {fs : List Nat} (h : RI n ps a none fs []) {ns : List Int} (hp : ns.Perm (fs.map fun (k : Nat) => (k : Int))) (hs : ns.Pairwise (· ≤ ·)) : ns = (compL n ps a).map fun (k : Nat) => (k : Int) := by
  have hnd : (fs.map fun (k : Nat) => (k : Int)).Nodup := by
    rw [List.nodup_iff_pairwise_ne, List.pairwise_map]
    refine List.Pairwise.imp (fun {x y} hxy z => hxy ?_) (List.nodup_iff_pairwise_ne.mp h.nd)
    omega
  have hns : ns.Nodup := hp.nodup_iff.mpr hnd
  refine sorted_ext ?_ ?_ fun x => ?_
  · refine List.Pairwise.imp₂ (R := (· ≤ ·)) (S := (· ≠ ·)) (fun x y h1 h2 => ?_) hs (List.nodup_iff_pairwise_ne.mp hns)
    omega
  · rw [List.pairwise_map]
    refine List.Pairwise.imp (fun {x y} hxy => ?_) (compL_sorted (n := n) (ps := ps) (a := a))
    omega
  · rw [hp.mem_iff, List.mem_map, List.mem_map]
    constructor
    · rintro ⟨k, hk, e⟩; exact ⟨k, h.mem.mp hk, e⟩
    · rintro ⟨k, hk, e⟩; exact ⟨k, h.mem.mpr hk, e⟩

theorem nodup_card {n : Nat} : ∀ {fs : List Nat}, fs.Nodup → (∀ k ∈ fs, k < n) → card n (· ∈ fs) = fs.length
  | [], _, _ => by
    have : card n (· ∈ ([] : List Nat)) = 0 := by
      unfold card
      rw [sumTo_congr (e := zeroD) fun k _ => by simp [zeroD], sumTo_zero]
    rw [this]; rfl
  | x :: r, hn, hl => by
    have h1 := List.nodup_cons.mp hn
    rw [card_add (n := n) (x := x) (S := (· ∈ r)) (hl x List.mem_cons_self) h1.1 fun k => by rw [List.mem_cons, or_comm], nodup_card h1.2 fun k hk => hl k (List.mem_cons_of_mem _ hk), List.length_cons]
theorem nodup_len {n : Nat} {fs : List Nat} (h : fs.Nodup) (hl : ∀ k ∈ fs, k < n) : fs.length ≤ n := by
  rw [← nodup_card h hl]
  exact card_le n _
end K8

-- K8RdG
/-! K8RdG: parts of boxes. -/
namespace K8
open PySem PySem.Spec L2 Evl
section
variable {K : PySem.W.Frag} {n : Nat} {ps : List Pipe}
theorem flat_nV : ∀ l : List Nat, ((nZ l).map V.int).all flatV = true
  | [] => rfl
  | a :: r => by
    show (true && ((nZ r).map V.int).all flatV) = true
    rw [flat_nV r]
    rfl
theorem in_nV {k : Nat} : ∀ l : List Nat, inV (.int (k : Int)) ((nZ l).map V.int) = decide (k ∈ l)
  | [] => rfl
  | a :: r => by
    show (eqV (.int (a : Int)) (.int (k : Int)) || inV (.int (k : Int)) ((nZ r).map V.int)) = _
    rw [in_nV r]
    show (((a : Int) == (k : Int)) || decide (k ∈ r)) = _
    by_cases h : k = a
    · subst h; simp
    · have h2 : ¬ ((a : Int) = (k : Int)) := by omega
      simp [h, h2]
theorem ev_inN {σ : L2.St} {H : Hp} {ta tb : TE} {k : Nat} {p : Addr} {l : List Nat} (ha : Ev ta σ H (.int (k : Int))) (hb : Ev tb σ H (.ref p)) (hp : H p = some (.lst ((nZ l).map V.int))) : Ev (tOp (rIn K false) ta tb) σ H (.bl (decide (k ∈ l))) := by
  rw [← in_nV]
  exact ev_op ha hb (rv_isL (SqL.of hp) rfl (flat_nV l))
theorem ev_ninN {σ : L2.St} {H : Hp} {ta tb : TE} {k : Nat} {p : Addr} {l : List Nat} (ha : Ev ta σ H (.int (k : Int))) (hb : Ev tb σ H (.ref p)) (hp : H p = some (.lst ((nZ l).map V.int))) : Ev (tOp (rIn K true) ta tb) σ H (.bl (!decide (k ∈ l))) := by
  rw [← in_nV]
  exact ev_op ha hb (rv_niL (SqL.of hp) rfl (flat_nV l))
theorem nV_app {a b : List Nat} : (nZ a).map V.int ++ (nZ b).map V.int = (nZ (a ++ b)).map V.int := by unfold nZ; rw [List.map_append, List.map_append]
/-- the boxes of some pipes: [pipe[b] for pipe in flow[1] if ..] -/
theorem el_boxes {σ : L2.St} {H : Hp} {i j b : Nat} {t q0 : Addr} {as : List Addr} {vs : List Nat} {tt : TT} (g : Pipe → Bool) (f : Pipe → Nat) (hi : σ[i]? = some (some (.ref t))) (F : FlowAt H t q0 as n ps) (hl : ps.length ≤ 16)
    (hw : ∀ x, wipe ((wipe σ vs).set j (some x)) vs = wipe σ vs) (hj : ∀ x, ((wipe σ vs).set j (some x))[j]? = some (some x)) (hf : ∀ p, (pV p)[b]? = some (.int (f p : Int)))
    (ht : ∀ p a H1, Ex H H1 → H1 a = some (.tup (pV p)) → EvT tt ((wipe σ vs).set j (some (.ref a))) H1 (g p)) :
    EvL (tLc (iTup K (tOp (rIx K) (tVar i) (tC (.int 1)))) (gName j) tt (tOp (rIx K) (tVar j) (tC (.int (b : Int)))) vs) σ H ((nZ ((ps.filter g).map f)).map V.int) := by
  have h := el_lcT (K := K) (σ := σ) (H := H) (tl := tOp (rIx K) (tVar i) (tC (.int 1))) (vs := vs) (tt := tt) (te := tOp (rIx K) (tVar j) (tC (.int (b : Int)))) (zs := ps) (j := j) g (fun p => V.int (f p : Int)) (ev_f1 hi F) F.row (by rw [List.length_map, F.pipes.len]) (by omega) hw (fun i x p H1 e hx hp => by
    obtain ⟨a, pp, rfl, ha, hp', hat⟩ := F.pipes.getp hx
    rw [hp] at hp'
    cases hp'
    exact ht p a H1 e (e _ _ hat)) fun i x p H1 e hx hp _ => by
    obtain ⟨a, pp, rfl, ha, hp', hat⟩ := F.pipes.getp hx
    rw [hp] at hp'
    cases hp'
    exact ev_t b (ev_var (hj _)) ev_c (e _ _ hat) (hf p)
  rw [nV_eq, List.map_map]
  exact h

/-! ### the law's joined -/
def sp_joined : Sp := fun vs H Q _ => ∃ (v : V) (n : Nat) (ps : List Pipe) (a : Nat), vs = [v, .int (a : Int), .bl true] ∧ IsFlow H v n ps ∧ n ≤ 8 ∧ ps.length ≤ 16 ∧ EndsOk n ps ∧ a < n ∧
  ∀ p H', H p = none → Ex H H' → H' p = some (.lst ((nZ (compL n ps a)).map V.int)) → Q (.ref p) H'
theorem len_joined : ∀ vs H Q E, sp_joined vs H Q E → vs.length = 3 := by rintro vs H Q E ⟨v, n, ps, a, rfl, _⟩; rfl
theorem sl_joined {H : Hp} {v : V} {a : Nat} (F : IsFlow H v n ps) (hn : n ≤ 8) (hl : ps.length ≤ 16) (hw : EndsOk n ps) (ha : a < n) : SpL sp_joined [v, .int (a : Int), .bl true] H ((nZ (compL n ps a)).map V.int) := fun H1 e Q q E => ⟨v, n, ps, a, rfl, F.mono e, hn, hl, hw, ha, q⟩
theorem rd_law_joined : ∀ vs H Q E, sp_joined vs H Q E → t_law_joined K { nx := fun _ H' => Q .non H', rt := Q } (start ["_law_flow_here", "_law_box", "_law_both", "_law_found", "_law_turn", "_law_more", "_law_pipe", "_law_k"] vs) H := by
  rintro vs H Q E ⟨v, n, ps, a, rfl, ⟨t, q0, as, rfl, F⟩, hn, hl, hw, ha, q⟩
  unfold t_law_joined
  show tSeq _ _ _ ([some (.ref t), some (.int (a : Int)), some (.bl true), none, none, none, none, none] : L2.St) H
  refine q_asgL (el_lst (ea_cons (ev_var rfl) ea_nil) (by simp)) fun f0 H1 hf0 e1 h1 => ?_
  show tSeq _ _ _ ([some (.ref t), some (.int (a : Int)), some (.bl true), some (.ref f0), none, none, none, none] : L2.St) H1
  refine q_forR1 (n := (n : Int)) (ea_cons (ev_f0 rfl (F.mono e1)) ea_nil) (by omega) (fun i σ' H' => ∃ fl y4 y5 L, σ' = [some (.ref t), some (.int (a : Int)), some (.bl true), some (.ref fl), y4, y5, none, none] ∧ Ex H H' ∧ H fl = none ∧ H' fl = some (.lst ((nZ L).map V.int)) ∧ JI n ps a i L)
    (fun H2 e2 => ⟨f0, _, _, [a], rfl, e1.trans e2, hf0, e2 _ _ h1, .start ha⟩) (fun i σ' H' hi p => ?_) fun σ' H' p => ?_
  · obtain ⟨fl, y4, y5, L, rfl, e, hfl, hL, hJ⟩ := p
    show tSeq _ _ _ ([some (.ref t), some (.int (a : Int)), some (.bl true), some (.ref fl), some (.int (i : Int)), y5, none, none] : L2.St) H'
    refine q_asgL (el_boxes (fun p => decide (p.one ∈ L)) (·.other) rfl (F.mono e) hl (fun _ => rfl) (fun _ => rfl) (fun _ => rfl) fun p ad H2 e2 hat => et_test (ev_inN (ev_t 0 (ev_var rfl) ev_c hat rfl) (ev_var rfl) (e2 _ _ hL))) fun m1 H2 hm1 e2 h2 => ?_
    have e12 := e.trans e2
    show tSeq _ _ _ ([some (.ref t), some (.int (a : Int)), some (.bl true), some (.ref fl), some (.int (i : Int)), some (.ref m1), none, none] : L2.St) H2
    refine q_asgL (el_catL (ev_var rfl) h2 (fun H3 e3 => el_boxes (fun p => decide (p.other ∈ L)) (·.one) rfl (F.mono (e12.trans e3)) hl (fun _ => rfl) (fun _ => rfl) (fun _ => rfl) fun p ad H4 e4 hat => et_is (et_and (a := true) (et_B (ev_var rfl)) fun _ => et_test (ev_inN (ev_t 1 (ev_var rfl) ev_c hat rfl) (ev_var rfl) ((e2.trans (e3.trans e4)) _ _ hL))) (Bool.true_and _)) (by
      rw [nV_len, nV_len, List.length_map, List.length_map]
      have h1 := List.length_filter_le (fun p : Pipe => decide (p.one ∈ L)) ps
      have h2 := List.length_filter_le (fun p : Pipe => decide (p.other ∈ L)) ps
      omega)) fun m2 H3 hm2 e3 h3 => ?_
    rw [nV_app] at h3
    have h3' : H3 m2 = some (.lst ((nZ (moreL ps L)).map V.int)) := h3
    have e13 := e12.trans e3
    have hL3 := (e2.trans e3) _ _ hL
    show tAsg _ _ _ ([some (.ref t), some (.int (a : Int)), some (.bl true), some (.ref fl), some (.int (i : Int)), some (.ref m2), none, none] : L2.St) H3
    have hcomp := el_lcR (σ := ([some (.ref t), some (.int (a : Int)), some (.bl true), some (.ref fl), some (.int (i : Int)), some (.ref m2), none, none] : L2.St)) (H := H3) (ta := tCons (tOp (rIx K) (tVar 0) (tC (.int 0))) tNil) (m := n) (j := 7) (vs := [7])
      (tt := tOr (tTest (tOp (rIn K false) (tVar 7) (tVar 3))) (tTest (tOp (rIn K false) (tVar 7) (tVar 5)))) (te := tVar 7) (fun k => decide (k ∈ L) || decide (k ∈ moreL ps L)) (fun (k : Nat) => V.int (k : Int)) (ea_cons (ev_f0 rfl (F.mono e13)) ea_nil) (by omega) (fun _ => rfl)
      (fun k H4 e4 hk => et_or (et_test (ev_inN (ev_var rfl) (ev_var rfl) (e4 _ _ hL3))) fun _ => et_test (ev_inN (ev_var rfl) (ev_var rfl) (e4 _ _ h3'))) (fun k H4 e4 hk _ => ev_var rfl)
    rw [← nV_eq] at hcomp
    refine s_asgL hcomp fun f2 H4 hf2 e4 h4 => ⟨f2, _, _, nextL n ps L, rfl, e13.trans e4, fresh_back e13 hf2, h4, hJ.next hw⟩
  · obtain ⟨fl, y4, y5, L, rfl, e, hfl, hL, hJ⟩ := p
    have en : ((n : Int)).toNat = n := by omega
    rw [en] at hJ
    rw [hJ.done] at hL
    exact s_ret (ev_var rfl) fun H2 e2 => q fl H2 hfl (e.trans e2) (e2 _ _ hL)

/-! ### reach_of -/
theorem q_pop {σ : L2.St} {H : Hp} {D : L2.Ends} {tz : TS} {to : TE} {i : Nat} {l : Addr} {xs : List V} {y : V} (h : Ev to σ H (.ref l)) (hl : H l = some (.lst (xs ++ [y]))) (k : ∀ H1, Ex H H1 → tz D (σ.set i (some y)) (upd H1 l (.lst xs))) : tSeq (tAsg (tBM0 K "list" rPop to) (gName i)) tz D σ H :=
  h H (Ex.refl H) _ fun H1 e1 => ⟨.inl ⟨rfl, _, SqL.of (e1 _ _ hl)⟩, l, _, y, rfl, rfl, e1 _ _ hl, by rw [List.length_append]; show (xs ++ [y])[xs.length + 1 - 1]? = _; simp, by
    show tz D (σ.set i (some y)) (upd H1 l (.lst ((xs ++ [y]).dropLast)))
    rw [List.dropLast_concat]
    exact k H1 e1⟩
def sp_reach : Sp := fun vs H Q _ => ∃ (v : V) (n : Nat) (ps : List Pipe) (a : Nat), vs = [v, .int (a : Int), .bl true] ∧ IsFlow H v n ps ∧ n ≤ 8 ∧ ps.length ≤ 16 ∧ EndsOk n ps ∧ a < n ∧
  ∀ p H', H p = none → Ex H H' → H' p = some (.lst ((nZ (compL n ps a)).map V.int)) → Q (.ref p) H'
theorem len_reach : ∀ vs H Q E, sp_reach vs H Q E → vs.length = 3 := by rintro vs H Q E ⟨v, n, ps, a, rfl, _⟩; rfl
theorem sl_reach {H : Hp} {v : V} {a : Nat} (F : IsFlow H v n ps) (hn : n ≤ 8) (hl : ps.length ≤ 16) (hw : EndsOk n ps) (ha : a < n) : SpL sp_reach [v, .int (a : Int), .bl true] H ((nZ (compL n ps a)).map V.int) := fun H1 e Q q E => ⟨v, n, ps, a, rfl, F.mono e, hn, hl, hw, ha, q⟩
/-- the two lists as they stand -/
structure RH (H : Hp) (fl rl : Addr) (fs rs : List Nat) (H' : Hp) : Prop where
  ex : Ex H H'
  f : H' fl = some (.lst ((nZ fs).map V.int))
  r : H' rl = some (.lst ((nZ rs).map V.int))
theorem RH.mono {H : Hp} {fl rl : Addr} {fs rs : List Nat} {H' H2 : Hp} (h : RH H fl rl fs rs H') (e : Ex H' H2) : RH H fl rl fs rs H2 := ⟨h.ex.trans e, e _ _ h.f, e _ _ h.r⟩
theorem RI.len {a : Nat} {x : Option Nat} {fs rs : List Nat} (h : RI n ps a x fs rs) : fs.length ≤ n := nodup_len h.nd fun k hk => (h.ok k hk).1
theorem RI.ne {a : Nat} {x : Option Nat} {fs rs : List Nat} (h : RI n ps a x fs rs) : fs ≠ [] := fun z => by
  have := h.has
  rw [z] at this
  cases this
def reachW (n : Nat) (ps : List Pipe) (H : Hp) (t fl rl : Addr) (a : Nat) : Nat → L2.St → Hp → Prop := fun m σ H' => ∃ y5 y6 y7 fs rs, σ = [some (.ref t), some (.int (a : Int)), some (.bl true), some (.ref fl), some (.ref rl), y5, y6, y7, none] ∧ RH H fl rl fs rs H' ∧ RI n ps a none fs rs ∧ m = 2 * (n - fs.length) + rs.length ∧ m ≤ 2 * n
theorem ev_neNilN {σ : L2.St} {H : Hp} {ta : TE} {p : Addr} {l : List Nat} (h : Ev ta σ H (.ref p)) (hp : H p = some (.lst ((nZ l).map V.int))) : Ev (tOp (rNeD K) ta (tLst tNil)) σ H (.bl (!decide (l = []))) := by
  have h2 := ev_neNil' (K := K) h hp
  have e : decide (nZ l = []) = decide (l = []) := by
    cases l with
    | nil => rfl
    | cons x r => rfl
  rw [e] at h2
  exact h2
theorem rd_reach_of : ∀ vs H Q E, sp_reach vs H Q E → t_reach_of K { nx := fun _ H' => Q .non H', rt := Q } (start ["flow", "box", "both", "found", "rows", "here", "near", "there", "pipe"] vs) H := by
  rintro vs H Q E ⟨v, n, ps, a, rfl, ⟨t, q0, as, rfl, F⟩, hn, hl, hw, ha, q⟩
  unfold t_reach_of
  show tSeq _ _ _ ([some (.ref t), some (.int (a : Int)), some (.bl true), none, none, none, none, none, none] : L2.St) H
  have hL : ∀ {H1 : Hp}, EvL (tLst (tCons (tVar 1) tNil)) ([some (.ref t), some (.int (a : Int)), some (.bl true), none, none, none, none, none, none] : L2.St) H1 ((nZ [a]).map V.int) := el_lst (ea_cons (ev_var rfl) ea_nil) (by show 1 ≤ 100000; decide)
  refine seq_do (show tPar 3 4 _ _ _ _ from cons_do (hL H (Ex.refl H) _ fun fl H1 hfl e1 h1 => cons_do (hL H1 (Ex.refl H1) _ fun rl H2 hrl e2 h2 => nil_do ⟨_, _, rfl, ?_⟩)))
  show tSeq _ _ _ ([some (.ref t), some (.int (a : Int)), some (.bl true), some (.ref fl), some (.ref rl), none, none, none, none] : L2.St) H2
  have hne : fl ≠ rl := fun z => by rw [← z, h1] at hrl; cases hrl
  have hrl0 : H rl = none := fresh_back e1 hrl
  refine q_while (reachW n ps H t fl rl a) (2 * (n - 1) + 1) ⟨_, _, _, [a], [a], rfl, ⟨e1.trans e2, e2 _ _ h1, h2⟩, .start ha, rfl, by omega⟩ fun m σ' H' hW => ?_
  obtain ⟨y5, y6, y7, fs, rs, rfl, R, I, rfl, hm2⟩ := hW
  refine ⟨_, et_test (ev_neNilN (ev_var rfl) R.r), fun hb H3 e3 => ?_, fun hb H3 e3 => ?_⟩
  · have hrs : rs ≠ [] := fun z => by rw [z] at hb; cases hb
    have hre : rs = rs.dropLast ++ [rs.getLast hrs] := (List.dropLast_concat_getLast hrs).symm
    generalize rs.getLast hrs = x at hre
    generalize rs.dropLast = r at hre
    subst hre
    have hm2n2 := hm2
    refine ⟨fun σ2 H2 => ∃ m', m' < _ ∧ reachW n ps H t fl rl a m' σ2 H2, fun _ _ h => h, ?_⟩
    have R3 := R.mono e3
    have Rr := R3.r
    rw [nZ_snoc] at Rr
    refine q_pop (ev_var rfl) Rr fun H4 e4 => ?_
    have R4 : RH H fl rl fs r (upd H4 rl (.lst ((nZ r).map V.int))) := ⟨Ex.mut (R3.ex.trans e4) hrl0, by rw [upd_ne hne]; exact e4 _ _ R3.f, upd_same⟩
    generalize upd H4 rl (.lst ((nZ r).map V.int)) = H5 at R4
    have I4 := I.pop
    have hxn := (I.ok x (I.sub x (by simp))).1
    have hxc := (I.ok x (I.sub x (by simp))).2
    show tSeq _ _ _ ([some (.ref t), some (.int (a : Int)), some (.bl true), some (.ref fl), some (.ref rl), some (.int (x : Int)), y6, y7, none] : L2.St) H5
    refine q_asgL (el_boxes (fun p => decide (p.one = x)) (·.other) rfl (F.mono R4.ex) hl (fun _ => rfl) (fun _ => rfl) (fun _ => rfl) fun p ad H2 e2 hat => et_is (et_test (ev_op (ev_t 0 (ev_var rfl) ev_c hat rfl) (ev_var rfl) (rv_eq rfl))) dec_cast) fun m1 H6 hm1 e6 h6 => ?_
    have R6 := R4.mono e6
    show tSeq _ _ _ ([some (.ref t), some (.int (a : Int)), some (.bl true), some (.ref fl), some (.ref rl), some (.int (x : Int)), some (.ref m1), y7, none] : L2.St) H6
    refine q_asgL (el_catL (ys := (nZ ((ps.filter fun p => decide (p.other = x)).map (·.one))).map V.int) (ev_var rfl) h6 (fun H7 e7 H8 e8 Q' q' => et_B (ev_var rfl) H8 (Ex.refl H8) _ fun H9 e9 => by
      refine el_boxes (fun p => decide (p.other = x)) (·.one) rfl (F.mono (R6.ex.trans (e7.trans (e8.trans e9)))) hl (fun _ => rfl) (fun _ => rfl) (fun _ => rfl) (fun p ad H2 e2 hat => et_is (et_test (ev_op (ev_t 1 (ev_var rfl) ev_c hat rfl) (ev_var rfl) (rv_eq rfl))) dec_cast) H9 (Ex.refl H9) _ fun p H10 hp e10 h10 => q' p H10 (fresh_back e9 hp) (e9.trans e10) h10) (by
      rw [nV_len, nV_len, List.length_map, List.length_map]
      have h1 := List.length_filter_le (fun p : Pipe => decide (p.one = x)) ps
      have h2 := List.length_filter_le (fun p : Pipe => decide (p.other = x)) ps
      omega)) fun m2 H7 hm2' e7 h7 => ?_
    rw [nV_app] at h7
    have h7' : H7 m2 = some (.lst ((nZ (nearL ps x)).map V.int)) := h7
    have R7 := R6.mono e7
    have hm2n : H m2 = none := fresh_back R6.ex hm2'
    show tFor _ _ _ _ ([some (.ref t), some (.int (a : Int)), some (.bl true), some (.ref fl), some (.ref rl), some (.int (x : Int)), some (.ref m2), y7, none] : L2.St) H7
    have hm2f : m2 ≠ fl := fun z => by rw [z, R6.f] at hm2'; cases hm2'
    have hm2r : m2 ≠ rl := fun z => by rw [z, R6.r] at hm2'; cases hm2'
    refine s_forL (a := m2) (xs := (nZ (nearL ps x)).map V.int) (ev_var rfl) (SqL.of h7') (fun i σ' H' => ∃ y7 fs' r', σ' = [some (.ref t), some (.int (a : Int)), some (.bl true), some (.ref fl), some (.ref rl), some (.int (x : Int)), some (.ref m2), y7, none] ∧ RH H fl rl fs' r' H' ∧ RI n ps a (some x) fs' r' ∧
        2 * (n - fs'.length) + r'.length ≤ 2 * (n - fs.length) + r.length ∧ H' m2 = some (.lst ((nZ (nearL ps x)).map V.int)) ∧ ∀ (j : Nat) y, j < i → (nearL ps x)[j]? = some y → y ∈ fs')
      (fun H8 e8 => ⟨y7, fs, r, rfl, R7.mono e8, I4, Nat.le_refl _, e8 _ _ h7', fun j y hj => absurd hj (Nat.not_lt_zero j)⟩) (fun i σ' H' _ p => let ⟨_, _, _, _, _, _, _, h, _⟩ := p; SqL.of h) (fun i z σ' H' hz p => ?_) fun σ' H' p => ?_
    · obtain ⟨y7, fs', r', rfl, R', I', hm, hM, hall⟩ := p
      obtain ⟨y, hy, rfl⟩ := nV_getp hz
      have hyn := nearL_lt hw (List.mem_of_getElem? hy)
      have hyc := hxc.trans (nearL_conn (List.mem_of_getElem? hy))
      show tIfS _ _ _ _ ([some (.ref t), some (.int (a : Int)), some (.bl true), some (.ref fl), some (.ref rl), some (.int (x : Int)), some (.ref m2), some (.int (y : Int)), none] : L2.St) H'
      refine s_when (b := !decide (y ∈ fs')) (et_test (ev_ninN (ev_var rfl) (ev_var rfl) R'.f)) (fun hb H8 e8 => ?_) fun hb H8 e8 => ⟨_, fs', r', rfl, R'.mono e8, I', hm, e8 _ _ hM, fun j y' hj hy' => ?_⟩
      · have hyf : y ∉ fs' := fun z => by rw [decide_eq_true z] at hb; cases hb
        have I2 := I'.add hyn hyc hyf
        have hlen := I2.len
        rw [List.length_append] at hlen
        have hlen' : fs'.length + 1 ≤ n := hlen
        have R8 := R'.mono e8
        have hrn : r'.length ≤ 100 := by
          rw [List.length_append] at hm2n2
          omega
        refine q_app (K := K) R8.f (ev_var rfl) (ev_var rfl) (by rw [nV_len]; omega) fun H9 e9 => ?_
        have hR9 : (upd H9 fl (.lst ((nZ fs').map V.int ++ [.int (y : Int)]))) rl = some (.lst ((nZ r').map V.int)) := by rw [upd_ne (Ne.symm hne)]; exact e9 _ _ R8.r
        have hF9 : (upd H9 fl (.lst ((nZ fs').map V.int ++ [.int (y : Int)]))) fl = some (.lst ((nZ (fs' ++ [y])).map V.int)) := by rw [upd_same, nZ_snoc]
        have hE9 : Ex H (upd H9 fl (.lst ((nZ fs').map V.int ++ [.int (y : Int)]))) := Ex.mut (R8.ex.trans e9) hfl
        have hM9 : (upd H9 fl (.lst ((nZ fs').map V.int ++ [.int (y : Int)]))) m2 = some (.lst ((nZ (nearL ps x)).map V.int)) := by rw [upd_ne hm2f]; exact e9 _ _ (e8 _ _ hM)
        generalize upd H9 fl (.lst ((nZ fs').map V.int ++ [.int (y : Int)])) = H10 at hR9 hF9 hE9 hM9
        refine s_app (K := K) hR9 (ev_var rfl) (ev_var rfl) (by rw [nV_len]; omega) fun H11 e11 => ?_
        refine ⟨_, fs' ++ [y], r' ++ [y], rfl, ⟨Ex.mut (hE9.trans e11) hrl0, by rw [upd_ne hne]; exact e11 _ _ hF9, by rw [upd_same, nZ_snoc]⟩, I2, by rw [List.length_append, List.length_append]; show 2 * (n - (fs'.length + 1)) + (r'.length + 1) ≤ _; omega, by rw [upd_ne hm2r]; exact e11 _ _ hM9, fun j y' hj hy' => ?_⟩
        by_cases hji : j = i
        · subst hji
          rw [hy] at hy'
          cases hy'
          simp
        · exact List.mem_append_left _ (hall j y' (by omega) hy')
      · by_cases hji : j = i
        · subst hji
          rw [hy] at hy'
          cases hy'
          apply Classical.byContradiction
          intro hyf
          rw [decide_eq_false hyf] at hb
          cases hb
        · exact hall j y' (by omega) hy'
    · obtain ⟨y7, fs', r', rfl, R', I', hm, hM, hall⟩ := p
      rw [nV_len] at hall
      refine ⟨2 * (n - fs'.length) + r'.length, by rw [List.length_append]; show _ < 2 * (n - fs.length) + (r.length + 1); omega, _, _, _, fs', r', rfl, R', I'.next fun j hj => ?_, rfl, by rw [List.length_append] at hm2n2; omega⟩
      obtain ⟨k, hk⟩ := List.getElem?_of_mem hj
      exact hall k j (List.getElem?_eq_some_iff.mp hk).1 hk
  · have hrs : rs = [] := by
      apply Classical.byContradiction
      intro z
      rw [decide_eq_false z] at hb
      cases hb
    subst hrs
    have R3 := R.mono e3
    refine ev_var (i := 3) rfl H3 (Ex.refl H3) _ fun H4 e4 => ?_
    have R4 := R3.mono e4
    refine ⟨fl, nZ fs, rfl, SqL.of R4.f, fun ns' p hp hs hnew => q p _ (fresh_back R4.ex hnew) (R4.ex.trans (Ex.new hnew)) ?_⟩
    rw [upd_same, I.sorted hp hs]
    rfl
end
end K8

-- K8RdH
/-! K8RdH: parts, shares, the program's round. -/
namespace K8
open PySem PySem.Spec L2 Evl
/-- the least boxes of the parts among the first i boxes -/
noncomputable def rootsL (n : Nat) (ps : List Pipe) (i : Nat) : List Nat := (List.range i).filter fun b => decide (root n ps b = b)
theorem rootsL_succ {n : Nat} {ps : List Pipe} {i : Nat} : rootsL n ps (i + 1) = if root n ps i = i then rootsL n ps i ++ [i] else rootsL n ps i := by
  unfold rootsL
  rw [List.range_succ, List.filter_append, List.filter_cons]
  by_cases h : root n ps i = i
  · rw [if_pos h, if_pos (decide_eq_true h)]; rfl
  · rw [if_neg h, if_neg (by rw [decide_eq_false h]; decide)]
    show _ ++ [] = _
    rw [List.append_nil]
theorem mem_rootsL {n : Nat} {ps : List Pipe} {i b : Nat} : b ∈ rootsL n ps i ↔ b < i ∧ root n ps b = b := by
  unfold rootsL; rw [List.mem_filter, List.mem_range, decide_eq_true_iff]
theorem rootsL_len {n : Nat} {ps : List Pipe} {i : Nat} : (rootsL n ps i).length ≤ i := by
  have := List.length_filter_le (fun b => decide (root n ps b = b)) (List.range i)
  rw [List.length_range] at this; exact this
/-- the parts at their addresses -/
structure PartsAt (n : Nat) (ps : List Pipe) (H : Hp) (bs : List Addr) (rs : List Nat) : Prop where
  len : bs.length = rs.length
  item : ∀ (i : Nat) (a : Addr) (r : Nat), bs[i]? = some a → rs[i]? = some r → H a = some (.tup ((nZ (compL n ps r)).map V.int))
theorem PartsAt.mono {n : Nat} {ps : List Pipe} {H H' : Hp} {bs : List Addr} {rs : List Nat} (h : PartsAt n ps H bs rs) (e : Ex H H') : PartsAt n ps H' bs rs := ⟨h.len, fun i a r x y => e _ _ (h.item i a r x y)⟩
theorem PartsAt.snoc {n : Nat} {ps : List Pipe} {H : Hp} {bs : List Addr} {rs : List Nat} {a : Addr} {r : Nat} (h : PartsAt n ps H bs rs) (ha : H a = some (.tup ((nZ (compL n ps r)).map V.int))) : PartsAt n ps H (bs ++ [a]) (rs ++ [r]) := by
  refine ⟨by rw [List.length_append, List.length_append, h.len]; rfl, fun i a' r' x y => ?_⟩
  by_cases hi : i < bs.length
  · rw [List.getElem?_append_left hi] at x
    rw [List.getElem?_append_left (by rw [← h.len]; exact hi)] at y
    exact h.item i a' r' x y
  · rw [List.getElem?_append_right (by omega)] at x
    rw [List.getElem?_append_right (by rw [← h.len]; omega), ← h.len] at y
    by_cases hz : i - bs.length = 0
    · rw [hz] at x y
      cases x; cases y
      exact ha
    · rw [List.getElem?_eq_none (by simp; omega)] at x
      cases x
theorem PartsAt.getp {n : Nat} {ps : List Pipe} {H : Hp} {bs : List Addr} {rs : List Nat} (h : PartsAt n ps H bs rs) {i : Nat} {x : V} (hx : (bs.map V.ref)[i]? = some x) : ∃ a r, x = .ref a ∧ rs[i]? = some r ∧ H a = some (.tup ((nZ (compL n ps r)).map V.int)) := by
  rw [List.getElem?_map] at hx
  cases ha : bs[i]? with
  | none => rw [ha] at hx; cases hx
  | some a =>
    rw [ha] at hx
    have hi : i < rs.length := by rw [← h.len]; exact (List.getElem?_eq_some_iff.mp ha).1
    exact ⟨a, rs[i], (Option.some.inj hx).symm, List.getElem?_eq_getElem hi, h.item i _ _ ha (List.getElem?_eq_getElem hi)⟩
section
variable {K : PySem.W.Frag} {n : Nat} {ps : List Pipe}
/-! ### parts_in -/
def sp_parts : Sp := fun vs H Q _ => ∃ (v : V) (n : Nat) (ps : List Pipe), vs = [v] ∧ IsFlow H v n ps ∧ n ≤ 8 ∧ ps.length ≤ 16 ∧ EndsOk n ps ∧
  ∀ p H' bs, H p = none → Ex H H' → H' p = some (.lst (bs.map V.ref)) → PartsAt n ps H' bs (rootsL n ps n) → Q (.ref p) H'
theorem len_parts : ∀ vs H Q E, sp_parts vs H Q E → vs.length = 1 := by rintro vs H Q E ⟨v, n, ps, rfl, _⟩; rfl
theorem rd_parts_in : ∀ vs H Q E, sp_parts vs H Q E → t_parts_in K sp_reach { nx := fun _ H' => Q .non H', rt := Q } (start ["flow", "found", "box", "part"] vs) H := by
  rintro vs H Q E ⟨v, n, ps, rfl, IF, hn, hl, hw, q⟩
  obtain ⟨t, q0, as, ev, F⟩ := id IF
  unfold t_parts_in
  refine q_asgL el_nil fun fl H1 hfl e1 h1 => ?_
  show tSeq _ _ _ ([some v, some (.ref fl), none, none] : L2.St) H1
  refine q_forR1 (n := (n : Int)) (ea_cons (ev_f0 (t0 := t) (by rw [ev]; rfl) (F.mono e1)) ea_nil) (by omega) (fun i σ' H' => ∃ y2 y3 bs, σ' = [some v, some (.ref fl), y2, y3] ∧ Ex H H' ∧ H' fl = some (.lst (bs.map V.ref)) ∧ PartsAt n ps H' bs (rootsL n ps i))
    (fun H2 e2 => ⟨_, _, [], rfl, e1.trans e2, e2 _ _ h1, rfl, fun i a r x => by simp at x⟩) (fun i σ' H' hi p => ?_) fun σ' H' p => ?_
  · obtain ⟨y2, y3, bs, rfl, e, hF, hP⟩ := p
    have hi' : i < n := by omega
    show tSeq _ _ _ ([some v, some (.ref fl), some (.int (i : Int)), y3] : L2.St) H'
    refine q_asgL (el_callL (ea_cons (ev_var rfl) (ea_cons (ev_var rfl) (ea_cons ev_c ea_nil))) (sl_reach (IF.mono e) hn hl hw hi')) fun pl H2 hpl e2 h2 => ?_
    show tIfS _ _ _ _ ([some v, some (.ref fl), some (.int (i : Int)), some (.ref pl)] : L2.St) H2
    obtain ⟨r, hr⟩ := compL_cons (ps := ps) hi'
    refine s_when (b := decide (root n ps i = i)) (et_is (et_test (ev_op (x := .int (root n ps i : Int)) (ev_l 0 (ev_var rfl) ev_c h2 (by rw [hr]; rfl)) (ev_var rfl) (rv_eq rfl))) dec_cast) (fun hb H3 e3 => ?_) fun hb H3 e3 => ?_
    · have hrt := of_decide_eq_true hb
      have hF3 := e3 _ _ (e2 _ _ hF)
      have hbl : bs.length ≤ 8 := by rw [hP.len]; exact Nat.le_trans rootsL_len (by omega)
      refine s_appU (K := K) hF3 (ev_var rfl) (eu_tupL (ev_var rfl) (e3 _ _ h2)) (by rw [List.length_map]; omega) fun tp H4 htp e4 h4 => ?_
      have hne : tp ≠ fl := fun z => by rw [z, hF3] at htp; cases htp
      have hP4 : PartsAt n ps (upd H4 fl (.lst (bs.map V.ref ++ [.ref tp]))) bs (rootsL n ps i) := ⟨hP.len, fun j a r x y => by
        have h5 := hP.item j a r x y
        have hne2 : a ≠ fl := fun z => by rw [z, hF] at h5; cases h5
        rw [upd_ne hne2]
        exact e4 _ _ (e3 _ _ (e2 _ _ h5))⟩
      refine ⟨_, _, bs ++ [tp], rfl, Ex.mut ((e.trans e2).trans (e3.trans e4)) hfl, by rw [upd_same, List.map_append]; rfl, ?_⟩
      rw [rootsL_succ, if_pos hrt]
      exact hP4.snoc (by rw [upd_ne hne]; exact h4)
    · have hrt := of_decide_eq_false hb
      refine ⟨_, _, bs, rfl, (e.trans e2).trans e3, e3 _ _ (e2 _ _ hF), ?_⟩
      rw [rootsL_succ, if_neg hrt]
      exact hP.mono (e2.trans e3)
  · obtain ⟨y2, y3, bs, rfl, e, hF, hP⟩ := p
    have en : ((n : Int)).toNat = n := by omega
    rw [en] at hP
    exact s_ret (ev_var rfl) fun H2 e2 => q fl H2 bs hfl (e.trans e2) (e2 _ _ hF) (hP.mono e2)
end
end K8

-- K8RdI
/-! K8RdI: the program's shares. -/
namespace K8
open PySem PySem.Spec L2 Evl
/-! ### the walk over the boxes of a part, in plain words -/
structure SI (n : Nat) (ps : List Pipe) (old : List Nat) (r : Nat) (x : Option Nat) (vis rs : List Nat) : Prop where
  has : r ∈ vis
  nd : vis.Nodup
  lt : ∀ k ∈ vis, k < n
  old' : ∀ k ∈ old, k ∈ vis
  ok : ∀ k ∈ vis, k ∈ old ∨ Conn ps r k
  sub : ∀ k ∈ rs, k ∈ vis ∧ Conn ps r k
  near : ∀ k ∈ vis, k ∉ old → k ∉ rs → some k ≠ x → ∀ j ∈ nearL ps k, j ∈ vis
theorem SI.start {n : Nat} {ps : List Pipe} {old : List Nat} {r : Nat} (hr : r < n) (hn : r ∉ old) (nd : old.Nodup) (lt : ∀ k ∈ old, k < n) : SI n ps old r none (old ++ [r]) [r] := by
  refine ⟨by simp, ?_, fun k hk => ?_, fun k hk => List.mem_append_left _ hk, fun k hk => ?_, fun k hk => ?_, fun k hk ho hkr => ?_⟩
  · rw [List.nodup_append]
    refine ⟨nd, List.nodup_cons.mpr ⟨by simp, List.nodup_nil⟩, fun u hu v hv => ?_⟩
    rw [List.mem_singleton.mp hv]
    intro z; subst z; exact hn hu
  · rcases List.mem_append.mp hk with q | q
    · exact lt k q
    · rw [List.mem_singleton.mp q]; exact hr
  · rcases List.mem_append.mp hk with q | q
    · exact .inl q
    · rw [List.mem_singleton.mp q]; exact .inr .refl
  · rw [List.mem_singleton.mp hk]; exact ⟨by simp, .refl⟩
  · rcases List.mem_append.mp hk with q | q
    · exact absurd q ho
    · exact absurd q hkr
theorem SI.pop {n : Nat} {ps : List Pipe} {old : List Nat} {r x : Nat} {vis rs : List Nat} (h : SI n ps old r none vis (rs ++ [x])) : SI n ps old r (some x) vis rs :=
  ⟨h.has, h.nd, h.lt, h.old', h.ok, fun k hk => h.sub k (List.mem_append_left _ hk), fun k hk ho hn hx => h.near k hk ho (fun z => by
    rcases List.mem_append.mp z with q | q
    · exact hn q
    · exact hx (by rw [List.mem_singleton.mp q])) (by simp)⟩
theorem SI.add {n : Nat} {ps : List Pipe} {old : List Nat} {r x y : Nat} {vis rs : List Nat} (h : SI n ps old r (some x) vis rs) (hy : y < n) (hc : Conn ps r y) (hn : y ∉ vis) : SI n ps old r (some x) (vis ++ [y]) (rs ++ [y]) := by
  refine ⟨List.mem_append_left _ h.has, ?_, fun k hk => ?_, fun k hk => List.mem_append_left _ (h.old' k hk), fun k hk => ?_, fun k hk => ?_, fun k hk ho hkr hx j hj => ?_⟩
  · rw [List.nodup_append]
    refine ⟨h.nd, List.nodup_cons.mpr ⟨by simp, List.nodup_nil⟩, fun u hu v hv => ?_⟩
    rw [List.mem_singleton.mp hv]
    intro z; subst z; exact hn hu
  · rcases List.mem_append.mp hk with q | q
    · exact h.lt k q
    · rw [List.mem_singleton.mp q]; exact hy
  · rcases List.mem_append.mp hk with q | q
    · exact h.ok k q
    · rw [List.mem_singleton.mp q]; exact .inr hc
  · rcases List.mem_append.mp hk with q | q
    · exact ⟨List.mem_append_left _ (h.sub k q).1, (h.sub k q).2⟩
    · rw [List.mem_singleton.mp q]; exact ⟨by simp, hc⟩
  · rcases List.mem_append.mp hk with q | q
    · exact List.mem_append_left _ (h.near k q ho (fun z => hkr (List.mem_append_left _ z)) hx j hj)
    · exact absurd (List.mem_append_right _ q) hkr
theorem SI.next {n : Nat} {ps : List Pipe} {old : List Nat} {r x : Nat} {vis rs : List Nat} (h : SI n ps old r (some x) vis rs) (hx : ∀ j ∈ nearL ps x, j ∈ vis) : SI n ps old r none vis rs :=
  ⟨h.has, h.nd, h.lt, h.old', h.ok, h.sub, fun k hk ho hn _ j hj => by
    by_cases e : k = x
    · subst e; exact hx j hj
    · exact h.near k hk ho hn (by simp [e]) j hj⟩
theorem SI.closed {n : Nat} {ps : List Pipe} {old : List Nat} {r : Nat} {vis : List Nat} (h : SI n ps old r none vis []) (hc : Closed ps (· ∈ old)) : Closed ps (· ∈ vis) := by
  refine closed_near (S := (· ∈ vis)) fun k hk j hj => ?_
  by_cases ho : k ∈ old
  · obtain ⟨p, hp, ⟨h1, h2⟩ | ⟨h1, h2⟩⟩ := mem_nearL.mp hj
    · subst h1; subst h2; exact h.old' _ ((hc p hp).1 ho)
    · subst h1; subst h2; exact h.old' _ ((hc p hp).2 ho)
  · exact h.near k hk ho (by simp) (by simp) j hj
theorem SI.len {n : Nat} {ps : List Pipe} {old : List Nat} {r : Nat} {x : Option Nat} {vis rs : List Nat} (h : SI n ps old r x vis rs) : vis.length ≤ n := nodup_len h.nd h.lt

/-! ### the two dicts -/
section
variable {K : PySem.W.Frag} {n : Nat} {ps : List Pipe} {c0 : Nat → Nat}
noncomputable def shV (n : Nat) (ps : List Pipe) (c0 : Nat → Nat) (k : Nat) : List V := [.int ((shr n ps c0 k).1 : Int), .int ((shr n ps c0 k).2 : Int)]
def ShOk (n : Nat) (ps : List Pipe) (c0 : Nat → Nat) (H : Hp) (sd : Addr) (vis : List Nat) : Prop := ∃ kvs : List (Key × V), H sd = some (.dK kvs) ∧ kvs.length ≤ vis.length ∧
  (∀ k ∈ vis, ∃ a, valV kvs (.inl (k : Int)) = some (.ref a) ∧ H a = some (.tup (shV n ps c0 k))) ∧ ∀ k : Nat, k ∉ vis → valV kvs (.inl (k : Int)) = none
def LnOk (H : Hp) (ld : Addr) (vis : List Nat) : Prop := ∃ kvs : List (Key × V), H ld = some (.dK kvs) ∧ kvs.length ≤ vis.length ∧
  ∀ k ∈ vis, ∃ a xs, valV kvs (.inl (k : Int)) = some (.ref a) ∧ H a = some (.tup xs) ∧ xs.length ≤ vis.length
/-- tuples stand -/
def Tups (H H' : Hp) : Prop := ∀ a xs, H a = some (.tup xs) → H' a = some (.tup xs)
theorem Tups.of {H H' : Hp} (e : Ex H H') : Tups H H' := fun a xs h => e _ _ h
theorem Tups.upd {H H1 : Hp} {l : Addr} {o u : HO} (e : Tups H H1) (hl : H l = some o) (ho : ∀ xs, o ≠ .tup xs) : Tups H (upd H1 l u) := fun a xs h => by
  have hne : a ≠ l := fun z => by rw [z, hl] at h; exact ho xs (Option.some.inj h)
  rw [upd_ne hne]
  exact e a xs h
theorem ShOk.keep {H H' : Hp} {sd : Addr} {vis : List Nat} (h : ShOk n ps c0 H sd vis) (hs : H' sd = H sd) (t : Tups H H') : ShOk n ps c0 H' sd vis := by
  obtain ⟨kvs, h1, h2, h3, h4⟩ := h
  refine ⟨kvs, hs.trans h1, h2, fun k hk => ?_, h4⟩
  obtain ⟨a, x, y⟩ := h3 k hk
  exact ⟨a, x, t _ _ y⟩
theorem ShOk.mono {H H' : Hp} {sd : Addr} {vis : List Nat} (h : ShOk n ps c0 H sd vis) (e : Ex H H') : ShOk n ps c0 H' sd vis := by
  obtain ⟨kvs, h1, _⟩ := id h
  exact h.keep ((e _ _ h1).trans h1.symm) (.of e)
theorem LnOk.keep {H H' : Hp} {ld : Addr} {vis : List Nat} (h : LnOk H ld vis) (hs : H' ld = H ld) (t : Tups H H') : LnOk H' ld vis := by
  obtain ⟨kvs, h1, h2, h3⟩ := h
  refine ⟨kvs, hs.trans h1, h2, fun k hk => ?_⟩
  obtain ⟨a, xs, x, y, z⟩ := h3 k hk
  exact ⟨a, xs, x, t _ _ y, z⟩
theorem LnOk.mono {H H' : Hp} {ld : Addr} {vis : List Nat} (h : LnOk H ld vis) (e : Ex H H') : LnOk H' ld vis := by
  obtain ⟨kvs, h1, _⟩ := id h
  exact h.keep ((e _ _ h1).trans h1.symm) (.of e)
theorem key_ne {a b : Nat} (h : a ≠ b) : (Sum.inl (a : Int) : Key) ≠ Sum.inl (b : Int) := fun z => h (by have := Sum.inl.inj z; omega)
theorem ShOk.put {H H1 : Hp} {sd a : Addr} {vis : List Nat} {y : Nat} {kvs : List (Key × V)} (h : ShOk n ps c0 H sd vis) (hk : H sd = some (.dK kvs)) (e : Ex H H1) (hy : y ∉ vis) (ha : H1 a = some (.tup (shV n ps c0 y))) :
    ShOk n ps c0 (upd H1 sd (.dK (putK kvs (.inl (y : Int)) (.ref a)))) sd (vis ++ [y]) := by
  obtain ⟨kvs', h1, h2, h3, h4⟩ := h
  rw [hk] at h1
  cases h1
  have ht : Tups H1 (upd H1 sd (.dK (putK kvs (.inl (y : Int)) (.ref a)))) := Tups.upd (.of (Ex.refl _)) (e _ _ hk) fun xs z => nomatch z
  refine ⟨_, upd_same, ?_, fun k hk' => ?_, fun k hk' => ?_⟩
  · rw [List.length_append]
    exact Nat.le_trans (length_putK _ _ _) (Nat.add_le_add_right h2 1)
  · rw [valV_put]
    by_cases hky : k = y
    · subst hky
      rw [if_pos rfl]
      exact ⟨a, rfl, ht _ _ ha⟩
    · rw [if_neg (key_ne hky)]
      rcases List.mem_append.mp hk' with q | q
      · obtain ⟨a', x, z⟩ := h3 k q
        exact ⟨a', x, ht _ _ (e _ _ z)⟩
      · exact absurd (List.mem_singleton.mp q) hky
  · rw [valV_put, if_neg (key_ne fun z => hk' (by subst z; simp))]
    exact h4 k fun z => hk' (List.mem_append_left _ z)
theorem LnOk.put {H H1 : Hp} {ld a : Addr} {vis : List Nat} {y : Nat} {kvs : List (Key × V)} {xs : List V} (h : LnOk H ld vis) (hk : H ld = some (.dK kvs)) (e : Ex H H1) (ha : H1 a = some (.tup xs)) (hx : xs.length ≤ vis.length + 1) :
    LnOk (upd H1 ld (.dK (putK kvs (.inl (y : Int)) (.ref a)))) ld (vis ++ [y]) := by
  obtain ⟨kvs', h1, h2, h3⟩ := h
  rw [hk] at h1
  cases h1
  have ht : Tups H1 (upd H1 ld (.dK (putK kvs (.inl (y : Int)) (.ref a)))) := Tups.upd (.of (Ex.refl _)) (e _ _ hk) fun xs z => nomatch z
  refine ⟨_, upd_same, ?_, fun k hk' => ?_⟩
  · rw [List.length_append]
    exact Nat.le_trans (length_putK _ _ _) (Nat.add_le_add_right h2 1)
  · rw [valV_put]
    by_cases hky : k = y
    · subst hky
      rw [if_pos rfl]
      exact ⟨a, xs, rfl, ht _ _ ha, by rw [List.length_append]; exact hx⟩
    · rw [if_neg (key_ne hky)]
      rcases List.mem_append.mp hk' with q | q
      · obtain ⟨a', xs', x, z, z2⟩ := h3 k q
        exact ⟨a', xs', x, ht _ _ (e _ _ z), by rw [List.length_append]; omega⟩
      · exact absurd (List.mem_singleton.mp q) hky
/-! ### dict operations in short -/
theorem ev_dget {σ : L2.St} {H : Hp} {td ty : TE} {d : Addr} {k : Nat} {kvs : List (Key × V)} {v : V} (ho : Ev td σ H (.ref d)) (hi : Ev ty σ H (.int (k : Int))) (hd : H d = some (.dK kvs)) (hv : valV kvs (.inl (k : Int)) = some v) : Ev (tDGet td ty) σ H v := fun H1 e Q q =>
  ho H1 e _ fun H2 e2 => hi H2 (e.trans e2) _ fun H3 e3 => ⟨d, v, rfl, by
    have g := DGet.k (k := Sum.inl (k : Int)) (((e.trans e2).trans e3) _ _ hd)
    rw [hv] at g
    exact g, q H3 (e2.trans e3)⟩
theorem ev_dnot {σ : L2.St} {H : Hp} {td ty : TE} {d : Addr} {k : Nat} {kvs : List (Key × V)} (hi : Ev ty σ H (.int (k : Int))) (ho : Ev td σ H (.ref d)) (hd : H d = some (.dK kvs)) : Ev (tDNotIn ty td) σ H (.bl (!(valV kvs (.inl (k : Int))).isSome)) := fun H1 e Q q =>
  hi H1 e _ fun H2 e2 => ho H2 (e.trans e2) _ fun H3 e3 => ⟨d, _, rfl, DGet.k (k := Sum.inl (k : Int)) (((e.trans e2).trans e3) _ _ hd), q H3 (e2.trans e3)⟩
theorem ev_din {σ : L2.St} {H : Hp} {td ty : TE} {d : Addr} {k : Nat} {kvs : List (Key × V)} (hi : Ev ty σ H (.int (k : Int))) (ho : Ev td σ H (.ref d)) (hd : H d = some (.dK kvs)) : Ev (tDIn ty td) σ H (.bl (valV kvs (.inl (k : Int))).isSome) := fun H1 e Q q =>
  hi H1 e _ fun H2 e2 => ho H2 (e.trans e2) _ fun H3 e3 => ⟨d, _, rfl, DGet.k (k := Sum.inl (k : Int)) (((e.trans e2).trans e3) _ _ hd), q H3 (e2.trans e3)⟩
theorem s_dput {σ : L2.St} {H : Hp} {D : L2.Ends} {td ty tv : TE} {d : Addr} {k : Nat} {kvs : List (Key × V)} {xs : List V} (hv : EvU tv σ H xs) (ho : Ev td σ H (.ref d)) (hi : Ev ty σ H (.int (k : Int))) (hd : H d = some (.dK kvs)) (hl : kvs.length ≤ 1000)
    (q : ∀ p H1, H p = none → Ex H H1 → H1 p = some (.tup xs) → D.nx σ (upd H1 d (.dK (putK kvs (.inl (k : Int)) (.ref p))))) : sDPut td ty tv D σ H :=
  hv H (Ex.refl H) _ fun p H1 hp e1 h1 => ho H1 e1 _ fun H2 e2 => hi H2 (e1.trans e2) _ fun H3 e3 => ⟨d, _, rfl, DPut.k (k := Sum.inl (k : Int)) (((e1.trans e2).trans e3) _ _ hd) (small1000 hl), q p H3 hp ((e1.trans e2).trans e3) (e3 _ _ (e2 _ _ h1))⟩
theorem q_dput {σ : L2.St} {H : Hp} {D : L2.Ends} {tz : TS} {td ty tv : TE} {d : Addr} {k : Nat} {kvs : List (Key × V)} {xs : List V} (hv : EvU tv σ H xs) (ho : Ev td σ H (.ref d)) (hi : Ev ty σ H (.int (k : Int))) (hd : H d = some (.dK kvs)) (hl : kvs.length ≤ 1000)
    (q : ∀ p H1, H p = none → Ex H H1 → H1 p = some (.tup xs) → tz D σ (upd H1 d (.dK (putK kvs (.inl (k : Int)) (.ref p))))) : tSeq (sDPut td ty tv) tz D σ H := s_dput (D := { D with nx := tz D }) hv ho hi hd hl q
theorem ShOk.not {σ : L2.St} {H : Hp} {td ty : TE} {sd : Addr} {vis : List Nat} {k : Nat} (h : ShOk n ps c0 H sd vis) (hi : Ev ty σ H (.int (k : Int))) (ho : Ev td σ H (.ref sd)) : Ev (tDNotIn ty td) σ H (.bl (!decide (k ∈ vis))) := by
  obtain ⟨kvs, h1, h2, h3, h4⟩ := h
  have e : (valV kvs (.inl (k : Int))).isSome = decide (k ∈ vis) := by
    by_cases hk : k ∈ vis
    · obtain ⟨a, x, _⟩ := h3 k hk
      rw [x, decide_eq_true hk]; rfl
    · rw [h4 k hk, decide_eq_false hk]; rfl
  rw [← e]
  exact ev_dnot hi ho h1
theorem ShOk.isin {σ : L2.St} {H : Hp} {td ty : TE} {sd : Addr} {vis : List Nat} {k : Nat} (h : ShOk n ps c0 H sd vis) (hi : Ev ty σ H (.int (k : Int))) (ho : Ev td σ H (.ref sd)) : Ev (tDIn ty td) σ H (.bl (decide (k ∈ vis))) := by
  obtain ⟨kvs, h1, h2, h3, h4⟩ := h
  have e : (valV kvs (.inl (k : Int))).isSome = decide (k ∈ vis) := by
    by_cases hk : k ∈ vis
    · obtain ⟨a, x, _⟩ := h3 k hk
      rw [x, decide_eq_true hk]; rfl
    · rw [h4 k hk, decide_eq_false hk]; rfl
  rw [← e]
  exact ev_din hi ho h1
/-- shares[k] -/
theorem ShOk.get {σ : L2.St} {H : Hp} {td ty : TE} {sd : Addr} {vis : List Nat} {k : Nat} (h : ShOk n ps c0 H sd vis) (hk : k ∈ vis) : ∃ a, H a = some (.tup (shV n ps c0 k)) ∧ (Ev td σ H (.ref sd) → Ev ty σ H (.int (k : Int)) → Ev (tDGet td ty) σ H (.ref a)) := by
  obtain ⟨kvs, h1, h2, h3, h4⟩ := h
  obtain ⟨a, x, y⟩ := h3 k hk
  exact ⟨a, y, fun ho hi => ev_dget ho hi h1 x⟩
end
end K8

-- K8RdJ
/-! K8RdJ: the program's shares: the walk. -/
namespace K8
open PySem PySem.Spec L2 Evl
section
variable {K : PySem.W.Frag} {n : Nat} {ps : List Pipe} {c0 : Nat → Nat}
/-- the heap within the walk: shares, lines, rows -/
structure SH (n : Nat) (ps : List Pipe) (c0 : Nat → Nat) (H : Hp) (sd ld rl : Addr) (vis rs : List Nat) (H' : Hp) : Prop where
  ex : Ex H H'
  sh : ShOk n ps c0 H' sd vis
  ln : LnOk H' ld vis
  rw : H' rl = some (.lst ((nZ rs).map V.int))
theorem SH.mono {H H' H2 : Hp} {sd ld rl : Addr} {vis rs : List Nat} (h : SH n ps c0 H sd ld rl vis rs H') (e : Ex H' H2) : SH n ps c0 H sd ld rl vis rs H2 := ⟨h.ex.trans e, h.sh.mono e, h.ln.mono e, e _ _ h.rw⟩
/-- all but some addresses stand -/
def Kp (l : List Addr) (H H' : Hp) : Prop := ∀ a o, a ∉ l → H a = some o → H' a = some o
theorem Kp.of {l : List Addr} {H H' : Hp} (e : Ex H H') : Kp l H H' := fun a o _ h => e a o h
theorem Kp.trans {l : List Addr} {H H1 H2 : Hp} (a : Kp l H H1) (b : Kp l H1 H2) : Kp l H H2 := fun x o hx h => b x o hx (a x o hx h)
theorem Kp.upd {l : List Addr} {H H1 : Hp} {x : Addr} {u : HO} (a : Kp l H H1) (hx : x ∈ l) : Kp l H (upd H1 x u) := fun y o hy h => by
  rw [upd_ne fun z => hy (by rw [z]; exact hx)]
  exact a y o hy h
/-- what follows a turn for one direction -/
abbrev sigS (v : V) (sd ld pt rl : Addr) (x i : Nat) (p : Pipe) (y12 y13 y14 y15 : Option V) : L2.St :=
  [some v, some (.ref sd), some (.ref ld), some (.ref pt), some (.ref rl), some (.int (x : Int)), some (.int (i : Int)), some (.int (p.one : Int)), some (.int (p.other : Int)), some (.int (p.give : Int)), some (.int (p.eat : Int)), some (.int (p.start : Int)), y12, y13, y14, y15]
def shBody (K : PySem.W.Frag) : TS := tSeq (tAsg (tIf (tB (tVar 12)) (tTup (tCons (tVar 7) (tCons (tVar 8) (tNil)))) (tTup (tCons (tVar 8) (tCons (tVar 7) (tNil))))) (gTup K 2 (gCons (gName 13) (gCons (gName 14) gNil))))
    (tIfS (tAnd (tTest (tOp rEq (tVar 13) (tVar 5))) (tB (tDNotIn (tVar 14) (tVar 1)))) (tSeq (tAsg (tIf (tB (tVar 12)) (tTup (tCons (tVar 9) (tCons (tVar 10) (tNil)))) (tTup (tCons (tVar 10) (tCons (tVar 9) (tNil))))) (gName 15))
    (tSeq (sDPut (tVar 1) (tVar 14) (tCall sp_times [] E0 (tCons (tDGet (tVar 1) (tVar 5)) (tCons (tVar 15) (tNil)))))
    (tSeq (sDPut (tVar 2) (tVar 14) (tOp (rCatA K) (tDGet (tVar 2) (tVar 5)) (tTup (tCons (tTup (tCons (tVar 6) (tCons (tVar 12) (tNil)))) (tNil)))))
    (tDrop (tBM K "list" rAppend (tVar 4) (tCons (tVar 14) (tNil))))))) (tNext))
def nearE (b : Bool) (p : Pipe) : Nat := if b = true then p.one else p.other
def thereE (b : Bool) (p : Pipe) : Nat := if b = true then p.other else p.one
def rateN (b : Bool) (p : Pipe) : Nat := if b = true then p.give else p.eat
def rateD (b : Bool) (p : Pipe) : Nat := if b = true then p.eat else p.give
theorem eu_ifB {σ : L2.St} {H : Hp} {ta tb : TE} {i : Nat} {b : Bool} {xs ys : List V} (h : σ[i]? = some (some (.bl b))) (h1 : EvU ta σ H xs) (h2 : EvU tb σ H ys) : EvU (tIf (tB (tVar i)) ta tb) σ H (if b = true then xs else ys) := fun H1 e Q q => et_B (ev_var h) H1 e _ fun H2 e2 => by
  cases b with
  | true => exact h1 H2 (e.trans e2) _ fun p H3 hp e3 h3 => q p H3 (fresh_back e2 hp) (e2.trans e3) h3
  | false => exact h2 H2 (e.trans e2) _ fun p H3 hp e3 h3 => q p H3 (fresh_back e2 hp) (e2.trans e3) h3
theorem sh_turn (w : WF n ps c0) {H H' : Hp} {D : L2.Ends} {v : V} {sd ld pt rl : Addr} {x i r : Nat} {p : Pipe} {b : Bool} {y13 y14 y15 : Option V} {old vis rs : List Nat} (hp : p ∈ ps) (hsd : H sd = none) (hld : H ld = none) (hrl : H rl = none) (d1 : sd ≠ ld) (d2 : sd ≠ rl) (d3 : ld ≠ rl)
    (S : SH n ps c0 H sd ld rl vis rs H') (I : SI n ps old r (some x) vis rs) (hx : x ∈ vis) (hxc : Conn ps r x) (hrsl : rs.length ≤ 1000)
    (k : ∀ H2 y13 y14 y15 vis2 rs2, SH n ps c0 H sd ld rl vis2 rs2 H2 → SI n ps old r (some x) vis2 rs2 → 2 * (n - vis2.length) + rs2.length ≤ 2 * (n - vis.length) + rs.length → (∀ j ∈ vis, j ∈ vis2) → (nearE b p = x → thereE b p ∈ vis2) → Kp [sd, ld, rl] H' H2 →
      D.nx (sigS v sd ld pt rl x i p (some (.bl b)) y13 y14 y15) H2) :
    shBody K D (sigS v sd ld pt rl x i p (some (.bl b)) y13 y14 y15) H' := by
  have he := w.ends p hp
  have hr := w.rates p hp
  unfold shBody
  refine q_asg2 (P := fun u H' => ∃ q, u = .ref q ∧ H' q = some (.tup (if b = true then [V.int (p.one : Int), V.int (p.other : Int)] else [V.int (p.other : Int), V.int (p.one : Int)]))) (EvU.p (eu_ifB rfl (eu_tup (ea_cons (ev_var rfl) (ea_cons (ev_var rfl) ea_nil)) (by simp)) (eu_tup (ea_cons (ev_var rfl) (ea_cons (ev_var rfl) ea_nil)) (by simp)))) fun u H1 e1 ⟨q, eu, hq⟩ => ⟨q, .int (nearE b p : Int), .int (thereE b p : Int), eu, ?_, ?_⟩
  · rw [hq]
    cases b <;> rfl
  show tIfS _ _ _ _ (sigS v sd ld pt rl x i p (some (.bl b)) (some (.int (nearE b p : Int))) (some (.int (thereE b p : Int))) y15) H1
  have S1 := S.mono e1
  have htl : thereE b p < n := by unfold thereE; split; exact he.2; exact he.1
  refine s_when (b := decide (nearE b p = x) && !decide (thereE b p ∈ vis)) (et_and (et_is (et_test (ev_op (ev_var rfl) (ev_var rfl) (rv_eq rfl))) dec_cast) fun _ => et_B (S1.sh.not (ev_var rfl) (ev_var rfl))) (fun hb H2 e2 => ?_) fun hb H2 e2 => k H2 _ _ _ vis rs (S1.mono e2) I (Nat.le_refl _) (fun _ h => h) (fun hn => ?_) (.of (e1.trans e2))
  · obtain ⟨hb1, hb2⟩ := Bool.and_eq_true_iff.mp hb
    have hnx := of_decide_eq_true hb1
    have hnv : thereE b p ∉ vis := fun z => by rw [decide_eq_true z] at hb2; cases hb2
    have hyc : Conn ps r (thereE b p) := by
      refine hxc.trans ?_
      rw [← hnx]
      unfold nearE thereE
      cases b with
      | true => exact .fwd .refl hp
      | false => exact .bwd .refl hp
    have I2 := I.add htl hyc hnv
    have hvl := I2.len
    rw [List.length_append] at hvl
    have hvl' : vis.length + 1 ≤ n := hvl
    have hn5 := w.n5
    have S2 := S1.mono e2
    -- rate
    refine q_asgU (xs := if b = true then [V.int (p.give : Int), V.int (p.eat : Int)] else [V.int (p.eat : Int), V.int (p.give : Int)]) (eu_ifB rfl (eu_tup (ea_cons (ev_var rfl) (ea_cons (ev_var rfl) ea_nil)) (by simp)) (eu_tup (ea_cons (ev_var rfl) (ea_cons (ev_var rfl) ea_nil)) (by simp))) fun q2 H3 hq2 e3 h3 => ?_
    have h3' : H3 q2 = some (.tup [.int (rateN b p : Int), .int (rateD b p : Int)]) := by rw [h3]; cases b <;> rfl
    show tSeq _ _ _ (sigS v sd ld pt rl x i p (some (.bl b)) (some (.int (nearE b p : Int))) (some (.int (thereE b p : Int))) (some (.ref q2))) H3
    have S3 := S2.mono e3
    -- shares[there] = times(shares[here], rate)
    obtain ⟨a, ha, hget⟩ := S3.sh.get (σ := sigS v sd ld pt rl x i p (some (.bl b)) (some (.int (nearE b p : Int))) (some (.int (thereE b p : Int))) (some (.ref q2))) (td := tVar 1) (ty := tVar 5) hx
    have hg := hget (ev_var rfl) (ev_var rfl)
    obtain ⟨kvs, hk1, hk2, _, _⟩ := id S3.sh
    have hxn := I.lt x hx
    have hsp := w.shr_pos hxn
    have hsl := w.shr_le hxn
    have hrN : 1 ≤ rateN b p ∧ rateN b p ≤ 8 := by unfold rateN; split <;> omega
    have hrD : 1 ≤ rateD b p ∧ rateD b p ≤ 8 := by unfold rateD; split <;> omega
    have hm1 : (shr n ps c0 x).1 * rateN b p ≤ 4 * 8 := Nat.mul_le_mul hsl.1 hrN.2
    have hshr : red ((shr n ps c0 x).1 * rateN b p) ((shr n ps c0 x).2 * rateD b p) = shr n ps c0 (thereE b p) := by
      rw [← hnx]
      cases b with
      | true => exact w.shr_fwd hp
      | false => exact w.shr_bwd hp
    have hU : EvU (tCall sp_times [] E0 (tCons (tDGet (tVar 1) (tVar 5)) (tCons (tVar 15) tNil))) (sigS v sd ld pt rl x i p (some (.bl b)) (some (.int (nearE b p : Int))) (some (.int (thereE b p : Int))) (some (.ref q2))) H3 (shV n ps c0 (thereE b p)) := by
      have h := su_times (H := H3) (x := a) (y := q2) (a := (shr n ps c0 x).1) (b := (shr n ps c0 x).2) (c := rateN b p) (d := rateD b p) ha h3' (Nat.mul_pos hsp.1 (by omega)) (Nat.mul_pos hsp.2 (by omega)) (by omega) (by omega) (by omega)
      rw [hshr] at h
      exact eu_callU (ea_cons hg (ea_cons (ev_var rfl) ea_nil)) h
    refine q_dput hU (ev_var rfl) (ev_var rfl) hk1 (by omega) fun ta H4 hta e4 h4 => ?_
    have hsh4 := S3.sh.put hk1 e4 hnv h4
    have htup4 : Tups H3 (upd H4 sd (.dK (putK kvs (.inl (thereE b p : Int)) (.ref ta)))) := Tups.upd (.of e4) hk1 fun xs z => nomatch z
    have hex4 : Ex H (upd H4 sd (.dK (putK kvs (.inl (thereE b p : Int)) (.ref ta)))) := Ex.mut (S3.ex.trans e4) hsd
    have hkp4 : Kp [sd, ld, rl] H' (upd H4 sd (.dK (putK kvs (.inl (thereE b p : Int)) (.ref ta)))) := Kp.upd (.of ((e1.trans e2).trans (e3.trans e4))) (by simp)
    have hln4 : LnOk (upd H4 sd (.dK (putK kvs (.inl (thereE b p : Int)) (.ref ta)))) ld vis := by
      refine S3.ln.keep ?_ htup4
      rw [upd_ne (Ne.symm d1)]
      obtain ⟨kv, hkv, _⟩ := S3.ln
      rw [hkv]
      exact e4 _ _ hkv
    have hrw4 : (upd H4 sd (.dK (putK kvs (.inl (thereE b p : Int)) (.ref ta)))) rl = some (.lst ((nZ rs).map V.int)) := by rw [upd_ne (Ne.symm d2)]; exact e4 _ _ S3.rw
    generalize upd H4 sd (.dK (putK kvs (.inl (thereE b p : Int)) (.ref ta))) = H5 at hsh4 htup4 hkp4 hex4 hln4 hrw4
    -- lines[there] = lines[here] + ((index, forward),)
    obtain ⟨kv2, hl1, hl2, hl3⟩ := id hln4
    obtain ⟨b2, xs2, hv2, hb2', hx2⟩ := hl3 x hx
    have hU2 : EvP (tOp (rCatA K) (tDGet (tVar 2) (tVar 5)) (tTup (tCons (tTup (tCons (tVar 6) (tCons (tVar 12) tNil))) tNil))) (sigS v sd ld pt rl x i p (some (.bl b)) (some (.int (nearE b p : Int))) (some (.int (thereE b p : Int))) (some (.ref q2))) H5
        (fun u H' => ∃ q xs, u = .ref q ∧ H' q = some (.tup xs) ∧ xs.length ≤ vis.length + 1) := fun H6 e6 Q' q' => by
      refine ev_dget (ev_var (i := 2) rfl) (ev_var (i := 5) rfl) hl1 hv2 H6 e6 _ fun H7 e7 => ?_
      refine tup_do (cons_do (eu_tup (ea_cons (ev_var (i := 6) rfl) (ea_cons (ev_var (i := 12) rfl) ea_nil)) (by simp) H7 (Ex.refl H7) _ fun q3 H8 hq3 e8 h8 => nil_do ⟨sz_of (by simp), fun q4 hq4 => ?_⟩))
      have e68 := (e6.trans e7).trans (e8.trans (Ex.new (o := .tup [.ref q3]) hq4))
      refine ⟨b2, q4, xs2, [.ref q3], rfl, rfl, SqT.of (e68 _ _ hb2'), SqT.of upd_same, sz_of (by show xs2.length + 1 ≤ 100000; omega), fun z => q' _ _ (e7.trans (e8.trans (Ex.new hq4))) ⟨q4, _, rfl, upd_same, by simp⟩, fun _ z => (nomatch z), fun _ _ q5 hq5 => q' _ _ ((e7.trans (e8.trans (Ex.new hq4))).trans (Ex.new hq5)) ⟨q5, _, rfl, upd_same, by rw [List.length_append]; show xs2.length + 1 ≤ _; omega⟩⟩
    refine hU2 H5 (Ex.refl H5) _ fun u H6 e6 ⟨q6, xs6, eu6, h6, hx6⟩ => ?_
    subst eu6
    refine ⟨_, rfl, _, rfl, ld, _, rfl, DPut.k (k := Sum.inl (thereE b p : Int)) (e6 _ _ hl1) (small1000 (by omega)), ?_⟩
    have hln7 := hln4.put (y := thereE b p) hl1 e6 h6 hx6
    have htup7 : Tups H5 (upd H6 ld (.dK (putK kv2 (.inl (thereE b p : Int)) (.ref q6)))) := Tups.upd (.of e6) hl1 fun xs z => nomatch z
    have hex7 : Ex H (upd H6 ld (.dK (putK kv2 (.inl (thereE b p : Int)) (.ref q6)))) := Ex.mut (hex4.trans e6) hld
    have hsh7 : ShOk n ps c0 (upd H6 ld (.dK (putK kv2 (.inl (thereE b p : Int)) (.ref q6)))) sd (vis ++ [thereE b p]) := by
      refine hsh4.keep ?_ htup7
      rw [upd_ne d1]
      obtain ⟨kv, hkv, _⟩ := hsh4
      rw [hkv]
      exact e6 _ _ hkv
    have hrw7 : (upd H6 ld (.dK (putK kv2 (.inl (thereE b p : Int)) (.ref q6)))) rl = some (.lst ((nZ rs).map V.int)) := by rw [upd_ne (Ne.symm d3)]; exact e6 _ _ hrw4
    have hkp7 : Kp [sd, ld, rl] H' (upd H6 ld (.dK (putK kv2 (.inl (thereE b p : Int)) (.ref q6)))) := Kp.upd (hkp4.trans (.of e6)) (by simp)
    generalize upd H6 ld (.dK (putK kv2 (.inl (thereE b p : Int)) (.ref q6))) = H7 at hln7 htup7 hkp7 hex7 hsh7 hrw7
    -- rows.append(there)
    refine s_app (K := K) hrw7 (ev_var rfl) (ev_var rfl) (by rw [nV_len]; omega) fun H8 e8 => ?_
    have htup9 : Tups H7 (upd H8 rl (.lst ((nZ rs).map V.int ++ [.int (thereE b p : Int)]))) := Tups.upd (.of e8) hrw7 fun xs z => nomatch z
    refine k _ _ _ _ (vis ++ [thereE b p]) (rs ++ [thereE b p]) ⟨Ex.mut (hex7.trans e8) hrl, hsh7.keep ?_ htup9, hln7.keep ?_ htup9, by rw [upd_same, nZ_snoc]⟩ I2 (by rw [List.length_append, List.length_append]; show 2 * (n - (vis.length + 1)) + (rs.length + 1) ≤ _; omega) (fun j hj => List.mem_append_left _ hj) (fun _ => by simp) (Kp.upd (hkp7.trans (.of e8)) (by simp))
    · rw [upd_ne d2]
      obtain ⟨kv, hkv, _⟩ := hsh7
      rw [hkv]
      exact e8 _ _ hkv
    · rw [upd_ne d3]
      obtain ⟨kv, hkv, _⟩ := hln7
      rw [hkv]
      exact e8 _ _ hkv
  · apply Classical.byContradiction
    intro hnv
    rw [decide_eq_true hn, decide_eq_false hnv] at hb
    cases hb

/-! ### loops over what is told by P, over a new tuple -/
theorem q_forPL {σ : L2.St} {H : Hp} {D : L2.Ends} {tz tu : TS} {g : TG} {tl : TE} {P : V → Hp → Prop} (h : EvP tl σ H P) (k : ∀ v H1, Ex H H1 → P v H1 → ∃ a xs, v = .ref a ∧ SqL K H1 a xs ∧ ∃ Pv : Nat → L2.St → Hp → Prop, Pv 0 σ H1 ∧ (∀ i σ' H', i ≤ xs.length → Pv i σ' H' → SqL K H' a xs) ∧
    (∀ i x σ' H', xs[i]? = some x → Pv i σ' H' → g x σ' H' fun σ2 H2 => tu { D with nx := Pv (i + 1), ct := Pv (i + 1), bk := tz D } σ2 H2) ∧ (∀ σ' H', Pv xs.length σ' H' → tz D σ' H')) : tSeq (tFor (iList K tl) g tu) tz D σ H :=
  h H (Ex.refl H) _ fun v H1 e1 pv => by
    obtain ⟨a, xs, rfl, hx, Pv, h0, hl, hs, hd⟩ := k v H1 e1 pv
    exact ⟨a, rfl, ⟨xs, hx⟩, for_list (D := { D with nx := tz D }) Pv h0 hl hs hd⟩
theorem s_forNT {σ : L2.St} {H : Hp} {D : L2.Ends} {tu : TS} {g : TG} {xs : List V} {tl : TE} (h : EvU tl σ H xs) (Pv : Addr → Nat → L2.St → Hp → Prop) (h0 : ∀ p H1, H p = none → Ex H H1 → H1 p = some (.tup xs) → Pv p 0 σ H1) (hl : ∀ p i σ' H', i ≤ xs.length → Pv p i σ' H' → SqT K H' p xs)
    (hs : ∀ p i x σ' H', xs[i]? = some x → Pv p i σ' H' → g x σ' H' fun σ2 H2 => tu { D with nx := Pv p (i + 1), ct := Pv p (i + 1), bk := D.nx } σ2 H2) (hd : ∀ p σ' H', Pv p xs.length σ' H' → D.nx σ' H') : tFor (iTup K tl) g tu D σ H :=
  h H (Ex.refl H) _ fun p H1 hp e h1 => ⟨p, rfl, ⟨xs, SqT.of h1⟩, for_tup (Pv p) (h0 p H1 hp e h1) (hl p) (hs p) (hd p)⟩
/-! ### shares_in -/
def sp_shares : Sp := fun vs H Q _ => ∃ (v : V) (n : Nat) (ps : List Pipe) (c0 : Nat → Nat), vs = [v] ∧ IsFlow H v n ps ∧ WF n ps c0 ∧
  ∀ p sd ld vis H', Ex H H' → H' p = some (.tup [.ref sd, .ref ld]) → ShOk n ps c0 H' sd vis → (∀ k, k < n → k ∈ vis) → Q (.ref p) H'
theorem len_shares : ∀ vs H Q E, sp_shares vs H Q E → vs.length = 1 := by rintro vs H Q E ⟨v, n, ps, c0, rfl, _⟩; rfl
theorem rootsL_nodup {i : Nat} : (rootsL n ps i).Nodup := by
  unfold rootsL
  exact List.nodup_iff_pairwise_ne.mpr ((List.nodup_iff_pairwise_ne.mp List.nodup_range).filter _)
abbrev sig16 (v : V) (sd ld : Addr) (y3 y4 y5 y6 y7 y8 y9 y10 y11 y12 y13 y14 y15 : Option V) : L2.St := [some v, some (.ref sd), some (.ref ld), y3, y4, y5, y6, y7, y8, y9, y10, y11, y12, y13, y14, y15]
def shO (n : Nat) (ps : List Pipe) (c0 : Nat → Nat) (H : Hp) (v : V) (sd ld pl : Addr) (bs : List Addr) (i : Nat) (σ : L2.St) (H' : Hp) : Prop := ∃ y3 y4 y5 y6 y7 y8 y9 y10 y11 y12 y13 y14 y15 vis, σ = sig16 v sd ld y3 y4 y5 y6 y7 y8 y9 y10 y11 y12 y13 y14 y15 ∧
  Ex H H' ∧ ShOk n ps c0 H' sd vis ∧ LnOk H' ld vis ∧ H' pl = some (.lst (bs.map V.ref)) ∧ PartsAt n ps H' bs (rootsL n ps n) ∧ vis.Nodup ∧ (∀ k ∈ vis, k < n) ∧ Closed ps (· ∈ vis) ∧
  (∀ k ∈ vis, ∃ j, j < i ∧ (rootsL n ps n)[j]? = some (root n ps k)) ∧ ∀ (j r : Nat), j < i → (rootsL n ps n)[j]? = some r → r ∈ vis
def shW (n : Nat) (ps : List Pipe) (c0 : Nat → Nat) (H : Hp) (v : V) (sd ld pl pa rl : Addr) (bs : List Addr) (old : List Nat) (r : Nat) (m : Nat) (σ : L2.St) (H' : Hp) : Prop := ∃ y5 y6 y7 y8 y9 y10 y11 y12 y13 y14 y15 vis rs, σ = sig16 v sd ld (some (.ref pa)) (some (.ref rl)) y5 y6 y7 y8 y9 y10 y11 y12 y13 y14 y15 ∧
  SH n ps c0 H sd ld rl vis rs H' ∧ SI n ps old r none vis rs ∧ H' pl = some (.lst (bs.map V.ref)) ∧ PartsAt n ps H' bs (rootsL n ps n) ∧ m = 2 * (n - vis.length) + rs.length ∧ m ≤ 2 * n
def shP (n : Nat) (ps : List Pipe) (c0 : Nat → Nat) (H : Hp) (v : V) (sd ld pl pa rl : Addr) (bs : List Addr) (old : List Nat) (r x m : Nat) (i : Nat) (σ : L2.St) (H' : Hp) : Prop := ∃ y6 y7 y8 y9 y10 y11 y12 y13 y14 y15 vis rs, σ = sig16 v sd ld (some (.ref pa)) (some (.ref rl)) (some (.int (x : Int))) y6 y7 y8 y9 y10 y11 y12 y13 y14 y15 ∧
  SH n ps c0 H sd ld rl vis rs H' ∧ SI n ps old r (some x) vis rs ∧ H' pl = some (.lst (bs.map V.ref)) ∧ PartsAt n ps H' bs (rootsL n ps n) ∧ 2 * (n - vis.length) + rs.length ≤ m ∧ x ∈ vis ∧
  ∀ (j : Nat) p, j < i → ps[j]? = some p → (p.one = x → p.other ∈ vis) ∧ (p.other = x → p.one ∈ vis)
theorem PartsAt.kp {l : List Addr} {H H' : Hp} {bs : List Addr} {rs : List Nat} (h : PartsAt n ps H bs rs) (k : Kp l H H') (hl : ∀ a ∈ l, ∀ xs, H a ≠ some (.tup xs)) : PartsAt n ps H' bs rs := ⟨h.len, fun i a r x y => k _ _ (fun z => hl a z _ (h.item i a r x y)) (h.item i a r x y)⟩
theorem SH.notup {H H' : Hp} {sd ld rl : Addr} {vis rs : List Nat} (h : SH n ps c0 H sd ld rl vis rs H') : ∀ a ∈ [sd, ld, rl], ∀ xs, H' a ≠ some (.tup xs) := fun a ha xs z => by
  obtain ⟨k1, h1, _⟩ := h.sh
  obtain ⟨k2, h2, _⟩ := h.ln
  rcases List.mem_cons.mp ha with e | ha
  · rw [e, h1] at z; cases z
  rcases List.mem_cons.mp ha with e | ha
  · rw [e, h2] at z; cases z
  rw [List.mem_singleton.mp ha, h.rw] at z; cases z
/-- one pipe, both directions -/
theorem sh_pipe (w : WF n ps c0) {H H' : Hp} {D : L2.Ends} {v : V} {sd ld pl pa rl : Addr} {bs : List Addr} {x i r m : Nat} {p : Pipe} {y12 y13 y14 y15 : Option V} {old vis rs : List Nat} (hp : p ∈ ps) (hsd : H sd = none) (hld : H ld = none) (hrl : H rl = none) (d1 : sd ≠ ld) (d2 : sd ≠ rl) (d3 : ld ≠ rl)
    (hpl : pl ∉ [sd, ld, rl]) (S : SH n ps c0 H sd ld rl vis rs H') (I : SI n ps old r (some x) vis rs) (hPl : H' pl = some (.lst (bs.map V.ref))) (hPt : PartsAt n ps H' bs (rootsL n ps n)) (hm : 2 * (n - vis.length) + rs.length ≤ m) (hm2 : m ≤ 1000) (hx : x ∈ vis) (hxc : Conn ps r x)
    (k : ∀ H2 y12 y13 y14 y15 vis2 rs2, SH n ps c0 H sd ld rl vis2 rs2 H2 → SI n ps old r (some x) vis2 rs2 → H2 pl = some (.lst (bs.map V.ref)) → PartsAt n ps H2 bs (rootsL n ps n) → 2 * (n - vis2.length) + rs2.length ≤ m → (∀ j ∈ vis, j ∈ vis2) → (p.one = x → p.other ∈ vis2) → (p.other = x → p.one ∈ vis2) →
      D.nx (sigS v sd ld pa rl x i p y12 y13 y14 y15) H2) :
    tFor (iTup K (tTup (tCons (tC (.bl true)) (tCons (tC (.bl false)) (tNil))))) (gName 12) (shBody K) D (sigS v sd ld pa rl x i p y12 y13 y14 y15) H' := by
  refine s_forNT (xs := [.bl true, .bl false]) (eu_tup (ea_cons ev_c (ea_cons ev_c ea_nil)) (by simp)) (fun T j σ' H2 => ∃ y12 y13 y14 y15 vis2 rs2, σ' = sigS v sd ld pa rl x i p y12 y13 y14 y15 ∧ SH n ps c0 H sd ld rl vis2 rs2 H2 ∧ SI n ps old r (some x) vis2 rs2 ∧ H2 pl = some (.lst (bs.map V.ref)) ∧ PartsAt n ps H2 bs (rootsL n ps n) ∧
      2 * (n - vis2.length) + rs2.length ≤ m ∧ (∀ j ∈ vis, j ∈ vis2) ∧ (1 ≤ j → p.one = x → p.other ∈ vis2) ∧ (2 ≤ j → p.other = x → p.one ∈ vis2) ∧ H2 T = some (.tup [.bl true, .bl false]))
    (fun T H1 hT e1 h1 => ⟨y12, y13, y14, y15, vis, rs, rfl, S.mono e1, I, e1 _ _ hPl, hPt.mono e1, hm, fun _ h => h, fun z => absurd z (by decide), fun z => absurd z (by decide), h1⟩) (fun T j σ' H2 _ q => let ⟨_, _, _, _, _, _, _, _, _, _, _, _, _, _, _, h⟩ := q; SqT.of h) (fun T j z σ' H2 hz q => ?_) fun T σ' H2 q => ?_
  · obtain ⟨y12, y13, y14, y15, vis2, rs2, rfl, S2, I2, hPl2, hPt2, hm', hsub, h1, h2, hT⟩ := q
    have hTn : T ∉ [sd, ld, rl] := fun z => S2.notup T z _ hT
    have hb : (j = 0 ∧ z = .bl true) ∨ (j = 1 ∧ z = .bl false) := by
      match j, hz with
      | 0, hz => exact .inl ⟨rfl, (Option.some.inj hz).symm⟩
      | 1, hz => exact .inr ⟨rfl, (Option.some.inj hz).symm⟩
      | j + 2, hz => simp at hz
    rcases hb with ⟨rfl, rfl⟩ | ⟨rfl, rfl⟩
    · show shBody K _ (sigS v sd ld pa rl x i p (some (.bl true)) y13 y14 y15) H2
      refine sh_turn w hp hsd hld hrl d1 d2 d3 S2 I2 (hsub x hx) hxc (by omega) fun H3 y13 y14 y15 vis3 rs3 S3 I3 hm3 hsub3 hn3 kp => ⟨_, _, _, _, vis3, rs3, rfl, S3, I3, kp _ _ hpl hPl2, hPt2.kp kp S2.notup, by omega, fun j hj => hsub3 j (hsub j hj), fun _ hh => hn3 hh, fun z => absurd z (by decide), kp _ _ hTn hT⟩
    · show shBody K _ (sigS v sd ld pa rl x i p (some (.bl false)) y13 y14 y15) H2
      refine sh_turn w hp hsd hld hrl d1 d2 d3 S2 I2 (hsub x hx) hxc (by omega) fun H3 y13 y14 y15 vis3 rs3 S3 I3 hm3 hsub3 hn3 kp => ⟨_, _, _, _, vis3, rs3, rfl, S3, I3, kp _ _ hpl hPl2, hPt2.kp kp S2.notup, by omega, fun j hj => hsub3 j (hsub j hj), fun _ hh => hsub3 _ (h1 (by decide) hh), fun _ hh => hn3 hh, kp _ _ hTn hT⟩
  · obtain ⟨y12, y13, y14, y15, vis2, rs2, rfl, S2, I2, hPl2, hPt2, hm', hsub, h1, h2, hT⟩ := q
    exact k H2 _ _ _ _ vis2 rs2 S2 I2 hPl2 hPt2 hm' hsub (h1 (by decide)) (h2 (by decide))

theorem rd_shares_in : ∀ vs H Q E, sp_shares vs H Q E → t_shares_in K sp_parts sp_times { nx := fun _ H' => Q .non H', rt := Q } (start ["flow", "shares", "lines", "part", "rows", "here", "index", "one", "other", "give", "eat", "start", "forward", "near", "there", "rate"] vs) H := by
  rintro vs H Q E ⟨v, n, ps, c0, rfl, IF, w, q⟩
  obtain ⟨t, q0, as, ev, F⟩ := id IF
  have hn5 := w.n5
  have hwe := w.ends
  unfold t_shares_in
  show tSeq _ _ _ ([some v, none, none, none, none, none, none, none, none, none, none, none, none, none, none, none] : L2.St) H
  refine seq_do (show tPar 1 2 _ _ _ _ from cons_do (show tDNewK _ _ _ from fun sd hsd => cons_do (show tDNewK _ _ _ from fun ld hld => nil_do ⟨_, _, rfl, ?_⟩)))
  have hld0 : H ld = none := fresh_back (Ex.new hsd) hld
  have d1 : sd ≠ ld := fun z => by rw [← z, upd_same] at hld; cases hld
  have e0 : Ex H (upd (upd H sd (.dK [])) ld (.dK [])) := (Ex.new hsd).trans (Ex.new hld)
  have hs0 : ShOk n ps c0 (upd (upd H sd (.dK [])) ld (.dK [])) sd [] := ⟨[], by rw [upd_ne d1, upd_same], Nat.le_refl _, fun k hk => by simp at hk, fun k _ => rfl⟩
  have hl0 : LnOk (upd (upd H sd (.dK [])) ld (.dK [])) ld [] := ⟨[], upd_same, Nat.le_refl _, fun k hk => by simp at hk⟩
  generalize upd (upd H sd (.dK [])) ld (.dK []) = H1 at e0 hs0 hl0
  show tSeq _ _ _ (sig16 v sd ld none none none none none none none none none none none none none) H1
  refine q_forPL (P := fun u H' => ∃ pl bs, u = .ref pl ∧ H1 pl = none ∧ H' pl = some (.lst (bs.map V.ref)) ∧ PartsAt n ps H' bs (rootsL n ps n)) (ep_call (ea_cons (ev_var rfl) ea_nil) fun H2 e2 Q' q' E' => ⟨v, n, ps, rfl, IF.mono (e0.trans e2), by omega, w.len, hwe, fun pl H' bs hpl e' h1 h2 => q' _ H' e' ⟨pl, bs, rfl, fresh_back e2 hpl, h1, h2⟩⟩) fun u H2 e2 ⟨pl, bs, eu, hpln, hpl, hbs⟩ => ?_
  subst eu
  have hplsd : pl ≠ sd := fun z => by obtain ⟨_, hk, _⟩ := hs0; rw [z, hk] at hpln; cases hpln
  have hplld : pl ≠ ld := fun z => by obtain ⟨_, hk, _⟩ := hl0; rw [z, hk] at hpln; cases hpln
  refine ⟨pl, bs.map V.ref, rfl, SqL.of hpl, shO n ps c0 H v sd ld pl bs, ⟨_, _, _, _, _, _, _, _, _, _, _, _, _, [], rfl, e0.trans e2, hs0.mono e2, hl0.mono e2, hpl, hbs, List.nodup_nil, fun k hk => by simp at hk, fun p _ => ⟨fun z => by simp at z, fun z => by simp at z⟩, fun k hk => by simp at hk, fun j r hj => absurd hj (Nat.not_lt_zero j)⟩, fun i σ' H' _ p => ?_, fun i z σ' H' hz p => ?_, fun σ' H' p => ?_⟩
  · obtain ⟨_, _, _, _, _, _, _, _, _, _, _, _, _, _, _, _, _, _, h, _⟩ := p
    exact SqL.of h
  · obtain ⟨y3, y4, y5, y6, y7, y8, y9, y10, y11, y12, y13, y14, y15, vis, rfl, e, hS, hL, hPl, hPt, hnd, hlt, hcl, hroot, hdone⟩ := p
    obtain ⟨pa, r, rfl, hr, hpa⟩ := hPt.getp hz
    obtain ⟨hrn, hrr⟩ := mem_rootsL.mp (List.mem_of_getElem? hr)
    have hrv : r ∉ vis := fun hm => by
      obtain ⟨j, hj, hj2⟩ := hroot r hm
      rw [hrr] at hj2
      have := nd_ix rootsL_nodup hr hj2
      omega
    obtain ⟨rest, hcomp⟩ := compL_cons (ps := ps) hrn
    rw [hrr] at hcomp
    rw [hcomp] at hpa
    have hfst : ∀ {σ : L2.St} {H2 : Hp}, σ[3]? = some (some (.ref pa)) → Ex H' H2 → Ev (tOp (rIx K) (tVar 3) (tC (.int 0))) σ H2 (.int (r : Int)) := fun h3 e2 => ev_t 0 (ev_var h3) ev_c (e2 _ _ hpa) rfl
    show tSeq _ _ _ (sig16 v sd ld (some (.ref pa)) y4 y5 y6 y7 y8 y9 y10 y11 y12 y13 y14 y15) H'
    -- (1, 1), (), [part[0]]
    have hT : EvP (tTup (tCons (tTup (tCons (tC (.int 1)) (tCons (tC (.int 1)) tNil))) (tCons (tTup tNil) (tCons (tLst (tCons (tOp (rIx K) (tVar 3) (tC (.int 0))) tNil)) tNil)))) (sig16 v sd ld (some (.ref pa)) y4 y5 y6 y7 y8 y9 y10 y11 y12 y13 y14 y15) H'
        (fun u H2 => ∃ p3 q1 q2 rl, u = .ref p3 ∧ H2 p3 = some (.tup [.ref q1, .ref q2, .ref rl]) ∧ H2 q1 = some (.tup [.int 1, .int 1]) ∧ H2 q2 = some (.tup []) ∧ H' rl = none ∧ H2 rl = some (.lst ((nZ [r]).map V.int))) := fun H3 e3 Q' q' => by
      refine tup_do (cons_do (eu_tup (ea_cons ev_c (ea_cons ev_c ea_nil)) (by simp) H3 (Ex.refl H3) _ fun q1 H4 hq1 e4 h4 => cons_do ?_))
      refine eu_tup (ta := tNil) ea_nil (by simp) H4 (Ex.refl H4) _ fun q2 H5 hq2 e5 h5 => cons_do ?_
      refine el_lst (ea_cons (hfst rfl ((e3.trans e4).trans e5)) ea_nil) (by simp) H5 (Ex.refl H5) _ fun rl H6 hrl e6 h6 => nil_do ⟨sz_of (by simp), fun p3 hp3 => ?_⟩
      exact q' _ _ (((e4.trans e5).trans e6).trans (Ex.new hp3)) ⟨p3, q1, q2, rl, rfl, upd_same, Ex.new hp3 _ _ (e6 _ _ (e5 _ _ h4)), Ex.new hp3 _ _ (e6 _ _ h5), fresh_back ((e3.trans e4).trans e5) hrl, Ex.new hp3 _ _ h6⟩
    refine q_asgG hT fun u H3 e3 ⟨p3, q1, q2, rl, eu, hp3, hq1, hq2, hrl, hrw⟩ => ?_
    subst eu
    have hrl0 : H rl = none := fresh_back e hrl
    have hS3 := hS.mono e3
    have hL3 := hL.mono e3
    obtain ⟨kv1, hk1, hk1l, _, _⟩ := id hS3
    obtain ⟨kv2, hk2, hk2l, _⟩ := id hL3
    have hvl := nodup_len hnd hlt
    have d2 : sd ≠ rl := fun z => by obtain ⟨_, hk, _⟩ := hS; rw [z, hrl] at hk; cases hk
    have d3 : ld ≠ rl := fun z => by obtain ⟨_, hk, _⟩ := hL; rw [z, hrl] at hk; cases hk
    have hplrl : pl ≠ rl := fun z => by rw [z, hrl] at hPl; cases hPl
    refine ⟨p3, _, rfl, SqT.of hp3, rfl, _, _, rfl, ?_⟩
    -- shares[part[0]] = (1, 1)
    refine ev_var (i := 1) rfl H3 (Ex.refl H3) _ fun H4 e4 => hfst rfl (e3.trans e4) H4 (Ex.refl H4) _ fun H5 e5 => ⟨sd, _, rfl, DPut.k (k := Sum.inl (r : Int)) ((e4.trans e5) _ _ hk1) (small1000 (by omega)), _, _, rfl, ?_⟩
    have e35 := e4.trans e5
    have hsh := hS3.put (H1 := H5) (a := q1) hk1 e35 hrv (by
      unfold shV
      rw [w.shr_root hrn hrr]
      exact e35 _ _ hq1)
    have hln : LnOk (upd H5 sd (.dK (putK kv1 (.inl (r : Int)) (.ref q1)))) ld vis := hL3.keep (by rw [upd_ne (Ne.symm d1), hk2]; exact e35 _ _ hk2) (Tups.upd (.of e35) hk1 fun xs z => nomatch z)
    have hkp : Kp [sd, ld, rl] H3 (upd H5 sd (.dK (putK kv1 (.inl (r : Int)) (.ref q1)))) := Kp.upd (.of e35) (by simp)
    have hex : Ex H (upd H5 sd (.dK (putK kv1 (.inl (r : Int)) (.ref q1)))) := Ex.mut ((e.trans e3).trans e35) hsd
    have hrw5 : (upd H5 sd (.dK (putK kv1 (.inl (r : Int)) (.ref q1)))) rl = some (.lst ((nZ [r]).map V.int)) := by rw [upd_ne (Ne.symm d2)]; exact e35 _ _ hrw
    have hld5 : (upd H5 sd (.dK (putK kv1 (.inl (r : Int)) (.ref q1)))) ld = some (.dK kv2) := by rw [upd_ne (Ne.symm d1)]; exact e35 _ _ hk2
    have hpa5 : (upd H5 sd (.dK (putK kv1 (.inl (r : Int)) (.ref q1)))) pa = some (.tup ((nZ (r :: rest)).map V.int)) := Tups.upd (.of e35) hk1 (fun xs z => nomatch z) _ _ (e3 _ _ hpa)
    have hq25 : (upd H5 sd (.dK (putK kv1 (.inl (r : Int)) (.ref q1)))) q2 = some (.tup []) := Tups.upd (.of e35) hk1 (fun xs z => nomatch z) _ _ hq2
    generalize upd H5 sd (.dK (putK kv1 (.inl (r : Int)) (.ref q1))) = H6 at hsh hln hkp hex hrw5 hld5 hpa5 hq25
    -- lines[part[0]] = ()
    refine ev_var (i := 2) rfl H6 (Ex.refl H6) _ fun H7 e7 => ev_t 0 (ev_var (i := 3) rfl) ev_c (e7 _ _ hpa5) rfl H7 (Ex.refl H7) _ fun H8 e8 => ⟨ld, _, rfl, DPut.k (k := Sum.inl (r : Int)) ((e7.trans e8) _ _ hld5) (small1000 (by omega)), _, _, rfl, ?_⟩
    have e68 := e7.trans e8
    have hln8 := hln.put (H1 := H8) (a := q2) (y := r) hld5 e68 (e68 _ _ hq25) (by simp)
    have hsh8 : ShOk n ps c0 (upd H8 ld (.dK (putK kv2 (.inl (r : Int)) (.ref q2)))) sd (vis ++ [r]) := hsh.keep (by
      rw [upd_ne d1]
      obtain ⟨_, hk, _⟩ := hsh
      rw [hk]
      exact e68 _ _ hk) (Tups.upd (.of e68) hld5 fun xs z => nomatch z)
    have hkp8 : Kp [sd, ld, rl] H3 (upd H8 ld (.dK (putK kv2 (.inl (r : Int)) (.ref q2)))) := Kp.upd (hkp.trans (.of e68)) (by simp)
    have hex8 : Ex H (upd H8 ld (.dK (putK kv2 (.inl (r : Int)) (.ref q2)))) := Ex.mut (hex.trans e68) hld0
    have hrw8 : (upd H8 ld (.dK (putK kv2 (.inl (r : Int)) (.ref q2)))) rl = some (.lst ((nZ [r]).map V.int)) := by rw [upd_ne (Ne.symm d3)]; exact e68 _ _ hrw5
    generalize upd H8 ld (.dK (putK kv2 (.inl (r : Int)) (.ref q2))) = H9 at hln8 hsh8 hkp8 hex8 hrw8
    refine ⟨rfl, ?_⟩
    show tWhile _ _ _ (sig16 v sd ld (some (.ref pa)) (some (.ref rl)) y5 y6 y7 y8 y9 y10 y11 y12 y13 y14 y15) H9
    have hpl3 : pl ∉ [sd, ld, rl] := by simp [hplsd, hplld, hplrl]
    have hnot : ∀ a ∈ [sd, ld, rl], ∀ xs, H3 a ≠ some (.tup xs) := fun a ha xs z => by
      rcases List.mem_cons.mp ha with e | ha
      · rw [e, hk1] at z; cases z
      rcases List.mem_cons.mp ha with e | ha
      · rw [e, hk2] at z; cases z
      rw [List.mem_singleton.mp ha, hrw] at z; cases z
    have I0 := SI.start (ps := ps) hrn hrv hnd hlt
    refine s_while (shW n ps c0 H v sd ld pl pa rl bs vis r) (2 * (n - (vis ++ [r]).length) + 1) ⟨_, _, _, _, _, _, _, _, _, _, _, vis ++ [r], [r], rfl, ⟨hex8, hsh8, hln8, hrw8⟩, I0, hkp8 _ _ hpl3 (e3 _ _ hPl), (hPt.mono e3).kp hkp8 hnot, rfl, by rw [List.length_append]; show 2 * (n - (vis.length + 1)) + 1 ≤ 2 * n; omega⟩ fun m σ' H' hW => ?_
    obtain ⟨y5, y6, y7, y8, y9, y10, y11, y12, y13, y14, y15, vis2, rs, rfl, S, I, hPl2, hPt2, rfl, hm2⟩ := hW
    refine ⟨_, et_test (ev_neNilN (ev_var rfl) S.rw), fun hb H10 e10 => ?_, fun hb H10 e10 => ?_⟩
    · have hrs : rs ≠ [] := fun z => by rw [z] at hb; cases hb
      have hre : rs = rs.dropLast ++ [rs.getLast hrs] := (List.dropLast_concat_getLast hrs).symm
      generalize rs.getLast hrs = x at hre
      generalize rs.dropLast = rs0 at hre
      subst hre
      refine ⟨fun σ2 H2 => ∃ m', m' < _ ∧ shW n ps c0 H v sd ld pl pa rl bs vis r m' σ2 H2, fun _ _ h => h, ?_⟩
      have S10 := S.mono e10
      have Sr := S10.rw
      rw [nZ_snoc] at Sr
      refine q_pop (ev_var rfl) Sr fun H11 e11 => ?_
      have ht : Tups H10 (upd H11 rl (.lst ((nZ rs0).map V.int))) := Tups.upd (.of e11) Sr fun xs z => nomatch z
      have S11 : SH n ps c0 H sd ld rl vis2 rs0 (upd H11 rl (.lst ((nZ rs0).map V.int))) := ⟨Ex.mut (S10.ex.trans e11) hrl0, S10.sh.keep (by
        rw [upd_ne d2]
        obtain ⟨_, hk, _⟩ := S10.sh
        rw [hk]
        exact e11 _ _ hk) ht, S10.ln.keep (by
        rw [upd_ne d3]
        obtain ⟨_, hk, _⟩ := S10.ln
        rw [hk]
        exact e11 _ _ hk) ht, upd_same⟩
      have hPl11 : (upd H11 rl (.lst ((nZ rs0).map V.int))) pl = some (.lst (bs.map V.ref)) := by rw [upd_ne hplrl]; exact e11 _ _ (e10 _ _ hPl2)
      have hPt11 : PartsAt n ps (upd H11 rl (.lst ((nZ rs0).map V.int))) bs (rootsL n ps n) := ⟨hPt2.len, fun i a r x y => ht _ _ (e10 _ _ (hPt2.item i a r x y))⟩
      generalize upd H11 rl (.lst ((nZ rs0).map V.int)) = H12 at S11 hPl11 hPt11
      have I11 := I.pop
      obtain ⟨hxv, hxc⟩ := I.sub x (by simp)
      rw [List.length_append] at hm2
      have hm2' : 2 * (n - vis2.length) + (rs0.length + 1) ≤ 2 * n := hm2
      show tFor _ _ _ _ (sig16 v sd ld (some (.ref pa)) (some (.ref rl)) (some (.int (x : Int))) y6 y7 y8 y9 y10 y11 y12 y13 y14 y15) H12
      refine s_forPipes (i0 := 0) F S11.ex (by rw [ev]; rfl) (shP n ps c0 H v sd ld pl pa rl bs vis r x (2 * (n - vis2.length) + rs0.length)) (fun H13 e13 => ⟨_, _, _, _, _, _, _, _, _, _, vis2, rs0, rfl, S11.mono e13, I11, e13 _ _ hPl11, hPt11.mono e13, Nat.le_refl _, hxv, fun j p hj => absurd hj (Nat.not_lt_zero j)⟩)
        (fun i σ' H' p => let ⟨_, _, _, _, _, _, _, _, _, _, _, _, _, S, _⟩ := p; S.ex) (fun i p σ' H' H13 hp pv e13 => ?_) fun σ' H' pv => ?_
      · obtain ⟨y6, y7, y8, y9, y10, y11, y12, y13, y14, y15, vis3, rs3, rfl, S3, I3, hPl3, hPt3, hm3, hxv3, hall⟩ := pv
        show tFor _ _ (shBody K) _ (sigS v sd ld pa rl x i p y12 y13 y14 y15) H13
        refine sh_pipe w (List.mem_of_getElem? hp) hsd hld0 hrl0 d1 d2 d3 hpl3 (S3.mono e13) I3 (e13 _ _ hPl3) (hPt3.mono e13) hm3 (by omega) hxv3 hxc fun H14 y12 y13 y14 y15 vis4 rs4 S4 I4 hPl4 hPt4 hm4 hsub4 h1 h2 => ⟨_, _, _, _, _, _, _, _, _, _, vis4, rs4, rfl, S4, I4, hPl4, hPt4, hm4, hsub4 x hxv3, fun j p' hj hp' => ?_⟩
        by_cases hji : j = i
        · subst hji
          rw [hp] at hp'
          cases hp'
          exact ⟨h1, h2⟩
        · have := hall j p' (by omega) hp'
          exact ⟨fun z => hsub4 _ (this.1 z), fun z => hsub4 _ (this.2 z)⟩
      · obtain ⟨y6, y7, y8, y9, y10, y11, y12, y13, y14, y15, vis3, rs3, rfl, S3, I3, hPl3, hPt3, hm3, hxv3, hall⟩ := pv
        refine ⟨2 * (n - vis3.length) + rs3.length, by rw [List.length_append]; show _ < 2 * (n - vis2.length) + (rs0.length + 1); omega, _, _, _, _, _, _, _, _, _, _, _, vis3, rs3, rfl, S3, I3.next fun j hj => ?_, hPl3, hPt3, rfl, by omega⟩
        obtain ⟨p, hp, h⟩ := mem_nearL.mp hj
        obtain ⟨k, hk⟩ := List.getElem?_of_mem hp
        have := hall k p (List.getElem?_eq_some_iff.mp hk).1 hk
        rcases h with ⟨h1, h2⟩ | ⟨h1, h2⟩
        · subst h2; exact this.1 h1
        · subst h2; exact this.2 h1
    · have hrs : rs = [] := by
        apply Classical.byContradiction
        intro z
        rw [decide_eq_false z] at hb
        cases hb
      subst hrs
      have S10 := S.mono e10
      refine ⟨_, _, _, _, _, _, _, _, _, _, _, _, _, vis2, rfl, S10.ex, S10.sh, S10.ln, e10 _ _ hPl2, hPt2.mono e10, I.nd, I.lt, I.closed hcl, fun k hk => ?_, fun j r' hj hr' => ?_⟩
      · rcases I.ok k hk with ho | hc
        · obtain ⟨j, hj, hj2⟩ := hroot k ho
          exact ⟨j, by omega, hj2⟩
        · exact ⟨i, by omega, by rw [← root_congr hc, hrr]; exact hr⟩
      · by_cases hji : j = i
        · subst hji
          rw [hr] at hr'
          cases hr'
          exact I.has
        · exact I.old' _ (hdone j r' (by omega) hr')
  · obtain ⟨y3, y4, y5, y6, y7, y8, y9, y10, y11, y12, y13, y14, y15, vis, rfl, e, hS, hL, hPl, hPt, hnd, hlt, hcl, hroot, hdone⟩ := p
    rw [List.length_map, hPt.len] at hdone
    refine s_retU (xs := [.ref sd, .ref ld]) (eu_tup (ea_cons (ev_var rfl) (ea_cons (ev_var rfl) ea_nil)) (by simp)) fun p H3 hp e3 h3 => q p sd ld vis H3 (e.trans e3) h3 (hS.mono e3) fun k hk => ?_
    have hm : root n ps k ∈ rootsL n ps n := mem_rootsL.mpr ⟨root_lt hk, root_root hk⟩
    obtain ⟨j, hj⟩ := List.getElem?_of_mem hm
    have := hdone j _ (List.getElem?_eq_some_iff.mp hj).1 hj
    exact hcl.all this (root_conn hk).symm
end
end K8

-- K8RdK
/-! K8RdK: the program's round; whether a flow lives. -/
namespace K8
open PySem PySem.Spec L2 Evl
section
variable {K : PySem.W.Frag} {n : Nat} {ps : List Pipe} {c0 : Nat → Nat}
theorem shV_eq {k : Nat} : shV n ps c0 k = ([((shr n ps c0 k).1 : Int), ((shr n ps c0 k).2 : Int)] : List Int).map V.int := rfl
/-! ### bad_pipe -/
def sp_bad : Sp := fun vs H Q _ => ∃ (v : V) (n : Nat) (ps : List Pipe) (c0 : Nat → Nat) (sd : Addr) (vis : List Nat), vs = [v, .ref sd] ∧ IsFlow H v n ps ∧ WF n ps c0 ∧ ShOk n ps c0 H sd vis ∧ (∀ k, k < n → k ∈ vis) ∧ ∀ H', Ex H H' → Q .non H'
theorem len_bad : ∀ vs H Q E, sp_bad vs H Q E → vs.length = 2 := by rintro vs H Q E ⟨v, n, ps, c0, sd, vis, rfl, _⟩; rfl
theorem rd_bad_pipe : ∀ vs H Q E, sp_bad vs H Q E → t_bad_pipe K sp_times { nx := fun _ H' => Q .non H', rt := Q } (start ["flow", "shares", "index", "one", "other", "give", "eat", "start"] vs) H := by
  rintro vs H Q E ⟨v, n, ps, c0, sd, vis, rfl, IF, w, hS, hv, q⟩
  obtain ⟨t, q0, as, ev, F⟩ := id IF
  unfold t_bad_pipe
  show tSeq _ _ _ ([some v, some (.ref sd), none, none, none, none, none, none] : L2.St) H
  refine q_forPipes (i0 := 0) F (Ex.refl H) (by rw [ev]; rfl) (fun i σ' H' => ∃ y2 y3 y4 y5 y6 y7, σ' = [some v, some (.ref sd), y2, y3, y4, y5, y6, y7] ∧ Ex H H') (fun H1 e1 => ⟨_, _, _, _, _, _, rfl, e1⟩) (fun i σ' H' p => let ⟨_, _, _, _, _, _, _, e⟩ := p; e) (fun i p σ' H' H2 hp pv e2 => ?_) fun σ' H' pv => ?_
  · obtain ⟨y2, y3, y4, y5, y6, y7, rfl, e⟩ := pv
    have hpm := List.mem_of_getElem? hp
    have he := w.ends p hpm
    have hr := w.rates p hpm
    have e02 := e.trans e2
    show tIfS _ _ _ _ ([some v, some (.ref sd), some (.int (i : Int)), some (.int (p.one : Int)), some (.int (p.other : Int)), some (.int (p.give : Int)), some (.int (p.eat : Int)), some (.int (p.start : Int))] : L2.St) H2
    have hsp := w.shr_pos he.1
    have hsl := w.shr_le he.1
    have hm1 : (shr n ps c0 p.one).1 * p.give ≤ 4 * 8 := Nat.mul_le_mul hsl.1 hr.2.1
    have hT : EvP (tCall sp_times [] E0 (tCons (tDGet (tVar 1) (tVar 3)) (tCons (tTup (tCons (tVar 5) (tCons (tVar 6) tNil))) tNil))) ([some v, some (.ref sd), some (.int (i : Int)), some (.int (p.one : Int)), some (.int (p.other : Int)), some (.int (p.give : Int)), some (.int (p.eat : Int)), some (.int (p.start : Int))] : L2.St) H2
        (fun u H' => ∃ q1, u = .ref q1 ∧ H' q1 = some (.tup (shV n ps c0 p.other))) := fun H3 e3 Q' q' => by
      have hS3 := hS.mono (e02.trans e3)
      obtain ⟨a, ha, hget⟩ := hS3.get (σ := [some v, some (.ref sd), some (.int (i : Int)), some (.int (p.one : Int)), some (.int (p.other : Int)), some (.int (p.give : Int)), some (.int (p.eat : Int)), some (.int (p.start : Int))]) (td := tVar 1) (ty := tVar 3) (hv p.one he.1)
      refine call_do (cons_do (hget (ev_var rfl) (ev_var rfl) H3 (Ex.refl H3) _ fun H4 e4 => cons_do ?_))
      refine eu_tup (ea_cons (ev_var (i := 5) rfl) (ea_cons (ev_var (i := 6) rfl) ea_nil)) (by simp) H4 (Ex.refl H4) _ fun q2 H5 hq2 e5 h5 => nil_do ?_
      have h := su_times (H := H5) (x := a) (y := q2) (a := (shr n ps c0 p.one).1) (b := (shr n ps c0 p.one).2) (c := p.give) (d := p.eat) ((e4.trans e5) _ _ ha) h5 (Nat.mul_pos hsp.1 (by omega)) (Nat.mul_pos hsp.2 (by omega)) (by omega) (by omega) (by omega)
      rw [w.shr_fwd hpm] at h
      exact h H5 (Ex.refl H5) Q' (fun q1 H6 hq1 e6 h6 => q' _ _ ((e4.trans e5).trans e6) ⟨q1, rfl, h6⟩) E0
    refine s_when (b := !true) (et_test (ev_is (ev_opP hT fun x H3 e3 ⟨q1, ex, hq1⟩ => by
      subst ex
      have hS3 := hS.mono (e02.trans e3)
      obtain ⟨a, ha, hget⟩ := hS3.get (σ := [some v, some (.ref sd), some (.int (i : Int)), some (.int (p.one : Int)), some (.int (p.other : Int)), some (.int (p.give : Int)), some (.int (p.eat : Int)), some (.int (p.start : Int))]) (td := tVar 1) (ty := tVar 4) (hv p.other he.2)
      rw [shV_eq] at hq1 ha
      exact ev_op ev_c (hget (ev_var rfl) (ev_var rfl)) (rv_neT (SqT.of hq1) (SqT.of ha))) (by rw [decide_eq_true rfl]))) (fun z => nomatch z) fun _ H3 e3 => ⟨_, _, _, _, _, _, rfl, e02.trans e3⟩
  · obtain ⟨y2, y3, y4, y5, y6, y7, rfl, e⟩ := pv
    exact s_ret ev_c fun H1 e1 => q H1 (e.trans e1)

/-! ### repetitions_in -/
def sp_rep : Sp := fun vs H Q _ => ∃ (v : V) (n : Nat) (ps : List Pipe) (c0 : Nat → Nat), vs = [v] ∧ IsFlow H v n ps ∧ WF n ps c0 ∧
  ∀ p H', H p = none → Ex H H' → H' p = some (.lst ((cZ n (rep n ps c0)).map V.int)) → Q (.ref p) H'
theorem len_rep : ∀ vs H Q E, sp_rep vs H Q E → vs.length = 1 := by rintro vs H Q E ⟨v, n, ps, c0, rfl, _⟩; rfl
theorem sl_rep {H : Hp} {v : V} (F : IsFlow H v n ps) (w : WF n ps c0) : SpL sp_rep [v] H ((cZ n (rep n ps c0)).map V.int) := fun H1 e Q q E => ⟨v, n, ps, c0, rfl, F.mono e, w, q⟩
/-- the counts when the parts of the first roots are done -/
noncomputable def repU (n : Nat) (ps : List Pipe) (c0 : Nat → Nat) (S : Nat → Prop) : Nat → Nat := fun k => @ite _ (S k) (Classical.propDecidable _) (raw n ps c0 k) 0
theorem repU_yes {S : Nat → Prop} {k : Nat} (h : S k) : repU n ps c0 S k = raw n ps c0 k := by unfold repU; rw [if_pos h]
theorem repU_no {S : Nat → Prop} {k : Nat} (h : ¬ S k) : repU n ps c0 S k = 0 := by unfold repU; rw [if_neg h]
/-- below * share // gcd, one step of the fold -/
theorem ev_below {σ : L2.St} {H : Hp} {sp : Sp} {tb tx : TE} {E : XK} {acc : Nat} {xs : Nat × Nat} (hacc : 0 < acc ∧ acc ≤ 4) (hx : 0 < xs.2 ∧ xs.2 ≤ 4) (hb : Ev tb σ H (.int (acc : Int))) (hs : Ev tx σ H (.int (xs.2 : Int))) (hg : SpV sp [.int (acc : Int), .int (xs.2 : Int)] H (.int (Nat.gcd acc xs.2 : Int))) :
    Ev (tOp (rI CDiv fun i j => .int (i / j)) (tOp (rI CMul fun i j => .int (i * j)) tb tx) (tCall sp [] E (tCons tb (tCons tx tNil)))) σ H (.int ((acc * xs.2 / Nat.gcd acc xs.2 : Nat) : Int)) := by
  have h1 : 0 < Nat.gcd acc xs.2 := Nat.gcd_pos_of_pos_left _ hacc.1
  have h2 : Nat.gcd acc xs.2 ≤ acc := Nat.gcd_le_left _ hacc.1
  refine ev_is (ev_op (ev_op hb hs (rv_I (.inl (by omega)))) (ev_callV (ea_cons hb (ea_cons hs ea_nil)) hg) (rv_I ⟨by omega, by omega⟩)) ?_
  show V.int ((acc : Int) * (xs.2 : Int) / (Nat.gcd acc xs.2 : Int)) = _
  rw [Int.natCast_ediv, Int.natCast_mul]
/-- below * numerator // denominator -/
theorem ev_raw {σ : L2.St} {H : Hp} {tb tx ty : TE} {acc : Nat} {xs : Nat × Nat} (hacc : acc ≤ 4) (hx : 0 < xs.2 ∧ xs.2 ≤ 4) (hb : Ev tb σ H (.int (acc : Int))) (h1 : Ev tx σ H (.int (xs.1 : Int))) (h2 : Ev ty σ H (.int (xs.2 : Int))) :
    Ev (tOp (rI CDiv fun i j => .int (i / j)) (tOp (rI CMul fun i j => .int (i * j)) tb tx) ty) σ H (.int ((acc * xs.1 / xs.2 : Nat) : Int)) := by
  refine ev_is (ev_op (ev_op hb h1 (rv_I (.inl (by omega)))) h2 (rv_I ⟨by omega, by omega⟩)) ?_
  show V.int ((acc : Int) * (xs.1 : Int) / (xs.2 : Int)) = _
  rw [Int.natCast_ediv, Int.natCast_mul]
/-- shares[k][0], shares[k][1] -/
theorem ShOk.num {σ : L2.St} {H : Hp} {td ty : TE} {sd : Addr} {vis : List Nat} {k : Nat} (h : ShOk n ps c0 H sd vis) (hk : k ∈ vis) (ho : Ev td σ H (.ref sd)) (hi : Ev ty σ H (.int (k : Int))) : Ev (tOp (rIx K) (tDGet td ty) (tC (.int 0))) σ H (.int ((shr n ps c0 k).1 : Int)) := by
  obtain ⟨a, ha, hget⟩ := h.get (σ := σ) (td := td) (ty := ty) hk
  exact ev_t 0 (hget ho hi) ev_c ha rfl
theorem ShOk.den {σ : L2.St} {H : Hp} {td ty : TE} {sd : Addr} {vis : List Nat} {k : Nat} (h : ShOk n ps c0 H sd vis) (hk : k ∈ vis) (ho : Ev td σ H (.ref sd)) (hi : Ev ty σ H (.int (k : Int))) : Ev (tOp (rIx K) (tDGet td ty) (tC (.int 1))) σ H (.int ((shr n ps c0 k).2 : Int)) := by
  obtain ⟨a, ha, hget⟩ := h.get (σ := σ) (td := td) (ty := ty) hk
  exact ev_t 1 (hget ho hi) ev_c ha rfl
theorem belF_snoc {f : Nat → Nat × Nat} {l : List Nat} {k : Nat} : belF f (l ++ [k]) = belF f l * (f k).2 / Nat.gcd (belF f l) (f k).2 := by unfold belF; rw [List.foldl_append]; rfl
theorem take_snoc {l : List Nat} {j k : Nat} (h : l[j]? = some k) : l.take (j + 1) = l.take j ++ [k] := by rw [List.take_add_one, h]; rfl
theorem rd_repetitions_in : ∀ vs H Q E, sp_rep vs H Q E → t_repetitions_in K sp_shares sp_bad sp_parts sp_gcd { nx := fun _ H' => Q .non H', rt := Q } (start ["flow", "shares", "lines", "found", "part", "below", "box"] vs) H := by
  rintro vs H Q E ⟨v, n, ps, c0, rfl, IF, w, q⟩
  obtain ⟨t, q0, as, ev, F⟩ := id IF
  have hn5 := w.n5
  have hwe := w.ends
  unfold t_repetitions_in
  show tSeq _ _ _ ([some v, none, none, none, none, none, none] : L2.St) H
  refine q_asg2 (P := fun u H' => ∃ p sd ld vis, u = .ref p ∧ H' p = some (.tup [.ref sd, .ref ld]) ∧ ShOk n ps c0 H' sd vis ∧ ∀ k, k < n → k ∈ vis) (ep_call (ea_cons (ev_var rfl) ea_nil) fun H1 e1 Q' q' E' => ⟨v, n, ps, c0, rfl, IF.mono e1, w, fun p sd ld vis H' e' h1 h2 h3 => q' _ H' e' ⟨p, sd, ld, vis, rfl, h1, h2, h3⟩⟩) fun u H1 e1 ⟨p, sd, ld, vis, eu, hp, hS, hv⟩ => ⟨p, .ref sd, .ref ld, eu, hp, ?_⟩
  show tSeq _ _ _ ([some v, some (.ref sd), some (.ref ld), none, none, none, none] : L2.St) H1
  have hbad : EvT (tB (tNotN (tCall sp_bad [] E0 (tCons (tVar 0) (tCons (tVar 1) tNil))))) ([some v, some (.ref sd), some (.ref ld), none, none, none, none] : L2.St) H1 false := fun H2 e2 Q' q' => by
    refine ev_callV (z := .non) (ea_cons (ev_var rfl) (ea_cons (ev_var rfl) ea_nil)) (fun H3 e3 Q2 q2 E' => ⟨v, n, ps, c0, sd, vis, rfl, IF.mono (e1.trans (e2.trans e3)), w, hS.mono (e2.trans e3), hv, q2⟩) H2 (Ex.refl H2) _ fun H3 e3 => ⟨false, rfl, q' H3 e3⟩
  refine q_when hbad (fun z => nomatch z) fun _ H2 e2 => ?_
  have e12 := e1.trans e2
  refine q_asgL (el_rep (n := n) (el_lst (ea_cons ev_c ea_nil) (by simp)) (fun H3 e3 => ev_f0 (t0 := t) (by rw [ev]; rfl) (F.mono (e12.trans e3))) (by omega)) fun fl H3 hfl e3 hF => ?_
  rw [rep_zero] at hF
  have e13 := e12.trans e3
  have hfl0 : H fl = none := fresh_back e12 hfl
  show tSeq _ _ _ ([some v, some (.ref sd), some (.ref ld), some (.ref fl), none, none, none] : L2.St) H3
  refine q_forPL (P := fun u H' => ∃ pl bs, u = .ref pl ∧ H3 pl = none ∧ H' pl = some (.lst (bs.map V.ref)) ∧ PartsAt n ps H' bs (rootsL n ps n)) (ep_call (ea_cons (ev_var rfl) ea_nil) fun H4 e4 Q' q' E' => ⟨v, n, ps, rfl, IF.mono (e13.trans e4), by omega, w.len, hwe, fun pl H' bs hpl e' h1 h2 => q' _ H' e' ⟨pl, bs, rfl, fresh_back e4 hpl, h1, h2⟩⟩) fun u H4 e4 ⟨pl, bs, eu, hpln, hpl, hbs⟩ => ?_
  subst eu
  have hplf : pl ≠ fl := fun z => by rw [z, hF] at hpln; cases hpln
  have hsdf : sd ≠ fl := fun z => by obtain ⟨_, hk, _⟩ := hS; rw [← z, e2 _ _ hk] at hfl; cases hfl
  refine ⟨pl, bs.map V.ref, rfl, SqL.of hpl, fun i σ' H' => ∃ y4 y5 y6 f, σ' = [some v, some (.ref sd), some (.ref ld), some (.ref fl), y4, y5, y6] ∧ Ex H H' ∧ ShOk n ps c0 H' sd vis ∧ H' fl = some (.lst ((cZ n f).map V.int)) ∧ H' pl = some (.lst (bs.map V.ref)) ∧ PartsAt n ps H' bs (rootsL n ps n) ∧
      (∀ k, k < n → f k = repU n ps c0 (fun k => root n ps k ∈ (rootsL n ps n).take i) k), ⟨_, _, _, zeroD, rfl, e13.trans e4, hS.mono (e2.trans (e3.trans e4)), e4 _ _ hF, hpl, hbs, fun k _ => by rw [repU_no (by simp)]; rfl⟩, fun i σ' H' _ p => ?_, fun i z σ' H' hz p => ?_, fun σ' H' p => ?_⟩
  · obtain ⟨_, _, _, _, _, _, _, _, h, _⟩ := p
    exact SqL.of h
  · obtain ⟨y4, y5, y6, f, rfl, e, hS', hF', hPl, hPt, hf⟩ := p
    obtain ⟨pa, r, rfl, hr, hpa⟩ := hPt.getp hz
    obtain ⟨hrn, hrr⟩ := mem_rootsL.mp (List.mem_of_getElem? hr)
    show tSeq _ _ _ ([some v, some (.ref sd), some (.ref ld), some (.ref fl), some (.ref pa), y5, y6] : L2.St) H'
    refine q_asg (v := .int ((1 : Nat) : Int)) ev_c fun H5 e5 => ?_
    show tSeq _ _ _ ([some v, some (.ref sd), some (.ref ld), some (.ref fl), some (.ref pa), some (.int ((1 : Nat) : Int)), y6] : L2.St) H5
    -- below
    refine q_forT (a := pa) (xs := (nZ (compL n ps r)).map V.int) (ev_var rfl) (SqT.of (e5 _ _ hpa)) (fun j σ' H2 => ∃ y6, σ' = [some v, some (.ref sd), some (.ref ld), some (.ref fl), some (.ref pa), some (.int (belF (shr n ps c0) ((compL n ps r).take j) : Int)), y6] ∧ Ex H' H2) (fun H6 e6 => ⟨_, rfl, e5.trans e6⟩) (fun j σ' H2 _ p => let ⟨_, _, e⟩ := p; SqT.of (e _ _ hpa)) (fun j x σ' H2 hx p => ?_) fun σ' H2 p => ?_
    · obtain ⟨y6, rfl, e6⟩ := p
      obtain ⟨k, hk, rfl⟩ := nV_getp hx
      have hkm := List.mem_of_getElem? hk
      have hkn := (mem_compL.mp hkm).1
      have hacc := w.bel_le (a := r) hrn (l := (compL n ps r).take j) fun k hk => List.mem_of_mem_take hk
      have hsp := w.shr_pos hkn
      have hsl := w.shr_le hkn
      show tAsg _ _ _ ([some v, some (.ref sd), some (.ref ld), some (.ref fl), some (.ref pa), some (.int (belF (shr n ps c0) ((compL n ps r).take j) : Int)), some (.int (k : Int))] : L2.St) H2
      have hS2 := hS'.mono e6
      refine s_asg (ev_below (sp := sp_gcd) (xs := shr n ps c0 k) hacc ⟨hsp.2, hsl.2⟩ (ev_var rfl) (hS2.den (hv k hkn) (ev_var rfl) (ev_var rfl)) sv_gcd) fun H7 e7 => ⟨some (.int (k : Int)), ?_, e6.trans e7⟩
      rw [take_snoc hk, belF_snoc]
      rfl
    obtain ⟨y6, rfl, e6⟩ := p
    rw [nV_len, List.take_length]
    have hbr : belF (shr n ps c0) (compL n ps r) = bel n ps c0 r := rfl
    rw [hbr]
    have hbl := w.bel_le (a := r) hrn (l := compL n ps r) fun k hk => hk
    rw [hbr] at hbl
    have hroot : ∀ k, k ∈ compL n ps r → root n ps k = r := fun k hk => by rw [← root_congr (mem_compL.mp hk).2, hrr]
    have hnew : r ∉ (rootsL n ps n).take i := fun hm => by
      obtain ⟨j, hj⟩ := List.getElem?_of_mem hm
      rw [List.getElem?_take] at hj
      by_cases hji : j < i
      · rw [if_pos hji] at hj
        have := nd_ix rootsL_nodup hr hj
        omega
      · rw [if_neg hji] at hj; cases hj
    -- found
    refine s_forT (a := pa) (xs := (nZ (compL n ps r)).map V.int) (ev_var rfl) (SqT.of (e6 _ _ hpa)) (fun j σ' H3 => ∃ y6 g, σ' = [some v, some (.ref sd), some (.ref ld), some (.ref fl), some (.ref pa), some (.int (bel n ps c0 r : Int)), y6] ∧ Ex H H3 ∧ ShOk n ps c0 H3 sd vis ∧ H3 fl = some (.lst ((cZ n g).map V.int)) ∧ H3 pl = some (.lst (bs.map V.ref)) ∧ PartsAt n ps H3 bs (rootsL n ps n) ∧ H3 pa = some (.tup ((nZ (compL n ps r)).map V.int)) ∧
        (∀ k, k < n → g k = repU n ps c0 (fun k => root n ps k ∈ (rootsL n ps n).take i ∨ k ∈ (compL n ps r).take j) k))
      (fun H6 e7 => ⟨_, f, rfl, (e.trans e6).trans e7, hS'.mono (e6.trans e7), (e6.trans e7) _ _ hF', (e6.trans e7) _ _ hPl, hPt.mono (e6.trans e7), (e6.trans e7) _ _ hpa, fun k hk => by
        rw [hf k hk]
        congr 1
        funext k
        simp⟩) (fun j σ' H2 _ p => let ⟨_, _, _, _, _, _, _, _, h, _⟩ := p; SqT.of h) (fun j x σ' H3 hx p => ?_) fun σ' H3 p => ?_
    · obtain ⟨y6, g, rfl, eX, hS3, hF3, hPl3, hPt3, hpa3, hg⟩ := p
      obtain ⟨k, hk, rfl⟩ := nV_getp hx
      have hkm := List.mem_of_getElem? hk
      have hkn := (mem_compL.mp hkm).1
      have hsp := w.shr_pos hkn
      have hsl := w.shr_le hkn
      show tAsg _ _ _ ([some v, some (.ref sd), some (.ref ld), some (.ref fl), some (.ref pa), some (.int (bel n ps c0 r : Int)), some (.int (k : Int))] : L2.St) H3
      have hbk : bel n ps c0 r = bel n ps c0 k := bel_congr (mem_compL.mp hkm).2
      refine s_setL (j := k) (v := .int (raw n ps c0 k : Int)) hF3 (ev_is (ev_raw (xs := shr n ps c0 k) hbl.2 ⟨hsp.2, hsl.2⟩ (ev_var rfl) (hS3.num (hv k hkn) (ev_var rfl) (ev_var rfl)) (hS3.den (hv k hkn) (ev_var rfl) (ev_var rfl))) (by rw [hbk]; rfl)) (ev_var rfl) (ev_var rfl) (by rw [cV_len]; exact hkn) fun H4 e4 => ?_
      have htup : Tups H3 (upd H4 fl (.lst (((cZ n g).map V.int).set k (.int (raw n ps c0 k : Int))))) := Tups.upd (.of e4) hF3 fun xs z => nomatch z
      refine ⟨_, fun y => if y = k then raw n ps c0 k else g y, rfl, Ex.mut (eX.trans e4) hfl0, hS3.keep (by
        rw [upd_ne hsdf]
        obtain ⟨_, hk1, _⟩ := hS3
        rw [hk1]
        exact e4 _ _ hk1) htup, by rw [upd_same, cV_set hkn (e := fun y => if y = k then raw n ps c0 k else g y) (by show _ = ((if k = k then raw n ps c0 k else g k : Nat) : Int); rw [if_pos rfl]) fun y _ hy => (by show (if y = k then raw n ps c0 k else g y) = g y; rw [if_neg hy])], by rw [upd_ne hplf]; exact e4 _ _ hPl3, ⟨hPt3.len, fun i a r x y => htup _ _ (hPt3.item i a r x y)⟩, htup _ _ hpa3, fun y hy => ?_⟩
      by_cases hyk : y = k
      · subst hyk
        show (if y = y then raw n ps c0 y else g y) = _
        rw [if_pos rfl, repU_yes]
        exact .inr (by rw [take_snoc hk]; simp)
      · show (if y = k then raw n ps c0 k else g y) = _
        rw [if_neg hyk, hg y hy]
        by_cases hc : root n ps y ∈ (rootsL n ps n).take i ∨ y ∈ (compL n ps r).take j
        · rw [repU_yes hc, repU_yes]
          exact hc.imp id fun z => by rw [take_snoc hk]; exact List.mem_append_left _ z
        · rw [repU_no hc, repU_no]
          rintro (z | z)
          · exact hc (.inl z)
          · rw [take_snoc hk] at z
            rcases List.mem_append.mp z with z | z
            · exact hc (.inr z)
            · exact hyk (List.mem_singleton.mp z)
    · obtain ⟨y6, g, rfl, eX, hS3, hF3, hPl3, hPt3, hpa3, hg⟩ := p
      rw [nV_len, List.take_length] at hg
      refine ⟨_, _, _, g, rfl, eX, hS3, hF3, hPl3, hPt3, fun k hk => ?_⟩
      rw [hg k hk]
      by_cases hc : root n ps k ∈ (rootsL n ps n).take i ∨ k ∈ compL n ps r
      · rw [repU_yes hc, repU_yes]
        rw [take_snoc hr]
        rcases hc with z | z
        · exact List.mem_append_left _ z
        · rw [hroot k z]; simp
      · rw [repU_no hc, repU_no]
        intro z
        rw [take_snoc hr] at z
        rcases List.mem_append.mp z with z | z
        · exact hc (.inl z)
        · exact hc (.inr (mem_compL.mpr ⟨hk, (conn_of_root hk hrn (by rw [List.mem_singleton.mp z, hrr])).symm⟩))
  · obtain ⟨y4, y5, y6, f, rfl, e, hS', hF', hPl, hPt, hf⟩ := p
    rw [List.length_map, hPt.len, List.take_length] at hf
    have hfin : cZ n f = cZ n (rep n ps c0) := cZ_congr fun k hk => by
      rw [hf k hk, repU_yes (S := fun k => root n ps k ∈ rootsL n ps n) (k := k) (mem_rootsL.mpr ⟨root_lt hk, root_root hk⟩)]
      unfold rep
      rw [if_pos hk]
    rw [hfin] at hF'
    exact s_ret (ev_var rfl) fun H5 e5 => q fl H5 hfl0 (e.trans e5) (e5 _ _ hF')

/-! ### round_of, lives, is_live -/
theorem rep_sum (w : WF n ps c0) : sumTo n (rep n ps c0) ≤ 2000 := by
  have := sumTo_bound (n := n) fun k _ => w.rep_le k
  have := w.n5
  have : n * 4 ≤ 5 * 4 := Nat.mul_le_mul_right _ w.n5
  omega
theorem rd_round_of : ∀ vs H Q E, sp_rep vs H Q E → t_round_of K sp_rep { nx := fun _ H' => Q .non H', rt := Q } (start ["flow", "found"] vs) H := by
  rintro vs H Q E ⟨v, n, ps, c0, rfl, IF, w, q⟩
  unfold t_round_of
  refine q_asgL (el_callL (ea_cons (ev_var rfl) ea_nil) (sl_rep IF w)) fun fl H1 hfl e1 h1 => ?_
  refine q_when (b := false) (et_is (et_test (ev_op (ev_sumA (ev_var rfl) (SqA.l h1)) ev_c rv_I0)) (decide_eq_false (by have := rep_sum w; omega))) (fun z => nomatch z) fun _ H2 e2 => ?_
  exact s_ret (ev_var rfl) fun H3 e3 => q fl H3 hfl ((e1.trans e2).trans e3) (e3 _ _ (e2 _ _ h1))
def sp_lives : Sp := fun vs H Q _ => ∃ (v : V) (n : Nat) (ps : List Pipe) (c0 : Nat → Nat), vs = [v] ∧ IsFlow H v n ps ∧ WF n ps c0 ∧ Reach n ps (rep n ps c0) ∧ ∀ H', Ex H H' → Q (.bl true) H'
theorem len_lives : ∀ vs H Q E, sp_lives vs H Q E → vs.length = 1 := by rintro vs H Q E ⟨v, n, ps, c0, rfl, _⟩; rfl
theorem rd_lives : ∀ vs H Q E, sp_lives vs H Q E → t_lives K sp_rep (sp_does K) { nx := fun _ H' => Q .non H', rt := Q } (start ["flow"] vs) H := by
  rintro vs H Q E ⟨v, n, ps, c0, rfl, IF, w, hr, q⟩
  unfold t_lives
  have hn5 := w.n5
  have h : Ev (tCall (sp_does K) [] E0 (tCons (tVar 0) (tCons (tCall sp_rep [] E0 (tCons (tVar 0) tNil)) tNil))) (start ["flow"] [v]) H (.bl true) := fun H1 e1 Q' q' => by
    refine call_do (cons_do (ev_var (i := 0) (v := v) rfl H1 (Ex.refl H1) _ fun H2 e2 => cons_do ?_))
    refine el_callL (ea_cons (ev_var (i := 0) (v := v) rfl) ea_nil) (sl_rep (IF.mono (e1.trans e2)) w) H2 (Ex.refl H2) _ fun fl H3 hfl e3 h3 => nil_do ?_
    have hd := sv_does (K := K) (IF.mono ((e1.trans e2).trans e3)) (by omega) w.len (SqA.l h3) fun k hk => rep_out hk
    rw [reachB_iff.mpr hr] at hd
    exact hd H3 (Ex.refl H3) Q' (fun H4 e4 => q' H4 ((e2.trans e3).trans e4)) E0
  exact s_ret h fun H1 e1 => q H1 e1
def sp_is_live : Sp := fun vs H Q _ => ∃ (v : V) (n : Nat) (ps : List Pipe) (c0 : Nat → Nat), vs = [v] ∧ IsFlow H v n ps ∧ WF n ps c0 ∧ Valid n ps ∧ Reach n ps (rep n ps c0) ∧ ∀ H', Ex H H' → Q (.bl true) H'
theorem len_is_live : ∀ vs H Q E, sp_is_live vs H Q E → vs.length = 1 := by rintro vs H Q E ⟨v, n, ps, c0, rfl, _⟩; rfl
theorem rd_is_live : ∀ vs H Q E, sp_is_live vs H Q E → t_is_live K sp_need_flow sp_lives { nx := fun _ H' => Q .non H', rt := Q } (start ["flow"] vs) H := by
  rintro vs H Q E ⟨v, n, ps, c0, rfl, IF, w, hv, hr, q⟩
  unfold t_is_live
  refine q_drop (v := .non) (ev_callV (ea_cons (ev_var rfl) ea_nil) (ev_need_flow (σ := []) IF hv)) fun H1 e1 => ?_
  exact s_ret (ev_callV (ea_cons (ev_var rfl) ea_nil) fun H2 e2 Q' q' E' => ⟨v, n, ps, c0, rfl, IF.mono (e1.trans e2), w, hr, q'⟩) fun H2 e2 => q H2 (e1.trans e2)
theorem sv_is_live {H : Hp} {v : V} (F : IsFlow H v n ps) (w : WF n ps c0) (hv : Valid n ps) (hr : Reach n ps (rep n ps c0)) : SpV sp_is_live [v] H (.bl true) := fun H1 e Q q E => ⟨v, n, ps, c0, rfl, F.mono e, w, hv, hr, q⟩
end
end K8

-- K8RdL
/-! K8RdL: the law's round. -/
namespace K8
open PySem PySem.Spec L2 Evl
section
variable {K : PySem.W.Frag} {n : Nat} {ps : List Pipe} {c0 : Nat → Nat}
/-- for b1, .., b5 in flow[1] -/
theorem s_forPipes1 {σ : L2.St} {H : Hp} {D : L2.Ends} {tb : TS} {t0 q0 : Addr} {as : List Addr} {i0 b1 b2 b3 b4 b5 : Nat} {H0 : Hp} (F : FlowAt H0 t0 q0 as n ps) (e0 : Ex H0 H) (h : σ[i0]? = some (some (.ref t0))) (Pv : Nat → L2.St → Hp → Prop) (h0 : ∀ H1, Ex H H1 → Pv 0 σ H1) (hl : ∀ i σ' H', Pv i σ' H' → Ex H0 H')
    (hs : ∀ (i : Nat) p σ' H', ps[i]? = some p → Pv i σ' H' → tb { D with nx := Pv (i + 1), ct := Pv (i + 1), bk := D.nx } (((((σ'.set b1 (some (.int (p.one : Int)))).set b2 (some (.int (p.other : Int)))).set b3 (some (.int (p.give : Int)))).set b4 (some (.int (p.eat : Int)))).set b5 (some (.int (p.start : Int)))) H')
    (hd : ∀ σ' H', Pv ps.length σ' H' → D.nx σ' H') :
    tFor (iTup K (tOp (rIx K) (tVar i0) (tC (.int 1)))) (gTup K 5 (gCons (gName b1) (gCons (gName b2) (gCons (gName b3) (gCons (gName b4) (gCons (gName b5) gNil)))))) tb D σ H := by
  have F1 := F.mono e0
  refine s_forT (a := q0) (xs := as.map V.ref) (ev_f1 h F1) (SqT.of F1.row) Pv h0 (fun i σ' H' _ p => SqT.of (hl i σ' H' p _ _ F.row)) (fun i x σ' H' hx p => ?_) fun σ' H' p => hd σ' H' ?_
  · obtain ⟨ad, pp, rfl, ha, hp, hat⟩ := F.pipes.getp hx
    exact ⟨ad, _, rfl, SqT.of (hl i σ' H' p _ _ hat), rfl, _, _, rfl, _, _, rfl, _, _, rfl, _, _, rfl, _, _, rfl, rfl, hs i pp σ' H' hp p⟩
  · rw [List.length_map, F.pipes.len] at p
    exact p
abbrev sg14 (v : V) (sd : Addr) (y2 y3 y4 y5 y6 y7 y8 y9 y10 y11 y12 y13 : Option V) : L2.St := [some v, some (.ref sd), y2, y3, y4, y5, y6, y7, y8, y9, y10, y11, y12, y13]
/-- the boxes with a share while box b's part is walked -/
structure LI (n : Nat) (ps : List Pipe) (old : List Nat) (b : Nat) (vis : List Nat) : Prop where
  has : b ∈ vis
  nd : vis.Nodup
  lt : ∀ k ∈ vis, k < n
  old' : ∀ k ∈ old, k ∈ vis
  ok : ∀ k ∈ vis, k ∈ old ∨ Conn ps b k
theorem LI.add {old vis : List Nat} {b y : Nat} (h : LI n ps old b vis) (hy : y < n) (hn : y ∉ vis) (hc : y ∈ old ∨ Conn ps b y) : LI n ps old b (vis ++ [y]) := by
  refine ⟨List.mem_append_left _ h.has, ?_, fun k hk => ?_, fun k hk => List.mem_append_left _ (h.old' k hk), fun k hk => ?_⟩
  · rw [List.nodup_append]
    refine ⟨h.nd, List.nodup_cons.mpr ⟨by simp, List.nodup_nil⟩, fun u hu v hv => ?_⟩
    rw [List.mem_singleton.mp hv]
    intro z; subst z; exact hn hu
  · rcases List.mem_append.mp hk with q | q
    · exact h.lt k q
    · rw [List.mem_singleton.mp q]; exact hy
  · rcases List.mem_append.mp hk with q | q
    · exact h.ok k q
    · rw [List.mem_singleton.mp q]; exact hc
/-- one of the two puts: shares[y] = ratio(shares[x][0] * g, shares[x][1] * e) -/
theorem law_put (w : WF n ps c0) {σ : L2.St} {H H' : Hp} {D : L2.Ends} {tz : TS} {sd : Addr} {old vis : List Nat} {b x y g e ix iy ig ie : Nat} (hsd : H sd = none) (ex : Ex H H') (S : ShOk n ps c0 H' sd vis) (I : LI n ps old b vis)
    (h1 : σ[1]? = some (some (.ref sd))) (hx : σ[ix]? = some (some (.int (x : Int)))) (hy : σ[iy]? = some (some (.int (y : Int)))) (hg : σ[ig]? = some (some (.int (g : Int)))) (he : σ[ie]? = some (some (.int (e : Int))))
    (hxn : x < n) (hyn : y < n) (hgb : 1 ≤ g ∧ g ≤ 8) (heb : 1 ≤ e ∧ e ≤ 8) (hred : red ((shr n ps c0 x).1 * g) ((shr n ps c0 x).2 * e) = shr n ps c0 y) (hc : x ∈ vis → y ∈ old ∨ Conn ps b y)
    (k : ∀ H2 vis2, Ex H H2 → ShOk n ps c0 H2 sd vis2 → LI n ps old b vis2 → (∀ j ∈ vis, j ∈ vis2) → (x ∈ vis → y ∈ vis2) → (∀ j ∈ vis2, j ∈ vis ∨ (j = y ∧ x ∈ vis ∧ y ∉ vis)) → tz D σ H2) :
    tSeq (tIfS (tAnd (tB (tDIn (tVar ix) (tVar 1))) (tB (tDNotIn (tVar iy) (tVar 1)))) (sDPut (tVar 1) (tVar iy) (tCall sp_red [] E0 (tCons (tOp (rI CMul fun i j => .int (i * j)) (tOp (rIx K) (tDGet (tVar 1) (tVar ix)) (tC (.int 0))) (tVar ig)) (tCons (tOp (rI CMul fun i j => .int (i * j)) (tOp (rIx K) (tDGet (tVar 1) (tVar ix)) (tC (.int 1))) (tVar ie)) (tNil))))) (tNext)) tz D σ H' := by
  refine q_when (b := decide (x ∈ vis) && !decide (y ∈ vis)) (et_and (et_B (S.isin (ev_var hx) (ev_var h1))) fun _ => et_B (S.not (ev_var hy) (ev_var h1))) (fun hb H1 e1 => ?_) fun hb H1 e1 => k H1 vis (ex.trans e1) (S.mono e1) I (fun _ h => h) (fun hxv => ?_) (fun j hj => .inl hj)
  · obtain ⟨hb1, hb2⟩ := Bool.and_eq_true_iff.mp hb
    have hxv := of_decide_eq_true hb1
    have hyv : y ∉ vis := fun z => by rw [decide_eq_true z] at hb2; cases hb2
    have S1 := S.mono e1
    obtain ⟨kvs, hk1, hk2, _, _⟩ := id S1
    have hn5 := w.n5
    have hvl := nodup_len I.nd I.lt
    have hsp := w.shr_pos hxn
    have hsl := w.shr_le hxn
    have hm1 : (shr n ps c0 x).1 * g ≤ 4 * 8 := Nat.mul_le_mul hsl.1 hgb.2
    have hU : EvU (tCall sp_red [] E0 (tCons (tOp (rI CMul fun i j => .int (i * j)) (tOp (rIx K) (tDGet (tVar 1) (tVar ix)) (tC (.int 0))) (tVar ig)) (tCons (tOp (rI CMul fun i j => .int (i * j)) (tOp (rIx K) (tDGet (tVar 1) (tVar ix)) (tC (.int 1))) (tVar ie)) (tNil)))) σ H1 (shV n ps c0 y) := by
      have h := su_red (H := H1) (a := (shr n ps c0 x).1 * g) (b := (shr n ps c0 x).2 * e) (Nat.mul_pos hsp.1 (by omega)) (Nat.mul_pos hsp.2 (by omega)) (by omega)
      rw [hred] at h
      refine eu_callU (ea_cons (ev_is (ev_op (S1.num hxv (ev_var h1) (ev_var hx)) (ev_var hg) (rv_I (.inl (by omega)))) (by rw [Int.natCast_mul])) (ea_cons (ev_is (ev_op (S1.den hxv (ev_var h1) (ev_var hx)) (ev_var he) (rv_I (.inl (by omega)))) (by rw [Int.natCast_mul])) ea_nil)) h
    refine s_dput hU (ev_var h1) (ev_var hy) hk1 (by omega) fun p H2 hp e2 h2 => ?_
    have S2 := S1.put hk1 e2 hyv h2
    exact k _ (vis ++ [y]) (Ex.mut ((ex.trans e1).trans e2) hsd) S2 (I.add hyn hyv (hc hxv)) (fun j hj => List.mem_append_left _ hj) (fun _ => by simp) (fun j hj => by
      rcases List.mem_append.mp hj with q | q
      · exact .inl q
      · exact .inr ⟨List.mem_singleton.mp q, hxv, hyv⟩)
  · apply Classical.byContradiction
    intro hyv
    rw [decide_eq_true hxv, decide_eq_false hyv] at hb
    cases hb
/-- the same, as a block's last statement -/
theorem law_put1 (w : WF n ps c0) {σ : L2.St} {H H' : Hp} {D : L2.Ends} {sd : Addr} {old vis : List Nat} {b x y g e ix iy ig ie : Nat} (hsd : H sd = none) (ex : Ex H H') (S : ShOk n ps c0 H' sd vis) (I : LI n ps old b vis)
    (h1 : σ[1]? = some (some (.ref sd))) (hx : σ[ix]? = some (some (.int (x : Int)))) (hy : σ[iy]? = some (some (.int (y : Int)))) (hg : σ[ig]? = some (some (.int (g : Int)))) (he : σ[ie]? = some (some (.int (e : Int))))
    (hxn : x < n) (hyn : y < n) (hgb : 1 ≤ g ∧ g ≤ 8) (heb : 1 ≤ e ∧ e ≤ 8) (hred : red ((shr n ps c0 x).1 * g) ((shr n ps c0 x).2 * e) = shr n ps c0 y) (hc : x ∈ vis → y ∈ old ∨ Conn ps b y)
    (k : ∀ H2 vis2, Ex H H2 → ShOk n ps c0 H2 sd vis2 → LI n ps old b vis2 → (∀ j ∈ vis, j ∈ vis2) → (x ∈ vis → y ∈ vis2) → (∀ j ∈ vis2, j ∈ vis ∨ (j = y ∧ x ∈ vis ∧ y ∉ vis)) → D.nx σ H2) :
    tIfS (tAnd (tB (tDIn (tVar ix) (tVar 1))) (tB (tDNotIn (tVar iy) (tVar 1)))) (sDPut (tVar 1) (tVar iy) (tCall sp_red [] E0 (tCons (tOp (rI CMul fun i j => .int (i * j)) (tOp (rIx K) (tDGet (tVar 1) (tVar ix)) (tC (.int 0))) (tVar ig)) (tCons (tOp (rI CMul fun i j => .int (i * j)) (tOp (rIx K) (tDGet (tVar 1) (tVar ix)) (tC (.int 1))) (tVar ie)) (tNil))))) (tNext) D σ H' :=
  law_put (D := D) (tz := tNext) w hsd ex S I h1 hx hy hg he hxn hyn hgb heb hred hc k
def sp_lround : Sp := fun vs H Q _ => ∃ (v : V) (n : Nat) (ps : List Pipe) (c0 : Nat → Nat), vs = [v] ∧ IsFlow H v n ps ∧ WF n ps c0 ∧
  ∀ p H', H p = none → Ex H H' → H' p = some (.lst ((cZ n (lrep n ps c0)).map V.int)) → Q (.ref p) H'
theorem len_lround : ∀ vs H Q E, sp_lround vs H Q E → vs.length = 1 := by rintro vs H Q E ⟨v, n, ps, c0, rfl, _⟩; rfl
theorem sl_lround {H : Hp} {v : V} (F : IsFlow H v n ps) (w : WF n ps c0) : SpL sp_lround [v] H ((cZ n (lrep n ps c0)).map V.int) := fun H1 e Q q E => ⟨v, n, ps, c0, rfl, F.mono e, w, q⟩
/-- one pass over the pipes -/
theorem law_pass (w : WF n ps c0) {v : V} {t q0 : Addr} {as : List Addr} {H H' : Hp} {D : L2.Ends} {sd : Addr} {old vis : List Nat} {b : Nat} {y2 y3 y4 y5 y6 y7 y8 : Option V} (ev : v = .ref t) (F : FlowAt H t q0 as n ps) (hsd : H sd = none) (ex : Ex H H') (S : ShOk n ps c0 H' sd vis) (I : LI n ps old b vis) (hcl : Closed ps (· ∈ old))
    (k : ∀ H2 y4 y5 y6 y7 y8 vis2, Ex H H2 → ShOk n ps c0 H2 sd vis2 → LI n ps old b vis2 → (¬ Closed ps (· ∈ vis) ∧ card n (· ∈ vis) < card n (· ∈ vis2)) ∨ Closed ps (· ∈ vis2) → D.nx (sg14 v sd y2 y3 y4 y5 y6 y7 y8 none none none none none) H2) :
    tFor (iTup K (tOp (rIx K) (tVar 0) (tC (.int 1)))) (gTup K 5 (gCons (gName 4) (gCons (gName 5) (gCons (gName 6) (gCons (gName 7) (gCons (gName 8) gNil))))))
      (tSeq (tIfS (tAnd (tB (tDIn (tVar 4) (tVar 1))) (tB (tDNotIn (tVar 5) (tVar 1)))) (sDPut (tVar 1) (tVar 5) (tCall sp_red [] E0 (tCons (tOp (rI CMul fun i j => .int (i * j)) (tOp (rIx K) (tDGet (tVar 1) (tVar 4)) (tC (.int 0))) (tVar 6)) (tCons (tOp (rI CMul fun i j => .int (i * j)) (tOp (rIx K) (tDGet (tVar 1) (tVar 4)) (tC (.int 1))) (tVar 7)) (tNil))))) (tNext))
    (tIfS (tAnd (tB (tDIn (tVar 5) (tVar 1))) (tB (tDNotIn (tVar 4) (tVar 1)))) (sDPut (tVar 1) (tVar 4) (tCall sp_red [] E0 (tCons (tOp (rI CMul fun i j => .int (i * j)) (tOp (rIx K) (tDGet (tVar 1) (tVar 5)) (tC (.int 0))) (tVar 7)) (tCons (tOp (rI CMul fun i j => .int (i * j)) (tOp (rIx K) (tDGet (tVar 1) (tVar 5)) (tC (.int 1))) (tVar 6)) (tNil))))) (tNext))) D
      (sg14 v sd y2 y3 y4 y5 y6 y7 y8 none none none none none) H' := by
  refine s_forPipes1 (i0 := 0) F ex (by rw [ev]; rfl) (fun i σ' H2 => ∃ y4 y5 y6 y7 y8 vis2, σ' = sg14 v sd y2 y3 y4 y5 y6 y7 y8 none none none none none ∧ Ex H H2 ∧ ShOk n ps c0 H2 sd vis2 ∧ LI n ps old b vis2 ∧ (∀ j ∈ vis, j ∈ vis2) ∧
      (∀ (j : Nat) p, j < i → ps[j]? = some p → (p.one ∈ vis ∨ p.other ∈ vis) → p.one ∈ vis2 ∧ p.other ∈ vis2) ∧ (Closed ps (· ∈ vis) → ∀ j ∈ vis2, j ∈ vis))
    (fun H1 e1 => ⟨_, _, _, _, _, vis, rfl, ex.trans e1, S.mono e1, I, fun _ h => h, fun j p hj => absurd hj (Nat.not_lt_zero j), fun _ _ h => h⟩) (fun i σ' H2 p => let ⟨_, _, _, _, _, _, _, e, _⟩ := p; e) (fun i p σ' H2 hp pv => ?_) fun σ' H2 pv => ?_
  · obtain ⟨y4, y5, y6, y7, y8, vis2, rfl, e2, S2, I2, hsub, hall, hclo⟩ := pv
    have hpm := List.mem_of_getElem? hp
    have he := w.ends p hpm
    have hr := w.rates p hpm
    show tSeq _ _ _ (sg14 v sd y2 y3 (some (.int (p.one : Int))) (some (.int (p.other : Int))) (some (.int (p.give : Int))) (some (.int (p.eat : Int))) (some (.int (p.start : Int))) none none none none none) H2
    have hstep : ∀ {u u' : Nat}, (p.one = u ∧ p.other = u') ∨ (p.other = u ∧ p.one = u') → (u ∈ old ∨ Conn ps b u) → u' ∈ old ∨ Conn ps b u' := fun {u u'} hd h => by
      rcases h with h | h
      · left
        rcases hd with ⟨h1, h2⟩ | ⟨h1, h2⟩
        · subst h1; subst h2; exact (hcl p hpm).1 h
        · subst h1; subst h2; exact (hcl p hpm).2 h
      · right
        rcases hd with ⟨h1, h2⟩ | ⟨h1, h2⟩
        · subst h1; subst h2; exact .fwd h hpm
        · subst h1; subst h2; exact .bwd h hpm
    refine law_put w (x := p.one) (y := p.other) (g := p.give) (e := p.eat) hsd e2 S2 I2 rfl rfl rfl rfl rfl he.1 he.2 ⟨hr.1, hr.2.1⟩ hr.2.2 (w.shr_fwd hpm) (fun hx => hstep (.inl ⟨rfl, rfl⟩) (I2.ok _ hx)) fun H3 vis3 e3 S3 I3 hsub3 hput3 hback3 => ?_
    refine law_put1 w (x := p.other) (y := p.one) (g := p.eat) (e := p.give) hsd e3 S3 I3 rfl rfl rfl rfl rfl he.2 he.1 hr.2.2 ⟨hr.1, hr.2.1⟩ (w.shr_bwd hpm) (fun hx => hstep (.inr ⟨rfl, rfl⟩) (I3.ok _ hx)) fun H4 vis4 e4 S4 I4 hsub4 hput4 hback4 => ?_
    refine ⟨_, _, _, _, _, vis4, rfl, e4, S4, I4, fun j hj => hsub4 _ (hsub3 _ (hsub j hj)), fun j p' hj hp' hin => ?_, fun hc j hj => ?_⟩
    · by_cases hji : j = i
      · subst hji
        rw [hp] at hp'
        cases hp'
        rcases hin with h | h
        · exact ⟨hsub4 _ (hsub3 _ (hsub _ h)), hsub4 _ (hput3 (hsub _ h))⟩
        · exact ⟨hput4 (hsub3 _ (hsub _ h)), hsub4 _ (hsub3 _ (hsub _ h))⟩
      · have := hall j p' (by omega) hp' hin
        exact ⟨hsub4 _ (hsub3 _ this.1), hsub4 _ (hsub3 _ this.2)⟩
    · have h3 : ∀ j ∈ vis3, j ∈ vis := fun j hj => by
        rcases hback3 j hj with q | ⟨rfl, h1, h2⟩
        · exact hclo hc j q
        · exact (hc p hpm).1 (hclo hc _ h1)
      rcases hback4 j hj with q | ⟨rfl, h1, h2⟩
      · exact h3 j q
      · exact (hc p hpm).2 (h3 _ h1)
  · obtain ⟨y4, y5, y6, y7, y8, vis2, rfl, e2, S2, I2, hsub, hall, hclo⟩ := pv
    refine k H2 _ _ _ _ _ vis2 e2 S2 I2 ?_
    by_cases hc : Closed ps (· ∈ vis)
    · right
      intro p hp
      exact ⟨fun z => hsub _ ((hc p hp).1 (hclo hc _ z)), fun z => hsub _ ((hc p hp).2 (hclo hc _ z))⟩
    · left
      refine ⟨hc, card_lt (fun j _ hj => hsub j hj) ?_⟩
      apply Classical.byContradiction
      intro hn
      refine hc fun p hp => ?_
      obtain ⟨j, hj⟩ := List.getElem?_of_mem hp
      have hjl := (List.getElem?_eq_some_iff.mp hj).1
      refine ⟨fun z => ?_, fun z => ?_⟩
      · apply Classical.byContradiction
        intro hz
        exact hn ⟨p.other, (w.ends p hp).2, (hall j p hjl hj (.inl z)).2, hz⟩
      · apply Classical.byContradiction
        intro hz
        exact hn ⟨p.one, (w.ends p hp).1, (hall j p hjl hj (.inr z)).1, hz⟩
theorem c_do {v : V} {σ : L2.St} {H : Hp} {Q : VK} (h : Q v H) : tC v σ H Q := h
theorem cZ_snoc {i : Nat} {f : Nat → Nat} : (cZ i f).map V.int ++ [.int (f i : Int)] = (cZ (i + 1) f).map V.int := by
  unfold cZ
  rw [List.range_succ, List.map_append, List.map_append]
  rfl
/-- one more pipe-connected part: shares[b] = (1, 1), then n passes -/
theorem law_part (w : WF n ps c0) {v : V} {t q0 : Addr} {as : List Addr} {H H' : Hp} {D : L2.Ends} {sd : Addr} {old : List Nat} {b : Nat} {y3 y4 y5 y6 y7 y8 : Option V} (ev : v = .ref t) (F : FlowAt H t q0 as n ps) (hsd : H sd = none) (ex : Ex H H') (S : ShOk n ps c0 H' sd old) (hnd : old.Nodup) (hlt : ∀ k ∈ old, k < n) (hcl : Closed ps (· ∈ old)) (hb : b < n) (hall : ∀ k, k < b → k ∈ old)
    (k : ∀ H2 y3 y4 y5 y6 y7 y8 vis2, Ex H H2 → ShOk n ps c0 H2 sd vis2 → vis2.Nodup → (∀ k ∈ vis2, k < n) → Closed ps (· ∈ vis2) → (∀ k, k < b + 1 → k ∈ vis2) → D.nx (sg14 v sd (some (.int (b : Int))) y3 y4 y5 y6 y7 y8 none none none none none) H2) :
    tIfS (tB (tDNotIn (tVar 2) (tVar 1))) (tSeq (sDPut (tVar 1) (tVar 2) (tTup (tCons (tC (.int 1)) (tCons (tC (.int 1)) (tNil)))))
    (tFor (iRng1 (tCons (tOp (rIx K) (tVar 0) (tC (.int 0))) (tNil))) (gName 3)
      (tFor (iTup K (tOp (rIx K) (tVar 0) (tC (.int 1)))) (gTup K 5 (gCons (gName 4) (gCons (gName 5) (gCons (gName 6) (gCons (gName 7) (gCons (gName 8) gNil))))))
      (tSeq (tIfS (tAnd (tB (tDIn (tVar 4) (tVar 1))) (tB (tDNotIn (tVar 5) (tVar 1)))) (sDPut (tVar 1) (tVar 5) (tCall sp_red [] E0 (tCons (tOp (rI CMul fun i j => .int (i * j)) (tOp (rIx K) (tDGet (tVar 1) (tVar 4)) (tC (.int 0))) (tVar 6)) (tCons (tOp (rI CMul fun i j => .int (i * j)) (tOp (rIx K) (tDGet (tVar 1) (tVar 4)) (tC (.int 1))) (tVar 7)) (tNil))))) (tNext))
    (tIfS (tAnd (tB (tDIn (tVar 5) (tVar 1))) (tB (tDNotIn (tVar 4) (tVar 1)))) (sDPut (tVar 1) (tVar 4) (tCall sp_red [] E0 (tCons (tOp (rI CMul fun i j => .int (i * j)) (tOp (rIx K) (tDGet (tVar 1) (tVar 5)) (tC (.int 0))) (tVar 7)) (tCons (tOp (rI CMul fun i j => .int (i * j)) (tOp (rIx K) (tDGet (tVar 1) (tVar 5)) (tC (.int 1))) (tVar 6)) (tNil))))) (tNext)))))) (tNext) D
      (sg14 v sd (some (.int (b : Int))) y3 y4 y5 y6 y7 y8 none none none none none) H' := by
  have hn5 := w.n5
  refine s_when (b := !decide (b ∈ old)) (et_B (S.not (ev_var rfl) (ev_var rfl))) (fun hbv H1 e1 => ?_) fun hbv H1 e1 => k H1 _ _ _ _ _ _ old (ex.trans e1) (S.mono e1) hnd hlt hcl fun j hj => ?_
  · have hnv : b ∉ old := fun z => by rw [decide_eq_true z] at hbv; cases hbv
    have hroot : root n ps b = b := by
      have hle : root n ps b ≤ b := root_le hb hb .refl
      by_cases h : root n ps b < b
      · exact absurd (hcl.all (hall _ h) (root_conn hb).symm) hnv
      · omega
    have S1 := S.mono e1
    obtain ⟨kvs, hk1, hk2, _, _⟩ := id S1
    have hvl := nodup_len hnd hlt
    refine q_dput (xs := shV n ps c0 b) (k := b) (by
      unfold shV
      rw [w.shr_root hb hroot]
      exact eu_tup (ea_cons ev_c (ea_cons ev_c ea_nil)) (by simp)) (ev_var rfl) (ev_var rfl) hk1 (by omega) fun p H2 hp e2 h2 => ?_
    have S2 := S1.put hk1 e2 hnv h2
    have ex2 : Ex H (upd H2 sd (.dK (putK kvs (.inl (b : Int)) (.ref p)))) := Ex.mut ((ex.trans e1).trans e2) hsd
    generalize upd H2 sd (.dK (putK kvs (.inl (b : Int)) (.ref p))) = H3 at S2 ex2
    have I2 : LI n ps old b (old ++ [b]) := ⟨by simp, by
      rw [List.nodup_append]
      refine ⟨hnd, List.nodup_cons.mpr ⟨by simp, List.nodup_nil⟩, fun u hu v hv => ?_⟩
      rw [List.mem_singleton.mp hv]
      intro z; subst z; exact hnv hu, fun j hj => by
      rcases List.mem_append.mp hj with q | q
      · exact hlt j q
      · rw [List.mem_singleton.mp q]; exact hb, fun j hj => List.mem_append_left _ hj, fun j hj => by
      rcases List.mem_append.mp hj with q | q
      · exact .inl q
      · rw [List.mem_singleton.mp q]; exact .inr .refl⟩
    refine s_forR1 (n := (n : Int)) (ea_cons (ev_f0 (t0 := t) (by rw [ev]; rfl) (F.mono ex2)) ea_nil) (by omega) (fun i σ' H' => ∃ y3 y4 y5 y6 y7 y8 vis2, σ' = sg14 v sd (some (.int (b : Int))) y3 y4 y5 y6 y7 y8 none none none none none ∧ Ex H H' ∧ ShOk n ps c0 H' sd vis2 ∧ LI n ps old b vis2 ∧ (i + 1 ≤ card n (· ∈ vis2) ∨ Closed ps (· ∈ vis2)))
      (fun H4 e4 => ⟨_, _, _, _, _, _, old ++ [b], rfl, ex2.trans e4, S2.mono e4, I2, .inl (card_pos ⟨b, hb, by simp⟩)⟩) (fun i σ' H' hi p => ?_) fun σ' H' p => ?_
    · obtain ⟨y3, y4, y5, y6, y7, y8, vis2, rfl, e, S', I', hc⟩ := p
      refine law_pass w (y2 := some (.int (b : Int))) (y3 := some (.int (i : Int))) ev F hsd e S' I' hcl fun H4 y4 y5 y6 y7 y8 vis3 e4 S4 I4 hc4 => ⟨_, _, _, _, _, _, vis3, rfl, e4, S4, I4, ?_⟩
      rcases hc4 with ⟨h0, h⟩ | h
      · have := hc.resolve_right h0
        exact .inl (by omega)
      · exact .inr h
    · obtain ⟨y3, y4, y5, y6, y7, y8, vis2, rfl, e, S', I', hc⟩ := p
      have en : ((n : Int)).toNat = n := by omega
      rw [en] at hc
      have hcc : Closed ps (· ∈ vis2) := hc.resolve_left fun z => by
        have := card_le n (· ∈ vis2)
        omega
      refine k H' _ _ _ _ _ _ vis2 e S' I'.nd I'.lt hcc fun j hj => ?_
      by_cases hjb : j = b
      · rw [hjb]; exact I'.has
      · exact I'.old' _ (hall j (by omega))
  · by_cases hjb : j = b
    · subst hjb
      apply Classical.byContradiction
      intro hz
      rw [decide_eq_false hz] at hbv
      cases hbv
    · exact hall j (by omega)
theorem rd_law_round : ∀ vs H Q E, sp_lround vs H Q E → t_law_round K sp_red sp_joined sp_gcd { nx := fun _ H' => Q .non H', rt := Q } (start ["_law_flow_here", "_law_shares", "_law_box", "_law_turn", "_law_one", "_law_other", "_law_give", "_law_eat", "_law_start", "_law_found", "_law_part", "_law_below", "_law_common", "_law_k"] vs) H := by
  rintro vs H Q E ⟨v, n, ps, c0, rfl, IF, w, q⟩
  obtain ⟨t, q0, as, ev, F⟩ := id IF
  have hn5 := w.n5
  have hwe := w.ends
  unfold t_law_round
  show tSeq _ _ _ ([some v, none, none, none, none, none, none, none, none, none, none, none, none, none] : L2.St) H
  refine seq_do (asg_do (show tDNewK _ _ _ from fun sd hsd => ?_))
  have e0 : Ex H (upd H sd (.dK [])) := Ex.new hsd
  have hs0 : ShOk n ps c0 (upd H sd (.dK [])) sd [] := ⟨[], upd_same, Nat.le_refl _, fun k hk => by simp at hk, fun k _ => rfl⟩
  generalize upd H sd (.dK []) = H1 at e0 hs0
  show tSeq _ _ _ (sg14 v sd none none none none none none none none none none none none) H1
  refine q_forR1 (n := (n : Int)) (ea_cons (ev_f0 (t0 := t) (by rw [ev]; rfl) (F.mono e0)) ea_nil) (by omega) (fun i σ' H' => ∃ y2 y3 y4 y5 y6 y7 y8 vis, σ' = sg14 v sd y2 y3 y4 y5 y6 y7 y8 none none none none none ∧ Ex H H' ∧ ShOk n ps c0 H' sd vis ∧ vis.Nodup ∧ (∀ k ∈ vis, k < n) ∧ Closed ps (· ∈ vis) ∧ (∀ k, k < i → k ∈ vis))
    (fun H2 e2 => ⟨_, _, _, _, _, _, _, [], rfl, e0.trans e2, hs0.mono e2, List.nodup_nil, fun k hk => by simp at hk, fun p _ => ⟨fun z => by simp at z, fun z => by simp at z⟩, fun k hk => absurd hk (Nat.not_lt_zero k)⟩) (fun i σ' H' hi p => ?_) fun σ' H' p => ?_
  · obtain ⟨y2, y3, y4, y5, y6, y7, y8, vis, rfl, e, S, hnd, hlt, hcl, hall⟩ := p
    exact law_part w ev F hsd e S hnd hlt hcl (by omega) hall fun H2 y3 y4 y5 y6 y7 y8 vis2 e2 S2 h1 h2 h3 h4 => ⟨_, _, _, _, _, _, _, vis2, rfl, e2, S2, h1, h2, h3, h4⟩
  obtain ⟨y2, y3, y4, y5, y6, y7, y8, vis, rfl, e, S, hnd, hlt, hcl, hall⟩ := p
  have en : ((n : Int)).toNat = n := by omega
  rw [en] at hall
  refine q_asgL el_nil fun fl H2 hfl e2 h2 => ?_
  have hfl0 : H fl = none := fresh_back e hfl
  have hsdf : sd ≠ fl := fun z => by obtain ⟨_, hk, _⟩ := S; rw [z, hfl] at hk; cases hk
  have ex2 := e.trans e2
  show tSeq _ _ _ (sg14 v sd y2 y3 y4 y5 y6 y7 y8 (some (.ref fl)) none none none none) H2
  refine q_forR1 (n := (n : Int)) (ea_cons (ev_f0 (t0 := t) (by rw [ev]; rfl) (F.mono ex2)) ea_nil) (by omega) (fun i σ' H' => ∃ y2 y10 y11 y12 y13, σ' = sg14 v sd y2 y3 y4 y5 y6 y7 y8 (some (.ref fl)) y10 y11 y12 y13 ∧ Ex H H' ∧ ShOk n ps c0 H' sd vis ∧ H' fl = some (.lst ((cZ i (lrep n ps c0)).map V.int)))
    (fun H3 e3 => ⟨_, _, _, _, _, rfl, ex2.trans e3, S.mono (e2.trans e3), e3 _ _ h2⟩) (fun i σ' H' hi p => ?_) fun σ' H' p => ?_
  · obtain ⟨z2, y10, y11, y12, y13, rfl, e3, S3, hF⟩ := p
    have hin : i < n := by omega
    show tSeq _ _ _ (sg14 v sd (some (.int (i : Int))) y3 y4 y5 y6 y7 y8 (some (.ref fl)) y10 y11 y12 y13) H'
    refine seq_do (show tPar3 10 11 12 _ _ _ _ from cons_do ?_)
    refine el_callL (ea_cons (ev_var (i := 0) rfl) (ea_cons (ev_var (i := 2) rfl) (ea_cons ev_c ea_nil))) (sl_joined (IF.mono e3) (by omega) w.len hwe hin) H' (Ex.refl H') _ fun jl H4 hjl e4 h4 => cons_do (c_do (cons_do (c_do (nil_do ⟨_, _, _, rfl, ?_⟩))))
    have S4 := S3.mono e4
    show tSeq _ _ _ (sg14 v sd (some (.int (i : Int))) y3 y4 y5 y6 y7 y8 (some (.ref fl)) (some (.ref jl)) (some (.int ((1 : Nat) : Int))) (some (.int ((0 : Nat) : Int))) y13) H4
    -- below
    refine q_forL (a := jl) (xs := (nZ (compL n ps i)).map V.int) (ev_var rfl) (SqL.of h4) (fun j σ' H2 => ∃ y13, σ' = sg14 v sd (some (.int (i : Int))) y3 y4 y5 y6 y7 y8 (some (.ref fl)) (some (.ref jl)) (some (.int (belF (shr n ps c0) ((compL n ps i).take j) : Int))) (some (.int ((0 : Nat) : Int))) y13 ∧ Ex H4 H2) (fun H5 e5 => ⟨_, rfl, e5⟩) (fun j σ' H2 _ p => let ⟨_, _, e⟩ := p; SqL.of (e _ _ h4)) (fun j x σ' H2 hx p => ?_) fun σ' H2 p => ?_
    · obtain ⟨z13, rfl, e6⟩ := p
      obtain ⟨k, hk, rfl⟩ := nV_getp hx
      have hkm := List.mem_of_getElem? hk
      have hkn := (mem_compL.mp hkm).1
      have hacc := w.bel_le (a := i) hin (l := (compL n ps i).take j) fun k hk => List.mem_of_mem_take hk
      have hsp := w.shr_pos hkn
      have hsl := w.shr_le hkn
      show tAsg _ _ _ (sg14 v sd (some (.int (i : Int))) y3 y4 y5 y6 y7 y8 (some (.ref fl)) (some (.ref jl)) (some (.int (belF (shr n ps c0) ((compL n ps i).take j) : Int))) (some (.int ((0 : Nat) : Int))) (some (.int (k : Int)))) H2
      have hS2 := S4.mono e6
      refine s_asg (ev_below (sp := sp_gcd) (xs := shr n ps c0 k) hacc ⟨hsp.2, hsl.2⟩ (ev_var rfl) (hS2.den (hall k hkn) (ev_var rfl) (ev_var rfl)) sv_gcd) fun H7 e7 => ⟨some (.int (k : Int)), ?_, e6.trans e7⟩
      rw [take_snoc hk, belF_snoc]
      rfl
    obtain ⟨z13, rfl, e6⟩ := p
    rw [nV_len, List.take_length]
    have hbr : belF (shr n ps c0) (compL n ps i) = bel n ps c0 i := rfl
    rw [hbr]
    have hbl := w.bel_le (a := i) hin (l := compL n ps i) fun k hk => hk
    rw [hbr] at hbl
    -- common
    refine q_forL (a := jl) (xs := (nZ (compL n ps i)).map V.int) (ev_var rfl) (SqL.of (e6 _ _ h4)) (fun j σ' H2 => ∃ y13, σ' = sg14 v sd (some (.int (i : Int))) y3 y4 y5 y6 y7 y8 (some (.ref fl)) (some (.ref jl)) (some (.int (bel n ps c0 i : Int))) (some (.int (((compL n ps i).take j).foldl (fun acc k => Nat.gcd acc (raw n ps c0 k)) 0 : Nat))) y13 ∧ Ex H4 H2) (fun H5 e5 => ⟨_, rfl, e6.trans e5⟩) (fun j σ' H2 _ p => let ⟨_, _, e⟩ := p; SqL.of (e _ _ h4)) (fun j x σ' H2 hx p => ?_) fun σ' H2 p => ?_
    · obtain ⟨z13, rfl, e7⟩ := p
      obtain ⟨k, hk, rfl⟩ := nV_getp hx
      have hkm := List.mem_of_getElem? hk
      have hkn := (mem_compL.mp hkm).1
      have hsp := w.shr_pos hkn
      have hsl := w.shr_le hkn
      have hbk : bel n ps c0 i = bel n ps c0 k := bel_congr (mem_compL.mp hkm).2
      show tAsg _ _ _ (sg14 v sd (some (.int (i : Int))) y3 y4 y5 y6 y7 y8 (some (.ref fl)) (some (.ref jl)) (some (.int (bel n ps c0 i : Int))) (some (.int (((compL n ps i).take j).foldl (fun acc k => Nat.gcd acc (raw n ps c0 k)) 0 : Nat))) (some (.int (k : Int)))) H2
      have hS2 := S4.mono e7
      refine s_asg (ev_callV (ea_cons (ev_var rfl) (ea_cons (ev_raw (xs := shr n ps c0 k) hbl.2 ⟨hsp.2, hsl.2⟩ (ev_var rfl) (hS2.num (hall k hkn) (ev_var rfl) (ev_var rfl)) (hS2.den (hall k hkn) (ev_var rfl) (ev_var rfl))) ea_nil)) sv_gcd) fun H7 e8 => ⟨some (.int (k : Int)), ?_, e7.trans e8⟩
      rw [take_snoc hk, List.foldl_append, hbk]
      rfl
    obtain ⟨z14, rfl, e7⟩ := p
    rw [nV_len, List.take_length]
    have hcr : (compL n ps i).foldl (fun acc k => Nat.gcd acc (raw n ps c0 k)) 0 = com n ps c0 i := rfl
    rw [hcr]
    have hcp := w.com_pos hin
    have hrl := w.raw_le hin
    have hS2 := S4.mono e7
    have hsp := w.shr_pos hin
    have hsl := w.shr_le hin
    have hF2 : H2 fl = some (.lst ((cZ i (lrep n ps c0)).map V.int)) := e7 _ _ (e4 _ _ hF)
    refine s_app (v := .int (lrep n ps c0 i : Int)) hF2 (ev_var rfl) (ev_is (ev_op (ev_raw (xs := shr n ps c0 i) hbl.2 ⟨hsp.2, hsl.2⟩ (ev_var rfl) (hS2.num (hall i hin) (ev_var rfl) (ev_var rfl)) (hS2.den (hall i hin) (ev_var rfl) (ev_var rfl))) (ev_var rfl) (rv_I ⟨by omega, by omega⟩)) ?_) (by rw [cV_len]; omega) fun H5 e5 => ?_
    · unfold lrep
      rw [if_pos hin, Int.natCast_ediv]
      rfl
    rw [cZ_snoc]
    exact ⟨_, _, _, _, _, rfl, Ex.mut (((e3.trans e4).trans e7).trans e5) hfl0, hS2.keep (by
        rw [upd_ne hsdf]
        obtain ⟨_, hk1, _⟩ := hS2
        rw [hk1]
        exact e5 _ _ hk1) (Tups.upd (.of e5) hF2 fun xs z => (nomatch z)), upd_same⟩
  · obtain ⟨z2, y10, y11, y12, y13, rfl, e3, S3, hF⟩ := p
    rw [en] at hF
    exact s_ret (ev_var rfl) fun H5 e5 => q fl H5 hfl0 (e3.trans e5) (e5 _ _ hF)
end
end K8

-- K8Live
/-! K8Live: a flow with other starts. Plain Lean. -/
namespace K8
def withF (ps : List Pipe) (f : Nat → Nat) : List Pipe := ps.mapIdx fun k p => ⟨p.one, p.other, p.give, p.eat, f k⟩
theorem withF_len {ps : List Pipe} {f : Nat → Nat} : (withF ps f).length = ps.length := List.length_mapIdx
theorem withF_get {ps : List Pipe} {f : Nat → Nat} {k : Nat} {p : Pipe} (h : ps[k]? = some p) : (withF ps f)[k]? = some ⟨p.one, p.other, p.give, p.eat, f k⟩ := by
  unfold withF
  rw [List.getElem?_mapIdx, h]
  rfl
theorem withF_mem {ps : List Pipe} {f : Nat → Nat} {q : Pipe} (h : q ∈ withF ps f) : ∃ k p, ps[k]? = some p ∧ q = ⟨p.one, p.other, p.give, p.eat, f k⟩ := by
  obtain ⟨k, hk⟩ := List.getElem?_of_mem h
  have hkl : k < ps.length := by rw [← withF_len (f := f)]; exact (List.getElem?_eq_some_iff.mp hk).1
  have hp := List.getElem?_eq_getElem hkl
  rw [withF_get hp] at hk
  exact ⟨k, _, hp, (Option.some.inj hk).symm⟩
/-- the same pipes, but for their starts -/
def Same (ps qs : List Pipe) : Prop := qs.length = ps.length ∧ ∀ (k : Nat) p q, ps[k]? = some p → qs[k]? = some q → q.one = p.one ∧ q.other = p.other ∧ q.give = p.give ∧ q.eat = p.eat
theorem Same.refl {ps : List Pipe} : Same ps ps := ⟨rfl, fun k p q hp hq => by
  rw [hp] at hq
  cases hq
  exact ⟨rfl, rfl, rfl, rfl⟩⟩
theorem Same.withF {ps : List Pipe} {f : Nat → Nat} : Same ps (withF ps f) := ⟨withF_len, fun k p q hp hq => by
  rw [withF_get hp] at hq
  cases hq
  exact ⟨rfl, rfl, rfl, rfl⟩⟩
theorem Same.symm {ps qs : List Pipe} (h : Same ps qs) : Same qs ps := ⟨h.1.symm, fun k p q hp hq => by
  obtain ⟨h1, h2, h3, h4⟩ := h.2 k q p hq hp
  exact ⟨h1.symm, h2.symm, h3.symm, h4.symm⟩⟩
theorem Same.trans {ps qs rs : List Pipe} (h : Same ps qs) (g : Same qs rs) : Same ps rs := ⟨g.1.trans h.1, fun k p r hp hr => by
  have hk : k < qs.length := by rw [h.1]; exact (List.getElem?_eq_some_iff.mp hp).1
  have hq := List.getElem?_eq_getElem hk
  obtain ⟨h1, h2, h3, h4⟩ := h.2 k p _ hp hq
  obtain ⟨g1, g2, g3, g4⟩ := g.2 k _ r hq hr
  exact ⟨g1.trans h1, g2.trans h2, g3.trans h3, g4.trans h4⟩⟩
theorem Same.mem {ps qs : List Pipe} (h : Same ps qs) {q : Pipe} (hq : q ∈ qs) : ∃ p ∈ ps, q.one = p.one ∧ q.other = p.other ∧ q.give = p.give ∧ q.eat = p.eat := by
  obtain ⟨k, hk⟩ := List.getElem?_of_mem hq
  have hkl : k < ps.length := by rw [← h.1]; exact (List.getElem?_eq_some_iff.mp hk).1
  exact ⟨ps[k], List.getElem_mem hkl, h.2 k _ q (List.getElem?_eq_getElem hkl) hk⟩
theorem Same.conn {ps qs : List Pipe} (h : Same ps qs) {a b : Nat} (c : Conn ps a b) : Conn qs a b := by
  induction c with
  | refl => exact .refl
  | fwd _ hp ih =>
    obtain ⟨q, hq, h1, h2, _⟩ := h.symm.mem hp
    rw [h2]
    rw [h1] at ih
    exact .fwd ih hq
  | bwd _ hp ih =>
    obtain ⟨q, hq, h1, h2, _⟩ := h.symm.mem hp
    rw [h1]
    rw [h2] at ih
    exact .bwd ih hq
open Classical in
theorem Same.compL {ps qs : List Pipe} (h : Same ps qs) {n a : Nat} : compL n qs a = compL n ps a := by
  unfold K8.compL
  refine List.filter_congr fun b _ => ?_
  rw [Bool.eq_iff_iff, decide_eq_true_iff, decide_eq_true_iff]
  exact ⟨h.symm.conn, h.conn⟩
theorem Same.root {ps qs : List Pipe} (h : Same ps qs) {n : Nat} : root n qs = root n ps := by
  funext a
  unfold K8.root
  rw [h.compL]
theorem Same.shr {ps qs : List Pipe} (h : Same ps qs) {n : Nat} {c0 : Nat → Nat} : shr n qs c0 = shr n ps c0 := by
  funext a
  unfold K8.shr
  rw [h.root]
theorem Same.raw {ps qs : List Pipe} (h : Same ps qs) {n : Nat} {c0 : Nat → Nat} : raw n qs c0 = raw n ps c0 := by
  funext a
  unfold K8.raw bel
  rw [h.shr, h.compL]
theorem Same.lrep {ps qs : List Pipe} (h : Same ps qs) {n : Nat} {c0 : Nat → Nat} : lrep n qs c0 = lrep n ps c0 := by
  funext a
  unfold K8.lrep com
  rw [h.raw, h.compL]
theorem Same.wf {n : Nat} {ps qs : List Pipe} {c0 : Nat → Nat} (h : Same ps qs) (w : WF n ps c0) : WF n qs c0 := by
  refine ⟨w.n1, w.n5, by rw [h.1]; exact w.len, fun q hq => ?_, fun q hq => ?_, w.small, fun q hq => ?_⟩
  · obtain ⟨p, hp, h1, h2, h3, h4⟩ := h.mem hq
    rw [h1, h2]; exact w.ends p hp
  · obtain ⟨p, hp, h1, h2, h3, h4⟩ := h.mem hq
    rw [h3, h4]; exact w.rates p hp
  · obtain ⟨p, hp, h1, h2, h3, h4⟩ := h.mem hq
    rw [h1, h2, h3, h4]; exact w.bal p hp
/-- every pipe starts with all that a round eats: a round can be done -/
theorem enough {n : Nat} {ps : List Pipe} {L f : Nat → Nat} (hf : ∀ (k : Nat) p, ps[k]? = some p → f k = p.eat * L p.other) (hL : ∀ k, n ≤ k → L k = 0) : Reach n (withF ps f) L := by
  refine Reach.all hL (fun d hd b hb hlt q hq hqb => ?_) (sumTo n L) zeroD .zero (fun k => Nat.zero_le _) (by rw [sumTo_zero, Nat.zero_add])
  obtain ⟨k, p, hp, rfl⟩ := withF_mem hq
  have hb' : p.other = b := hqb
  show (p.eat : Int) ≤ (f k : Int) + (p.give : Int) * (d p.one : Int) - (p.eat : Int) * (d p.other : Int)
  rw [hf k p hp, hb']
  have h1 : p.eat * (d b + 1) ≤ p.eat * L b := Nat.mul_le_mul_left _ hlt
  rw [Nat.mul_add, Nat.mul_one] at h1
  have h2 : (p.eat : Int) * (d b : Int) = ((p.eat * d b : Nat) : Int) := by rw [Int.natCast_mul]
  have h3 : (0 : Int) ≤ (p.give : Int) * (d p.one : Int) := Int.mul_nonneg (Int.natCast_nonneg _) (Int.natCast_nonneg _)
  rw [h2]
  generalize (p.give : Int) * (d p.one : Int) = z at h3
  omega
end K8

-- K8RdM
/-! K8RdM: the row of draws. -/
namespace K8
open PySem PySem.Spec L2 Evl
section
variable {K : PySem.W.Frag}
/-- the row: the script, the place, the seed, the rest -/
def RowIs (K : PySem.W.Frag) (H : Hp) (r sc : Addr) (i s e : Int) (ns : List Int) : Prop := H r = some (.lst [.ref sc, .int i, .int s, .int e]) ∧ SqL K H sc (ns.map V.int) ∧ (sc ≠ r ∨ ∀ H' : Hp, SqL K H' sc (ns.map V.int)) ∧ 0 ≤ i
/-- who the row is -/
structure RowN where
  r : Addr
  sc : Addr
  ns : List Int
def RowAt (K : PySem.W.Frag) (H : Hp) (R : RowN) : Prop := ∃ i s e, RowIs K H R.r R.sc i s e R.ns
theorem RowIs.mono {H H' : Hp} {r sc : Addr} {i s e : Int} {ns : List Int} (h : RowIs K H r sc i s e ns) (x : Ex H H') : RowIs K H' r sc i s e ns := ⟨x _ _ h.1, ex_l x h.2.1, h.2.2⟩
theorem sql_upd {H : Hp} {a r : Addr} {u : HO} {xs : List V} (h : SqL K H a xs) (n : a ≠ r) : SqL K (upd H r u) a xs := by
  rcases h with (h | ⟨o, h⟩) | h
  · exact .inl (.inl (by rw [upd_ne n]; exact h))
  · exact .inl (.inr ⟨o, by rw [upd_ne n]; exact h⟩)
  · exact .inr h
theorem RowIs.put {H H1 : Hp} {r sc : Addr} {i s e i' s' e' : Int} {ns : List Int} (h : RowIs K H r sc i s e ns) (x : Ex H H1) (hi : 0 ≤ i') : RowIs K (upd H1 r (.lst [.ref sc, .int i', .int s', .int e'])) r sc i' s' e' ns :=
  ⟨upd_same, h.2.2.1.elim (fun z => sql_upd (ex_l x h.2.1) z) fun z => z _, h.2.2.1, hi⟩
theorem RowAt.mono {H H' : Hp} {R : RowN} (h : RowAt K H R) (x : Ex H H') : RowAt K H' R := by
  obtain ⟨i, s, e, h⟩ := h
  exact ⟨i, s, e, h.mono x⟩
theorem RowAt.ne {H : Hp} {R : RowN} {p : Addr} (h : RowAt K H R) (hp : H p = none) : p ≠ R.r := fun z => by
  obtain ⟨i, s, e, h, _⟩ := h
  rw [z, h] at hp
  cases hp
/-- from one heap to the next: only the row changes -/
structure Rw (K : PySem.W.Frag) (R : RowN) (H H' : Hp) : Prop where
  kp : Kp [R.r] H H'
  at0 : RowAt K H R
  at1 : RowAt K H' R
theorem Rw.of {R : RowN} {H H' : Hp} (h : RowAt K H R) (x : Ex H H') : Rw K R H H' := ⟨.of x, h, h.mono x⟩
theorem Rw.refl {R : RowN} {H : Hp} (h : RowAt K H R) : Rw K R H H := .of h (.refl H)
theorem Rw.trans {R : RowN} {H H1 H2 : Hp} (a : Rw K R H H1) (b : Rw K R H1 H2) : Rw K R H H2 := ⟨a.kp.trans b.kp, a.at0, b.at1⟩
theorem Rw.ex {R : RowN} {H H1 H2 : Hp} (a : Rw K R H H1) (b : Ex H1 H2) : Rw K R H H2 := a.trans (.of a.at1 b)
theorem Rw.tup {R : RowN} {a : Addr} {H H' : Hp} {xs : List V} (w : Rw K R H H') (h : H a = some (.tup xs)) : H' a = some (.tup xs) := by
  refine w.kp a _ (fun z => ?_) h
  obtain ⟨i, s, e, h1, _⟩ := w.at0
  rw [List.mem_singleton.mp z, h1] at h
  cases h
theorem Rw.tups {R : RowN} {H H' : Hp} (w : Rw K R H H') : Tups H H' := fun a xs h => w.tup h
theorem Rw.get {R : RowN} {a : Addr} {H H' : Hp} {u : HO} (w : Rw K R H H') (h : H a = some u) (n : a ≠ R.r) : H' a = some u := w.kp a _ (fun z => n (List.mem_singleton.mp z)) h
theorem Rw.fresh {R : RowN} {a : Addr} {H H' : Hp} (w : Rw K R H H') (h : H' a = none) : H a = none := by
  cases h1 : H a with
  | none => rfl
  | some o =>
    by_cases z : a = R.r
    · exact absurd z (w.at1.ne h)
    · rw [w.get h1 z] at h
      cases h
/-- an object that the first heap lacks may change -/
theorem Rw.mut {R : RowN} {a : Addr} {H H' : Hp} {u : HO} (w : Rw K R H H') (h : H a = none) : Rw K R H (upd H' a u) := by
  have hn := w.at0.ne h
  refine ⟨fun x o hx hh => ?_, w.at0, ?_⟩
  · rw [upd_ne (ne_of_none hh h)]
    exact w.kp x o hx hh
  · obtain ⟨i, s, e, h1, h2, h3, h4⟩ := w.at1
    obtain ⟨i0, s0, e0, g1, g2, g3, g4⟩ := w.at0
    refine ⟨i, s, e, by rw [upd_ne (Ne.symm hn)]; exact h1, ?_, h3, h4⟩
    rcases g2 with (g2 | ⟨o, g2⟩) | g2
    · exact sql_upd h2 (ne_of_none g2 h)
    · exact sql_upd h2 (ne_of_none g2 h)
    · exact .inr g2
theorem PipesAt.tups {H H' : Hp} {as : List Addr} {ps : List Pipe} (h : PipesAt H as ps) (w : Tups H H') : PipesAt H' as ps := ⟨h.len, fun i a p x y => w _ _ (h.item i a p x y)⟩
theorem FlowAt.tups {H H' : Hp} {t q : Addr} {as : List Addr} {n : Nat} {ps : List Pipe} (h : FlowAt H t q as n ps) (w : Tups H H') : FlowAt H' t q as n ps := ⟨w _ _ h.top, w _ _ h.row, h.pipes.tups w⟩
theorem IsFlow.tups {H H' : Hp} {v : V} {n : Nat} {ps : List Pipe} (h : IsFlow H v n ps) (w : Tups H H') : IsFlow H' v n ps := by
  obtain ⟨t, q, as, e, h⟩ := h
  exact ⟨t, q, as, e, h.tups w⟩
/-! ### taken -/
def sp_taken (K : PySem.W.Frag) : Sp := fun vs H Q _ => ∃ (R : RowN) (m : Int), vs = [.ref R.r, .int m] ∧ RowAt K H R ∧ 0 < m ∧ m < 1073741824 ∧ ∀ (k : Nat) H', Rw K R H H' → (k : Int) < m → Q (.int (k : Int)) H'
theorem len_taken : ∀ vs H Q E, sp_taken K vs H Q E → vs.length = 2 := by rintro vs H Q E ⟨r, m, rfl, _⟩; rfl
theorem op_do {r : R2} {ta tb : TE} {σ : L2.St} {H : Hp} {Q : VK} (h : ta σ H fun x H1 => tb σ H1 fun y H2 => r x y H2 Q) : tOp r ta tb σ H Q := h
theorem taken_do {R : RowN} {σ : L2.St} {H : Hp} {Q : VK} {ta tb : TE} {m : Int} (hr : RowAt K H R) (h1 : Ev ta σ H (.ref R.r)) (h2 : Ev tb σ H (.int m)) (hm : 0 < m ∧ m < 1073741824) (k : ∀ (k : Nat) H', Rw K R H H' → (k : Int) < m → Q (.int (k : Int)) H') :
    tCall (sp_taken K) [] E0 (tCons ta (tCons tb tNil)) σ H Q :=
  call_do (ea_cons h1 (ea_cons h2 ea_nil) H (.refl H) _ fun H1 e1 => ⟨R, m, rfl, hr.mono e1, hm.1, hm.2, fun j H2 w hj => k j H2 ((Rw.of hr e1).trans w) hj⟩)
theorem rd_law_taken : ∀ vs H Q E, sp_taken K vs H Q E → t_law_taken K { nx := fun _ H' => Q .non H', rt := Q } (start ["_law_row", "_law_many", "_law_found", "_law_cell"] vs) H := by
  rintro vs H Q E ⟨⟨r, sc, ns⟩, m, rfl, ⟨i, s, e, R⟩, hm0, hm1, q⟩
  have R : RowIs K H r sc i s e ns := R
  have hAt : RowAt K H ⟨r, sc, ns⟩ := ⟨i, s, e, R⟩
  have hq : ∀ (x : Int) H', Rw K ⟨r, sc, ns⟩ H H' → 0 ≤ x → x < m → Q (.int x) H' := fun x H' w h0 h1 => by
    obtain ⟨k, rfl⟩ := Int.eq_ofNat_of_zero_le h0
    exact q k H' w h1
  have hmod : ∀ x : Int, 0 ≤ x % m ∧ x % m < m := fun x => ⟨Int.emod_nonneg _ (by omega), Int.emod_lt_of_pos _ hm0⟩
  unfold t_law_taken
  show tSeq _ _ _ ([some (.ref r), some (.int m), none, none] : L2.St) H
  refine q_when (b := decide (0 < e)) (et_test (ev_op (ev_l 3 (ev_var rfl) ev_c R.1 rfl) ev_c rv_I0)) (fun _ H1 e1 => ?_) fun _ H1 e1 => ?_
  · have R1 := R.mono e1
    refine q_asg (ev_op (ev_intN (ev_l 3 (ev_var rfl) ev_c R1.1 rfl)) (ev_var rfl) (rv_I hm0)) fun H2 e2 => ?_
    have R2 := R1.mono e2
    show tSeq _ _ _ ([some (.ref r), some (.int m), some (.int (e % m)), none] : L2.St) H2
    refine q_setL (j := 3) R2.1 (ev_op (ev_l 3 (ev_var rfl) ev_c R2.1 rfl) (ev_var rfl) (rv_I ⟨hm0, hm1⟩)) (ev_var rfl) ev_c (by simp) fun H3 e3 => ?_
    refine s_ret (ev_var rfl) fun H4 e4 => hq _ _ ⟨(Kp.upd (.of ((e1.trans e2).trans e3)) (by simp)).trans (.of e4), hAt, ?_⟩ (hmod _).1 (hmod _).2
    exact RowAt.mono ⟨i, s, _, R2.put e3 R.2.2.2⟩ e4
  · have R1 := R.mono e1
    refine q_setL (j := 1) R1.1 (ev_op (ev_l 1 (ev_var rfl) ev_c R1.1 rfl) ev_c rv_I0) (ev_var rfl) ev_c (by simp) fun H2 e2 => ?_
    have R2 : RowIs K (upd H2 r (.lst [.ref sc, .int (i + 1), .int s, .int e])) r sc (i + 1) s e ns := R1.put e2 (by have := R.2.2.2; omega)
    have k2 : Kp [r] H (upd H2 r (.lst [.ref sc, .int (i + 1), .int s, .int e])) := Kp.upd (.of (e1.trans e2)) (by simp)
    show tSeq _ _ _ _ (upd H2 r (.lst [.ref sc, .int (i + 1), .int s, .int e]))
    generalize upd H2 r (.lst [.ref sc, .int (i + 1), .int s, .int e]) = H3 at R2 k2
    refine q_when (b := decide ((ns.length : Int) < i + 1)) (et_test (ev_op (ev_l 1 (ev_var rfl) ev_c R2.1 rfl) (ev_is (ev_lenS (ev_l 0 (ev_var rfl) ev_c R2.1 rfl) (.inl R2.2.1)) (by rw [List.length_map])) rv_I0)) (fun _ H4 e4 => ?_) fun hle H4 e4 => ?_
    · have R4 := R2.mono e4
      refine q_setL (j := 2) R4.1 (ev_op (ev_intN (ev_op (ev_op (ev_l 2 (ev_var rfl) ev_c R4.1 rfl) ev_c (rv_I (.inr (by decide)))) ev_c rv_I0)) ev_c (rv_I (by decide))) (ev_var rfl) ev_c (by simp) fun H5 e5 => ?_
      have R5 : RowIs K (upd H5 r (.lst [.ref sc, .int (i + 1), .int ((s * 48271 + 11) % 2147483647), .int e])) r sc (i + 1) ((s * 48271 + 11) % 2147483647) e ns := R4.put e5 (by have := R.2.2.2; omega)
      have k5 : Kp [r] H (upd H5 r (.lst [.ref sc, .int (i + 1), .int ((s * 48271 + 11) % 2147483647), .int e])) := Kp.upd (k2.trans (.of (e4.trans e5))) (by simp)
      show tRet _ _ _ (upd H5 r (.lst [.ref sc, .int (i + 1), .int ((s * 48271 + 11) % 2147483647), .int e]))
      generalize upd H5 r (.lst [.ref sc, .int (i + 1), .int ((s * 48271 + 11) % 2147483647), .int e]) = H6 at R5 k5
      exact s_ret (ev_op (ev_intN (ev_op (ev_l 2 (ev_var rfl) ev_c R5.1 rfl) ev_c (rv_I ⟨by decide, by decide⟩))) (ev_var rfl) (rv_I hm0)) fun H7 e7 => hq _ _ ⟨k5.trans (.of e7), hAt, RowAt.mono ⟨_, _, _, R5⟩ e7⟩ (hmod _).1 (hmod _).2
    · have R4 := R2.mono e4
      have hlt : ¬ ((ns.length : Int) < i + 1) := of_decide_eq_false hle
      obtain ⟨j, hj⟩ := Int.eq_ofNat_of_zero_le R.2.2.2
      have hjl : j < ns.length := by omega
      have hcell : (ns.map V.int)[j]? = some (.int ns[j]) := by rw [List.getElem?_map, List.getElem?_eq_getElem hjl]; rfl
      refine q_asg (v := .int ns[j]) (ev_op (ev_l 0 (ev_var rfl) ev_c R4.1 rfl) (ev_is (v := .int (i + 1 - 1)) (ev_op (ev_l 1 (ev_var rfl) ev_c R4.1 rfl) ev_c rv_I0) (by rw [hj]; show V.int ((j : Int) + 1 - 1) = .int (j : Int); rw [Int.add_sub_cancel])) (rv_sl R4.2.1 (atI_nat hcell))) fun H5 e5 => ?_
      have R5 := R4.mono e5
      show tSeq _ _ _ ([some (.ref r), some (.int m), none, some (.int ns[j])] : L2.St) H5
      refine q_setL (j := 2) R5.1 (ev_op (ev_intN (ev_op (ev_op (ev_op (ev_l 2 (ev_var rfl) ev_c R5.1 rfl) ev_c (rv_I (.inr (by decide)))) (ev_var rfl) rv_I0) ev_c rv_I0)) ev_c (rv_I (by decide))) (ev_var rfl) ev_c (by simp) fun H6 e6 => ?_
      have R6 : RowIs K (upd H6 r (.lst [.ref sc, .int (i + 1), .int ((s * 48271 + ns[j] + 11) % 2147483647), .int e])) r sc (i + 1) ((s * 48271 + ns[j] + 11) % 2147483647) e ns := R5.put e6 (by have := R.2.2.2; omega)
      have k6 : Kp [r] H (upd H6 r (.lst [.ref sc, .int (i + 1), .int ((s * 48271 + ns[j] + 11) % 2147483647), .int e])) := Kp.upd (k2.trans (.of ((e4.trans e5).trans e6))) (by simp)
      show tSeq _ _ _ _ (upd H6 r (.lst [.ref sc, .int (i + 1), .int ((s * 48271 + ns[j] + 11) % 2147483647), .int e]))
      generalize upd H6 r (.lst [.ref sc, .int (i + 1), .int ((s * 48271 + ns[j] + 11) % 2147483647), .int e]) = H7 at R6 k6
      refine q_when (et_test (ev_op (ev_var rfl) (ev_op ev_c ev_c (rv_I (by unfold CPow; decide))) rv_I0)) (fun _ H8 e8 => ?_) fun _ H8 e8 => ?_
      · have R8 := R6.mono e8
        refine s_setL (j := 3) R8.1 (ev_op (ev_var rfl) (ev_var rfl) (rv_I ⟨hm0, hm1⟩)) (ev_var rfl) ev_c (by simp) fun H9 e9 => ?_
        have R9 := R8.put (i' := i + 1) (s' := (s * 48271 + ns[j] + 11) % 2147483647) (e' := ns[j] / m) e9 (by have := R.2.2.2; omega)
        have k9 : Kp [r] H (upd H9 r (.lst [.ref sc, .int (i + 1), .int ((s * 48271 + ns[j] + 11) % 2147483647), .int (ns[j] / m)])) := Kp.upd (k6.trans (.of (e8.trans e9))) (by simp)
        show tRet (tOp (rI (fun _ j => 0 < j) fun i j => .int (i % j)) (tCB rInt1 (tCons (tVar 3) (tNil))) (tVar 1)) { nx := fun _ H' => Q .non H', rt := Q } ([some (.ref r), some (.int m), none, some (.int ns[j])] : L2.St) (upd H9 r (.lst [.ref sc, .int (i + 1), .int ((s * 48271 + ns[j] + 11) % 2147483647), .int (ns[j] / m)]))
        exact s_ret (ev_op (ev_intN (ev_var rfl)) (ev_var rfl) (rv_I hm0)) fun HA eA => hq _ _ ⟨k9.trans (.of eA), hAt, RowAt.mono ⟨_, _, _, R9⟩ eA⟩ (hmod _).1 (hmod _).2
      · exact s_ret (ev_op (ev_intN (ev_var rfl)) (ev_var rfl) (rv_I hm0)) fun HA eA => hq _ _ ⟨k6.trans (.of (e8.trans eA)), hAt, RowAt.mono ⟨_, _, _, R6⟩ (e8.trans eA)⟩ (hmod _).1 (hmod _).2
/-! ### pick -/
def sp_pick (K : PySem.W.Frag) : Sp := fun vs H Q _ => ∃ (R : RowN) (l : Addr) (xs : List V), vs = [.ref R.r, .ref l] ∧ RowAt K H R ∧ H l = some (.lst xs) ∧ l ≠ R.r ∧ 0 < xs.length ∧ xs.length ≤ 1000 ∧ ∀ x H', Rw K R H H' → x ∈ xs → Q x H'
theorem len_pick : ∀ vs H Q E, sp_pick K vs H Q E → vs.length = 2 := by rintro vs H Q E ⟨r, m, xs, rfl, _⟩; rfl
theorem rd_law_pick : ∀ vs H Q E, sp_pick K vs H Q E → t_law_pick K (sp_taken K) { nx := fun _ H' => Q .non H', rt := Q } (start ["_law_row", "_law_things"] vs) H := by
  rintro vs H Q E ⟨R, l, xs, rfl, hr, hl, hlr, h0, h1, q⟩
  unfold t_law_pick
  show tRet _ _ ([some (.ref R.r), some (.ref l)] : L2.St) H
  refine op_do (ev_var (i := 1) rfl H (.refl H) _ fun H1 e1 => ?_)
  refine taken_do (hr.mono e1) (ev_var rfl) (ev_lenL (ev_var rfl) (e1 _ _ hl)) (by omega) fun k H2 w hk => ?_
  have hl2 : H2 l = some (.lst xs) := w.get (e1 _ _ hl) hlr
  have hk' : k < xs.length := by omega
  exact rv_l hl2 (atI_nat (List.getElem?_eq_getElem hk')) H2 (.refl H2) _ fun H3 e3 => q _ _ ((Rw.of hr e1).trans (w.ex e3)) (List.getElem_mem hk')
theorem pick_do {R : RowN} {σ : L2.St} {H : Hp} {Q : VK} {ta tb : TE} {xs : List V} (hr : RowAt K H R) (h1 : Ev ta σ H (.ref R.r)) (h2 : EvL tb σ H xs) (hm : 0 < xs.length ∧ xs.length ≤ 1000) (k : ∀ x H', Rw K R H H' → x ∈ xs → Q x H') :
    tCall (sp_pick K) [] E0 (tCons ta (tCons tb tNil)) σ H Q :=
  call_do (cons_do (h1 H (.refl H) _ fun H1 e1 => cons_do (h2 H1 e1 _ fun l H2 hl e2 hl2 => nil_do (by
    have e12 := e1.trans e2
    have hr2 := hr.mono e12
    exact ⟨R, l, xs, rfl, hr2, hl2, (hr.mono e1).ne hl, hm.1, hm.2, fun x H3 w hx => k x H3 ((Rw.of hr e12).trans w) hx⟩))))
theorem pick_doL {R : RowN} {l : Addr} {σ : L2.St} {H : Hp} {Q : VK} {ta tb : TE} {xs : List V} (hr : RowAt K H R) (h1 : Ev ta σ H (.ref R.r)) (h2 : Ev tb σ H (.ref l)) (hl : H l = some (.lst xs)) (hlr : l ≠ R.r) (hm : 0 < xs.length ∧ xs.length ≤ 1000) (k : ∀ x H', Rw K R H H' → x ∈ xs → Q x H') :
    tCall (sp_pick K) [] E0 (tCons ta (tCons tb tNil)) σ H Q :=
  call_do (ea_cons h1 (ea_cons h2 ea_nil) H (.refl H) _ fun H1 e1 => ⟨R, l, xs, rfl, hr.mono e1, e1 _ _ hl, hlr, hm.1, hm.2, fun x H3 w hx => k x H3 ((Rw.of hr e1).trans w) hx⟩)
/-! ### statements and words whose parts change the row -/
theorem ifS_do {c : TT} {t u : TS} {D : L2.Ends} {σ : L2.St} {H : Hp} (h : c σ H fun b H1 => if b = true then t D σ H1 else u D σ H1) : tIfS c t u D σ H := h
theorem ifE_do {t : TT} {ta tb : TE} {σ : L2.St} {H : Hp} {Q : VK} (h : t σ H fun c H1 => if c = true then ta σ H1 Q else tb σ H1 Q) : tIf t ta tb σ H Q := h
theorem test_do {t : TE} {σ : L2.St} {H : Hp} {Q : Bool → Hp → Prop} (h : t σ H fun x H' => ∃ k, x = .bl k ∧ Q k H') : tTest t σ H Q := h
theorem drop_do {te : TE} {D : L2.Ends} {σ : L2.St} {H : Hp} (h : te σ H fun _ H1 => D.nx σ H1) : tDrop te D σ H := h
theorem ret_do {te : TE} {D : L2.Ends} {σ : L2.St} {H : Hp} (h : te σ H D.rt) : tRet te D σ H := h
theorem cb_do {r : List V → Hp → VK → Prop} {t : TA} {σ : L2.St} {H : Hp} {Q : VK} (h : t σ H fun xs H1 => r xs H1 Q) : tCB r t σ H Q := h
theorem or_do {t u : TT} {σ : L2.St} {H : Hp} {Q : Bool → Hp → Prop} (h : t σ H fun c H1 => if c = true then Q true H1 else u σ H1 Q) : tOr t u σ H Q := h
theorem app_do {l : Addr} {xs : List V} {ta te : TE} {D : L2.Ends} {σ : L2.St} {H : Hp} (hl : H l = some (.lst xs)) (ha : Ev ta σ H (.ref l)) (h : ∀ H1, Ex H H1 → te σ H1 fun v H2 => ∃ l' ys y, (V.ref l : V) = .ref l' ∧ [v] = [y] ∧ H2 l' = some (.lst ys) ∧ ys.length < sizeLine ∧ D.nx σ (upd H2 l' (.lst (ys ++ [y])))) :
    tDrop (tBM K "list" rAppend ta (tCons te tNil)) D σ H := ha H (.refl H) _ fun H1 e1 =>
  ⟨Or.inl ⟨rfl, xs, sq_of (e1 l _ hl)⟩, h H1 e1⟩
theorem for1_do {ta : TA} {j : Nat} {tu : TS} {D : L2.Ends} {σ : L2.St} {H : Hp} (h : ta σ H fun vs H1 => ∃ i : Int, vs = [.int i] ∧ -(2 ^ 62) ≤ i ∧ i < 2 ^ 62 ∧ (∃ W : Nat → Nat → L2.St → Hp → Prop, (∃ m, W 0 m σ H1) ∧ ∀ i' m σ H, W i' m σ H →
  ((Itr 0 i.toNat).stop i' H ∧ D.nx σ H) ∨ ((Itr 0 i.toNat).go i' H ∧ ∃ N : L2.St → Hp → Prop, (∀ σ' H', N σ' H' → ∃ m', m' < m ∧ W (i' + 1) m' σ' H') ∧ ∀ x H', (Itr 0 i.toNat).yld i' H x H' → gName j x σ H' fun σ2 H2 => tu { D with nx := N, ct := N, bk := D.nx } σ2 H2))) : tFor (iRng1 ta) (gName j) tu D σ H := h
theorem for1_fin {j : Nat} {tu : TS} {D : L2.Ends} {σ : L2.St} {H1 : Hp} {n : Nat} (hn : n ≤ 100000) (Pv : Nat → L2.St → Hp → Prop) (h0 : Pv 0 σ H1)
    (hs : ∀ (i : Nat) σ' H', i < n → Pv i σ' H' → tu { D with nx := Pv (i + 1), ct := Pv (i + 1), bk := D.nx } (σ'.set j (some (.int (i : Int)))) H') (hd : ∀ σ' H', Pv n σ' H' → D.nx σ' H') :
    ∃ i : Int, [V.int (n : Int)] = [.int i] ∧ -(2 ^ 62) ≤ i ∧ i < 2 ^ 62 ∧ (∃ W : Nat → Nat → L2.St → Hp → Prop, (∃ m, W 0 m σ H1) ∧ ∀ i' m σ H, W i' m σ H →
  ((Itr 0 i.toNat).stop i' H ∧ D.nx σ H) ∨ ((Itr 0 i.toNat).go i' H ∧ ∃ N : L2.St → Hp → Prop, (∀ σ' H', N σ' H' → ∃ m', m' < m ∧ W (i' + 1) m' σ' H') ∧ ∀ x H', (Itr 0 i.toNat).yld i' H x H' → gName j x σ H' fun σ2 H2 => tu { D with nx := N, ct := N, bk := D.nx } σ2 H2)) := by
  have en : ((n : Int)).toNat = n := by omega
  refine ⟨(n : Int), rfl, by omega, by omega, ?_⟩
  rw [en]
  exact for_range (lo := 0) (n := n) Pv h0 (fun i σ' H' hi p => by
    have e0 : (0 : Int) + (i : Int) = (i : Int) := Int.zero_add _
    show tu { D with nx := Pv (i + 1), ct := Pv (i + 1), bk := D.nx } (σ'.set j (some (.int ((0 : Int) + (i : Int))))) H'
    rw [e0]
    exact hs i σ' H' hi p) hd
/-- [e for k in range(m)], e draws from the row -/
theorem lcw_do {R : RowN} {ta : TA} {m j : Nat} {vs : List Nat} {te : TE} {σ : L2.St} {H : Hp} {Q : VK} (P : Int → Prop) (hr : RowAt K H R) (h : EvA ta σ H [.int (m : Int)]) (hz : m ≤ 40000) (hw : ∀ x, wipe ((wipe σ vs).set j (some x)) vs = wipe σ vs)
    (hs : ∀ (i : Nat) H1, Rw K R H H1 → i < m → ∀ Q : VK, (∀ z H2, Rw K R H1 H2 → P z → Q (.int z) H2) → te ((wipe σ vs).set j (some (.int (i : Int)))) H1 Q)
    (q : ∀ p (zs : List Int) H', Rw K R H H' → H p = none → H' p = some (.lst (zs.map V.int)) → zs.length = m → (∀ z ∈ zs, P z) → Q (.ref p) H') :
    tLc (iRng1 ta) (gName j) tYes te vs σ H Q := h H (.refl H) _ fun H1 e1 => ⟨(m : Int), rfl, by omega, by omega, fun Dl hD => by
  have em : ((m : Int)).toNat = m := by omega
  rw [em]
  have hr1 := hr.mono e1
  have hnr := hr1.ne hD
  refine lc_it (walk_range (lo := 0) (n := m)) (fun i H' => Rw K R H1 H' ∧ ∃ zs : List Int, H' Dl = some (.lst (zs.map V.int)) ∧ zs.length = i ∧ ∀ z ∈ zs, P z) ⟨(Rw.refl hr1).mut hD, [], upd_same, rfl, fun z hz => by simp at hz⟩ (fun _ _ _ _ => True.intro) (fun i x H' H'' hi p y => ?_) fun H' p => ?_
  · obtain ⟨rfl, hx⟩ := y
    obtain ⟨p1, zs, p2, p3, p4⟩ := p
    have ex : x = .int (i : Int) := hx.trans (congrArg V.int (Int.zero_add _))
    subst ex
    refine ⟨hw _, et_yes (H := H'') H'' (.refl _) _ fun H3 e3 => ?_⟩
    have p3w := p1.ex e3
    refine hs i H3 ((Rw.of hr e1).trans p3w) hi _ fun z H4 w4 hz4 => ⟨zs.map V.int, w4.get (e3 _ _ p2) hnr, by rw [List.length_map]; exact sz_lt (by omega), (p3w.trans w4).mut hD, zs ++ [z], by rw [upd_same, List.map_append]; rfl, by rw [List.length_append]; show zs.length + 1 = _; omega, fun y hy => ?_⟩
    rcases List.mem_append.mp hy with hy | hy
    · exact p4 y hy
    · rw [List.mem_singleton.mp hy]; exact hz4
  · obtain ⟨p1, zs, p2, p3, p4⟩ := p
    exact q Dl zs H' ((Rw.of hr e1).trans p1) (fresh_back e1 hD) p2 p3 p4⟩
end
end K8

-- K8RdN
/-! K8RdN: the law's flow. -/
namespace K8
open PySem PySem.Spec L2 Evl
theorem mk_pipe {a b m : Nat} (ha : 1 ≤ a ∧ a ≤ 4) (hb : 1 ≤ b ∧ b ≤ 4) (hm : m = 1 ∨ m = 2) : (1 ≤ m * b / Nat.gcd a b ∧ m * b / Nat.gcd a b ≤ 8 ∧ 1 ≤ m * a / Nat.gcd a b ∧ m * a / Nat.gcd a b ≤ 8) ∧ m * b / Nat.gcd a b * a = m * a / Nat.gcd a b * b := by
  have h1 : a = 1 ∨ a = 2 ∨ a = 3 ∨ a = 4 := by omega
  have h2 : b = 1 ∨ b = 2 ∨ b = 3 ∨ b = 4 := by omega
  rcases h1 with rfl | rfl | rfl | rfl <;> rcases h2 with rfl | rfl | rfl | rfl <;> rcases hm with rfl | rfl <;> decide
theorem zs_counts {zs : List Int} {n : Nat} (h : zs.length = n) (hz : ∀ z ∈ zs, 1 ≤ z ∧ z ≤ 4) : ∃ c : Nat → Nat, zs = cZ n c ∧ ∀ k, k < n → 1 ≤ c k ∧ c k ≤ 4 := by
  have hk : ∀ k (hk : k < zs.length), ((zs[k]?.getD 1).toNat : Int) = zs[k] ∧ 1 ≤ (zs[k]?.getD 1).toNat ∧ (zs[k]?.getD 1).toNat ≤ 4 := fun k hk => by
    have h1 := hz zs[k] (List.getElem_mem hk)
    rw [List.getElem?_eq_getElem hk]
    show ((zs[k]).toNat : Int) = zs[k] ∧ 1 ≤ (zs[k]).toNat ∧ (zs[k]).toNat ≤ 4
    omega
  refine ⟨fun k => (zs[k]?.getD 1).toNat, List.ext_getElem? fun i => ?_, fun k hkn => (hk k (by omega)).2⟩
  by_cases hi : i < n
  · rw [cZ_get hi, (hk i (by omega)).1, List.getElem?_eq_getElem (by omega : i < zs.length)]
  · rw [List.getElem?_eq_none (by omega), List.getElem?_eq_none (by rw [cZ_len]; omega)]
theorem sqa_do {te : TE} {i : Nat} {tz : TS} {D : L2.Ends} {σ : L2.St} {H : Hp} (h : te σ H fun v H1 => tz D (σ.set i (some v)) H1) : tSeq (tAsg te (gName i)) tz D σ H := h
structure PairsAt (H : Hp) (as : List Addr) (prs : List (Nat × Nat)) : Prop where
  len : as.length = prs.length
  item : ∀ (i : Nat) (a : Addr) (p : Nat × Nat), as[i]? = some a → prs[i]? = some p → H a = some (.tup [.int (p.1 : Int), .int (p.2 : Int)])
theorem PairsAt.tups {H H' : Hp} {as : List Addr} {prs : List (Nat × Nat)} (h : PairsAt H as prs) (w : Tups H H') : PairsAt H' as prs := ⟨h.len, fun i a p x y => w _ _ (h.item i a p x y)⟩
theorem snoc_two {α β : Type} {as : List α} {bs : List β} {a : α} {b : β} {P : α → β → Prop} (hl : as.length = bs.length) (h : ∀ (i : Nat) x y, as[i]? = some x → bs[i]? = some y → P x y) (hp : P a b) : ∀ (i : Nat) x y, (as ++ [a])[i]? = some x → (bs ++ [b])[i]? = some y → P x y := fun i x y hx hy => by
  by_cases hi : i < as.length
  · rw [List.getElem?_append_left hi] at hx
    rw [List.getElem?_append_left (by omega)] at hy
    exact h i x y hx hy
  · rw [List.getElem?_append_right (by omega)] at hx
    rw [List.getElem?_append_right (by omega)] at hy
    have h0 : i - as.length = 0 := by
      apply Classical.byContradiction
      intro z
      rw [List.getElem?_eq_none (by show 1 ≤ _; omega)] at hx
      cases hx
    have h1 : i - bs.length = 0 := by omega
    rw [h0] at hx
    rw [h1] at hy
    cases hx
    cases hy
    exact hp
theorem PairsAt.snoc {H : Hp} {as : List Addr} {prs : List (Nat × Nat)} {a : Addr} {p : Nat × Nat} (h : PairsAt H as prs) (ha : H a = some (.tup [.int (p.1 : Int), .int (p.2 : Int)])) : PairsAt H (as ++ [a]) (prs ++ [p]) :=
  ⟨by rw [List.length_append, List.length_append, h.len]; rfl, snoc_two (P := fun a p => H a = some (.tup [.int (p.1 : Int), .int (p.2 : Int)])) h.len h.item ha⟩
theorem PipesAt.snoc {H : Hp} {as : List Addr} {ps : List Pipe} {a : Addr} {p : Pipe} (h : PipesAt H as ps) (ha : H a = some (.tup (pV p))) : PipesAt H (as ++ [a]) (ps ++ [p]) :=
  ⟨by rw [List.length_append, List.length_append, h.len]; rfl, snoc_two (P := fun a p => H a = some (.tup (pV p))) h.len h.item ha⟩
section
variable {K : PySem.W.Frag}
/-- while pairs are drawn -/
structure FI (K : PySem.W.Frag) (R : RowN) (H : Hp) (n : Nat) (c : Nat → Nat) (pl cl : Addr) (as : List Addr) (prs : List (Nat × Nat)) (H' : Hp) : Prop where
  rw : Rw K R H H'
  pn : H pl = none
  cn : H cl = none
  ne : pl ≠ cl
  pl' : H' pl = some (.lst (as.map V.ref))
  cl' : H' cl = some (.lst ((cZ n c).map V.int))
  at' : PairsAt H' as prs
  lt : ∀ p ∈ prs, p.1 < n ∧ p.2 < n
theorem FI.step {R : RowN} {H : Hp} {n : Nat} {c : Nat → Nat} {pl cl : Addr} {as : List Addr} {prs : List (Nat × Nat)} {H' H2 : Hp} (h : FI K R H n c pl cl as prs H') (w : Rw K R H' H2) : FI K R H n c pl cl as prs H2 :=
  ⟨h.rw.trans w, h.pn, h.cn, h.ne, w.get h.pl' (h.rw.at0.ne h.pn), w.get h.cl' (h.rw.at0.ne h.cn), h.at'.tups w.tups, h.lt⟩
theorem FI.ex {R : RowN} {H : Hp} {n : Nat} {c : Nat → Nat} {pl cl : Addr} {as : List Addr} {prs : List (Nat × Nat)} {H' H2 : Hp} (h : FI K R H n c pl cl as prs H') (e : Ex H' H2) : FI K R H n c pl cl as prs H2 := h.step (.of h.rw.at1 e)
theorem FI.app {R : RowN} {H : Hp} {n : Nat} {c : Nat → Nat} {pl cl ad : Addr} {as : List Addr} {prs : List (Nat × Nat)} {H' : Hp} {p : Nat × Nat} (h : FI K R H n c pl cl as prs H') (ha : H' ad = some (.tup [.int (p.1 : Int), .int (p.2 : Int)])) (hp : p.1 < n ∧ p.2 < n) :
    FI K R H n c pl cl (as ++ [ad]) (prs ++ [p]) (upd H' pl (.lst (as.map V.ref ++ [.ref ad]))) := by
  have ht : Tups H' (upd H' pl (.lst (as.map V.ref ++ [.ref ad]))) := Tups.upd (.of (.refl _)) h.pl' fun xs z => nomatch z
  refine ⟨h.rw.mut h.pn, h.pn, h.cn, h.ne, by rw [upd_same, List.map_append]; rfl, by rw [upd_ne (Ne.symm h.ne)]; exact h.cl', (h.at'.tups ht).snoc (ht _ _ ha), fun q hq => ?_⟩
  rcases List.mem_append.mp hq with hq | hq
  · exact h.lt q hq
  · rw [List.mem_singleton.mp hq]; exact hp
def sp_flow (K : PySem.W.Frag) : Sp := fun vs H Q _ => ∃ R : RowN, vs = [.ref R.r, .int 5, .int 6] ∧ RowAt K H R ∧ ∀ v n ps c0 H', Rw K R H H' → IsFlow H' v n ps → WF n ps c0 → ps.length ≤ 6 → (∀ p ∈ ps, p.start ≤ 6) → Q v H'
theorem len_flow : ∀ vs H Q E, sp_flow K vs H Q E → vs.length = 3 := by rintro vs H Q E ⟨R, rfl, _⟩; rfl
abbrev sgF (R : RowN) (n w : Nat) (pl : Addr) (y6 y7 y8 y9 y10 y11 y12 y13 y14 : Option V) : L2.St := [some (.ref R.r), some (.int 5), some (.int 6), some (.int (n : Int)), some (.int (w : Int)), some (.ref pl), y6, y7, y8, y9, y10, y11, y12, y13, y14]
/-- one turn of the chain -/
theorem fl_chain {R : RowN} {H H' : Hp} {n w i : Nat} {c : Nat → Nat} {pl cl : Addr} {as : List Addr} {prs : List (Nat × Nat)} {y8 : Option V} {D : L2.Ends} (hn : n ≤ 5) (hi : 1 + i < n) (h : FI K R H n c pl cl as prs H') (hl : prs.length ≤ 10)
    (k : ∀ H2 y8 as2 prs2, FI K R H n c pl cl as2 prs2 H2 → prs2.length ≤ prs.length + 1 → D.nx (sgF R n w pl (some (.int ((1 + i : Nat) : Int))) (some (.ref cl)) y8 none none none none none none) H2) :
    tIfS (tTest (tOp (rI0 fun i j => .bl (decide (j < i))) (tCall (sp_taken K) [] E0 (tCons (tVar 0) (tCons (tC (.int 8)) (tNil)))) (tC (.int 0)))) (tSeq (tAsg (tTup (tCons (tIf (tTest (tOp rEq (tVar 4) (tC (.int 0)))) (tOp (rI0 fun i j => .int (i - j)) (tVar 6) (tC (.int 1))) (tCall (sp_taken K) [] E0 (tCons (tVar 0) (tCons (tVar 6) (tNil))))) (tCons (tVar 6) (tNil)))) (gName 8))
    (tDrop (tBM K "list" rAppend (tVar 5) (tCons (tIf (tTest (tOp (rI0 fun i j => .bl (decide (j < i))) (tCall (sp_taken K) [] E0 (tCons (tVar 0) (tCons (tC (.int 3)) (tNil)))) (tC (.int 0)))) (tVar 8) (tTup (tCons (tOp (rIx K) (tVar 8) (tC (.int 1))) (tCons (tOp (rIx K) (tVar 8) (tC (.int 0))) (tNil))))) (tNil))))) (tNext) D
      (sgF R n w pl (some (.int ((1 + i : Nat) : Int))) (some (.ref cl)) y8 none none none none none none) H' := by
  refine ifS_do (test_do (op_do (taken_do h.rw.at1 (ev_var rfl) ev_c (by decide) fun d1 H1 w1 hd1 => c_do ⟨_, _, rfl, rfl, _, rfl, ?_⟩)))
  have h1 := h.step w1
  split
  · have hone : ∀ Q : VK, (∀ (o : Nat) H2, Rw K R H1 H2 → o < n → Q (.int (o : Int)) H2) → tIf (tTest (tOp rEq (tVar 4) (tC (.int 0)))) (tOp (rI0 fun i j => .int (i - j)) (tVar 6) (tC (.int 1))) (tCall (sp_taken K) [] E0 (tCons (tVar 0) (tCons (tVar 6) (tNil)))) (sgF R n w pl (some (.int ((1 + i : Nat) : Int))) (some (.ref cl)) y8 none none none none none none) H1 Q := fun Q q => by
      refine ifE_do (et_test (ev_op (ev_var rfl) ev_c (rv_eq rfl)) H1 (.refl H1) _ fun H2 e2 => ?_)
      have h2 := h1.ex e2
      split
      · refine ev_is (v := .int ((1 + i : Nat) - 1 : Int)) (ev_op (ev_var rfl) ev_c rv_I0) (w := .int (i : Int)) (by congr 1; omega) H2 (.refl H2) _ fun H3 e3 => q i H3 (.of h1.rw.at1 (e2.trans e3)) (by omega)
      · refine taken_do h2.rw.at1 (ev_var rfl) (ev_var rfl) (by omega) fun o H3 w3 ho => q o H3 ((Rw.of h1.rw.at1 e2).trans w3) (by omega)
    refine sqa_do (tup_do (cons_do (hone _ fun o H2 w2 ho => cons_do (ev_var (i := 6) rfl H2 (.refl H2) _ fun H3 e3 => nil_do ⟨sz_of (by simp), fun p hp => ?_⟩))))
    have e4 : Ex H3 (upd H3 p (.tup [.int (o : Int), .int ((1 + i : Nat) : Int)])) := Ex.new hp
    have h4 := ((h1.step w2).ex e3).ex e4
    have hp4 : (upd H3 p (.tup [.int (o : Int), .int ((1 + i : Nat) : Int)])) p = some (.tup [.int (o : Int), .int ((1 + i : Nat) : Int)]) := upd_same
    show tDrop _ _ (sgF R n w pl (some (.int ((1 + i : Nat) : Int))) (some (.ref cl)) (some (.ref p)) none none none none none none) (upd H3 p (.tup [.int (o : Int), .int ((1 + i : Nat) : Int)]))
    generalize upd H3 p (.tup [.int (o : Int), .int ((1 + i : Nat) : Int)]) = H4 at h4 hp4
    refine app_do h4.pl' (ev_var rfl) fun H5 e5 => ifE_do (test_do (op_do (taken_do (h4.ex e5).rw.at1 (ev_var rfl) ev_c (by decide) fun d2 H6 w6 hd6 => c_do ⟨_, _, rfl, rfl, _, rfl, ?_⟩)))
    have h6 := (h4.ex e5).step w6
    have hp6 := w6.tup (e5 _ _ hp4)
    have hsz : (as.map V.ref).length < sizeLine := by rw [List.length_map, h6.at'.len]; exact sz_lt (by omega)
    have hlen : ∀ {x : Nat × Nat}, (prs ++ [x]).length ≤ prs.length + 1 := by intro x; rw [List.length_append]; exact Nat.le_refl _
    split
    · refine ev_var (i := 8) rfl H6 (.refl H6) _ fun H7 e7 => ⟨pl, _, _, rfl, rfl, (h6.ex e7).pl', hsz, ?_⟩
      exact k _ _ _ _ ((h6.ex e7).app (p := (o, 1 + i)) (e7 _ _ hp6) ⟨ho, hi⟩) hlen
    · refine eu_tup (ea_cons (ev_t 1 (ev_var (i := 8) rfl) ev_c hp6 rfl) (ea_cons (ev_t 0 (ev_var (i := 8) rfl) ev_c hp6 rfl) ea_nil)) (by simp) H6 (.refl H6) _ fun p2 H7 hp2 e7 h7 => ⟨pl, _, _, rfl, rfl, (h6.ex e7).pl', hsz, ?_⟩
      exact k _ _ _ _ ((h6.ex e7).app (p := (1 + i, o)) h7 ⟨hi, ho⟩) hlen
  · exact k H1 _ _ _ h1 (by omega)
/-- for k in range(e), e draws from the row -/
theorem for1_word {te : TE} {j : Nat} {tu : TS} {D : L2.Ends} {σ : L2.St} {H : Hp} (P : Nat → Hp → Prop) (hte : ∀ Q : VK, (∀ (m : Nat) H1, P m H1 → Q (.int (m : Int)) H1) → te σ H Q)
    (hgo : ∀ (m : Nat) H1, P m H1 → m ≤ 100000 ∧ ∃ Pv : Nat → L2.St → Hp → Prop, Pv 0 σ H1 ∧ (∀ (i : Nat) σ' H', i < m → Pv i σ' H' → tu { D with nx := Pv (i + 1), ct := Pv (i + 1), bk := D.nx } (σ'.set j (some (.int (i : Int)))) H') ∧ (∀ σ' H', Pv m σ' H' → D.nx σ' H')) :
    tFor (iRng1 (tCons te tNil)) (gName j) tu D σ H := for1_do (cons_do (hte _ fun m H1 hp => nil_do (by
  obtain ⟨h1, Pv, h2, h3, h4⟩ := hgo m H1 hp
  exact for1_fin h1 Pv h2 h3 h4)))
/-- one drawn pair more -/
theorem fl_extra {R : RowN} {H H' : Hp} {n : Nat} {c : Nat → Nat} {pl cl : Addr} {as : List Addr} {prs : List (Nat × Nat)} {D : L2.Ends} {σ : L2.St} (hn : 1 ≤ n ∧ n ≤ 5) (h : FI K R H n c pl cl as prs H') (hl : prs.length ≤ 10)
    (s0 : σ[0]? = some (some (.ref R.r))) (s3 : σ[3]? = some (some (.int (n : Int)))) (s5 : σ[5]? = some (some (.ref pl)))
    (k : ∀ H2 as2 prs2, FI K R H n c pl cl as2 prs2 H2 → prs2.length ≤ prs.length + 1 → D.nx σ H2) :
    tDrop (tBM K "list" rAppend (tVar 5) (tCons (tTup (tCons (tCall (sp_taken K) [] E0 (tCons (tVar 0) (tCons (tVar 3) (tNil)))) (tCons (tCall (sp_taken K) [] E0 (tCons (tVar 0) (tCons (tVar 3) (tNil)))) (tNil)))) (tNil))) D σ H' := by
  refine app_do h.pl' (ev_var s5) fun H1 e1 => tup_do (cons_do (taken_do (h.ex e1).rw.at1 (ev_var s0) (ev_var s3) (by omega) fun a H2 w2 ha => cons_do (taken_do w2.at1 (ev_var s0) (ev_var s3) (by omega) fun b H3 w3 hb => nil_do ⟨sz_of (by simp), fun p hp => ?_⟩)))
  have h4 := (((h.ex e1).step w2).step w3).ex (Ex.new (o := .tup [.int (a : Int), .int (b : Int)]) hp)
  refine ⟨pl, _, _, rfl, rfl, h4.pl', by rw [List.length_map, h4.at'.len]; exact sz_lt (by omega), ?_⟩
  exact k _ _ _ (h4.app (p := (a, b)) upd_same ⟨by omega, by omega⟩) (by rw [List.length_append]; exact Nat.le_refl _)
/-- a list of the law's own may change -/
theorem FI.mut {R : RowN} {H : Hp} {n : Nat} {c : Nat → Nat} {pl cl fl : Addr} {as : List Addr} {prs : List (Nat × Nat)} {H' : Hp} {xs : List V} {u : HO} (h : FI K R H n c pl cl as prs H') (hf : H fl = none) (n1 : fl ≠ pl) (n2 : fl ≠ cl) (hl : H' fl = some (.lst xs)) : FI K R H n c pl cl as prs (upd H' fl u) :=
  ⟨h.rw.mut hf, h.pn, h.cn, h.ne, by rw [upd_ne (Ne.symm n1)]; exact h.pl', by rw [upd_ne (Ne.symm n2)]; exact h.cl', h.at'.tups (Tups.upd (.of (.refl _)) hl fun xs z => (nomatch z)), h.lt⟩
def goodP (n : Nat) (c : Nat → Nat) (p : Pipe) : Prop := (p.one < n ∧ p.other < n) ∧ (1 ≤ p.give ∧ p.give ≤ 8 ∧ 1 ≤ p.eat ∧ p.eat ≤ 8) ∧ p.give * c p.one = p.eat * c p.other ∧ p.start ≤ 6
theorem PairsAt.getp {H : Hp} {as : List Addr} {prs : List (Nat × Nat)} (h : PairsAt H as prs) {i : Nat} {x : V} (hx : (as.map V.ref)[i]? = some x) : ∃ a p, x = .ref a ∧ prs[i]? = some p ∧ H a = some (.tup [.int (p.1 : Int), .int (p.2 : Int)]) := by
  rw [List.getElem?_map] at hx
  cases ha : as[i]? with
  | none => rw [ha] at hx; cases hx
  | some a =>
    rw [ha] at hx
    have hi : i < prs.length := by rw [← h.len]; exact (List.getElem?_eq_some_iff.mp ha).1
    exact ⟨a, prs[i], (Option.some.inj hx).symm, List.getElem?_eq_getElem hi, h.item i _ _ ha (List.getElem?_eq_getElem hi)⟩
/-- one pipe more -/
theorem fl_found {R : RowN} {H H' : Hp} {n : Nat} {c : Nat → Nat} {pl cl fl : Addr} {as as2 : List Addr} {prs : List (Nat × Nat)} {qs : List Pipe} {D : L2.Ends} {σ : L2.St} {a b : Nat} (hc : ∀ k, k < n → 1 ≤ c k ∧ c k ≤ 4) (h : FI K R H n c pl cl as prs H') (hf : H fl = none) (n1 : fl ≠ pl) (n2 : fl ≠ cl) (hfl : H' fl = some (.lst (as2.map V.ref))) (hps : PipesAt H' as2 qs) (hl : qs.length ≤ 10)
    (ha : a < n) (hb : b < n)
    (s0 : σ[0]? = some (some (.ref R.r))) (s2 : σ[2]? = some (some (.int 6))) (s7 : σ[7]? = some (some (.ref cl))) (s10 : σ[10]? = some (some (.ref fl))) (s11 : σ[11]? = some (some (.int (a : Int)))) (s12 : σ[12]? = some (some (.int (b : Int)))) (sl : σ.length = 15)
    (k : ∀ H2 as3 p y13 y14, FI K R H n c pl cl as prs H2 → H2 fl = some (.lst (as3.map V.ref)) → PipesAt H2 as3 (qs ++ [p]) → goodP n c p → D.nx ((σ.set 13 y13).set 14 y14) H2) :
    tSeq (tAsg (tCall sp_gcd [] E0 (tCons (tOp (rIx K) (tVar 7) (tVar 11)) (tCons (tOp (rIx K) (tVar 7) (tVar 12)) (tNil)))) (gName 13))
    (tSeq (tAsg (tCall (sp_pick K) [] E0 (tCons (tVar 0) (tCons (tLst (tCons (tC (.int 1)) (tCons (tC (.int 1)) (tCons (tC (.int 2)) (tNil))))) (tNil)))) (gName 14))
    (tDrop (tBM K "list" rAppend (tVar 10) (tCons (tTup (tCons (tVar 11) (tCons (tVar 12) (tCons (tOp (rI CDiv fun i j => .int (i / j)) (tOp (rI CMul fun i j => .int (i * j)) (tVar 14) (tOp (rIx K) (tVar 7) (tVar 12))) (tVar 13)) (tCons (tOp (rI CDiv fun i j => .int (i / j)) (tOp (rI CMul fun i j => .int (i * j)) (tVar 14) (tOp (rIx K) (tVar 7) (tVar 11))) (tVar 13)) (tCons (tCall (sp_taken K) [] E0 (tCons (tVar 0) (tCons (tOp (rI0 fun i j => .int (i + j)) (tVar 2) (tC (.int 1))) (tNil)))) (tNil))))))) (tNil))))) D σ H' := by
  have hca := hc a ha
  have hcb := hc b hb
  refine q_asg (ev_callV (ea_cons (ev_l a (ev_var s7) (ev_var s11) h.cl' (cV_get ha)) (ea_cons (ev_l b (ev_var s7) (ev_var s12) h.cl' (cV_get hb)) ea_nil)) sv_gcd) fun H1 e1 => ?_
  have h1 := h.ex e1
  have g1 := e1 _ _ hfl
  have hp1 := hps.mono e1
  have hs1 : ∀ {i : Nat}, i ≠ 13 → (σ.set 13 (some (.int (Nat.gcd (c a) (c b) : Int))))[i]? = σ[i]? := fun hi => List.getElem?_set_ne (Ne.symm hi)
  refine sqa_do (pick_do h1.rw.at1 (ev_var (by rw [hs1 (by decide)]; exact s0)) (el_lst (ea_cons ev_c (ea_cons ev_c (ea_cons ev_c ea_nil))) (by simp)) (by decide) fun x H2 w2 hx => ?_)
  obtain ⟨m, rfl, hm⟩ : ∃ m : Nat, x = .int (m : Int) ∧ (m = 1 ∨ m = 2) := by
    rcases List.mem_cons.mp hx with e | hx
    · exact ⟨1, e, .inl rfl⟩
    rcases List.mem_cons.mp hx with e | hx
    · exact ⟨1, e, .inl rfl⟩
    · exact ⟨2, List.mem_singleton.mp hx, .inr rfl⟩
  have h2 := h1.step w2
  have g2 := w2.get g1 (h.rw.at0.ne hf)
  have hp2 := hp1.tups w2.tups
  have hs2 : ∀ {i : Nat}, i ≠ 13 → i ≠ 14 → ((σ.set 13 (some (.int (Nat.gcd (c a) (c b) : Int)))).set 14 (some (.int (m : Int))))[i]? = σ[i]? := fun hi hj => by rw [List.getElem?_set_ne (Ne.symm hj), hs1 hi]
  have s13 : ((σ.set 13 (some (.int (Nat.gcd (c a) (c b) : Int)))).set 14 (some (.int (m : Int))))[13]? = some (some (.int (Nat.gcd (c a) (c b) : Int))) := by
    rw [List.getElem?_set_ne (by decide), List.getElem?_set_self (by omega)]
  have s14 : ((σ.set 13 (some (.int (Nat.gcd (c a) (c b) : Int)))).set 14 (some (.int (m : Int))))[14]? = some (some (.int (m : Int))) := by
    rw [List.getElem?_set_self (by rw [List.length_set]; omega)]
  have t0 := (hs2 (i := 0) (by decide) (by decide)).trans s0
  have t2 := (hs2 (i := 2) (by decide) (by decide)).trans s2
  have t7 := (hs2 (i := 7) (by decide) (by decide)).trans s7
  have t10 := (hs2 (i := 10) (by decide) (by decide)).trans s10
  have t11 := (hs2 (i := 11) (by decide) (by decide)).trans s11
  have t12 := (hs2 (i := 12) (by decide) (by decide)).trans s12
  have hmk := mk_pipe hca hcb hm
  have hg1 : 0 < Nat.gcd (c a) (c b) := Nat.gcd_pos_of_pos_left _ hca.1
  have hg2 : Nat.gcd (c a) (c b) ≤ c a := Nat.gcd_le_left _ hca.1
  have hdiv : ∀ {y i : Nat} {H3 : Hp}, Ex H2 H3 → ((σ.set 13 (some (.int (Nat.gcd (c a) (c b) : Int)))).set 14 (some (.int (m : Int))))[i]? = some (some (.int (y : Int))) → y < n → Ev (tOp (rI CDiv fun i j => .int (i / j)) (tOp (rI CMul fun i j => .int (i * j)) (tVar 14) (tOp (rIx K) (tVar 7) (tVar i))) (tVar 13)) ((σ.set 13 (some (.int (Nat.gcd (c a) (c b) : Int)))).set 14 (some (.int (m : Int)))) H3 (.int ((m * c y / Nat.gcd (c a) (c b) : Nat) : Int)) := fun {y i H3} e hi hy => by
    refine ev_is (ev_op (ev_op (ev_var s14) (ev_l y (ev_var t7) (ev_var hi) (e _ _ h2.cl') (cV_get hy)) (rv_I (.inl (by omega)))) (ev_var s13) (rv_I ⟨by omega, by omega⟩)) ?_
    show V.int ((m : Int) * (c y : Int) / (Nat.gcd (c a) (c b) : Int)) = _
    rw [Int.natCast_ediv, Int.natCast_mul]
  refine app_do g2 (ev_var t10) fun H3 e3 => tup_do (cons_do (ev_var t11 H3 (.refl H3) _ fun H4 e4 => cons_do (ev_var t12 H4 (.refl H4) _ fun H5 e5 => cons_do (hdiv ((e3.trans e4).trans e5) t12 hb H5 (.refl H5) _ fun H6 e6 => cons_do (hdiv (((e3.trans e4).trans e5).trans e6) t11 ha H6 (.refl H6) _ fun H7 e7 => cons_do ?_)))))
  have e37 := (((e3.trans e4).trans e5).trans e6).trans e7
  have h7 := h2.ex e37
  refine taken_do (m := 7) h7.rw.at1 (ev_var t0) (ev_op (ev_var t2) ev_c rv_I0) (by decide) fun st H8 w8 hst => nil_do ⟨sz_of (by simp), fun p hp => ?_⟩
  have e9 : Ex H8 (upd H8 p (.tup (pV ⟨a, b, m * c b / Nat.gcd (c a) (c b), m * c a / Nat.gcd (c a) (c b), st⟩))) := Ex.new hp
  have h9 := (h7.step w8).ex e9
  have g9 := e9 _ _ (w8.get (e37 _ _ g2) (h.rw.at0.ne hf))
  have hp9 := (hp2.mono e37).tups w8.tups |>.mono e9
  have hat9 : (upd H8 p (.tup (pV ⟨a, b, m * c b / Nat.gcd (c a) (c b), m * c a / Nat.gcd (c a) (c b), st⟩))) p = some (.tup (pV ⟨a, b, m * c b / Nat.gcd (c a) (c b), m * c a / Nat.gcd (c a) (c b), st⟩)) := upd_same
  have ht : Tups (upd H8 p (.tup (pV ⟨a, b, m * c b / Nat.gcd (c a) (c b), m * c a / Nat.gcd (c a) (c b), st⟩))) (upd (upd H8 p (.tup (pV ⟨a, b, m * c b / Nat.gcd (c a) (c b), m * c a / Nat.gcd (c a) (c b), st⟩))) fl (.lst (as2.map V.ref ++ [.ref p]))) := Tups.upd (.of (.refl _)) g9 fun xs z => nomatch z
  refine ⟨fl, _, _, rfl, rfl, g9, by rw [List.length_map, hps.len]; exact sz_lt (by omega), ?_⟩
  exact k _ (as2 ++ [p]) ⟨a, b, m * c b / Nat.gcd (c a) (c b), m * c a / Nat.gcd (c a) (c b), st⟩ _ _ (h9.mut hf n1 n2 g9) (by rw [upd_same, List.map_append]; rfl) ((hp9.tups ht).snoc (ht _ _ hat9)) ⟨⟨ha, hb⟩, hmk.1, hmk.2, by show st ≤ 6; omega⟩
theorem rd_law_flow : ∀ vs H Q E, sp_flow K vs H Q E → t_law_flow K (sp_taken K) (sp_pick K) sp_gcd { nx := fun _ H' => Q .non H', rt := Q } (start ["_law_row", "_law_most", "_law_top", "_law_many", "_law_way", "_law_pipes", "_law_k", "_law_counts_here", "_law_pair", "_law_turn", "_law_found", "_law_one", "_law_other", "_law_common", "_law_more"] vs) H := by
  rintro vs H Q E ⟨R, rfl, hat, q⟩
  unfold t_law_flow
  show tSeq _ _ _ ([some (.ref R.r), some (.int 5), some (.int 6), none, none, none, none, none, none, none, none, none, none, none, none] : L2.St) H
  refine seq_do (show tPar3 3 4 5 _ _ _ _ from cons_do (op_do (c_do (taken_do hat (ev_var rfl) (ev_var rfl) (by decide) fun d1 H1 w1 hd1 => ⟨_, _, rfl, rfl, cons_do (taken_do w1.at1 (ev_var rfl) ev_c (by decide) fun d2 H2 w2 hd2 => cons_do (el_nil H2 (.refl H2) _ fun pl H3 hpl e3 h3 => nil_do ⟨_, _, _, rfl, ?_⟩))⟩))))
  have w3 : Rw K R H H3 := (w1.trans w2).ex e3
  have hpl0 : H pl = none := (w1.trans w2).fresh hpl
  have hn : 1 ≤ 1 + d1 ∧ 1 + d1 ≤ 5 := by omega
  show tSeq _ _ _ (sgF R (1 + d1) d2 pl none none none none none none none none none) H3
  generalize 1 + d1 = n at hn
  refine sqa_do (lcw_do (m := n) (fun z => 1 ≤ z ∧ z ≤ 4) w3.at1 (ea_cons (ev_var rfl) ea_nil) (by omega) (fun _ => rfl) (fun i H4 w4 hi Q' q' => ?_) fun cl zs H4 w4 hcl h4 hzl hz => ?_)
  · refine op_do (c_do (call_do (cons_do (ev_var (i := 0) (v := .ref R.r) rfl H4 (.refl H4) _ fun H5 e5 => cons_do (pick_do (w4.ex e5).at1 (ev_var rfl) (el_lst (ea_cons ev_c (ea_cons ev_c (ea_cons ev_c ea_nil))) (by simp)) (by decide) fun x H6 w6 hx => nil_do ?_)))))
    obtain ⟨m, rfl, hm⟩ : ∃ m : Int, x = .int m ∧ 0 < m ∧ m ≤ 4 := by
      rcases List.mem_cons.mp hx with e | hx
      · exact ⟨1, e, by decide, by decide⟩
      rcases List.mem_cons.mp hx with e | hx
      · exact ⟨3, e, by decide, by decide⟩
      · exact ⟨4, List.mem_singleton.mp hx, by decide, by decide⟩
    have w46 := (Rw.of w4.at1 e5).trans w6
    exact ⟨R, m, rfl, w46.at1, hm.1, by omega, fun k H7 w7 hk => ⟨_, _, rfl, rfl, q' _ _ (w46.trans w7) ⟨by omega, by omega⟩⟩⟩
  obtain ⟨c, rfl, hc⟩ := zs_counts hzl hz
  have hcl0 : H cl = none := w3.fresh hcl
  have hne : pl ≠ cl := fun z => by rw [← z, h3] at hcl; cases hcl
  have hF0 : FI K R H n c pl cl [] [] H4 := ⟨w3.trans w4, hpl0, hcl0, hne, w4.get h3 (hat.ne hpl0), h4, ⟨rfl, fun i a p x => by cases x⟩, fun p hp => by simp at hp⟩
  show tSeq _ _ _ (sgF R n d2 pl none (some (.ref cl)) none none none none none none none) H4
  refine q_forR2 (lo := 1) (n := (n : Int)) (ea_cons ev_c (ea_cons (ev_var rfl) ea_nil)) (by omega) (fun i σ' H' => ∃ y6 y8 as prs, σ' = sgF R n d2 pl y6 (some (.ref cl)) y8 none none none none none none ∧ FI K R H n c pl cl as prs H' ∧ prs.length ≤ i)
    (fun H5 e5 => ⟨_, _, [], [], rfl, hF0.ex e5, Nat.le_refl _⟩) (fun i σ' H' hi p => ?_) fun σ' H' p => ?_
  · obtain ⟨y6, y8, as, prs, rfl, hF, hl⟩ := p
    exact fl_chain (i := i) hn.2 (by omega) hF (by omega) fun H5 y8 as2 prs2 hF2 hl2 => ⟨_, _, as2, prs2, rfl, hF2, by omega⟩
  obtain ⟨y6, y8, as, prs, rfl, hF, hl⟩ := p
  have hl4 : prs.length ≤ 4 := by omega
  refine seq_do (for1_word (fun m H5 => m ≤ 2 ∧ FI K R H n c pl cl as prs H5) (fun Q' q' => ifE_do (et_test (ev_op (ev_var rfl) ev_c rv_I0) H' (.refl H') _ fun H5 e5 => ?_)) fun m H5 ⟨hm, hF5⟩ => ⟨by omega, fun i σ' H6 => ∃ y9 as prs, σ' = sgF R n d2 pl y6 (some (.ref cl)) y8 y9 none none none none none ∧ FI K R H n c pl cl as prs H6 ∧ prs.length ≤ 4 + i, ⟨_, as, prs, rfl, hF5, hl4⟩, fun i σ' H6 hi p => ?_, fun σ' H6 p => ?_⟩)
  · split
    · exact taken_do (hF.ex e5).rw.at1 (ev_var rfl) ev_c (by decide) fun m H6 w6 hm => q' m H6 ⟨by omega, (hF.ex e5).step w6⟩
    · exact c_do (q' 0 H5 ⟨by omega, hF.ex e5⟩)
  · obtain ⟨y9, as, prs, rfl, hF, hl⟩ := p
    exact fl_extra hn hF (by omega) rfl rfl rfl fun H7 as2 prs2 hF2 hl2 => ⟨_, as2, prs2, rfl, hF2, by omega⟩
  clear hF hl hl4
  obtain ⟨y9, as, prs, rfl, hF, hl⟩ := p
  have hl6 : prs.length ≤ 6 := by omega
  show tSeq _ _ _ (sgF R n d2 pl y6 (some (.ref cl)) y8 y9 none none none none none) H6
  refine q_asgL el_nil fun fl H7 hfl e7 h7 => ?_
  have hfl0 : H fl = none := hF.rw.fresh hfl
  have n1 : fl ≠ pl := fun z => by rw [z, hF.pl'] at hfl; cases hfl
  have n2 : fl ≠ cl := fun z => by rw [z, hF.cl'] at hfl; cases hfl
  have hF7 := hF.ex e7
  show tSeq _ _ _ (sgF R n d2 pl y6 (some (.ref cl)) y8 y9 (some (.ref fl)) none none none none) H7
  refine q_forL (K := K) (a := pl) (xs := as.map V.ref) (ev_var rfl) (SqL.of hF7.pl') (fun i σ' H' => ∃ y11 y12 y13 y14 as2 qs, σ' = sgF R n d2 pl y6 (some (.ref cl)) y8 y9 (some (.ref fl)) y11 y12 y13 y14 ∧ FI K R H n c pl cl as prs H' ∧ H' fl = some (.lst (as2.map V.ref)) ∧ PipesAt H' as2 qs ∧ (∀ p ∈ qs, goodP n c p) ∧ qs.length = i)
    (fun H8 e8 => ⟨_, _, _, _, [], [], rfl, hF7.ex e8, e8 _ _ h7, ⟨rfl, fun i a p x => by cases x⟩, fun p hp => by simp at hp, rfl⟩) (fun i σ' H' _ p => let ⟨_, _, _, _, _, _, _, h, _⟩ := p; SqL.of h.pl') (fun i x σ' H' hx p => ?_) fun σ' H' p => ?_
  · obtain ⟨y11, y12, y13, y14, as2, qs, rfl, hF', hfl', hps, hgood, hql⟩ := p
    obtain ⟨ad, pr, rfl, hpr, hatp⟩ := hF'.at'.getp hx
    have hlt := hF'.lt pr (List.mem_of_getElem? hpr)
    have hil : i < prs.length := (List.getElem?_eq_some_iff.mp hpr).1
    refine ⟨ad, _, rfl, SqT.of hatp, rfl, _, _, rfl, _, _, rfl, rfl, ?_⟩
    refine fl_found (σ := sgF R n d2 pl y6 (some (.ref cl)) y8 y9 (some (.ref fl)) (some (.int (pr.1 : Int))) (some (.int (pr.2 : Int))) y13 y14) hc hF' hfl0 n1 n2 hfl' hps (by omega) hlt.1 hlt.2 rfl rfl rfl rfl rfl rfl rfl fun H8 as3 p y13 y14 hF8 h8 hp8 hg8 => ⟨_, _, _, _, as3, qs ++ [p], rfl, hF8, h8, hp8, fun x hx => ?_, by rw [List.length_append, hql]; rfl⟩
    rcases List.mem_append.mp hx with hx | hx
    · exact hgood x hx
    · rw [List.mem_singleton.mp hx]; exact hg8
  · obtain ⟨y11, y12, y13, y14, as2, qs, rfl, hF', hfl', hps, hgood, hql⟩ := p
    rw [List.length_map, hF'.at'.len] at hql
    refine ret_do (tup_do (cons_do (ev_var (i := 3) rfl H' (.refl H') _ fun H8 e8 => cons_do (eu_tupL (ev_var (i := 10) rfl) (e8 _ _ hfl') H8 (.refl H8) _ fun tq H9 htq e9 h9 => nil_do ⟨sz_of (by simp), fun p hp => ?_⟩))))
    have eX := (e8.trans e9).trans (Ex.new (o := .tup [.int (n : Int), .ref tq]) hp)
    refine q (.ref p) n qs c _ (hF'.ex eX).rw ⟨p, tq, as2, rfl, upd_same, Ex.new hp _ _ h9, hps.mono eX⟩ ⟨hn.1, hn.2, by omega, fun p hp => (hgood p hp).1, fun p hp => (hgood p hp).2.1, hc, fun p hp => (hgood p hp).2.2.1⟩ (by omega) fun p hp => (hgood p hp).2.2.2
end
end K8

-- K8RdO
/-! K8RdO: a flow with other starts; the law's live flow. -/
namespace K8
open PySem PySem.Spec L2 Evl
section
variable {K : PySem.W.Frag} {n : Nat} {ps : List Pipe}
/-- [t for k in range(m)], t a new pipe -/
theorem lcu_do {ta : TA} {j : Nat} {vs : List Nat} {te : TE} {σ : L2.St} {H : Hp} {Q : VK} (qs : List Pipe) (h : EvA ta σ H [.int (qs.length : Int)]) (hz : qs.length ≤ 40000) (hw : ∀ x, wipe ((wipe σ vs).set j (some x)) vs = wipe σ vs)
    (hs : ∀ (i : Nat) p H1, Ex H H1 → qs[i]? = some p → EvU te ((wipe σ vs).set j (some (.int (i : Int)))) H1 (pV p))
    (q : ∀ l as H', Ex H H' → H l = none → H' l = some (.lst (as.map V.ref)) → PipesAt H' as qs → Q (.ref l) H') :
    tLc (iRng1 ta) (gName j) tYes te vs σ H Q := h H (.refl H) _ fun H1 e1 => ⟨(qs.length : Int), rfl, by omega, by omega, fun Dl hD => by
  have em : ((qs.length : Int)).toNat = qs.length := by omega
  rw [em]
  refine lc_it (walk_range (lo := 0) (n := qs.length)) (fun i H' => Ex H1 H' ∧ ∃ as : List Addr, H' Dl = some (.lst (as.map V.ref)) ∧ PipesAt H' as (qs.take i)) ⟨Ex.new hD, [], upd_same, ⟨rfl, fun i a p x => by cases x⟩⟩ (fun _ _ _ _ => True.intro) (fun i x H' H'' hi p y => ?_) fun H' p => ?_
  · obtain ⟨rfl, hx⟩ := y
    obtain ⟨p1, as, p2, p3⟩ := p
    have ex : x = .int (i : Int) := hx.trans (congrArg V.int (Int.zero_add _))
    subst ex
    have hp := List.getElem?_eq_getElem hi
    refine ⟨hw _, et_yes (H := H'') H'' (.refl _) _ fun H3 e3 => ?_⟩
    refine hs i _ H3 ((e1.trans p1).trans e3) hp H3 (.refl H3) _ fun a H4 ha e4 h4 => ?_
    have p24 := e4 _ _ (e3 _ _ p2)
    have ht : Tups H4 (upd H4 Dl (.lst (as.map V.ref ++ [.ref a]))) := Tups.upd (.of (.refl _)) p24 fun xs z => nomatch z
    have hl := p3.len
    rw [List.length_take] at hl
    refine ⟨as.map V.ref, p24, by rw [List.length_map]; exact sz_lt (by omega), Ex.mut ((p1.trans e3).trans e4) hD, as ++ [a], by rw [upd_same, List.map_append]; rfl, ?_⟩
    rw [List.take_add_one, hp]
    exact ((p3.mono (e3.trans e4)).tups ht).snoc (ht _ _ h4)
  · obtain ⟨p1, as, p2, p3⟩ := p
    rw [List.take_length] at p3
    exact q Dl as H' (e1.trans p1) (fresh_back e1 hD) p2 p3⟩
/-! ### law_with -/
def sp_with : Sp := fun vs H Q _ => ∃ (v : V) (n : Nat) (ps : List Pipe) (s : Addr) (xs : List V) (f : Nat → Nat), vs = [v, .ref s] ∧ IsFlow H v n ps ∧ ps.length ≤ 16 ∧ H s = some (.tup xs) ∧ (∀ (k : Nat) p, ps[k]? = some p → xs[k]? = some (.int (f k : Int))) ∧
  ∀ v' H', Ex H H' → IsFlow H' v' n (withF ps f) → Q v' H'
theorem len_with : ∀ vs H Q E, sp_with vs H Q E → vs.length = 2 := by rintro vs H Q E ⟨v, n, ps, s, xs, f, rfl, _⟩; rfl
theorem rd_law_with : ∀ vs H Q E, sp_with vs H Q E → t_law_with K { nx := fun _ H' => Q .non H', rt := Q } (start ["_law_flow_here", "_law_some_here", "_law_k"] vs) H := by
  rintro vs H Q E ⟨v, n, ps, s, xs, f, rfl, ⟨t, q0, as, rfl, F⟩, hl, hs, hx, q⟩
  unfold t_law_with
  show tRet _ _ ([some (.ref t), some (.ref s), none] : L2.St) H
  refine ret_do (tup_do (cons_do (ev_f0 (t0 := t) rfl F H (.refl H) _ fun H1 e1 => cons_do (cb_do (cons_do ?_)))))
  have F1 := F.mono e1
  refine lcu_do (withF ps f) (ea_cons (ev_is (ev_lenT (ev_f1 (t0 := t) rfl F1) F1.row) (by rw [List.length_map, F.pipes.len, withF_len])) ea_nil) (by rw [withF_len]; omega) (fun _ => rfl) (fun i p H2 e2 hp => ?_) fun l as2 H2 e2 hl2 h2 hp2 => nil_do ⟨l, _, rfl, .inl ⟨SqL.of h2, fun p hp => nil_do ⟨sz_of (by simp), fun p2 hp2' => ?_⟩⟩⟩
  · have hil : i < ps.length := by rw [← withF_len (f := f)]; exact (List.getElem?_eq_some_iff.mp hp).1
    have hp0 := List.getElem?_eq_getElem hil
    rw [withF_get hp0] at hp
    cases hp
    obtain ⟨a, ha, hat⟩ := F.pipes.get hp0
    have F2 := F1.mono e2
    have hs2 := (e1.trans e2) _ _ hs
    have hat2 := (e1.trans e2) _ _ hat
    have h1 : EvU (tSl (rSlA K) (tOp (rIx K) (tOp (rIx K) (tVar 0) (tC (.int 1))) (tVar 2)) tNoPart (tPart (tC (.int 4)))) ([some (.ref t), some (.ref s), some (.int (i : Int))] : L2.St) H2 (cutV (pV ps[i]) none (some 4)) :=
      eu_slice (ev_t i (ev_f1 rfl F2) (ev_var rfl) F2.row (by rw [List.getElem?_map, ha]; rfl)) hat2 eo_none (eo_some ev_c) (by show ¬ (HT.sIx 5 0 none = 0 ∧ HT.sIx 5 5 (some 4) = 5); decide)
    exact eu_cat h1 (fun H3 e3 => eu_tup (ea_cons (ev_t i (ev_var rfl) (ev_var rfl) (e3 _ _ hs2) (hx i _ hp0)) ea_nil) (by simp)) (by show (cutV (pV ps[i]) none (some 4)).length + 1 ≤ 100000; have := cutV_length (pV ps[i]) none (some 4); have : (pV ps[i]).length = 5 := rfl; omega)
  · have e2' := (e1.trans e2).trans (Ex.new (o := .tup (as2.map V.ref)) hp)
    exact q _ _ (e2'.trans (Ex.new hp2')) ⟨p2, p, as2, rfl, upd_same, Ex.new hp2' _ _ upd_same, hp2.mono ((Ex.new hp).trans (Ex.new hp2'))⟩
theorem ep_with {σ : L2.St} {H : Hp} {v : V} {te tf : TE} {xs : List V} {f : Nat → Nat} (hv : Ev te σ H v) (F : IsFlow H v n ps) (hl : ps.length ≤ 16) (hs : ∀ H1, Ex H H1 → EvU tf σ H1 xs) (hx : ∀ (k : Nat) p, ps[k]? = some p → xs[k]? = some (.int (f k : Int))) :
    EvP (tCall sp_with [] E0 (tCons te (tCons tf tNil))) σ H (fun v' H' => IsFlow H' v' n (withF ps f)) := fun H1 e1 Q q =>
  call_do (cons_do (hv H1 e1 _ fun H2 e2 => cons_do (hs H2 (e1.trans e2) H2 (.refl H2) _ fun s H3 hs3 e3 h3 => nil_do ⟨v, n, ps, s, xs, f, rfl, F.mono ((e1.trans e2).trans e3), hl, h3, hx, fun v' H' e' h' => q v' H' ((e2.trans e3).trans e') h'⟩)))
/-! ### law_live -/
theorem cut_lo {xs : List V} {k : Nat} (h : k ≤ xs.length) : cutV xs none (some (k : Int)) = xs.take k := by
  unfold cutV
  rw [HT.sIx_nat, HT.sIx_none, Nat.min_eq_left h, List.drop_zero, Nat.sub_zero]
theorem cut_hi {xs : List V} {k : Nat} (h : k ≤ xs.length) : cutV xs (some (k : Int)) none = xs.drop k := by
  unfold cutV
  rw [HT.sIx_nat, HT.sIx_none, Nat.min_eq_left h, List.take_of_length_le (by rw [List.length_drop]; exact Nat.le_refl _)]
theorem tV_get' {d : Nat → Nat} {k : Nat} {p : Pipe} (h : ps[k]? = some p) : ((tZ ps d).map V.int)[k]? = some (.int (tok d p)) := by
  unfold tZ
  rw [List.map_map, List.getElem?_map, h]
  rfl
abbrev sgL (R : RowN) (v : V) (cl : Addr) (y5 y6 y7 y8 y9 y10 : Option V) : L2.St := [some (.ref R.r), some (.int 5), some (.int 6), some v, some (.ref cl), y5, y6, y7, y8, y9, y10]
/-- the flow as it stands -/
structure LV (K : PySem.W.Frag) (R : RowN) (H : Hp) (n : Nat) (ps : List Pipe) (L : Nat → Nat) (cl : Addr) (b : Nat) (v : V) (qs : List Pipe) (H' : Hp) : Prop where
  rw : Rw K R H H'
  cn : H cl = none
  cl' : H' cl = some (.lst ((cZ n L).map V.int))
  fl : IsFlow H' v n qs
  same : Same ps qs
  st : ∀ p ∈ qs, p.start ≤ b
theorem LV.step {R : RowN} {H H' H2 : Hp} {n : Nat} {ps qs : List Pipe} {L : Nat → Nat} {cl : Addr} {b : Nat} {v : V} (h : LV K R H n ps L cl b v qs H') (w : Rw K R H' H2) : LV K R H n ps L cl b v qs H2 :=
  ⟨h.rw.trans w, h.cn, w.get h.cl' (h.rw.at0.ne h.cn), h.fl.tups w.tups, h.same, h.st⟩
theorem LV.ex {R : RowN} {H H' H2 : Hp} {n : Nat} {ps qs : List Pipe} {L : Nat → Nat} {cl : Addr} {b : Nat} {v : V} (h : LV K R H n ps L cl b v qs H') (e : Ex H' H2) : LV K R H n ps L cl b v qs H2 := h.step (.of h.rw.at1 e)
theorem LV.with {R : RowN} {H H' : Hp} {n : Nat} {ps qs : List Pipe} {L f : Nat → Nat} {cl : Addr} {b b2 : Nat} {v v2 : V} (h : LV K R H n ps L cl b v qs H') (hf : IsFlow H' v2 n (withF qs f)) (hb : ∀ (k : Nat) p, qs[k]? = some p → f k ≤ b2) : LV K R H n ps L cl b2 v2 (withF qs f) H' :=
  ⟨h.rw, h.cn, h.cl', hf, h.same.trans .withF, fun p hp => by
    obtain ⟨k, p0, h1, rfl⟩ := withF_mem hp
    exact hb k p0 h1⟩
theorem lv_turn {R : RowN} {H H' : Hp} {n : Nat} {ps qs : List Pipe} {c0 L : Nat → Nat} {cl : Addr} {b : Nat} {v : V} {y5 y6 y7 y8 y9 : Option V} {D : L2.Ends} (w : WF n ps c0) (hl : ps.length ≤ 6) (hsum : sumTo n L ≤ 10000) (h : LV K R H n ps L cl b v qs H')
    (k : ∀ H2 v2 qs2 y5 y6 y7 y8 y9, LV K R H n ps L cl (b + 8) v2 qs2 H2 → D.nx (sgL R v2 cl y5 y6 y7 y8 y9 none) H2) :
    tSeq (tAsg (tCall (sp_do K) [] E0 (tCons (tVar 3) (tCons (tVar 4) (tNil)))) (gTup K 2 (gCons (gName 6) (gCons (gName 7) gNil))))
    (tSeq (tAsg (tLc (iRng1 (tCons (tCB (Evl.rLenS K) (tCons (tVar 7) (tNil))) (tNil))) (gName 8) (tAnd (tTest (tOp (rI0 fun i j => .bl (decide (i < j))) (tOp (rIx K) (tVar 6) (tOp (rIx K) (tOp (rIx K) (tOp (rIx K) (tVar 3) (tC (.int 1))) (tVar 8)) (tC (.int 1)))) (tOp (rIx K) (tVar 4) (tOp (rIx K) (tOp (rIx K) (tOp (rIx K) (tVar 3) (tC (.int 1))) (tVar 8)) (tC (.int 1)))))) (tTest (tOp (rI0 fun i j => .bl (decide (i < j))) (tOp (rIx K) (tVar 7) (tVar 8)) (tOp (rIx K) (tOp (rIx K) (tOp (rIx K) (tVar 3) (tC (.int 1))) (tVar 8)) (tC (.int 3)))))) (tVar 8) [8]) (gName 9))
    (tIfS (tTest (tOp (rNeD K) (tVar 9) (tLst (tNil)))) (tSeq (tAsg (tCall (sp_pick K) [] E0 (tCons (tVar 0) (tCons (tVar 9) (tNil)))) (gName 8))
    (tAsg (tCall sp_with [] E0 (tCons (tVar 3) (tCons (tOp (rCatA K) (tOp (rCatA K) (tSl (rSlA K) (tCall sp_marks [] E0 (tCons (tVar 3) (tNil))) tNoPart (tPart (tVar 8))) (tTup (tCons (tOp (rI0 fun i j => .int (i + j)) (tOp (rIx K) (tOp (rIx K) (tOp (rIx K) (tVar 3) (tC (.int 1))) (tVar 8)) (tC (.int 4))) (tOp (rIx K) (tOp (rIx K) (tOp (rIx K) (tVar 3) (tC (.int 1))) (tVar 8)) (tC (.int 3)))) (tNil)))) (tSl (rSlA K) (tCall sp_marks [] E0 (tCons (tVar 3) (tNil))) (tPart (tOp (rI0 fun i j => .int (i + j)) (tVar 8) (tC (.int 1)))) tNoPart)) (tNil)))) (gName 3))) (tNext))) D
      (sgL R v cl y5 y6 y7 y8 y9 none) H' := by
  have wq := h.same.wf w
  have hql : qs.length ≤ 6 := by rw [h.same.1]; exact hl
  have hn5 := w.n5
  refine q_asgG (ep_do (ea_cons (ev_var rfl) (ea_cons (ev_var rfl) ea_nil)) h.fl (by omega) (by omega) (SqA.l h.cl') hsum) fun u H1 e1 ⟨p, dl, st, d, eu, hdl, hp, hd, hst, hR, hle, hstuck⟩ => ⟨p, _, eu, SqT.of hp, rfl, _, _, rfl, _, _, rfl, rfl, ?_⟩
  have h1 := h.ex e1
  obtain ⟨t, q0, as, ev, F⟩ := id h1.fl
  show tSeq _ _ _ (sgL R v cl y5 (some (.ref dl)) (some (.ref st)) y8 y9 none) H1
  have hpk : ∀ {σ : L2.St} {H2 : Hp} {i : Nat} {p : Pipe}, Ex H1 H2 → σ[3]? = some (some v) → σ[8]? = some (some (.int (i : Int))) → qs[i]? = some p → ∃ a, H2 a = some (.tup (pV p)) ∧ Ev (tOp (rIx K) (tOp (rIx K) (tVar 3) (tC (.int 1))) (tVar 8)) σ H2 (.ref a) := fun {σ H2 i p} e h3 h8 hq => by
    obtain ⟨a, ha, hat⟩ := F.pipes.get hq
    have F2 := F.mono e
    exact ⟨a, e _ _ hat, ev_t i (ev_f1 (by rw [h3, ev]) F2) (ev_var h8) F2.row (by rw [List.getElem?_map, ha]; rfl)⟩
  have hleft := el_lcR (σ := sgL R v cl y5 (some (.ref dl)) (some (.ref st)) y8 y9 none) (H := H1) (ta := tCons (tCB (Evl.rLenS K) (tCons (tVar 7) (tNil))) (tNil)) (m := qs.length) (j := 8) (vs := [8])
    (tt := tAnd (tTest (tOp (rI0 fun i j => .bl (decide (i < j))) (tOp (rIx K) (tVar 6) (tOp (rIx K) (tOp (rIx K) (tOp (rIx K) (tVar 3) (tC (.int 1))) (tVar 8)) (tC (.int 1)))) (tOp (rIx K) (tVar 4) (tOp (rIx K) (tOp (rIx K) (tOp (rIx K) (tVar 3) (tC (.int 1))) (tVar 8)) (tC (.int 1)))))) (tTest (tOp (rI0 fun i j => .bl (decide (i < j))) (tOp (rIx K) (tVar 7) (tVar 8)) (tOp (rIx K) (tOp (rIx K) (tOp (rIx K) (tVar 3) (tC (.int 1))) (tVar 8)) (tC (.int 3))))))
    (te := tVar 8) (fun k => match qs[k]? with | some p => decide ((d p.other : Int) < (L p.other : Int)) && decide (tok d p < (p.eat : Int)) | none => false) (fun (k : Nat) => V.int (k : Int))
    (ea_cons (ev_is (ev_lenT (ev_var rfl) hst) (by rw [tV_len])) ea_nil) (by omega) (fun _ => rfl)
    (fun i H2 e2 hi => by
      have hq := List.getElem?_eq_getElem hi
      have hlt := (wq.ends _ (List.getElem_mem hi)).2
      obtain ⟨a, hat, hev⟩ := hpk (σ := ((wipe (sgL R v cl y5 (some (.ref dl)) (some (.ref st)) y8 y9 none) [8]).set 8 (some (.int (i : Int))))) e2 rfl rfl hq
      rw [hq]
      have ho := ev_t (K := K) 1 hev ev_c hat rfl
      exact et_and (et_test (ev_op (ev_l _ (ev_var rfl) ho (e2 _ _ hd) (cV_get hlt)) (ev_l _ (ev_var rfl) ho (e2 _ _ h1.cl') (cV_get hlt)) rv_I0)) fun _ => et_test (ev_op (ev_t i (ev_var rfl) (ev_var rfl) (e2 _ _ hst) (tV_get' hq)) (ev_t 3 hev ev_c hat rfl) rv_I0)) (fun i H2 e2 hi _ => ev_var rfl)
  rw [← nV_eq] at hleft
  refine q_asgL hleft fun lf H2 hlf e2 h2 => ?_
  generalize hlfs : (List.range qs.length).filter (fun k => match qs[k]? with | some p => decide ((d p.other : Int) < (L p.other : Int)) && decide (tok d p < (p.eat : Int)) | none => false) = lfs at h2
  have hmem : ∀ k ∈ lfs, k < qs.length := fun k hk => by
    rw [← hlfs] at hk
    exact List.mem_range.mp (List.mem_filter.mp hk).1
  have hlfl : lfs.length ≤ qs.length := by
    rw [← hlfs]
    refine Nat.le_trans (List.length_filter_le _ _) ?_
    rw [List.length_range]; exact Nat.le_refl _
  have hl2 := h1.ex e2
  show tIfS _ _ _ _ (sgL R v cl y5 (some (.ref dl)) (some (.ref st)) y8 (some (.ref lf)) none) H2
  refine s_when (b := !decide (nZ lfs = [])) (et_test (ev_neNil' (ev_var rfl) h2)) (fun hb H3 e3 => ?_) fun hb H3 e3 => k H3 v qs _ _ _ _ _ ?_
  · have hnn : lfs ≠ [] := fun z => by rw [z] at hb; cases hb
    have h3 := hl2.ex e3
    have hlf3 := e3 _ _ h2
    refine sqa_do (pick_doL h3.rw.at1 (ev_var rfl) (ev_var (i := 9) rfl) hlf3 (h1.rw.at1.ne hlf) ⟨by rw [nV_len]; exact List.length_pos_iff.mpr hnn, by rw [nV_len]; omega⟩ fun x H4 w4 hx => ?_)
    obtain ⟨kk, rfl, hkk⟩ : ∃ kk : Nat, x = .int (kk : Int) ∧ kk < qs.length := by
      rw [nV_eq] at hx
      obtain ⟨kk, h1, h2⟩ := List.mem_map.mp hx
      exact ⟨kk, h2.symm, hmem kk h1⟩
    have h4 := h3.step w4
    have hq := List.getElem?_eq_getElem hkk
    have F4 := F.tups (Rw.tups ((Rw.of h1.rw.at1 (e2.trans e3)).trans w4))
    obtain ⟨a, ha, hat⟩ := F4.pipes.get hq
    show tAsg _ _ _ (sgL R v cl y5 (some (.ref dl)) (some (.ref st)) (some (.int (kk : Int))) (some (.ref lf)) none) H4
    have hzl : ((tZ qs zeroD).map V.int).length = qs.length := tV_len
    have hpipe : ∀ {H5 : Hp}, Ex H4 H5 → Ev (tOp (rIx K) (tOp (rIx K) (tVar 3) (tC (.int 1))) (tVar 8)) (sgL R v cl y5 (some (.ref dl)) (some (.ref st)) (some (.int (kk : Int))) (some (.ref lf)) none) H5 (.ref a) := fun {H5} e5 =>
      ev_t kk (ev_f1 (by rw [ev]; rfl) (F4.mono e5)) (ev_var rfl) (F4.mono e5).row (by rw [List.getElem?_map, ha]; rfl)
    have hsome : ∀ {H5 : Hp}, Ex H4 H5 → EvU (tCall sp_marks [] E0 (tCons (tVar 3) (tNil))) (sgL R v cl y5 (some (.ref dl)) (some (.ref st)) (some (.int (kk : Int))) (some (.ref lf)) none) H5 ((tZ qs zeroD).map V.int) := fun {H5} e5 =>
      eu_callU (ea_cons (ev_var rfl) ea_nil) (su_marks (h4.fl.mono e5) (by omega))
    refine s_asgP (ep_with (f := fun j => match qs[j]? with | some p => if j = kk then p.start + p.eat else p.start | none => 0) (ev_var (i := 3) rfl) h4.fl (by omega) (fun H5 e5 => eu_cat (eu_cat (eu_sliceN (hsome e5) (fun _ _ => eo_none) (fun _ _ => eo_some (ev_var rfl)) (by
        rw [HT.sIx_nat, hzl]
        intro z
        have := z.2
        omega)) (fun H6 e6 => eu_tup (ea_cons (ev_op (ev_t 4 (hpipe (e5.trans e6)) ev_c ((e5.trans e6) _ _ hat) rfl) (ev_t 3 (hpipe (e5.trans e6)) ev_c ((e5.trans e6) _ _ hat) rfl) rv_I0) ea_nil) (by simp)) (by
        have := cutV_length ((tZ qs zeroD).map V.int) none (some (kk : Int))
        show _ + 1 ≤ _
        omega)) (fun H6 e6 => eu_sliceN (hsome (e5.trans e6)) (fun _ _ => eo_some (i := ((kk + 1 : Nat) : Int)) (ev_op (ev_var rfl) ev_c rv_I0)) (fun _ _ => eo_none) (by
        rw [HT.sIx_nat, hzl]
        intro z
        have := z.1
        omega)) (by
        have := cutV_length ((tZ qs zeroD).map V.int) none (some (kk : Int))
        have := cutV_length ((tZ qs zeroD).map V.int) (some ((kk + 1 : Nat) : Int)) none
        rw [List.length_append]
        show _ + 1 + _ ≤ _
        omega)) fun j p hj => ?_) fun v2 H5 e5 hv2 => k H5 v2 _ _ _ _ _ _ ((h4.ex e5).with hv2 fun j p hj => ?_)
    · rw [hj, cut_lo (by omega), cut_hi (by omega)]
      have htl : (((tZ qs zeroD).map V.int).take kk).length = kk := by rw [List.length_take, hzl]; omega
      have htok : ∀ p : Pipe, tok zeroD p = (p.start : Int) := fun p => by simp [tok, zeroD]
      by_cases h1 : j < kk
      · rw [List.append_assoc, List.getElem?_append_left (by omega), List.getElem?_take, if_pos h1, tV_get' hj, htok]
        show _ = some (V.int ((if j = kk then p.start + p.eat else p.start : Nat) : Int))
        rw [if_neg (by omega)]
      · by_cases h2 : j = kk
        · subst h2
          rw [hq] at hj
          cases hj
          rw [List.append_assoc, List.getElem?_append_right (by omega), htl, Nat.sub_self]
          show _ = some (V.int ((if j = j then (qs[j]).start + (qs[j]).eat else (qs[j]).start : Nat) : Int))
          rw [if_pos rfl]
          rfl
        · rw [List.getElem?_append_right (by rw [List.length_append, htl]; show kk + 1 ≤ j; omega), List.length_append, htl, List.getElem?_drop]
          show ((tZ qs zeroD).map V.int)[kk + 1 + (j - (kk + 1))]? = _
          rw [show kk + 1 + (j - (kk + 1)) = j by omega, tV_get' hj, htok]
          show _ = some (V.int ((if j = kk then p.start + p.eat else p.start : Nat) : Int))
          rw [if_neg h2]
    · show (match qs[j]? with | some p => if j = kk then p.start + p.eat else p.start | none => 0) ≤ b + 8
      rw [hj]
      have h1 := h4.st p (List.mem_of_getElem? hj)
      have h2 := wq.rates p (List.mem_of_getElem? hj)
      show (if j = kk then p.start + p.eat else p.start) ≤ b + 8
      split <;> omega
  · have h3 := hl2.ex e3
    exact ⟨h3.rw, h3.cn, h3.cl', h3.fl, h3.same, fun p hp => Nat.le_trans (h3.st p hp) (by omega)⟩
def sp_live (K : PySem.W.Frag) : Sp := fun vs H Q _ => ∃ R : RowN, vs = [.ref R.r, .int 5, .int 6] ∧ RowAt K H R ∧ ∀ v n ps c0 H', Rw K R H H' → IsFlow H' v n ps → WF n ps c0 → (∀ p ∈ ps, p.start ≤ 99999) → Reach n ps (lrep n ps c0) → Q v H'
theorem len_live : ∀ vs H Q E, sp_live K vs H Q E → vs.length = 3 := by rintro vs H Q E ⟨R, rfl, _⟩; rfl
theorem lrep_sum {c0 : Nat → Nat} (w : WF n ps c0) : sumTo n (lrep n ps c0) ≤ 10000 := by
  have h1 := sumTo_bound (n := n) fun k _ => w.lrep_le k
  have h2 : n * 4 ≤ 5 * 4 := Nat.mul_le_mul_right _ w.n5
  omega
theorem rd_law_live : ∀ vs H Q E, sp_live K vs H Q E → t_law_live K (sp_flow K) sp_lround (sp_do K) (sp_pick K) sp_marks sp_with { nx := fun _ H' => Q .non H', rt := Q } (start ["_law_row", "_law_most", "_law_top", "_law_flow_here", "_law_counts_here", "_law_turn", "_law_done", "_law_some_here", "_law_k", "_law_left", "_law_pipe"] vs) H := by
  rintro vs H Q E ⟨R, rfl, hat, q⟩
  unfold t_law_live
  show tSeq _ _ _ ([some (.ref R.r), some (.int 5), some (.int 6), none, none, none, none, none, none, none, none] : L2.St) H
  refine sqa_do (call_do (ea_cons (ev_var (i := 0) (v := .ref R.r) rfl) (ea_cons (ev_var (i := 1) (v := .int 5) rfl) (ea_cons (ev_var (i := 2) (v := .int 6) rfl) ea_nil)) H (.refl H) _ fun H0 e0 => ⟨R, rfl, hat.mono e0, fun v n ps c0 H1 w1 F1 wf hl hst => ?_⟩))
  have w1' := (Rw.of hat e0).trans w1
  have hn5 := wf.n5
  show tSeq _ _ _ ([some (.ref R.r), some (.int 5), some (.int 6), some v, none, none, none, none, none, none, none] : L2.St) H1
  refine q_asgL (el_callL (ea_cons (ev_var rfl) ea_nil) (sl_lround F1 wf)) fun cl H2 hcl e2 h2 => ?_
  have hsum := lrep_sum wf
  have hlv : LV K R H n ps (lrep n ps c0) cl (6 + 8 * 0) v ps H2 := ⟨w1'.ex e2, w1'.fresh hcl, h2, F1.mono e2, .refl, hst⟩
  have hLo : ∀ k, n ≤ k → lrep n ps c0 k = 0 := fun k hk => lrep_out hk
  have hfin : ∀ v qs H3 b, LV K R H n ps (lrep n ps c0) cl b v qs H3 → b ≤ 99999 → Reach n qs (lrep n ps c0) → ∀ H4, Ex H3 H4 → Q v H4 := fun v qs H3 b h hb hr H4 e4 =>
    q v n qs c0 H4 (h.ex e4).rw (h.ex e4).fl (h.same.wf wf) (fun p hp => Nat.le_trans (h.st p hp) hb) (by rw [h.same.lrep]; exact hr)
  generalize hL : lrep n ps c0 = L at *
  show tSeq _ _ _ (sgL R v cl none none none none none none) H2
  refine q_forR1 (n := 40) (ea_cons ev_c ea_nil) (by decide) (fun i σ' H' => ∃ v' qs y5 y6 y7 y8 y9, σ' = sgL R v' cl y5 y6 y7 y8 y9 none ∧ LV K R H n ps L cl (6 + 8 * i) v' qs H') (fun H3 e3 => ⟨v, ps, _, _, _, _, _, rfl, hlv.ex e3⟩) (fun i σ' H' hi p => ?_) fun σ' H' p => ?_
  · obtain ⟨v', qs, y5, y6, y7, y8, y9, rfl, h⟩ := p
    refine lv_turn (y5 := some (.int (i : Int))) wf hl hsum h fun H3 v2 qs2 y5 y6 y7 y8 y9 h3 => ⟨v2, qs2, _, _, _, _, _, rfl, ?_⟩
    rw [show 6 + 8 * (i + 1) = 6 + 8 * i + 8 by omega]
    exact h3
  · obtain ⟨v', qs, y5, y6, y7, y8, y9, rfl, h⟩ := p
    have hb : 6 + 8 * (40 : Int).toNat ≤ 99999 := by decide
    generalize 6 + 8 * (40 : Int).toNat = b at h hb
    have wq := h.same.wf wf
    have hql : qs.length ≤ 6 := by rw [h.same.1]; exact hl
    have hdo := ep_t (K := K) (P' := fun u H3 => ∃ dl d, u = .ref dl ∧ H3 dl = some (.lst ((cZ n d).map V.int)) ∧ Reach n qs d) (tb := tC (.int 0)) 0 (ep_do (K := K) (E := E0) (σ := sgL R v' cl y5 y6 y7 y8 y9 none) (ea_cons (ev_var (i := 3) rfl) (ea_cons (ev_var (i := 4) rfl) ea_nil)) h.fl (by omega) (by omega) (SqA.l h.cl') hsum) (fun _ _ => ev_c)
      fun x H3 ⟨p, dl, st, d, ex, hdl, hp, hd, hst, hR, hle, hstuck⟩ => ⟨p, _, _, ex, hp, rfl, fun H4 e4 => ⟨dl, d, rfl, e4 _ _ hd, hR⟩⟩
    refine seq_do (ifS_do (test_do (op_do (hdo H' (.refl H') _ fun u H3 e3 ⟨dl, d, eu, hd, hR⟩ => ev_var (i := 4) rfl H3 (.refl H3) _ fun H4 e4 => ?_))))
    subst eu
    have h4 := h.ex (e3.trans e4)
    refine rv_neL (SqL.of (e4 _ _ hd)) (SqL.of h4.cl') H4 (.refl H4) _ fun H5 e5 => ⟨_, rfl, ?_⟩
    have h5 := h4.ex e5
    split
    · obtain ⟨t, q0, as, ev, F⟩ := id h5.fl
      have hlc : ∀ {H6 : Hp}, Ex H5 H6 → EvU (tCB (rTupS K) (tCons (tLc (iTup K (tOp (rIx K) (tVar 3) (tC (.int 1)))) (gName 10) tYes (tOp (rI CMul fun i j => .int (i * j)) (tOp (rIx K) (tVar 10) (tC (.int 3))) (tOp (rIx K) (tVar 4) (tOp (rIx K) (tVar 10) (tC (.int 1))))) [10]) (tNil))) (sgL R v' cl y5 y6 y7 y8 y9 none) H6 (qs.map fun p => V.int ((p.eat * L p.other : Nat) : Int)) := fun {H6} e6 => by
        have F6 := F.mono e6
        have hx := el_lcT (K := K) (σ := sgL R v' cl y5 y6 y7 y8 y9 none) (H := H6) (tl := tOp (rIx K) (tVar 3) (tC (.int 1))) (vs := [10]) (tt := tYes) (te := tOp (rI CMul fun i j => .int (i * j)) (tOp (rIx K) (tVar 10) (tC (.int 3))) (tOp (rIx K) (tVar 4) (tOp (rIx K) (tVar 10) (tC (.int 1))))) (zs := qs) (j := 10) (fun _ => true) (fun p => V.int ((p.eat * L p.other : Nat) : Int)) (ev_f1 (by rw [ev]; rfl) F6) F6.row (by rw [List.length_map, F6.pipes.len]) (by omega) (fun _ => rfl) (fun _ _ _ _ _ _ _ => et_yes) fun i x p H7 e7 hx hp _ => by
          obtain ⟨a, pp, rfl, ha, hp', hat⟩ := F6.pipes.getp hx
          rw [hp] at hp'
          cases hp'
          have hpm := List.mem_of_getElem? hp
          have hr := wq.rates p hpm
          refine ev_is (ev_op (ev_t 3 (ev_var rfl) ev_c (e7 _ _ hat) rfl) (ev_l p.other (ev_var rfl) (ev_t 1 (ev_var rfl) ev_c (e7 _ _ hat) rfl) ((e6.trans e7) _ _ h5.cl') (cV_get (wq.ends p hpm).2)) (rv_I (.inl (by omega)))) ?_
          rw [Int.natCast_mul]
        rw [filter_yes] at hx
        exact eu_tupN hx
      refine s_asgP (ep_with (f := fun j => match qs[j]? with | some p => p.eat * L p.other | none => 0) (ev_var (i := 3) rfl) h5.fl (by omega) (fun H6 e6 => hlc e6) fun j p hj => ?_) fun v2 H6 e6 hv2 => ?_
      · rw [List.getElem?_map, hj]
        rfl
      have h6 := (h5.ex e6).with (b2 := 32) hv2 fun j p hj => by
        show (match qs[j]? with | some p => p.eat * L p.other | none => 0) ≤ 32
        rw [hj]
        have h1 := wf.lrep_le p.other
        rw [hL] at h1
        have h2 := wq.rates p (List.mem_of_getElem? hj)
        exact Nat.mul_le_mul h2.2.2.2 h1
      have hr := enough (n := n) (ps := qs) (L := L) (f := fun j => match qs[j]? with | some p => p.eat * L p.other | none => 0) (fun j p hj => by
        show (match qs[j]? with | some p => p.eat * L p.other | none => 0) = _
        rw [hj]) hLo
      exact s_ret (ev_var (i := 3) rfl) fun H7 e7 => hfin _ _ _ _ h6 (by omega) hr H7 e7
    · rename_i hne
      have heq : cZ n d = cZ n L := by
        apply Classical.byContradiction
        intro z
        exact hne (by rw [decide_eq_false z]; rfl)
      have hdL : d = L := by
        funext k
        by_cases hk : k < n
        · exact cZ_inj heq k hk
        · rw [hR.out k (by omega), hLo k (by omega)]
      rw [hdL] at hR
      exact s_ret (ev_var (i := 3) rfl) fun H7 e7 => hfin _ _ _ _ h5 hb hR H7 e7
end
end K8

-- K8RdP
/-! K8RdP: drawn counts, alike, the law. -/
namespace K8
open PySem PySem.Spec L2 Evl
section
variable {K : PySem.W.Frag} {n : Nat} {ps : List Pipe}
theorem zs_cnt {zs : List Int} {n m : Nat} (h : zs.length = n) (hz : ∀ z ∈ zs, 0 ≤ z ∧ z ≤ (m : Int)) : ∃ f : Nat → Nat, zs = cZ n f ∧ (∀ k, k < n → f k ≤ m) ∧ ∀ k, n ≤ k → f k = 0 := by
  have hk : ∀ k (hk : k < zs.length), ((zs[k]?.getD 0).toNat : Int) = zs[k] ∧ (zs[k]?.getD 0).toNat ≤ m := fun k hk => by
    have h1 := hz zs[k] (List.getElem_mem hk)
    rw [List.getElem?_eq_getElem hk]
    show ((zs[k]).toNat : Int) = zs[k] ∧ (zs[k]).toNat ≤ m
    omega
  refine ⟨fun k => (zs[k]?.getD 0).toNat, List.ext_getElem? fun i => ?_, fun k hkn => (hk k (by omega)).2, fun k hkn => ?_⟩
  · by_cases hi : i < n
    · rw [cZ_get hi, (hk i (by omega)).1, List.getElem?_eq_getElem (by omega : i < zs.length)]
    · rw [List.getElem?_eq_none (by omega), List.getElem?_eq_none (by rw [cZ_len]; omega)]
  · show (zs[k]?.getD 0).toNat = 0
    rw [List.getElem?_eq_none (by omega)]
    rfl
/-! ### law_counts -/
def sp_counts (K : PySem.W.Frag) : Sp := fun vs H Q _ => ∃ (R : RowN) (v : V) (n : Nat) (ps : List Pipe) (m : Nat), vs = [.ref R.r, v, .int (m : Int)] ∧ RowAt K H R ∧ IsFlow H v n ps ∧ n ≤ 8 ∧ m ≤ 100 ∧
  ∀ p f H', Rw K R H H' → H p = none → H' p = some (.tup ((cZ n f).map V.int)) → (∀ k, k < n → f k ≤ m) → (∀ k, n ≤ k → f k = 0) → Q (.ref p) H'
theorem len_counts : ∀ vs H Q E, sp_counts K vs H Q E → vs.length = 3 := by rintro vs H Q E ⟨R, v, n, ps, m, rfl, _⟩; rfl
theorem rd_law_counts : ∀ vs H Q E, sp_counts K vs H Q E → t_law_counts K (sp_taken K) { nx := fun _ H' => Q .non H', rt := Q } (start ["_law_row", "_law_flow_here", "_law_most", "_law_box"] vs) H := by
  rintro vs H Q E ⟨R, v, n, ps, m, rfl, hat, ⟨t, q0, as, rfl, F⟩, hn, hm, q⟩
  unfold t_law_counts
  show tRet _ _ ([some (.ref R.r), some (.ref t), some (.int (m : Int)), none] : L2.St) H
  refine ret_do (cb_do (cons_do (lcw_do (m := n) (fun z => 0 ≤ z ∧ z ≤ (m : Int)) hat (ea_cons (ev_f0 (t0 := t) rfl F) ea_nil) (by omega) (fun _ => rfl) (fun i H1 w1 hi Q' q' => ?_) fun l zs H1 w1 hl h1 hzl hz => nil_do ⟨l, _, rfl, .inl ⟨SqL.of h1, fun p hp => ?_⟩⟩)))
  · exact taken_do (m := (m : Int) + 1) w1.at1 (ev_var rfl) (ev_op (ev_var rfl) ev_c rv_I0) (by omega) fun k H2 w2 hk => q' k H2 w2 ⟨by omega, by omega⟩
  · obtain ⟨f, rfl, hf1, hf2⟩ := zs_cnt hzl hz
    exact q p f _ (w1.ex (Ex.new hp)) (w1.fresh hp) upd_same hf1 hf2
/-! ### law_alike of two truths -/
def sp_alike : Sp := fun vs H Q _ => ∃ a b : Bool, vs = [.bl a, .bl b] ∧ ∀ H', Ex H H' → Q (.bl (decide (a = b))) H'
theorem len_alike : ∀ vs H Q E, sp_alike vs H Q E → vs.length = 2 := by rintro vs H Q E ⟨a, b, rfl, _⟩; rfl
theorem sv_alike {H : Hp} {a b : Bool} : SpV sp_alike [.bl a, .bl b] H (.bl (decide (a = b))) := fun H1 _ Q q E => ⟨a, b, rfl, q⟩
theorem kit_bt : kitB "bool" "tuple" = some false := by decide +kernel
theorem kit_bl : kitB "bool" "list" = some false := by decide +kernel
theorem kit_bs : kitB "bool" "str" = some false := by decide +kernel
theorem dec_bl {a b : Bool} : decide (V.bl a = V.bl b) = decide (a = b) := by cases a <;> cases b <;> rfl
theorem rd_law_alike : ∀ vs H Q E, sp_alike vs H Q E → t_law_alike K { nx := fun _ H' => Q .non H', rt := Q } (start ["_law_found", "_law_due", "_law_k"] vs) H := by
  rintro vs H Q E ⟨a, b, rfl, q⟩
  unfold t_law_alike
  show tSeq _ _ _ ([some (.bl a), some (.bl b), none] : L2.St) H
  have hT : Ev (tCB (rIsiT K) (tCons (tVar 1) (tCons (tTup (tCons (tC (.ty "tuple")) (tCons (tC (.ty "list")) (tNil)))) (tNil)))) ([some (.bl a), some (.bl b), none] : L2.St) H (.bl false) := fun H1 e Q' q' =>
    cb_do (cons_do (ev_var (i := 1) (v := .bl b) rfl H1 (.refl H1) _ fun H2 e2 => cons_do (eu_tup (ea_cons ev_c (ea_cons ev_c ea_nil)) (by simp) H2 (.refl H2) _ fun p H3 hp e3 h3 => nil_do ⟨.bl b, p, _, .type "bool", [.type "tuple", .type "list"], false, rfl, h3, .cons (.ty _) (.cons (.ty _) .nil), ty_bl,
      kitAny_cons (kit_ty kit_bt) (fun _ => kitAny_cons (kit_ty kit_bl) (fun _ => rfl) (fun z => nomatch z)) (fun z => nomatch z), q' H3 (e2.trans e3)⟩)))
  refine q_when (et_B hT) (fun z => nomatch z) fun _ H1 e1 => ?_
  refine q_when (b := false || false) (et_or (a := false) (et_B (fun H2 e2 Q' q' => ev_var (i := 1) (v := .bl b) rfl H2 (.refl H2) _ fun H3 e3 => q' H3 e3)) fun _ => et_B (ev_isi (ev_var (i := 1) (v := .bl b) rfl) (fun _ _ => ty_bl) kit_bs)) (fun z => nomatch z) fun _ H2 e2 => ?_
  refine s_ret (ev_is (ev_andV (a := true) (b := true && decide (a = b)) (ev_isi (ev_var rfl) (fun _ _ => ty_bl) kit_bi) fun _ => ev_andV (a := true) (ev_is (ev_op (ev_isi (ev_var rfl) (fun _ _ => ty_bl) kit_bb) (ev_isi (ev_var rfl) (fun _ _ => ty_bl) kit_bb) (rv_eq rfl)) rfl) fun _ => ev_is (ev_op (ev_var rfl) (ev_var rfl) (rv_eq rfl)) (by rw [dec_bl])) (by rw [Bool.true_and, Bool.true_and])) fun H3 e3 => q H3 ((e1.trans e2).trans e3)
end
end K8

-- K8RdQ
/-! K8RdQ: the law. -/
namespace K8
open PySem PySem.Spec L2 Evl
section
variable {K : PySem.W.Frag} {n : Nat} {ps : List Pipe} {c0 : Nat → Nat}
theorem WF.valid (w : WF n ps c0) (hs : ∀ p ∈ ps, p.start ≤ 99999) : Valid n ps := ⟨w.n1, by have := w.n5; omega, w.len, w.ends, fun p hp => by have := w.rates p hp; omega, hs⟩
theorem rv_notB {H : Hp} {a b : Bool} : RV rNotB (.bl a) (.bl b) H (.bl (!decide (a = b))) := fun H1 _ _ q => ⟨a, b, rfl, rfl, q H1 (.refl H1)⟩
theorem neg_nil {f : Nat → Nat} (hL : Live n ps) (hz : ∀ k, n ≤ k → f k = 0) : decide ((tZ ps f).filter (fun z => decide (z < 0)) = []) = reachB n ps f := by
  by_cases h : Reach n ps f
  · rw [reachB_iff.mpr h]
    refine decide_eq_true (List.filter_eq_nil_iff.mpr fun z hz2 => ?_)
    obtain ⟨p, hp, rfl⟩ := List.mem_map.mp hz2
    have := (Live.iff hL hz).mp h p hp
    simp only [decide_eq_true_eq]
    omega
  · rw [reachB_no h]
    refine decide_eq_false fun z => h ((Live.iff hL hz).mpr fun p hp => ?_)
    have := List.filter_eq_nil_iff.mp z (tok f p) (List.mem_map.mpr ⟨p, hp, rfl⟩)
    simp only [decide_eq_true_eq] at this
    omega
theorem ne_bl {a b : Bool} (h : a = b) : (!decide (V.bl a = V.bl b)) = false := by rw [h, decide_eq_true rfl]; rfl
def sp_law (K : PySem.W.Frag) : Sp := fun vs H Q _ => ∃ (a : Addr) (ns : List Int), vs = [.ref a] ∧ SqL K H a (ns.map V.int) ∧ ns.length ≤ 63 ∧ ∀ H', Q (.bl true) H'
theorem len_law : ∀ vs H Q E, sp_law K vs H Q E → vs.length = 1 := by rintro vs H Q E ⟨a, ns, rfl, _⟩; rfl
abbrev sgW (a r : Addr) (v : V) (y3 y4 y5 y6 y7 : Option V) : L2.St := [some (.ref a), some (.ref r), some v, y3, y4, y5, y6, y7]
theorem law_turn (w : WF n ps c0) (hV : Valid n ps) (hL : Live n ps) {R : RowN} {H H' : Hp} {a : Addr} {v : V} {D : L2.Ends} {y3 y4 y5 y6 : Option V} (hw : Rw K R H H') (hF : IsFlow H' v n ps)
    (k : ∀ H2 y4 y5 y6, Rw K R H H2 → IsFlow H2 v n ps → D.nx (sgW a R.r v y3 y4 y5 y6 none) H2) :
    tSeq (tAsg (tCall (sp_counts K) [] E0 (tCons (tVar 1) (tCons (tVar 2) (tCons (tCall (sp_pick K) [] E0 (tCons (tVar 1) (tCons (tLst (tCons (tC (.int 3)) (tCons (tC (.int 9)) (tNil)))) (tNil)))) (tNil))))) (gName 4))
    (tSeq (tAsg (tOp (rEqD K) (tLc (iTup K (tCall sp_ends [] E0 (tCons (tVar 2) (tCons (tVar 4) (tNil))))) (gName 7) (tTest (tOp (rI0 fun i j => .bl (decide (i < j))) (tVar 7) (tC (.int 0)))) (tVar 7) [7]) (tLst (tNil))) (gName 5))
    (tSeq (tIfS (tOr (tNot (tB (tCall sp_alike [] E0 (tCons (tCall sp_can_do [] E0 (tCons (tVar 2) (tCons (tVar 4) (tNil)))) (tCons (tVar 5) (tNil)))))) (tTest (tOp rNe (tOp (rEqD K) (tOp (rIx K) (tCall (sp_do K) [] E0 (tCons (tVar 2) (tCons (tVar 4) (tNil)))) (tC (.int 0))) (tCB (Evl.rListS K) (tCons (tVar 4) (tNil)))) (tVar 5)))) (tRet (tC (.bl false))) (tNext))
    (tSeq (tAsg (tCall sp_word_for [] E0 (tCons (tVar 2) (tCons (tVar 4) (tNil)))) (gName 6))
    (tSeq (tIfS (tOr (tTest (tOp rNe (tIsN (tVar 6)) (tNotV (tVar 5)))) (tTest (tOp rNotB (tCall sp_shows_word [] E0 (tCons (tVar 2) (tCons (tVar 4) (tCons (tVar 6) (tNil))))) (tC (.bl true))))) (tRet (tC (.bl false))) (tNext))
    (tIfS (tOr (tAnd (tB (tVar 5)) (tTest (tOp (rNeD K) (tCall sp_run [] E0 (tCons (tVar 2) (tCons (tVar 6) (tNil)))) (tCall sp_ends [] E0 (tCons (tVar 2) (tCons (tVar 4) (tNil))))))) (tTest (tOp rNe (tOp (rEqD K) (tCall (sp_done K) [] E0 (tCons (tVar 2) (tCons (tVar 4) (tNil)))) (tVar 4)) (tVar 5)))) (tRet (tC (.bl false))) (tNext)))))) D
      (sgW a R.r v y3 y4 y5 y6 none) H' := by
  have hn5 := w.n5
  refine sqa_do (call_do (cons_do (ev_var (i := 1) (v := .ref R.r) rfl H' (.refl H') _ fun H1 e1 => cons_do (ev_var (i := 2) (v := v) rfl H1 (.refl H1) _ fun H2 e2 => cons_do (pick_do (hw.ex (e1.trans e2)).at1 (ev_var rfl) (el_lst (ea_cons ev_c (ea_cons ev_c ea_nil)) (by simp)) (by decide) fun x H3 w3 hx => nil_do ?_)))))
  obtain ⟨m, rfl, hm⟩ : ∃ m : Nat, x = .int (m : Int) ∧ m ≤ 100 := by
    rcases List.mem_cons.mp hx with e | hx
    · exact ⟨3, e, by decide⟩
    · exact ⟨9, List.mem_singleton.mp hx, by decide⟩
  have hw3 := (hw.ex (e1.trans e2)).trans w3
  refine ⟨R, v, n, ps, m, rfl, w3.at1, (hF.mono (e1.trans e2)).tups w3.tups, by omega, hm, fun c f H4 w4 hc hc4 hf hz => ?_⟩
  have hw4 := hw3.trans w4
  have F4 := ((hF.mono (e1.trans e2)).tups w3.tups).tups w4.tups
  have hf2 : ∀ k, k < n → f k ≤ 200 := fun k hk => by have := hf k hk; omega
  show tSeq _ _ _ (sgW a R.r v y3 (some (.ref c)) y5 y6 none) H4
  -- good
  have hgood : Ev (tOp (rEqD K) (tLc (iTup K (tCall sp_ends [] E0 (tCons (tVar 2) (tCons (tVar 4) (tNil))))) (gName 7) (tTest (tOp (rI0 fun i j => .bl (decide (i < j))) (tVar 7) (tC (.int 0)))) (tVar 7) [7]) (tLst (tNil))) (sgW a R.r v y3 (some (.ref c)) y5 y6 none) H4 (.bl (reachB n ps f)) := by
    rw [← neg_nil hL hz]
    refine ev_eqNil ?_
    have h := el_lcNT (K := K) (σ := sgW a R.r v y3 (some (.ref c)) y5 y6 none) (H := H4) (tl := tCall sp_ends [] E0 (tCons (tVar 2) (tCons (tVar 4) (tNil)))) (vs := [7]) (tt := tTest (tOp (rI0 fun i j => .bl (decide (i < j))) (tVar 7) (tC (.int 0)))) (te := tVar 7) (zs := tZ ps f) (j := 7) (fun z => decide (z < 0)) V.int
      (eu_callU (ea_cons (ev_var rfl) (ea_cons (ev_var rfl) ea_nil)) (su_ends F4 hV hc4 hf2)) (by rw [List.length_map]) (by rw [tZ_len]; have := w.len; omega) (fun _ => rfl) (fun i x z H5 e5 hx hz => by
        rw [List.getElem?_map, hz] at hx
        cases hx
        exact et_test (ev_op (ev_var rfl) ev_c rv_I0)) fun i x z H5 e5 hx hz _ => by
        rw [List.getElem?_map, hz] at hx
        cases hx
        exact ev_var rfl
    exact h
  refine q_asg hgood fun H5 e5 => ?_
  have F5 := F4.mono e5
  have hc5 := e5 _ _ hc4
  show tSeq _ _ _ (sgW a R.r v y3 (some (.ref c)) (some (.bl (reachB n ps f))) y6 none) H5
  -- the first answer
  have hsm : sumTo n f ≤ 10000 := Nat.le_trans (sum_200 hV.n8 hf2) (by decide)
  have hdo : Ev (tOp (rEqD K) (tOp (rIx K) (tCall (sp_do K) [] E0 (tCons (tVar 2) (tCons (tVar 4) (tNil)))) (tC (.int 0))) (tCB (Evl.rListS K) (tCons (tVar 4) (tNil)))) (sgW a R.r v y3 (some (.ref c)) (some (.bl (reachB n ps f))) y6 none) H5 (.bl (reachB n ps f)) := by
    refine ev_opP (ep_most0 (K := K) (ep_do (K := K) (ea_cons (ev_var (i := 2) rfl) (ea_cons (ev_var (i := 4) rfl) ea_nil)) F5 (by omega) w.len (SqA.t hc5) hsm)) fun x H6 e6 ⟨dl, d, ex, h1, h2, h3, h4⟩ => ?_
    subst ex
    rw [← stuck_eq hz h2 h3 h4]
    exact ev_opL ev_c (el_listT (ev_var rfl) (.inr (SqT.of (e6 _ _ hc5)))) fun p H7 hp e7 => rv_eqL (SqL.of (e7 _ _ h1)) (SqL.of hp)
  have hcan : Ev (tCall sp_alike [] E0 (tCons (tCall sp_can_do [] E0 (tCons (tVar 2) (tCons (tVar 4) (tNil)))) (tCons (tVar 5) (tNil)))) (sgW a R.r v y3 (some (.ref c)) (some (.bl (reachB n ps f))) y6 none) H5 (.bl true) :=
    ev_is (ev_callV (ea_cons (ev_callV (ea_cons (ev_var rfl) (ea_cons (ev_var rfl) ea_nil)) (sv_can_do F5 hV hc5 hf2 hz)) (ea_cons (ev_var rfl) ea_nil)) sv_alike) (by rw [decide_eq_true rfl])
  refine q_when (b := false || false) (et_or (a := false) (et_not (a := true) (et_B hcan)) fun _ => et_is (et_test (ev_op hdo (ev_var rfl) (rv_ne rfl))) (ne_bl rfl)) (fun z => nomatch z) fun _ H6 e6 => ?_
  have e46 := e5.trans e6
  have F6 := F4.mono e46
  have hc6 := e46 _ _ hc4
  -- the word
  refine q_asgP (P := fun u H' => (∃ w ws, u = .ref w ∧ WordAt H' w ws ∧ IsWord n ps f ws) ∨ (u = .non ∧ ¬ Reach n ps f)) (ep_call (ea_cons (ev_var rfl) (ea_cons (ev_var rfl) ea_nil)) fun H7 e7 Q' q' E' => ⟨v, n, ps, c, f, rfl, F6.mono e7, hV, e7 _ _ hc6, hf2, hz, fun u H' e' hu => q' u H' e' hu⟩) fun u H7 e7 hu => ?_
  have e47 := e46.trans e7
  have F7 := F4.mono e47
  have hc7 := e47 _ _ hc4
  show tSeq _ _ _ (sgW a R.r v y3 (some (.ref c)) (some (.bl (reachB n ps f))) (some u) none) H7
  have humono : ∀ {H8 : Hp}, Ex H7 H8 → (∃ w ws, u = .ref w ∧ WordAt H8 w ws ∧ IsWord n ps f ws) ∨ (u = .non ∧ ¬ Reach n ps f) := fun {H8} e8 => hu.imp (fun ⟨w, ws, h1, h2, h3⟩ => ⟨w, ws, h1, h2.mono e8, h3⟩) id
  have hisn : Ev (tIsN (tVar 6)) (sgW a R.r v y3 (some (.ref c)) (some (.bl (reachB n ps f))) (some u) none) H7 (.bl (!reachB n ps f)) := by
    rcases hu with ⟨w, ws, rfl, _, hW⟩ | ⟨rfl, hn⟩
    · rw [reachB_iff.mpr hW.reach]
      exact isN_ref (ev_var rfl)
    · rw [reachB_no hn]
      exact isN_non (ev_var rfl)
  refine q_when (b := false || false) (et_or (a := false) (et_is (et_test (ev_op hisn (ev_notV (ev_var rfl)) (rv_ne rfl))) (ne_bl rfl)) fun _ =>
    et_is (et_test (ev_op (ev_callV (ea_cons (ev_var rfl) (ea_cons (ev_var rfl) (ea_cons (ev_var rfl) ea_nil))) fun H8 e8 Q' q' E' => ⟨v, n, ps, c, f, u, rfl, F7.mono e8, hV, e8 _ _ hc7, hf2, hz, humono e8, q'⟩) ev_c rv_notB)) rfl) (fun z => nomatch z) fun _ H8 e8 => ?_
  have e48 := e47.trans e8
  have F8 := F4.mono e48
  have hc8 := e48 _ _ hc4
  refine s_when (b := (reachB n ps f && false) || false) (et_or (a := reachB n ps f && false) (et_and (et_B (ev_var rfl)) fun hr => ?_) fun _ => ?_) (fun z => by rw [Bool.and_false] at z; cases z) fun _ H9 e9 => k H9 _ _ _ (hw4.ex (e48.trans e9)) (F8.mono e9)
  · have hR := reachB_iff.mp hr
    obtain ⟨wd, ws, rfl, hW, hI⟩ := (humono e8).resolve_right fun z => z.2 hR
    have h1 := su_run F8 w.len hW hI.fires
    rw [hI.cnt] at h1
    exact et_is (et_test (ev_opUU (eu_callU (ea_cons (ev_var rfl) (ea_cons (ev_var rfl) ea_nil)) h1) (eu_callU (ea_cons (ev_var rfl) (ea_cons (ev_var rfl) ea_nil)) (su_ends F8 hV hc8 hf2)) fun p q H9 hp hq e9 => rv_neT (SqT.of hp) (SqT.of hq))) (by rw [decide_eq_true rfl]; rfl)
  · have hdone : Ev (tOp (rEqD K) (tCall (sp_done K) [] E0 (tCons (tVar 2) (tCons (tVar 4) (tNil)))) (tVar 4)) (sgW a R.r v y3 (some (.ref c)) (some (.bl (reachB n ps f))) (some u) none) H8 (.bl (reachB n ps f)) := by
      refine ev_opP (P := fun u H' => ∃ p d, u = .ref p ∧ H' p = some (.tup ((cZ n d).map V.int)) ∧ Reach n ps d ∧ (∀ k, d k ≤ f k) ∧ stuck n ps f d) (ep_call (ea_cons (ev_var rfl) (ea_cons (ev_var rfl) ea_nil)) fun H9 e9 Q' q' E' => ⟨v, n, ps, c, f, rfl, F8.mono e9, hV, e9 _ _ hc8, hf2, fun p d H' hp e' h1 h2 h3 h4 => q' _ H' e' ⟨p, d, rfl, h1, h2, h3, h4⟩⟩) fun x H9 e9 ⟨p, d, ex, h1, h2, h3, h4⟩ => ?_
      subst ex
      rw [← stuck_eq hz h2 h3 h4]
      exact ev_op ev_c (ev_var rfl) (rv_eqT (SqT.of h1) (SqT.of (e9 _ _ hc8)))
    exact et_is (et_test (ev_op hdone (ev_var rfl) (rv_ne rfl))) (ne_bl rfl)
theorem rd_law : ∀ vs H Q E, sp_law K vs H Q E → t_law K (sp_live K) sp_is_live (sp_pick K) (sp_counts K) sp_ends sp_can_do sp_alike (sp_do K) sp_word_for sp_shows_word sp_run (sp_done K) { nx := fun _ H' => Q .non H', rt := Q } (start ["_law_script", "_law_row", "_law_flow_here", "_law_turn", "_law_counts_here", "_law_good", "_law_word", "_law_one"] vs) H := by
  rintro vs H Q E ⟨a, ns, rfl, hS, hns, q⟩
  unfold t_law
  show tSeq _ _ _ ([some (.ref a), none, none, none, none, none, none, none] : L2.St) H
  refine q_asgL (el_lst (ea_cons (ev_var rfl) (ea_cons ev_c (ea_cons ev_c (ea_cons ev_c ea_nil)))) (by simp)) fun r H1 hr e1 h1 => ?_
  have hat : RowAt K H1 ⟨r, a, ns⟩ := ⟨0, 9808, 0, h1, ex_l e1 hS, by
    rcases hS with (h | ⟨o, h⟩) | h
    · exact .inl (ne_of_none h hr)
    · exact .inl (ne_of_none h hr)
    · exact .inr fun _ => .inr h, Int.le_refl 0⟩
  show tSeq _ _ _ ([some (.ref a), some (.ref r), none, none, none, none, none, none] : L2.St) H1
  refine sqa_do (call_do (ea_cons (ev_var (i := 1) (v := .ref r) rfl) (ea_cons ev_c (ea_cons ev_c ea_nil)) H1 (.refl H1) _ fun H2 e2 => ⟨⟨r, a, ns⟩, rfl, hat.mono e2, fun v n ps c0 H3 w3 F3 wf hst hR => ?_⟩))
  have hV := wf.valid hst
  have hL := wf.live hR
  show tSeq _ _ _ (sgW a r v none none none none none) H3
  refine q_when (et_is (et_test (ev_op (ev_callV (ea_cons (ev_var rfl) ea_nil) (sv_is_live F3 wf hV (wf.rep_reach hL))) ev_c rv_notB)) (b := false) rfl) (fun z => nomatch z) fun _ H4 e4 => ?_
  refine q_forR1 (n := 6) (ea_cons ev_c ea_nil) (by decide) (fun i σ' H' => ∃ y3 y4 y5 y6, σ' = sgW a r v y3 y4 y5 y6 none ∧ Rw K ⟨r, a, ns⟩ H3 H' ∧ IsFlow H' v n ps) (fun H5 e5 => ⟨_, _, _, _, rfl, .of w3.at1 (e4.trans e5), F3.mono (e4.trans e5)⟩) (fun i σ' H' hi p => ?_) fun σ' H' p => ?_
  · obtain ⟨y3, y4, y5, y6, rfl, hw, hF⟩ := p
    exact law_turn (R := ⟨r, a, ns⟩) (y3 := some (.int (i : Int))) wf hV hL hw hF fun H5 y4 y5 y6 hw5 hF5 => ⟨_, _, _, _, rfl, hw5, hF5⟩
  · exact s_ret ev_c fun H5 e5 => q H5
end
end K8

-- K8Defs
/-! K8Defs: every def keeps its promise (printed by gen_defs.py). -/
namespace K8
open PySem PySem.Spec PyProof.Rows L2
section
variable {P : Program} {w : World} {K : PySem.W.Frag} {mg : Str → Option Value} {base : Heap}
theorem mk_is_in (T : Txt K mg) : Def P w K mg base 1 "is_in" ["value", "least", "most"] sp_is_in := def_is_in T  len_is_in rd_is_in
theorem mk_gcd (T : Txt K mg) : Def P w K mg base 1 "gcd" ["one", "other"] sp_gcd := def_gcd T  len_gcd rd_gcd
theorem mk_reduced (T : Txt K mg) : Def P w K mg base 2 "reduced" ["numerator", "denominator"] sp_red := def_reduced T (mk_gcd T) len_red rd_reduced
theorem mk_times (T : Txt K mg) : Def P w K mg base 3 "times" ["one", "other"] sp_times := def_times T (mk_reduced T) len_times rd_times
theorem mk_is_pipe (T : Txt K mg) : Def P w K mg base 2 "is_pipe" ["value", "boxes"] sp_is_pipe := def_is_pipe T (mk_is_in T) len_is_pipe rd_is_pipe
theorem mk_need_flow (T : Txt K mg) : Def P w K mg base 3 "need_flow" ["flow"] sp_need_flow := def_need_flow T (mk_is_in T) (mk_is_pipe T) len_need_flow rd_need_flow
theorem mk_reach_of (T : Txt K mg) : Def P w K mg base 1 "reach_of" ["flow", "box", "both"] sp_reach := def_reach_of T  len_reach rd_reach_of
theorem mk_parts_in (T : Txt K mg) : Def P w K mg base 2 "parts_in" ["flow"] sp_parts := def_parts_in T (mk_reach_of T) len_parts rd_parts_in
theorem mk_marks_in (T : Txt K mg) : Def P w K mg base 1 "marks_in" ["flow"] sp_marks := def_marks_in T  len_marks rd_marks_in
theorem mk_lacks (T : Txt K mg) : Def P w K mg base 1 "lacks" ["flow", "some", "box"] sp_lacks := def_lacks T  len_lacks rd_lacks
theorem mk_behind (T : Txt K mg) : Def P w K mg base 1 "behind" ["flow", "some", "box"] sp_behind := def_behind T  len_behind rd_behind
theorem mk_fireable_in (T : Txt K mg) : Def P w K mg base 2 "fireable_in" ["flow", "some"] sp_fireable := def_fireable_in T (mk_lacks T) len_fireable rd_fireable_in
theorem mk_is_boxes (T : Txt K mg) : Def P w K mg base 2 "is_boxes" ["flow", "value"] sp_is_boxes := def_is_boxes T (mk_is_in T) len_is_boxes rd_is_boxes
theorem mk_line_in (T : Txt K mg) : Def P w K mg base 2 "line_in" ["flow", "word"] sp_line_in := def_line_in T (mk_marks_in T) (mk_lacks T) (mk_behind T) len_line_in rd_line_in
theorem mk_counts_in (T : Txt K mg) : Def P w K mg base 1 "counts_in" ["flow", "word"] sp_counts_in := def_counts_in T  len_counts_in rd_counts_in
theorem mk_need_counts (T : Txt K mg) : Def P w K mg base 2 "need_counts" ["flow", "counts"] sp_need_counts := def_need_counts T (mk_is_in T) len_need_counts rd_need_counts
theorem mk_need_both (T : Txt K mg) : Def P w K mg base 4 "need_both" ["flow", "counts"] sp_need_both := def_need_both T (mk_need_flow T) (mk_need_counts T) len_need_both rd_need_both
theorem mk_ends_in (T : Txt K mg) : Def P w K mg base 1 "ends_in" ["flow", "counts"] sp_ends_in := def_ends_in T  len_ends_in rd_ends_in
theorem mk_ends (T : Txt K mg) : Def P w K mg base 5 "ends" ["flow", "counts"] sp_ends := def_ends T (mk_need_both T) (mk_ends_in T) len_ends rd_ends
theorem mk_most_in (T : Txt K mg) : Def P w K mg base 2 "most_in" ["flow", "counts"] (sp_most K) := def_most_in T (mk_marks_in T) (mk_lacks T) (mk_behind T) len_most rd_most_in
theorem mk_most_done (T : Txt K mg) : Def P w K mg base 5 "most_done" ["flow", "counts"] (sp_done K) := def_most_done T (mk_need_both T) (mk_most_in T) len_done rd_most_done
theorem mk_does (T : Txt K mg) : Def P w K mg base 3 "does" ["flow", "counts"] (sp_does K) := def_does T (mk_most_in T) len_does rd_does
theorem mk_can_do (T : Txt K mg) : Def P w K mg base 5 "can_do" ["flow", "counts"] sp_can_do := def_can_do T (mk_need_both T) (mk_does T) len_can_do rd_can_do
theorem mk_least_in (T : Txt K mg) : Def P w K mg base 3 "least_in" ["flow", "counts"] (sp_least K) := def_least_in T (mk_marks_in T) (mk_fireable_in T) (mk_behind T) len_least rd_least_in
theorem mk_word_for (T : Txt K mg) : Def P w K mg base 5 "word_for" ["flow", "counts"] sp_word_for := def_word_for T (mk_need_both T) (mk_does T) (mk_least_in T) len_word_for rd_word_for
theorem mk_shows_word (T : Txt K mg) : Def P w K mg base 5 "shows_word" ["flow", "counts", "value"] sp_shows_word := def_shows_word T (mk_need_both T) (mk_does T) (mk_is_boxes T) (mk_counts_in T) (mk_line_in T) len_shows_word rd_shows_word
theorem mk_shares_in (T : Txt K mg) : Def P w K mg base 4 "shares_in" ["flow"] sp_shares := def_shares_in T (mk_parts_in T) (mk_times T) len_shares rd_shares_in
theorem mk_bad_pipe (T : Txt K mg) : Def P w K mg base 4 "bad_pipe" ["flow", "shares"] sp_bad := def_bad_pipe T (mk_times T) len_bad rd_bad_pipe
theorem mk_repetitions_in (T : Txt K mg) : Def P w K mg base 5 "repetitions_in" ["flow"] sp_rep := def_repetitions_in T (mk_shares_in T) (mk_bad_pipe T) (mk_parts_in T) (mk_gcd T) len_rep rd_repetitions_in
theorem mk_round_of (T : Txt K mg) : Def P w K mg base 6 "round_of" ["flow"] sp_rep := def_round_of T (mk_repetitions_in T) len_rep rd_round_of
theorem mk_lives (T : Txt K mg) : Def P w K mg base 7 "lives" ["flow"] sp_lives := def_lives T (mk_round_of T) (mk_does T) len_lives rd_lives
theorem mk_is_live (T : Txt K mg) : Def P w K mg base 8 "is_live" ["flow"] sp_is_live := def_is_live T (mk_need_flow T) (mk_lives T) len_is_live rd_is_live
theorem mk_law_taken (T : Txt K mg) : Def P w K mg base 1 "_law_taken" ["_law_row", "_law_many"] (sp_taken K) := def_law_taken T  len_taken rd_law_taken
theorem mk_law_pick (T : Txt K mg) : Def P w K mg base 2 "_law_pick" ["_law_row", "_law_things"] (sp_pick K) := def_law_pick T (mk_law_taken T) len_pick rd_law_pick
theorem mk_law_gcd (T : Txt K mg) : Def P w K mg base 1 "_law_gcd" ["_law_one", "_law_other"] sp_gcd := def_law_gcd T  len_gcd rd_law_gcd
theorem mk_law_flow (T : Txt K mg) : Def P w K mg base 3 "_law_flow" ["_law_row", "_law_most", "_law_top"] (sp_flow K) := def_law_flow T (mk_law_taken T) (mk_law_pick T) (mk_law_gcd T) len_flow rd_law_flow
theorem mk_law_ratio (T : Txt K mg) : Def P w K mg base 2 "_law_ratio" ["_law_numerator", "_law_denominator"] sp_red := def_law_ratio T (mk_law_gcd T) len_red rd_law_ratio
theorem mk_law_joined (T : Txt K mg) : Def P w K mg base 1 "_law_joined" ["_law_flow_here", "_law_box", "_law_both"] sp_joined := def_law_joined T  len_joined rd_law_joined
theorem mk_law_round (T : Txt K mg) : Def P w K mg base 3 "_law_round" ["_law_flow_here"] sp_lround := def_law_round T (mk_law_ratio T) (mk_law_joined T) (mk_law_gcd T) len_lround rd_law_round
theorem mk_law_some (T : Txt K mg) : Def P w K mg base 1 "_law_some" ["_law_flow_here"] sp_marks := def_law_some T  len_marks rd_law_some
theorem mk_law_can (T : Txt K mg) : Def P w K mg base 1 "_law_can" ["_law_flow_here", "_law_some_here", "_law_box"] sp_can := def_law_can T  len_can rd_law_can
theorem mk_law_next (T : Txt K mg) : Def P w K mg base 1 "_law_next" ["_law_flow_here", "_law_some_here", "_law_box"] sp_behind := def_law_next T  len_behind rd_law_next
theorem mk_law_do (T : Txt K mg) : Def P w K mg base 2 "_law_do" ["_law_flow_here", "_law_counts_here"] (sp_do K) := def_law_do T (mk_law_some T) (mk_law_can T) (mk_law_next T) len_do rd_law_do
theorem mk_law_with (T : Txt K mg) : Def P w K mg base 1 "_law_with" ["_law_flow_here", "_law_some_here"] sp_with := def_law_with T  len_with rd_law_with
theorem mk_law_live (T : Txt K mg) : Def P w K mg base 4 "_law_live" ["_law_row", "_law_most", "_law_top"] (sp_live K) := def_law_live T (mk_law_flow T) (mk_law_round T) (mk_law_do T) (mk_law_pick T) (mk_law_some T) (mk_law_with T) len_live rd_law_live
theorem mk_law_counts (T : Txt K mg) : Def P w K mg base 2 "_law_counts" ["_law_row", "_law_flow_here", "_law_most"] (sp_counts K) := def_law_counts T (mk_law_taken T) len_counts rd_law_counts
theorem mk_law_alike (T : Txt K mg) : Def P w K mg base 1 "_law_alike" ["_law_found", "_law_due"] sp_alike := def_law_alike T  len_alike rd_law_alike
theorem mk_law_run (T : Txt K mg) : Def P w K mg base 2 "_law_run" ["_law_flow_here", "_law_word"] sp_run := def_law_run T (mk_law_some T) (mk_law_can T) (mk_law_next T) len_run rd_law_run
theorem mk_law {l : PySem.W.OpenLaw} {w : World} {K : PySem.W.Frag} {h : Heap} {mg : Str → Option Value} {fa f2 : Addr} (X : K.In h) (G : h.Ns mainGlobals mg) (hfa : mg "law" = some (.ref fa))
    {od2 an2 : Option Addr} {sl2 : Array (Option Value)} {oc2 kV2 dc2 pm2 cd2 ct2 : Value}
    (a2 : PySem.W.nsIn K mainGlobals "law" = some (some (.ref f2))) (l2 : K.lookup f2 = some ⟨oc2, od2, .func (PySem.W.fnOf "law" "law" (defArgs s_law) (defBody s_law) (defScope s_law) .none kV2 dc2 pm2 an2 cd2 ct2), sl2⟩) (c2 : PySem.W.codeIn K cd2 "law" = true) (k2 : PySem.W.keepIn K (.ref f2) = true)
    (T : Txt K mg) :
    ∃ fd : FuncData, (∀ (s : Shared) (v : Value), BindsTo s fd ⟨[v], []⟩ [("_law_script", v)]) ∧ ∀ base : Heap, K.In base → base.Ns mainGlobals mg → FnOk l.prog w K mg base CX0 12 fa fd ["_law_script"] (sp_law K) := by
  have e := PySem.W.mg_of X G a2
  rw [hfa] at e
  cases e
  have F := fun_mk l2 c2 k2
  refine ⟨PySem.W.fnOf "law" "law" (defArgs s_law) (defBody s_law) (defScope s_law) .none kV2 dc2 pm2 an2 cd2 ct2, fun s v => BindsTo.of_eq rfl, fun base hb hn => ?_⟩
  exact (F.ok sc_law len_law fun cdv A outer s H vs Q E hr q => ⟨_, der_law T (mk_law_live T) (mk_is_live T) (mk_law_pick T) (mk_law_counts T) (mk_ends T) (mk_can_do T) (mk_law_alike T) (mk_law_do T) (mk_word_for T) (mk_shows_word T) (mk_law_run T) (mk_most_done T) hr, rd_law vs H Q E q⟩).mono (by decide)
end
end K8

-- K8Head
open PySem PySem.W PyProof.Rows
set_option maxHeartbeats 0 in
theorem PySem.Challenge.cw_rateflows_k08_whole_counts_in_live_flows_holds : PySem.Challenge.rw_rateflows_k08_whole_counts_in_live_flows.Holds := by
  w_on; o_law; k_head; (case hw => w_witness2)
  k_fill
  refine L2.walk_of (l := PySem.Challenge.rw_rateflows_k08_whole_counts_in_live_flows) (n := 63) (k := 12) (x := "_law_script") (CX := fun _ => L2.CX0) (sp := fun w => K8.sp_law _) rfl (by decide) rfl ⟨rfl, by decide, by decide⟩ (fun w h Y => PySem.W.kIn_of Y) ?F (fun _ _ a ns hl _ hS => ⟨a, ns, rfl, hS, hl, fun _ => rfl⟩) (fun _ _ _ _ _ h => h)
  case F =>
    intro w mg fa h KX G hmg
    refine' K8.mk_law KX G hmg ?a2 ?l2 ?c2 ?k2 ?T
    (case a2 => k_is); (case l2 => k_is); (case c2 => k_is); (case k2 => k_is)
    case T =>
      constructor
      · refine' K8.txt_of KX G ?a ?l ?c ?k
        (case a => k_is); (case l => k_is); (case c => k_is); (case k => k_is)
      · refine' K8.txt_of KX G ?a ?l ?c ?k
        (case a => k_is); (case l => k_is); (case c => k_is); (case k => k_is)
      · refine' K8.txt_of KX G ?a ?l ?c ?k
        (case a => k_is); (case l => k_is); (case c => k_is); (case k => k_is)
      · refine' K8.txt_of KX G ?a ?l ?c ?k
        (case a => k_is); (case l => k_is); (case c => k_is); (case k => k_is)
      · refine' K8.txt_of KX G ?a ?l ?c ?k
        (case a => k_is); (case l => k_is); (case c => k_is); (case k => k_is)
      · refine' K8.txt_of KX G ?a ?l ?c ?k
        (case a => k_is); (case l => k_is); (case c => k_is); (case k => k_is)
      · refine' K8.txt_of KX G ?a ?l ?c ?k
        (case a => k_is); (case l => k_is); (case c => k_is); (case k => k_is)
      · refine' K8.txt_of KX G ?a ?l ?c ?k
        (case a => k_is); (case l => k_is); (case c => k_is); (case k => k_is)
      · refine' K8.txt_of KX G ?a ?l ?c ?k
        (case a => k_is); (case l => k_is); (case c => k_is); (case k => k_is)
      · refine' K8.txt_of KX G ?a ?l ?c ?k
        (case a => k_is); (case l => k_is); (case c => k_is); (case k => k_is)
      · refine' K8.txt_of KX G ?a ?l ?c ?k
        (case a => k_is); (case l => k_is); (case c => k_is); (case k => k_is)
      · refine' K8.txt_of KX G ?a ?l ?c ?k
        (case a => k_is); (case l => k_is); (case c => k_is); (case k => k_is)
      · refine' K8.txt_of KX G ?a ?l ?c ?k
        (case a => k_is); (case l => k_is); (case c => k_is); (case k => k_is)
      · refine' K8.txt_of KX G ?a ?l ?c ?k
        (case a => k_is); (case l => k_is); (case c => k_is); (case k => k_is)
      · refine' K8.txt_of KX G ?a ?l ?c ?k
        (case a => k_is); (case l => k_is); (case c => k_is); (case k => k_is)
      · refine' K8.txt_of KX G ?a ?l ?c ?k
        (case a => k_is); (case l => k_is); (case c => k_is); (case k => k_is)
      · refine' K8.txt_of KX G ?a ?l ?c ?k
        (case a => k_is); (case l => k_is); (case c => k_is); (case k => k_is)
      · refine' K8.txt_of KX G ?a ?l ?c ?k
        (case a => k_is); (case l => k_is); (case c => k_is); (case k => k_is)
      · refine' K8.txt_of KX G ?a ?l ?c ?k
        (case a => k_is); (case l => k_is); (case c => k_is); (case k => k_is)
      · refine' K8.txt_of KX G ?a ?l ?c ?k
        (case a => k_is); (case l => k_is); (case c => k_is); (case k => k_is)
      · refine' K8.txt_of KX G ?a ?l ?c ?k
        (case a => k_is); (case l => k_is); (case c => k_is); (case k => k_is)
      · refine' K8.txt_of KX G ?a ?l ?c ?k
        (case a => k_is); (case l => k_is); (case c => k_is); (case k => k_is)
      · refine' K8.txt_of KX G ?a ?l ?c ?k
        (case a => k_is); (case l => k_is); (case c => k_is); (case k => k_is)
      · refine' K8.txt_of KX G ?a ?l ?c ?k
        (case a => k_is); (case l => k_is); (case c => k_is); (case k => k_is)
      · refine' K8.txt_of KX G ?a ?l ?c ?k
        (case a => k_is); (case l => k_is); (case c => k_is); (case k => k_is)
      · refine' K8.txt_of KX G ?a ?l ?c ?k
        (case a => k_is); (case l => k_is); (case c => k_is); (case k => k_is)
      · refine' K8.txt_of KX G ?a ?l ?c ?k
        (case a => k_is); (case l => k_is); (case c => k_is); (case k => k_is)
      · refine' K8.txt_of KX G ?a ?l ?c ?k
        (case a => k_is); (case l => k_is); (case c => k_is); (case k => k_is)
      · refine' K8.txt_of KX G ?a ?l ?c ?k
        (case a => k_is); (case l => k_is); (case c => k_is); (case k => k_is)
      · refine' K8.txt_of KX G ?a ?l ?c ?k
        (case a => k_is); (case l => k_is); (case c => k_is); (case k => k_is)
      · refine' K8.txt_of KX G ?a ?l ?c ?k
        (case a => k_is); (case l => k_is); (case c => k_is); (case k => k_is)
      · refine' K8.txt_of KX G ?a ?l ?c ?k
        (case a => k_is); (case l => k_is); (case c => k_is); (case k => k_is)
      · refine' K8.txt_of KX G ?a ?l ?c ?k
        (case a => k_is); (case l => k_is); (case c => k_is); (case k => k_is)
      · refine' K8.txt_of KX G ?a ?l ?c ?k
        (case a => k_is); (case l => k_is); (case c => k_is); (case k => k_is)
      · refine' K8.txt_of KX G ?a ?l ?c ?k
        (case a => k_is); (case l => k_is); (case c => k_is); (case k => k_is)
      · refine' K8.txt_of KX G ?a ?l ?c ?k
        (case a => k_is); (case l => k_is); (case c => k_is); (case k => k_is)
      · refine' K8.txt_of KX G ?a ?l ?c ?k
        (case a => k_is); (case l => k_is); (case c => k_is); (case k => k_is)
      · refine' K8.txt_of KX G ?a ?l ?c ?k
        (case a => k_is); (case l => k_is); (case c => k_is); (case k => k_is)
      · refine' K8.txt_of KX G ?a ?l ?c ?k
        (case a => k_is); (case l => k_is); (case c => k_is); (case k => k_is)
      · refine' K8.txt_of KX G ?a ?l ?c ?k
        (case a => k_is); (case l => k_is); (case c => k_is); (case k => k_is)
      · refine' K8.txt_of KX G ?a ?l ?c ?k
        (case a => k_is); (case l => k_is); (case c => k_is); (case k => k_is)
      · refine' K8.txt_of KX G ?a ?l ?c ?k
        (case a => k_is); (case l => k_is); (case c => k_is); (case k => k_is)
      · refine' K8.txt_of KX G ?a ?l ?c ?k
        (case a => k_is); (case l => k_is); (case c => k_is); (case k => k_is)
      · refine' K8.txt_of KX G ?a ?l ?c ?k
        (case a => k_is); (case l => k_is); (case c => k_is); (case k => k_is)
      · refine' K8.txt_of KX G ?a ?l ?c ?k
        (case a => k_is); (case l => k_is); (case c => k_is); (case k => k_is)
      · refine' K8.txt_of KX G ?a ?l ?c ?k
        (case a => k_is); (case l => k_is); (case c => k_is); (case k => k_is)
      · refine' K8.txt_of KX G ?a ?l ?c ?k
        (case a => k_is); (case l => k_is); (case c => k_is); (case k => k_is)
      · refine' K8.txt_of KX G ?a ?l ?c ?k
        (case a => k_is); (case l => k_is); (case c => k_is); (case k => k_is)
      · refine' K8.txt_of KX G ?a ?l ?c ?k
        (case a => k_is); (case l => k_is); (case c => k_is); (case k => k_is)
      · refine' K8.txt_c KX G ?a
        (case a => k_is)
      · refine' K8.txt_c KX G ?a
        (case a => k_is)
      · refine' K8.txt_c KX G ?a
        (case a => k_is)
      · refine' K8.txt_c KX G ?a
        (case a => k_is)
      · refine' K8.txt_c KX G ?a
        (case a => k_is)
      · refine' K8.txt_c KX G ?a
        (case a => k_is)
      · refine' K8.txt_c KX G ?a
        (case a => k_is)
      · refine' PySem.W.mg_none_of KX G ?z
        (case z => k_is)
      · refine' PySem.W.mg_none_of KX G ?z
        (case z => k_is)
      · refine' PySem.W.mg_none_of KX G ?z
        (case z => k_is)
      · refine' PySem.W.mg_none_of KX G ?z
        (case z => k_is)
      · refine' PySem.W.mg_none_of KX G ?z
        (case z => k_is)
      · refine' PySem.W.mg_none_of KX G ?z
        (case z => k_is)
      · refine' PySem.W.mg_none_of KX G ?z
        (case z => k_is)
      · refine' PySem.W.mg_none_of KX G ?z
        (case z => k_is)
      · refine' PySem.W.mg_none_of KX G ?z
        (case z => k_is)
      · refine' PySem.W.mg_none_of KX G ?z
        (case z => k_is)
      · refine' PySem.W.mg_none_of KX G ?z
        (case z => k_is)
      · refine' PySem.W.mg_none_of KX G ?z
        (case z => k_is)
