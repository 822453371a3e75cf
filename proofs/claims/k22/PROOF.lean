import PyProof.Rows.All
import Wide.All
import OpenK.AllK
import Wide.FinOn
import HandS.ForMost
import HandS.Evl
import HandS.SortInts
import HandS.Zip
import HandS.TupAny
import HandS.Conv
import HandS.More
import HandS.Wide
import HandS.Flow
import KE.KTupSum
import KE.GoesEnum
import HandS.Walk
import HandS.IsInst
import HandS.Codes
import PySem.Challenge.RW_paidornot_k22_whole_numerators_and_ways
import HandS.Style
import HandS.Steps
set_option Elab.async false
set_option linter.all false
set_option maxRecDepth 100000
set_option maxHeartbeats 4000000
/-! Sums that coins pay; tables by rests; the round through the rests. -/
namespace Pd
inductive Pay (cs : List Nat) : Nat → Prop
  | zero : Pay cs 0
  | add {c n : Nat} : c ∈ cs → Pay cs n → Pay cs (n + c)
theorem Pay.sum {cs : List Nat} {a b : Nat} (ha : Pay cs a) (hb : Pay cs b) : Pay cs (a + b) := by
  induction hb with
  | zero => exact ha
  | @add c n hc _ ih => rw [← Nat.add_assoc]; exact .add hc ih
theorem Pay.one {cs : List Nat} {c : Nat} (h : c ∈ cs) : Pay cs c := by
  have := Pay.add h (Pay.zero (cs := cs)); rwa [Nat.zero_add] at this
theorem Pay.times {cs : List Nat} {a : Nat} (h : Pay cs a) : ∀ k : Nat, Pay cs (k * a)
  | 0 => by rw [Nat.zero_mul]; exact .zero
  | k + 1 => by rw [Nat.add_mul, Nat.one_mul]; exact (Pay.times h k).sum h
theorem Pay.gen {cs ds : List Nat} (h : ∀ c ∈ cs, Pay ds c) {n : Nat} (p : Pay cs n) : Pay ds n := by
  induction p with
  | zero => exact .zero
  | add hc _ ih => exact ih.sum (h _ hc)
theorem Pay.mono {cs ds : List Nat} (h : ∀ c ∈ cs, c ∈ ds) {n : Nat} (p : Pay cs n) : Pay ds n := p.gen fun c hc => .one (h c hc)
theorem Pay.split {cs : List Nat} {c n : Nat} (p : Pay (cs ++ [c]) n) : ∃ a k, Pay cs a ∧ n = a + k * c := by
  induction p with
  | zero => exact ⟨0, 0, .zero, by simp⟩
  | @add d n hd _ ih =>
    obtain ⟨a, k, ha, rfl⟩ := ih
    rcases List.mem_append.mp hd with hd | hd
    · exact ⟨a + d, k, .add hd ha, by omega⟩
    · obtain rfl := List.mem_singleton.mp hd
      exact ⟨a, k + 1, ha, by rw [Nat.add_mul]; omega⟩
theorem Pay.inv {cs : List Nat} {n : Nat} (p : Pay cs n) : n = 0 ∨ ∃ c ∈ cs, c ≤ n ∧ Pay cs (n - c) := by
  cases p with
  | zero => exact .inl rfl
  | @add c m hc hm => exact .inr ⟨c, hc, by omega, by rwa [Nat.add_sub_cancel]⟩
theorem Pay.step {cs : List Nat} {n c : Nat} (hc : c ∈ cs) (hl : c ≤ n) (p : Pay cs (n - c)) : Pay cs n := by
  have := Pay.add hc p; rwa [Nat.sub_add_cancel hl] at this
/-- payable, as a truth -/
noncomputable def pb (cs : List Nat) (n : Nat) : Bool := @decide (Pay cs n) (Classical.propDecidable _)
theorem pb_iff {cs : List Nat} {n : Nat} : pb cs n = true ↔ Pay cs n := by unfold pb; exact @decide_eq_true_iff _ (Classical.propDecidable _)
theorem pb_not {cs : List Nat} {n : Nat} : pb cs n = false ↔ ¬ Pay cs n := by unfold pb; exact @decide_eq_false_iff_not _ (Classical.propDecidable _)
theorem pb_zero (cs : List Nat) : pb cs 0 = true := pb_iff.mpr .zero
theorem pb_step {cs : List Nat} {n : Nat} (hn : 0 < n) : pb cs n = cs.any fun c => decide (c ≤ n) && pb cs (n - c) := by
  rw [Bool.eq_iff_iff, pb_iff, List.any_eq_true]
  constructor
  · intro p
    rcases p.inv with h | ⟨c, hc, hl, q⟩
    · omega
    · exact ⟨c, hc, by rw [Bool.and_eq_true]; exact ⟨decide_eq_true hl, pb_iff.mpr q⟩⟩
  · rintro ⟨c, hc, h⟩
    rw [Bool.and_eq_true] at h
    exact .step hc (of_decide_eq_true h.1) (pb_iff.mp h.2)

/-! ### residues -/
theorem bez_set {m : Nat} {S : Nat → Prop} (hm : 0 < m) (h0 : ∀ a b, S a → S b → S (a + b)) (hr : ∀ a b, a % m = b % m → S a → S b) (hz : S 0) : ∀ a b, S a → S b → S (Nat.gcd a b) := by
  have hk : ∀ a k, S a → S (k * a) := fun a k ha => by
    induction k with
    | zero => rw [Nat.zero_mul]; exact hz
    | succ k ih => rw [Nat.add_mul, Nat.one_mul]; exact h0 _ _ ih ha
  intro a b
  induction a, b using Nat.gcd.induction with
  | H0 b => intro _ hb; rwa [Nat.gcd_zero_left]
  | H1 a b ha ih =>
    intro sa sb
    rw [Nat.gcd_rec]
    refine ih (hr (b + (m - 1) * (b / a) * a) _ ?_ (h0 _ _ sb (by have := hk a ((m - 1) * (b / a)) sa; exact this))) sa
    have e : b = b % a + (b / a) * a := by have := Nat.mod_add_div b a; rw [Nat.mul_comm a] at this; omega
    have e2 : b + (m - 1) * (b / a) * a = b % a + m * ((b / a) * a) := by
      have h3 : (m - 1) * (b / a) * a + (b / a) * a = m * ((b / a) * a) := by
        rw [Nat.mul_assoc, ← Nat.succ_mul, Nat.succ_eq_add_one, Nat.sub_add_cancel hm]
      omega
    rw [e2, Nat.add_mul_mod_self_left]
theorem bez (s : Nat) {m : Nat} (hm : 0 < m) : ∃ u, (u * s) % m = Nat.gcd s m % m := by
  refine bez_set (m := m) (S := fun a => ∃ u, (u * s) % m = a % m) hm ?_ ?_ ⟨0, by rw [Nat.zero_mul]⟩ s m ⟨1, by rw [Nat.one_mul]⟩ ⟨0, by rw [Nat.zero_mul, Nat.mod_self, Nat.zero_mod]⟩
  · rintro a b ⟨u, hu⟩ ⟨v, hv⟩
    exact ⟨u + v, by rw [Nat.add_mul, Nat.add_mod, hu, hv, ← Nat.add_mod]⟩
  · rintro a b h ⟨u, hu⟩
    exact ⟨u, by rw [hu, h]⟩
/-- the round from a start comes to each rest of its kind -/
theorem cover {s m st y : Nat} (hm : 0 < m) (hy : y < m) (h : y % Nat.gcd s m = st) : ∃ i, i < m / Nat.gcd s m ∧ (st + i * s) % m = y := by
  have hg : 0 < Nat.gcd s m := Nat.gcd_pos_of_pos_right s hm
  obtain ⟨u, hu⟩ := bez s hm
  have hL : 0 < m / Nat.gcd s m := Nat.div_pos (Nat.le_of_dvd hm (Nat.gcd_dvd_right s m)) hg
  have hLs : (m / Nat.gcd s m * s) % m = 0 := by
    obtain ⟨k, hk⟩ := Nat.gcd_dvd_left s m
    obtain ⟨l, hl⟩ := Nat.gcd_dvd_right s m
    have e1 : m / Nat.gcd s m = l := Nat.div_eq_of_eq_mul_right hg hl
    have e2 : l * s = m * k := by
      conv => lhs; rw [hk]
      conv => rhs; rw [hl]
      rw [← Nat.mul_assoc, Nat.mul_comm l]
    rw [e1, e2, Nat.mul_mod_right]
  refine ⟨(u * (y / Nat.gcd s m)) % (m / Nat.gcd s m), Nat.mod_lt _ hL, ?_⟩
  have key : ∀ i, ((i % (m / Nat.gcd s m)) * s) % m = (i * s) % m := fun i => by
    conv => rhs; rw [← Nat.mod_add_div i (m / Nat.gcd s m), Nat.add_mul, Nat.add_mod]
    have : (m / Nat.gcd s m * (i / (m / Nat.gcd s m)) * s) % m = 0 := by
      rw [Nat.mul_right_comm, Nat.mul_mod, hLs, Nat.zero_mul, Nat.zero_mod]
    rw [this, Nat.add_zero, Nat.mod_mod]
  rw [Nat.add_mod, key, ← Nat.add_mod]
  have e3 : (u * (y / Nat.gcd s m) * s) % m = (y / Nat.gcd s m * Nat.gcd s m) % m := by
    rw [Nat.mul_right_comm, Nat.mul_mod, hu, ← Nat.mul_mod, Nat.mul_comm]
  rw [Nat.add_mod, e3, ← Nat.add_mod]
  have e4 : st + y / Nat.gcd s m * Nat.gcd s m = y := by
    rw [← h]; have := Nat.mod_add_div y (Nat.gcd s m); rw [Nat.mul_comm] at this; exact this
  rw [e4, Nat.mod_eq_of_lt hy]
theorem round_mul {s m : Nat} (hm : 0 < m) (i : Nat) : ((i % (m / Nat.gcd s m)) * s) % m = (i * s) % m := by
  have hg : 0 < Nat.gcd s m := Nat.gcd_pos_of_pos_right s hm
  have hLs : (m / Nat.gcd s m * s) % m = 0 := by
    obtain ⟨k, hk⟩ := Nat.gcd_dvd_left s m
    obtain ⟨l, hl⟩ := Nat.gcd_dvd_right s m
    have e1 : m / Nat.gcd s m = l := Nat.div_eq_of_eq_mul_right hg hl
    have e2 : l * s = m * k := by
      conv => lhs; rw [hk]
      conv => rhs; rw [hl]
      rw [← Nat.mul_assoc, Nat.mul_comm l]
    rw [e1, e2, Nat.mul_mod_right]
  conv => rhs; rw [← Nat.mod_add_div i (m / Nat.gcd s m), Nat.add_mul, Nat.add_mod]
  have : (m / Nat.gcd s m * (i / (m / Nat.gcd s m)) * s) % m = 0 := by
    rw [Nat.mul_right_comm, Nat.mul_mod, hLs, Nat.zero_mul, Nat.zero_mod]
  rw [this, Nat.add_zero, Nat.mod_mod]

/-! ### tables -/
abbrev Tb := List (Option Nat)
def At (T : Tb) (x v : Nat) : Prop := T[x]? = some (some v)
theorem At.lt {T : Tb} {x v : Nat} (h : At T x v) : x < T.length := (List.getElem?_eq_some_iff.mp h).1
theorem At.inj {T : Tb} {x v w : Nat} (h : At T x v) (h' : At T x w) : v = w := by
  unfold At at h h'; rw [h] at h'; exact Option.some.inj (Option.some.inj h')
structure Tab (m : Nat) (cs : List Nat) (T : Tb) : Prop where
  len : T.length = m
  sound : ∀ x v, At T x v → v % m = x ∧ Pay cs v
  full : ∀ n, Pay cs n → ∃ v, At T (n % m) v ∧ v ≤ n
structure Ru (m s c : Nat) (T T' : Tb) : Prop where
  len : T'.length = m
  up : ∀ y v k, At T y v → ∃ v', At T' ((y + k * s) % m) v' ∧ v' ≤ v + k * c
  dn : ∀ x v', At T' x v' → ∃ y k v, At T y v ∧ v' = v + k * c ∧ (y + k * s) % m = x
theorem mod_add_mul_mod (a k c m : Nat) : (a % m + k * (c % m)) % m = (a + k * c) % m := by
  rw [Nat.add_mod, Nat.mod_mod, Nat.mul_mod, Nat.mod_mod, ← Nat.mul_mod, ← Nat.add_mod]
theorem Tab.add {m c : Nat} {cs : List Nat} {T T' : Tb} (h : Tab m cs T) (r : Ru m (c % m) c T T') : Tab m (cs ++ [c]) T' := by
  refine ⟨r.len, fun x v' hx => ?_, fun n p => ?_⟩
  · obtain ⟨y, k, v, hy, rfl, e⟩ := r.dn x v' hx
    obtain ⟨e1, p⟩ := h.sound y v hy
    refine ⟨?_, (p.mono fun d hd => List.mem_append_left _ hd).sum ((Pay.one (by simp)).times k)⟩
    rw [← e, ← e1, mod_add_mul_mod]
  · obtain ⟨a, k, ha, rfl⟩ := p.split
    obtain ⟨v, hv, hl⟩ := h.full a ha
    obtain ⟨v', hv', hl'⟩ := r.up _ v k hv
    rw [mod_add_mul_mod] at hv'
    exact ⟨v', hv', by omega⟩
theorem same_rest {m a b : Nat} (h : a % m = b % m) (hl : a ≤ b) : ∃ j, b = a + j * m := by
  refine ⟨b / m - a / m, ?_⟩
  have e1 := Nat.mod_add_div a m
  have e2 := Nat.mod_add_div b m
  have hd : a / m ≤ b / m := Nat.div_le_div_right hl
  have : (b / m - a / m) * m + m * (a / m) = m * (b / m) := by
    rw [Nat.mul_comm m (a / m), ← Nat.add_mul, Nat.sub_add_cancel hd, Nat.mul_comm]
  omega
theorem Tab.paid {m c v : Nat} {cs : List Nat} {T : Tb} (h : Tab m cs T) (hm : m ∈ cs) (hv : At T (c % m) v) (hl : v ≤ c) : Pay cs c := by
  obtain ⟨e, p⟩ := h.sound _ v hv
  obtain ⟨j, hj⟩ := same_rest e hl
  rw [hj]
  exact p.sum ((Pay.one hm).times j)
theorem Tab.pays {m n : Nat} {cs : List Nat} {T : Tb} (h : Tab m cs T) (hm : m ∈ cs) : Pay cs n ↔ ∃ v, At T (n % m) v ∧ v ≤ n :=
  ⟨h.full n, fun ⟨_, hv, hl⟩ => h.paid hm hv hl⟩
theorem Tab.skip {m c v : Nat} {cs : List Nat} {T : Tb} (h : Tab m cs T) (hm : m ∈ cs) (hv : At T (c % m) v) (hl : v ≤ c) : Tab m (cs ++ [c]) T := by
  have hc := h.paid hm hv hl
  have g : ∀ n, Pay (cs ++ [c]) n → Pay cs n := fun n p => p.gen fun d hd => by
    rcases List.mem_append.mp hd with hd | hd
    · exact .one hd
    · obtain rfl := List.mem_singleton.mp hd; exact hc
  exact ⟨h.len, fun x v hx => ⟨(h.sound x v hx).1, (h.sound x v hx).2.mono fun d hd => List.mem_append_left _ hd⟩, fun n p => h.full n (g n p)⟩
theorem tab_first {m : Nat} (hm : 0 < m) : Tab m [m] (some 0 :: List.replicate (m - 1) none) := by
  refine ⟨by simp; omega, fun x v hx => ?_, fun n p => ?_⟩
  · cases x with
    | zero =>
      have e : v = 0 := by unfold At at hx; simp at hx; exact hx.symm
      subst e
      exact ⟨Nat.zero_mod m, .zero⟩
    | succ x =>
      unfold At at hx
      rw [List.getElem?_cons_succ, List.getElem?_replicate] at hx
      split at hx <;> simp at hx
  · have e : n % m = 0 := by
      induction p with
      | zero => exact Nat.zero_mod m
      | @add c n hc _ ih =>
        obtain rfl := List.mem_singleton.mp hc
        rw [Nat.add_mod_right, ih]
    refine ⟨0, ?_, Nat.zero_le n⟩
    rw [e]
    rfl

/-! ### one edge -/
def relax (T : Tb) (h t c : Nat) : Tb := match T[h]?, T[t]? with
  | some (some v), some (some w) => if v + c < w then T.set t (some (v + c)) else T
  | some (some v), some none => T.set t (some (v + c))
  | _, _ => T
theorem relax_len (T : Tb) (h t c : Nat) : (relax T h t c).length = T.length := by
  unfold relax
  split
  · split <;> simp
  · simp
  · rfl
theorem at_set {T : Tb} {t x v w : Nat} (h : At (T.set t (some w)) x v) : (x = t ∧ v = w) ∨ (x ≠ t ∧ At T x v) := by
  unfold At at h ⊢
  rw [List.getElem?_set] at h
  split at h
  · rename_i e
    split at h
    · exact .inl ⟨e.symm, (Option.some.inj (Option.some.inj h)).symm⟩
    · cases h
  · rename_i e
    exact .inr ⟨fun z => e z.symm, h⟩
theorem at_set_same {T : Tb} {t w : Nat} (h : t < T.length) : At (T.set t (some w)) t w := by
  unfold At; rw [List.getElem?_set_self h]
theorem at_set_ne {T : Tb} {t x v w : Nat} (hx : x ≠ t) (h : At T x v) : At (T.set t (some w)) x v := by
  unfold At at h ⊢; rw [List.getElem?_set_ne (fun e => hx e.symm)]; exact h
theorem relax_le {T : Tb} {h t c y v : Nat} (a : At T y v) : ∃ v', At (relax T h t c) y v' ∧ v' ≤ v := by
  unfold relax
  split
  · rename_i u w e1 e2
    split
    · rename_i hlt
      by_cases hy : y = t
      · subst hy
        have : v = w := At.inj a e2
        exact ⟨_, at_set_same a.lt, by omega⟩
      · exact ⟨v, at_set_ne hy a, Nat.le_refl _⟩
    · exact ⟨v, a, Nat.le_refl _⟩
  · rename_i u e1 e2
    by_cases hy : y = t
    · subst hy
      unfold At at a; rw [a] at e2; simp at e2
    · exact ⟨v, at_set_ne hy a, Nat.le_refl _⟩
  · exact ⟨v, a, Nat.le_refl _⟩
theorem relax_edge {T : Tb} {h t c v : Nat} (a : At T h v) (ht : t < T.length) : ∃ v', At (relax T h t c) t v' ∧ v' ≤ v + c := by
  unfold At at a
  unfold relax
  rw [a]
  cases e : T[t]? with
  | none => rw [List.getElem?_eq_none_iff] at e; omega
  | some o =>
    cases o with
    | none => exact ⟨_, at_set_same ht, Nat.le_refl _⟩
    | some w =>
      show ∃ v', At (if v + c < w then T.set t (some (v + c)) else T) t v' ∧ v' ≤ v + c
      split
      · exact ⟨_, at_set_same ht, Nat.le_refl _⟩
      · exact ⟨w, e, by omega⟩
theorem relax_dn {T : Tb} {h t c x v' : Nat} (a : At (relax T h t c) x v') : At T x v' ∨ (x = t ∧ ∃ v, At T h v ∧ v' = v + c) := by
  unfold relax at a
  split at a
  · rename_i u w e1 e2
    split at a
    · rcases at_set a with ⟨hx, hv⟩ | ⟨_, a⟩
      · exact .inr ⟨hx, u, e1, hv⟩
      · exact .inl a
    · exact .inl a
  · rename_i u e1 e2
    rcases at_set a with ⟨hx, hv⟩ | ⟨_, a⟩
    · exact .inr ⟨hx, u, e1, hv⟩
    · exact .inl a
  · exact .inl a
/-- so many turns from a start -/
def turns (T : Tb) (st s c m : Nat) : Nat → Tb
  | 0 => T
  | n + 1 => relax (turns T st s c m n) ((st + n * s) % m) ((st + (n + 1) * s) % m) c
structure InT (T0 T : Tb) (st s c m n : Nat) : Prop where
  len : T.length = m
  le : ∀ y v, At T0 y v → ∃ v', At T y v' ∧ v' ≤ v
  dn : ∀ x v', At T x v' → ∃ y k v, At T0 y v ∧ v' = v + k * c ∧ (y + k * s) % m = x
  fw : ∀ i j, i ≤ j → j ≤ n → ∀ v, At T0 ((st + i * s) % m) v → ∃ v', At T ((st + j * s) % m) v' ∧ v' ≤ v + (j - i) * c
theorem inT {T0 : Tb} {st s c m : Nat} (hm : 0 < m) (hl : T0.length = m) : ∀ n, InT T0 (turns T0 st s c m n) st s c m n
  | 0 => ⟨hl, fun y v a => ⟨v, a, Nat.le_refl _⟩, fun x v' a => ⟨x, 0, v', a, by simp, by rw [Nat.zero_mul, Nat.add_zero, Nat.mod_eq_of_lt (hl ▸ a.lt)]⟩, fun i j h1 h2 v a => by
      have hj : j = 0 := by omega
      have hi : i = 0 := by omega
      subst hj; subst hi
      exact ⟨v, a, by simp⟩⟩
  | n + 1 => by
    have ih := inT (T0 := T0) (st := st) (s := s) (c := c) hm hl n
    have hle : ∀ y v, At T0 y v → ∃ v', At (turns T0 st s c m (n + 1)) y v' ∧ v' ≤ v := fun y v a => by
      obtain ⟨v1, a1, h1⟩ := ih.le y v a
      obtain ⟨v2, a2, h2⟩ := relax_le (h := (st + n * s) % m) (t := (st + (n + 1) * s) % m) (c := c) a1
      exact ⟨v2, a2, by omega⟩
    refine ⟨by show (relax _ _ _ _).length = m; rw [relax_len]; exact ih.len, hle, fun x v' a => ?_, fun i j h1 h2 v a => ?_⟩
    · rcases relax_dn a with a | ⟨hx, w, a, hw⟩
      · exact ih.dn x v' a
      · obtain ⟨y, k, v, hy, e1, e2⟩ := ih.dn _ w a
        refine ⟨y, k + 1, v, hy, by rw [hw, e1, Nat.add_mul]; omega, ?_⟩
        rw [hx, Nat.add_mul, Nat.one_mul, ← Nat.add_assoc, Nat.add_mod, e2, ← Nat.add_mod, Nat.add_mul, Nat.one_mul, Nat.add_assoc]
    · by_cases hj : j ≤ n
      · obtain ⟨v1, a1, l1⟩ := ih.fw i j h1 hj v a
        obtain ⟨v2, a2, l2⟩ := relax_le (h := (st + n * s) % m) (t := (st + (n + 1) * s) % m) (c := c) a1
        exact ⟨v2, a2, by omega⟩
      · have ej : j = n + 1 := by omega
        subst ej
        by_cases hi : i = n + 1
        · subst hi
          obtain ⟨v1, a1, l1⟩ := hle _ v a
          exact ⟨v1, a1, by omega⟩
        · obtain ⟨v1, a1, l1⟩ := ih.fw i n (by omega) (Nat.le_refl n) v a
          obtain ⟨v2, a2, l2⟩ := relax_edge (c := c) a1 (t := (st + (n + 1) * s) % m) (by rw [ih.len]; exact Nat.mod_lt _ hm)
          refine ⟨v2, a2, ?_⟩
          have : (n + 1 - i) * c = (n - i) * c + c := by
            rw [show n + 1 - i = (n - i) + 1 by omega, Nat.add_mul, Nat.one_mul]
          omega
/-- all rounds: starts 0, 1, .. -/
def rounds (T : Tb) (s c m : Nat) : Nat → Tb
  | 0 => T
  | n + 1 => turns (rounds T s c m n) n s c m (2 * (m / Nat.gcd s m))
structure OutT (T0 T : Tb) (s c m n : Nat) : Prop where
  len : T.length = m
  le : ∀ y v, At T0 y v → ∃ v', At T y v' ∧ v' ≤ v
  dn : ∀ x v', At T x v' → ∃ y k v, At T0 y v ∧ v' = v + k * c ∧ (y + k * s) % m = x
  up : ∀ y v k, y % Nat.gcd s m < n → At T0 y v → ∃ v', At T ((y + k * s) % m) v' ∧ v' ≤ v + k * c
theorem outT {T0 : Tb} {s c m : Nat} (hm : 0 < m) (hl : T0.length = m) : ∀ n, OutT T0 (rounds T0 s c m n) s c m n
  | 0 => ⟨hl, fun y v a => ⟨v, a, Nat.le_refl _⟩, fun x v' a => ⟨x, 0, v', a, by simp, by rw [Nat.zero_mul, Nat.add_zero, Nat.mod_eq_of_lt (hl ▸ a.lt)]⟩, fun y v k h => by omega⟩
  | n + 1 => by
    have ih := outT (T0 := T0) (s := s) (c := c) hm hl n
    have it := inT (st := n) (s := s) (c := c) hm ih.len (2 * (m / Nat.gcd s m))
    have hg : 0 < Nat.gcd s m := Nat.gcd_pos_of_pos_right s hm
    have hL : 0 < m / Nat.gcd s m := Nat.div_pos (Nat.le_of_dvd hm (Nat.gcd_dvd_right s m)) hg
    refine ⟨it.len, fun y v a => ?_, fun x v' a => ?_, fun y v k h a => ?_⟩
    · obtain ⟨v1, a1, l1⟩ := ih.le y v a
      obtain ⟨v2, a2, l2⟩ := it.le y v1 a1
      exact ⟨v2, a2, by omega⟩
    · obtain ⟨y, k, v, hy, e1, e2⟩ := it.dn x v' a
      obtain ⟨y', k', v0, hy', e1', e2'⟩ := ih.dn y v hy
      refine ⟨y', k' + k, v0, hy', by rw [e1, e1', Nat.add_mul]; omega, ?_⟩
      rw [Nat.add_mul, ← Nat.add_assoc, Nat.add_mod, e2', ← e2]
      have hy2 : y < m := by rw [← e2']; exact Nat.mod_lt _ hm
      rw [Nat.add_mod_mod]
    · by_cases hlt : y % Nat.gcd s m < n
      · obtain ⟨v1, a1, l1⟩ := ih.up y v k hlt a
        obtain ⟨v2, a2, l2⟩ := it.le _ v1 a1
        exact ⟨v2, a2, by omega⟩
      · have hy : y < m := hl ▸ a.lt
        obtain ⟨i, hi, ei⟩ := cover (s := s) (st := n) hm hy (by omega)
        obtain ⟨v1, a1, l1⟩ := ih.le y v a
        rw [← ei] at a1
        have hk : k % (m / Nat.gcd s m) < m / Nat.gcd s m := Nat.mod_lt _ hL
        obtain ⟨v2, a2, l2⟩ := it.fw i (i + k % (m / Nat.gcd s m)) (by omega) (by omega) v1 a1
        refine ⟨v2, ?_, ?_⟩
        · have e : (y + k * s) % m = (n + (i + k % (m / Nat.gcd s m)) * s) % m := by
            rw [Nat.add_mul, ← Nat.add_assoc, Nat.add_mod (n + i * s), ei, round_mul hm, Nat.add_mod_mod]
          rw [e]
          exact a2
        · have h1 : i + k % (m / Nat.gcd s m) - i = k % (m / Nat.gcd s m) := by omega
          rw [h1] at l2
          have h2 : k % (m / Nat.gcd s m) * c ≤ k * c := Nat.mul_le_mul_right c (Nat.mod_le _ _)
          omega
theorem rounds_ru {T : Tb} {s c m : Nat} (hm : 0 < m) (hl : T.length = m) : Ru m s c T (rounds T s c m (Nat.gcd s m)) := by
  have o := outT (T0 := T) (s := s) (c := c) hm hl (Nat.gcd s m)
  exact ⟨o.len, fun y v k a => o.up y v k (Nat.mod_lt _ (Nat.gcd_pos_of_pos_right s hm)) a, o.dn⟩
end Pd

/-! The coins one by one; all rests; how great the items are. -/
namespace Pd
/-- of the rest of a row those that the ones ahead do not pay -/
noncomputable def needM : List Nat → List Nat → List Nat
  | _, [] => []
  | pre, c :: r => if pb pre c = true then needM (pre ++ [c]) r else c :: needM (pre ++ [c]) r
def bstep (m : Nat) (s : List Nat × Tb) (c : Nat) : List Nat × Tb := match s.2[c % m]? with
  | some (some v) => if c < v then (s.1 ++ [c], rounds s.2 (c % m) c m (Nat.gcd (c % m) m)) else s
  | some none => (s.1 ++ [c], rounds s.2 (c % m) c m (Nat.gcd (c % m) m))
  | none => s
theorem bsteps {m : Nat} (hm : 0 < m) : ∀ (rest pre nd : List Nat) (T : Tb), Tab m pre T → m ∈ pre →
    ∃ T', rest.foldl (bstep m) (nd, T) = (nd ++ needM pre rest, T') ∧ Tab m (pre ++ rest) T'
  | [], pre, nd, T, h, _ => ⟨T, by simp [needM], by simpa using h⟩
  | c :: r, pre, nd, T, h, hp => by
    have hc : c % m < T.length := by rw [h.len]; exact Nat.mod_lt _ hm
    have go : ∀ T1 nd1, bstep m (nd, T) c = (nd1, T1) → Tab m (pre ++ [c]) T1 → nd ++ needM pre (c :: r) = nd1 ++ needM (pre ++ [c]) r →
        ∃ T', (c :: r).foldl (bstep m) (nd, T) = (nd ++ needM pre (c :: r), T') ∧ Tab m (pre ++ (c :: r)) T' := fun T1 nd1 e h1 e2 => by
      obtain ⟨T', e3, h3⟩ := bsteps hm r (pre ++ [c]) nd1 T1 h1 (List.mem_append_left _ hp)
      refine ⟨T', by rw [List.foldl_cons, e, e3, e2], ?_⟩
      rwa [List.append_assoc, List.singleton_append] at h3
    cases e : T[c % m]? with
    | none => rw [List.getElem?_eq_none_iff] at e; omega
    | some o =>
      cases o with
      | none =>
        have hb : pb pre c = false := pb_not.mpr fun p => by
          obtain ⟨v, hv, _⟩ := h.full c p
          unfold At at hv; rw [hv] at e; cases e
        refine go _ _ (show bstep m (nd, T) c = (nd ++ [c], rounds T (c % m) c m (Nat.gcd (c % m) m)) by unfold bstep; rw [e]) (h.add (rounds_ru hm h.len)) ?_
        show nd ++ (if pb pre c = true then _ else c :: _) = _
        rw [hb, if_neg Bool.false_ne_true, List.append_assoc, List.singleton_append]
      | some v =>
        by_cases hv : c < v
        · have hb : pb pre c = false := pb_not.mpr fun p => by
            obtain ⟨v', hv', hl⟩ := h.full c p
            have := At.inj hv' e
            omega
          refine go _ _ (show bstep m (nd, T) c = (nd ++ [c], rounds T (c % m) c m (Nat.gcd (c % m) m)) by unfold bstep; rw [e]; exact if_pos hv) (h.add (rounds_ru hm h.len)) ?_
          show nd ++ (if pb pre c = true then _ else c :: _) = _
          rw [hb, if_neg Bool.false_ne_true, List.append_assoc, List.singleton_append]
        · have hb : pb pre c = true := pb_iff.mpr (h.paid hp e (by omega))
          refine go T nd (show bstep m (nd, T) c = (nd, T) by unfold bstep; rw [e]; exact if_neg hv) (h.skip hp e (by omega)) ?_
          show nd ++ (if pb pre c = true then _ else c :: _) = _
          rw [if_pos hb]
theorem built_spec {m : Nat} (hm : 0 < m) (rest : List Nat) : ∃ T, rest.foldl (bstep m) ([m], some 0 :: List.replicate (m - 1) none) = (m :: needM [m] rest, T) ∧ Tab m (m :: rest) T := by
  obtain ⟨T, e, h⟩ := bsteps hm rest [m] [m] _ (tab_first hm) (by simp)
  exact ⟨T, e, h⟩
theorem needM_all : ∀ (rest pre : List Nat), (∀ a c b, rest = a ++ c :: b → ¬ Pay (pre ++ a) c) → needM pre rest = rest
  | [], _, _ => rfl
  | c :: r, pre, h => by
    have h0 : pb pre c = false := pb_not.mpr (by have := h [] c r rfl; rwa [List.append_nil] at this)
    unfold needM
    rw [h0, if_neg Bool.false_ne_true, needM_all r (pre ++ [c]) fun a d b e => by
      have := h (c :: a) d b (by rw [e]; rfl)
      rwa [List.append_assoc, List.singleton_append]]

/-! ### all rests -/
def gcdL (cs : List Nat) : Nat := cs.foldl Nat.gcd 0
theorem residue_all {m : Nat} {cs : List Nat} (hm : 0 < m) (hc : gcdL cs = 1) (r : Nat) : ∃ n, Pay cs n ∧ n % m = r % m := by
  let S : Nat → Prop := fun a => ∃ n, Pay cs n ∧ n % m = a % m
  have hg : ∀ a b, S a → S b → S (Nat.gcd a b) := bez_set hm (fun a b ⟨x, p, e⟩ ⟨y, q, f⟩ => ⟨x + y, p.sum q, by rw [Nat.add_mod, e, f, ← Nat.add_mod]⟩) (fun a b h ⟨x, p, e⟩ => ⟨x, p, by rw [e, h]⟩) ⟨0, .zero, rfl⟩
  have hf : ∀ (l : List Nat) (a : Nat), (∀ c ∈ l, c ∈ cs) → S a → S (l.foldl Nat.gcd a) := fun l => by
    induction l with
    | nil => intro a _ h; exact h
    | cons c l ih =>
      intro a hs h
      exact ih _ (fun d hd => hs d (List.mem_cons_of_mem _ hd)) (hg a c h ⟨c, .one (hs c (by simp)), rfl⟩)
  have h1 : S 1 := by
    have := hf cs 0 (fun _ h => h) ⟨0, .zero, rfl⟩
    rwa [show cs.foldl Nat.gcd 0 = 1 from hc] at this
  obtain ⟨n, p, e⟩ := h1
  exact ⟨r * n, p.times r, by rw [Nat.mul_mod, e, ← Nat.mul_mod, Nat.mul_one]⟩
theorem countP_lt {α : Type} {p q : α → Bool} : ∀ {l : List α}, (∀ x ∈ l, p x = true → q x = true) → (∃ x ∈ l, q x = true ∧ p x = false) → l.countP p + 1 ≤ l.countP q
  | [], _, ⟨x, hx, _⟩ => by cases hx
  | a :: l, h, ⟨x, hx, hq, hp⟩ => by
    have mono : ∀ {l : List α}, (∀ x ∈ l, p x = true → q x = true) → l.countP p ≤ l.countP q := fun {l} => by
      induction l with
      | nil => intro _; simp
      | cons b l ih =>
        intro h
        have := ih fun x hx => h x (List.mem_cons_of_mem _ hx)
        rw [List.countP_cons, List.countP_cons]
        have hb := h b (by simp)
        cases hpb : p b <;> cases hqb : q b <;> simp_all <;> omega
    rw [List.countP_cons, List.countP_cons]
    rcases List.mem_cons.mp hx with rfl | hx
    · have := mono fun y hy => h y (List.mem_cons_of_mem _ hy)
      rw [hq, hp]
      simp
      omega
    · have ih := countP_lt (fun y hy => h y (List.mem_cons_of_mem _ hy)) ⟨x, hx, hq, hp⟩
      have ha := h a (by simp)
      cases hpa : p a <;> cases hqa : q a <;> simp_all <;> omega
def Rch (cs : List Nat) (m M j x : Nat) : Prop := ∃ n, Pay cs n ∧ n % m = x ∧ n ≤ j * M
noncomputable def rchB (cs : List Nat) (m M j x : Nat) : Bool := @decide (Rch cs m M j x) (Classical.propDecidable _)
theorem rchB_iff {cs : List Nat} {m M j x : Nat} : rchB cs m M j x = true ↔ Rch cs m M j x := by unfold rchB; exact @decide_eq_true_iff _ (Classical.propDecidable _)
theorem Rch.mono {cs : List Nat} {m M j x : Nat} (h : Rch cs m M j x) : Rch cs m M (j + 1) x := by
  obtain ⟨n, p, e, l⟩ := h
  exact ⟨n, p, e, by rw [Nat.add_mul]; omega⟩
theorem rch_grow {cs : List Nat} {m M j : Nat} (hm : 0 < m) (hc : gcdL cs = 1) (hM : ∀ c ∈ cs, c ≤ M) (h : ∃ x, x < m ∧ ¬ Rch cs m M j x) : ∃ x, x < m ∧ Rch cs m M (j + 1) x ∧ ¬ Rch cs m M j x := by
  apply Classical.byContradiction
  intro hn
  obtain ⟨x, hx, hr⟩ := h
  have all : ∀ n, Pay cs n → Rch cs m M j (n % m) := fun n p => by
    induction p with
    | zero => exact ⟨0, .zero, rfl, Nat.zero_le _⟩
    | @add c n hcs p ih =>
      apply Classical.byContradiction
      intro hz
      obtain ⟨k, q, e, l⟩ := ih
      refine hn ⟨(n + c) % m, Nat.mod_lt _ hm, ⟨k + c, .add hcs q, by rw [Nat.add_mod, e, ← Nat.add_mod], ?_⟩, hz⟩
      rw [Nat.add_mul, Nat.one_mul]
      have := hM c hcs
      omega
  obtain ⟨n, p, e⟩ := residue_all hm hc x
  have := all n p
  rw [e, Nat.mod_eq_of_lt hx] at this
  exact hr this
theorem rch_count {cs : List Nat} {m M : Nat} (hm : 0 < m) (hc : gcdL cs = 1) (hM : ∀ c ∈ cs, c ≤ M) : ∀ j, (∀ x, x < m → Rch cs m M j x) ∨ j + 1 ≤ (List.range m).countP (rchB cs m M j)
  | 0 => by
    refine .inr (List.countP_pos_iff.mpr ⟨0, List.mem_range.mpr hm, rchB_iff.mpr ⟨0, .zero, Nat.zero_mod m, Nat.zero_le _⟩⟩)
  | j + 1 => by
    rcases rch_count (M := M) hm hc hM j with h | h
    · exact .inl fun x hx => (h x hx).mono
    · by_cases ha : ∃ x, x < m ∧ ¬ Rch cs m M j x
      · obtain ⟨x, hx, h1, h2⟩ := rch_grow hm hc hM ha
        refine .inr (Nat.le_trans (Nat.succ_le_succ h) (countP_lt (fun y _ hy => rchB_iff.mpr (rchB_iff.mp hy).mono) ⟨x, List.mem_range.mpr hx, rchB_iff.mpr h1, ?_⟩))
        cases hb : rchB cs m M j x with
        | false => rfl
        | true => exact absurd (rchB_iff.mp hb) h2
      · refine .inl fun x hx => Rch.mono ?_
        apply Classical.byContradiction
        intro hz
        exact ha ⟨x, hx, hz⟩
/-- the least sum of each rest is at most so many greatest coins as there are rests but one -/
theorem rch_all {cs : List Nat} {m M : Nat} (hm : 0 < m) (hc : gcdL cs = 1) (hM : ∀ c ∈ cs, c ≤ M) {x : Nat} (hx : x < m) : Rch cs m M (m - 1) x := by
  rcases rch_count (M := M) hm hc hM (m - 1) with h | h
  · exact h x hx
  · rw [Nat.sub_add_cancel hm] at h
    have e : (List.range m).countP (rchB cs m M (m - 1)) = (List.range m).length := by
      have := List.countP_le_length (p := rchB cs m M (m - 1)) (l := List.range m)
      rw [List.length_range] at this ⊢
      omega
    exact rchB_iff.mp (List.countP_eq_length.mp e x (List.mem_range.mpr hx))

/-! ### a whole table -/
/-- what the table of a system tells: rests by the least coin -/
structure Rests (m : Nat) (cs : List Nat) (W : List Nat) : Prop where
  len : W.length = m
  mod : ∀ (x w : Nat), W[x]? = some w → w % m = x
  pay : ∀ (n w : Nat), W[n % m]? = some w → (Pay cs n ↔ w ≤ n)
  top : ∀ (x w M : Nat), W[x]? = some w → (∀ c ∈ cs, c ≤ M) → w ≤ (m - 1) * M
theorem Tab.whole {m : Nat} {cs : List Nat} {T : Tb} (h : Tab m cs T) (hm : 0 < m) (hp : m ∈ cs) (hc : gcdL cs = 1) : ∃ W : List Nat, T = W.map some ∧ Rests m cs W := by
  have hall : ∀ x, x < m → ∃ v, At T x v := fun x hx => by
    obtain ⟨n, p, e⟩ := residue_all hm hc x
    obtain ⟨v, hv, _⟩ := h.full n p
    rw [e, Nat.mod_eq_of_lt hx] at hv
    exact ⟨v, hv⟩
  have hT : T = (T.map fun o => o.getD 0).map some := by
    apply List.ext_getElem?
    intro i
    rw [List.getElem?_map, List.getElem?_map]
    by_cases hi : i < m
    · obtain ⟨v, hv⟩ := hall i hi
      unfold At at hv
      rw [hv]
      rfl
    · rw [List.getElem?_eq_none (by rw [h.len]; omega)]
      rfl
  have hw : ∀ x w, (T.map fun o => o.getD 0)[x]? = some w → At T x w := fun x w e => by
    unfold At
    conv => lhs; rw [hT]
    rw [List.getElem?_map, e]
    rfl
  refine ⟨_, hT, by rw [List.length_map]; exact h.len, fun x w e => (h.sound x w (hw x w e)).1, fun n w e => ?_, fun x w M e hM => ?_⟩
  · rw [h.pays hp]
    constructor
    · rintro ⟨v, hv, hl⟩
      have := At.inj hv (hw _ w e)
      omega
    · intro hl
      exact ⟨w, hw _ w e, hl⟩
  · have a := hw x w e
    obtain ⟨n, p, e2, l⟩ := rch_all hm hc hM (h.len ▸ a.lt)
    obtain ⟨v, hv, hl⟩ := h.full n p
    rw [e2] at hv
    have := At.inj hv a
    omega
end Pd

/-! Rows of integers as series: sums, convolution, (1 - x to a coin). -/
namespace Pd
def sumN (f : Nat → Int) : Nat → Int
  | 0 => 0
  | n + 1 => sumN f n + f n
theorem sumN_congr {f g : Nat → Int} : ∀ n, (∀ k, k < n → f k = g k) → sumN f n = sumN g n
  | 0, _ => rfl
  | n + 1, h => by show sumN f n + f n = sumN g n + g n; rw [sumN_congr n fun k hk => h k (by omega), h n (by omega)]
theorem sumN_zero {f : Nat → Int} (n : Nat) (h : ∀ k, k < n → f k = 0) : sumN f n = 0 := by
  induction n with
  | zero => rfl
  | succ n ih => show sumN f n + f n = 0; rw [ih fun k hk => h k (by omega), h n (by omega)]; rfl
theorem sumN_sub (f g : Nat → Int) : ∀ n, sumN (fun k => f k - g k) n = sumN f n - sumN g n
  | 0 => rfl
  | n + 1 => by show sumN _ n + (f n - g n) = (sumN f n + f n) - (sumN g n + g n); rw [sumN_sub f g n]; omega
theorem sumN_add (f g : Nat → Int) : ∀ n, sumN (fun k => f k + g k) n = sumN f n + sumN g n
  | 0 => rfl
  | n + 1 => by show sumN _ n + (f n + g n) = (sumN f n + f n) + (sumN g n + g n); rw [sumN_add f g n]; omega
/-- a sum in two parts -/
theorem sumN_split (f : Nat → Int) (a : Nat) : ∀ b, sumN f (a + b) = sumN f a + sumN (fun k => f (a + k)) b
  | 0 => by show sumN f a = sumN f a + 0; omega
  | b + 1 => by show sumN f (a + b) + f (a + b) = sumN f a + (sumN _ b + f (a + b)); rw [sumN_split f a b]; omega
theorem sumN_one {f : Nat → Int} {n j : Nat} (hj : j < n) (h : ∀ k, k < n → k ≠ j → f k = 0) : sumN f n = f j := by
  induction n with
  | zero => omega
  | succ n ih =>
    show sumN f n + f n = f j
    by_cases e : j = n
    · subst e
      rw [sumN_zero j fun k hk => h k (by omega) (by omega)]
      omega
    · rw [ih (by omega) fun k hk hne => h k (by omega) hne, h n (by omega) (by omega)]
      omega
/-- backwards -/
theorem sumN_rev (f : Nat → Int) : ∀ n, sumN f n = sumN (fun k => f (n - 1 - k)) n
  | 0 => rfl
  | n + 1 => by
    have h1 : sumN (fun k => f (n + 1 - 1 - k)) (1 + n) = sumN (fun k => f (n + 1 - 1 - k)) 1 + sumN (fun k => f (n + 1 - 1 - (1 + k))) n := sumN_split _ 1 n
    rw [Nat.add_comm 1 n] at h1
    rw [h1]
    show sumN f n + f n = (0 + f (n + 1 - 1 - 0)) + _
    rw [sumN_rev f n, sumN_congr (g := fun k => f (n + 1 - 1 - (1 + k))) n fun k hk => by show f (n - 1 - k) = f (n + 1 - 1 - (1 + k)); congr 1; omega]
    show _ + f n = 0 + f (n + 1 - 1 - 0) + _
    rw [show n + 1 - 1 - 0 = n by omega]
    omega

def conv (f g : Nat → Int) (n : Nat) : Int := sumN (fun k => f k * g (n - k)) (n + 1)
/-- moved by c places -/
def sh (c : Nat) (f : Nat → Int) (n : Nat) : Int := if c ≤ n then f (n - c) else 0
/-- times (1 - x to c) -/
def mc (c : Nat) (f : Nat → Int) (n : Nat) : Int := f n - sh c f n
def dl (n : Nat) : Int := if n = 0 then 1 else 0
theorem conv_congr {f f' g g' : Nat → Int} {n : Nat} (h1 : ∀ k, k ≤ n → f k = f' k) (h2 : ∀ k, k ≤ n → g k = g' k) : conv f g n = conv f' g' n :=
  sumN_congr _ fun k hk => by rw [h1 k (by omega), h2 (n - k) (by omega)]
theorem conv_sh_left (c : Nat) (f g : Nat → Int) (n : Nat) : conv (sh c f) g n = sh c (conv f g) n := by
  unfold conv
  by_cases h : c ≤ n
  · rw [show n + 1 = c + (n - c + 1) by omega, sumN_split, sumN_zero c fun k hk => by unfold sh; rw [if_neg (by omega)]; omega]
    unfold sh
    rw [if_pos h, Int.zero_add]
    refine sumN_congr _ fun k hk => ?_
    rw [if_pos (by omega), show c + k - c = k by omega, show n - (c + k) = n - c - k by omega]
  · rw [sumN_zero (n + 1) fun k hk => by unfold sh; rw [if_neg (by omega)]; omega]
    unfold sh
    rw [if_neg h]
theorem conv_sh_right (c : Nat) (f g : Nat → Int) (n : Nat) : conv f (sh c g) n = sh c (conv f g) n := by
  unfold conv
  by_cases h : c ≤ n
  · rw [show n + 1 = (n - c + 1) + c by omega, sumN_split, sumN_zero (f := fun k => f (n - c + 1 + k) * sh c g (n - (n - c + 1 + k))) c fun k hk => by unfold sh; rw [if_neg (by omega)]; omega]
    unfold sh
    rw [if_pos h, Int.add_zero]
    refine sumN_congr _ fun k hk => ?_
    rw [if_pos (by omega), show n - k - c = n - c - k by omega]
  · rw [sumN_zero (n + 1) fun k hk => by unfold sh; rw [if_neg (by omega)]; omega]
    unfold sh
    rw [if_neg h]
theorem conv_mc_left (c : Nat) (f g : Nat → Int) (n : Nat) : conv (mc c f) g n = mc c (conv f g) n := by
  show sumN (fun k => (f k - sh c f k) * g (n - k)) (n + 1) = conv f g n - sh c (conv f g) n
  rw [← conv_sh_left]
  unfold conv
  rw [← sumN_sub]
  exact sumN_congr _ fun k _ => by rw [Int.sub_mul]
theorem conv_mc_right (c : Nat) (f g : Nat → Int) (n : Nat) : conv f (mc c g) n = mc c (conv f g) n := by
  show sumN (fun k => f k * (g (n - k) - sh c g (n - k))) (n + 1) = conv f g n - sh c (conv f g) n
  rw [← conv_sh_right]
  unfold conv
  rw [← sumN_sub]
  exact sumN_congr _ fun k _ => by rw [Int.mul_sub]
theorem conv_dl_right (f : Nat → Int) (n : Nat) : conv f dl n = f n := by
  unfold conv
  rw [sumN_one (j := n) (by omega) fun k hk hne => by show f k * (if n - k = 0 then 1 else 0) = 0; rw [if_neg (by omega), Int.mul_zero]]
  show f n * (if n - n = 0 then 1 else 0) = f n
  rw [if_pos (by omega), Int.mul_one]
theorem conv_comm (f g : Nat → Int) (n : Nat) : conv f g n = conv g f n := by
  unfold conv
  rw [sumN_rev]
  refine sumN_congr _ fun k hk => ?_
  show f (n + 1 - 1 - k) * g (n - (n + 1 - 1 - k)) = g k * f (n - k)
  rw [show n + 1 - 1 - k = n - k by omega, show n - (n - k) = k by omega, Int.mul_comm]
theorem mc_congr {f g : Nat → Int} {c n : Nat} (h : ∀ k, k ≤ n → f k = g k) : mc c f n = mc c g n := by
  unfold mc sh
  rw [h n (Nat.le_refl n)]
  split
  · rw [h (n - c) (by omega)]
  · rfl
theorem mc_comm (c d : Nat) (f : Nat → Int) (n : Nat) : mc c (mc d f) n = mc d (mc c f) n := by
  show (f n - (if d ≤ n then f (n - d) else 0)) - (if c ≤ n then (f (n - c) - (if d ≤ n - c then f (n - c - d) else 0)) else 0) =
    (f n - (if c ≤ n then f (n - c) else 0)) - (if d ≤ n then (f (n - d) - (if c ≤ n - d then f (n - d - c) else 0)) else 0)
  by_cases h1 : c ≤ n <;> by_cases h2 : d ≤ n <;> by_cases h3 : c + d ≤ n
  · rw [if_pos h1, if_pos h2, if_pos h1, if_pos h2, if_pos (show d ≤ n - c by omega), if_pos (show c ≤ n - d by omega), show n - c - d = n - d - c by omega]; omega
  · rw [if_pos h1, if_pos h2, if_pos h1, if_pos h2, if_neg (show ¬ d ≤ n - c by omega), if_neg (show ¬ c ≤ n - d by omega)]; omega
  · omega
  · rw [if_pos h1, if_neg h2, if_pos h1, if_neg h2, if_neg (show ¬ d ≤ n - c by omega)]; omega
  · omega
  · rw [if_neg h1, if_pos h2, if_neg h1, if_pos h2, if_neg (show ¬ c ≤ n - d by omega)]; omega
  · omega
  · rw [if_neg h1, if_neg h2, if_neg h1, if_neg h2]
/-- times all (1 - x to a coin) -/
def mcs : List Nat → (Nat → Int) → Nat → Int
  | [], f => f
  | c :: cs, f => mcs cs (mc c f)
theorem mcs_congr : ∀ (cs : List Nat) {f g : Nat → Int} {n : Nat}, (∀ k, k ≤ n → f k = g k) → mcs cs f n = mcs cs g n
  | [], _, _, n, h => h n (Nat.le_refl n)
  | c :: cs, _, _, _, h => mcs_congr cs fun k hk => mc_congr fun j hj => h j (by omega)
theorem conv_mcs_left (g : Nat → Int) : ∀ (cs : List Nat) (f : Nat → Int) (n : Nat), conv (mcs cs f) g n = mcs cs (conv f g) n
  | [], _, _ => rfl
  | c :: cs, f, n => by
    show conv (mcs cs (mc c f)) g n = mcs cs (mc c (conv f g)) n
    rw [conv_mcs_left g cs]
    exact mcs_congr cs fun k _ => conv_mc_left c f g k
theorem conv_mcs_right (f : Nat → Int) : ∀ (cs : List Nat) (g : Nat → Int) (n : Nat), conv f (mcs cs g) n = mcs cs (conv f g) n
  | [], _, _ => rfl
  | c :: cs, g, n => by
    show conv f (mcs cs (mc c g)) n = mcs cs (mc c (conv f g)) n
    rw [conv_mcs_right f cs]
    exact mcs_congr cs fun k _ => conv_mc_right c f g k
theorem mcs_mc (c : Nat) : ∀ (cs : List Nat) (f : Nat → Int) (n : Nat), mcs cs (mc c f) n = mc c (mcs cs f) n
  | [], _, _ => rfl
  | d :: cs, f, n => by
    show mcs cs (mc d (mc c f)) n = mc c (mcs cs (mc d f)) n
    rw [← mcs_mc c cs (mc d f)]
    exact mcs_congr cs fun k _ => mc_comm d c f k
theorem mcs_append (cs ds : List Nat) (f : Nat → Int) : mcs (cs ++ ds) f = mcs ds (mcs cs f) := by
  induction cs generalizing f with
  | nil => rfl
  | cons c cs ih => exact ih (mc c f)
/-- the inverse of times (1 - x to c) -/
def icF (c : Nat) (f : Nat → Int) : Nat → Nat → Int
  | 0, n => f n
  | d + 1, n => f n + (if c ≤ n then icF c f d (n - c) else 0)
def ic (c : Nat) (f : Nat → Int) (n : Nat) : Int := icF c f n n
theorem icF_more {c : Nat} (hc : 0 < c) (f : Nat → Int) : ∀ (d n : Nat), n ≤ d → icF c f (d + 1) n = icF c f d n
  | 0, n, h => by
    show f n + (if c ≤ n then icF c f 0 (n - c) else 0) = f n
    rw [if_neg (by omega)]; omega
  | d + 1, n, h => by
    show f n + (if c ≤ n then icF c f (d + 1) (n - c) else 0) = f n + (if c ≤ n then icF c f d (n - c) else 0)
    split
    · rw [icF_more hc f d (n - c) (by omega)]
    · rfl
theorem icF_any {c : Nat} (hc : 0 < c) (f : Nat → Int) (n : Nat) : ∀ d, n ≤ d → icF c f d n = icF c f n n := fun d h => by
  obtain ⟨k, rfl⟩ : ∃ k, d = n + k := ⟨d - n, by omega⟩
  clear h
  induction k with
  | zero => rfl
  | succ k ih => rw [← Nat.add_assoc, icF_more hc f (n + k) n (by omega), ih]
theorem ic_eq {c : Nat} (hc : 0 < c) (f : Nat → Int) (n : Nat) : ic c f n = f n + (if c ≤ n then ic c f (n - c) else 0) := by
  unfold ic
  rw [← icF_more hc f n n (Nat.le_refl n)]
  show f n + (if c ≤ n then icF c f n (n - c) else 0) = _
  split
  · rw [icF_any hc f (n - c) n (by omega)]
  · rfl
theorem mc_ic {c : Nat} (hc : 0 < c) (f : Nat → Int) (n : Nat) : mc c (ic c f) n = f n := by
  unfold mc sh
  rw [ic_eq hc f n]
  omega
def ics : List Nat → (Nat → Int) → Nat → Int
  | [], f => f
  | c :: cs, f => ics cs (ic c f)
theorem mcs_ics : ∀ (cs : List Nat), (∀ c ∈ cs, 0 < c) → ∀ (f : Nat → Int) (n : Nat), mcs cs (ics cs f) n = f n
  | [], _, _, _ => rfl
  | c :: cs, h, f, n => by
    show mcs cs (mc c (ics cs (ic c f))) n = f n
    rw [mcs_mc]
    rw [mc_congr (g := ic c f) fun k _ => mcs_ics cs (fun d hd => h d (List.mem_cons_of_mem _ hd)) (ic c f) k]
    exact mc_ic (h c (by simp)) f n
/-- the payable sums -/
noncomputable def pf (cs : List Nat) (n : Nat) : Int := if pb cs n = true then 1 else 0
/-- the numerator times the ways come to the payable sums -/
theorem num_ways (cs ds : List Nat) (h : ∀ c ∈ cs, 0 < c) (n : Nat) : conv (mcs cs (pf ds)) (ics cs dl) n = pf ds n := by
  rw [conv_mcs_left, ← conv_mcs_right]
  rw [conv_congr (f' := pf ds) (g' := dl) (fun k _ => rfl) fun k _ => mcs_ics cs h dl k]
  exact conv_dl_right _ _
/-- the marks of order: what they are -/
structure Marks (ds : List Nat) (most : Nat) (M : Nat → Int) : Prop where
  gap : ∀ n, n ≤ most → ¬ Pay ds n → M n = 0
  first : M 0 = 1
  paid : ∀ n, n ≤ most → 0 < n → Pay ds n → M n = - sumN (fun k => if pb ds (n - k) = true then M k else 0) n
theorem marks_conv {ds : List Nat} {most : Nat} {M : Nat → Int} (h : Marks ds most M) {n : Nat} (hn : n ≤ most) : conv (pf ds) M n = dl n := by
  rw [conv_comm]
  by_cases h0 : n = 0
  · subst h0
    show 0 + M 0 * pf ds 0 = 1
    unfold pf
    rw [h.first, if_pos (pb_zero ds)]
    rfl
  · have e : dl n = 0 := if_neg h0
    rw [e]
    by_cases p : Pay ds n
    · show sumN (fun k => M k * pf ds (n - k)) n + M n * pf ds (n - n) = 0
      rw [Nat.sub_self, h.paid n hn (by omega) p]
      rw [sumN_congr (f := fun k => M k * pf ds (n - k)) (g := fun k => if pb ds (n - k) = true then M k else 0) n fun k hk => by
        unfold pf
        show M k * (if pb ds (n - k) = true then 1 else 0) = if pb ds (n - k) = true then M k else 0
        split
        · rw [Int.mul_one]
        · rw [Int.mul_zero]]
      unfold pf
      rw [if_pos (pb_zero ds)]
      omega
    · refine sumN_zero _ fun k hk => ?_
      by_cases q : Pay ds k
      · have : pb ds (n - k) = false := pb_not.mpr fun r => p (by have := q.sum r; rwa [show k + (n - k) = n by omega] at this)
        unfold pf
        rw [this, if_neg Bool.false_ne_true, Int.mul_zero]
      · rw [h.gap k (by omega) q, Int.zero_mul]
theorem num_marks {cs ds : List Nat} {most : Nat} {M : Nat → Int} (h : Marks ds most M) {n : Nat} (hn : n ≤ most) : conv (mcs cs (pf ds)) M n = mcs cs dl n := by
  rw [conv_mcs_left]
  exact mcs_congr cs fun k hk => marks_conv h (by omega)

/-! ### where they end -/
/-- nothing beyond a place -/
def EndsAt (f : Nat → Int) (t : Nat) : Prop := ∀ n, t < n → f n = 0
theorem ends_mc {f : Nat → Int} {t c : Nat} (h : EndsAt f t) : EndsAt (mc c f) (t + c) := fun n hn => by
  unfold mc sh
  rw [h n (by omega)]
  split
  · rw [h (n - c) (by omega)]; rfl
  · rfl
theorem top_mc {f : Nat → Int} {t c : Nat} (h : EndsAt f t) (hc : 0 < c) : mc c f (t + c) = - f t := by
  unfold mc sh
  rw [h (t + c) (by omega), if_pos (by omega), show t + c - c = t by omega]
  omega
theorem ends_mcs : ∀ (cs : List Nat) {f : Nat → Int} {t : Nat}, EndsAt f t → (∀ c ∈ cs, 0 < c) → EndsAt (mcs cs f) (t + cs.sum) ∧ (f t ≠ 0 → mcs cs f (t + cs.sum) ≠ 0)
  | [], f, t, h, _ => ⟨by show EndsAt f (t + 0); rw [Nat.add_zero]; exact h, fun hne => by show f (t + 0) ≠ 0; rw [Nat.add_zero]; exact hne⟩
  | c :: cs, f, t, h, hp => by
    obtain ⟨h1, h2⟩ := ends_mcs cs (ends_mc (c := c) h) fun d hd => hp d (List.mem_cons_of_mem _ hd)
    have e : t + (c :: cs).sum = t + c + cs.sum := by rw [List.sum_cons]; omega
    rw [e]
    exact ⟨h1, fun hne => h2 (by rw [top_mc h (hp c (by simp))]; omega)⟩
/-- 1 less x times the payable sums: nothing beyond the first safe sum, where it is 1 -/
structure Last (cs : List Nat) (last : Nat) : Prop where
  gap : ¬ Pay cs last
  safe : ∀ n, last < n → Pay cs n
theorem pf_paid {cs : List Nat} {n : Nat} (h : Pay cs n) : pf cs n = 1 := by unfold pf; rw [if_pos (pb_iff.mpr h)]
theorem pf_gap {cs : List Nat} {n : Nat} (h : ¬ Pay cs n) : pf cs n = 0 := by unfold pf; rw [pb_not.mpr h, if_neg Bool.false_ne_true]
theorem ends_first {ds : List Nat} {last c : Nat} (h : Last ds last) (hc : 0 < c) : EndsAt (mc c (pf ds)) (last + c) ∧ mc c (pf ds) (last + c) = 1 := by
  constructor
  · intro n hn
    unfold mc sh
    rw [pf_paid (h.safe n (by omega)), if_pos (by omega), pf_paid (h.safe (n - c) (by omega))]
    rfl
  · unfold mc sh
    rw [pf_paid (h.safe _ (by omega)), if_pos (by omega), show last + c - c = last by omega, pf_gap h.gap]
    rfl
theorem ends_num {c : Nat} {cs ds : List Nat} {last : Nat} (h : Last ds last) (hp : ∀ d ∈ c :: cs, 0 < d) : EndsAt (mcs (c :: cs) (pf ds)) (last + (c :: cs).sum) ∧ mcs (c :: cs) (pf ds) (last + (c :: cs).sum) ≠ 0 := by
  obtain ⟨h1, h2⟩ := ends_first h (hp c (by simp))
  obtain ⟨h3, h4⟩ := ends_mcs cs h1 fun d hd => hp d (List.mem_cons_of_mem _ hd)
  have e : last + (c :: cs).sum = last + c + cs.sum := by rw [List.sum_cons]; omega
  rw [e]
  exact ⟨h3, h4 (by rw [h2]; decide)⟩
theorem sumN_more {f : Nat → Int} {t a b : Nat} (h : EndsAt f t) (ha : t < a) (hb : a ≤ b) : sumN f b = sumN f a := by
  obtain ⟨k, rfl⟩ : ∃ k, b = a + k := ⟨b - a, by omega⟩
  rw [sumN_split, sumN_zero k fun j _ => h (a + j) (by omega), Int.add_zero]
/-- the sum of a row times (1 - x to c) is 0 -/
theorem sum_mc {f : Nat → Int} {t c n : Nat} (h : EndsAt f t) (hn : t + c < n) : sumN (mc c f) n = 0 := by
  show sumN (fun k => f k - sh c f k) n = 0
  rw [sumN_sub]
  have e : sumN (sh c f) n = sumN f (n - c) := by
    rw [show n = c + (n - c) by omega, sumN_split, sumN_zero c fun k hk => by unfold sh; rw [if_neg (by omega)], Int.zero_add, show c + (n - c) - c = n - c by omega]
    refine sumN_congr _ fun k hk => ?_
    show sh c f (c + k) = f k
    unfold sh
    rw [if_pos (by omega), show c + k - c = k by omega]
  rw [e, sumN_more h (show t < n - c by omega) (show n - c ≤ n by omega)]
  omega
theorem sum_num {c d : Nat} {cs ds : List Nat} {last n : Nat} (h : Last ds last) (hp : ∀ x ∈ c :: d :: cs, 0 < x) (hn : last + (c :: d :: cs).sum < n) : sumN (mcs (c :: d :: cs) (pf ds)) n = 0 := by
  have e : ∀ k, mcs (c :: d :: cs) (pf ds) k = mc d (mcs (c :: cs) (pf ds)) k := fun k => by
    show mcs cs (mc d (mc c (pf ds))) k = mc d (mcs cs (mc c (pf ds))) k
    exact mcs_mc d cs _ k
  rw [sumN_congr n fun k _ => e k]
  obtain ⟨h1, _⟩ := ends_num (c := c) (cs := cs) h fun x hx => hp x (by
    rcases List.mem_cons.mp hx with rfl | hx
    · simp
    · exact List.mem_cons_of_mem _ (List.mem_cons_of_mem _ hx))
  refine sum_mc h1 ?_
  rw [List.sum_cons, List.sum_cons] at hn
  rw [List.sum_cons]
  omega
end Pd
namespace Pd
/-! ### products of rows -/
def prodF (f : Nat → Int) (a : Nat) (g : Nat → Int) (b n : Nat) : Int := sumN (fun i => if i ≤ n ∧ n - i < b then f i * g (n - i) else 0) a
theorem prod_conv {f g : Nat → Int} {a b n : Nat} (hf : ∀ k, a ≤ k → f k = 0) (hg : ∀ k, b ≤ k → g k = 0) : prodF f a g b n = conv f g n := by
  have e : ∀ i, (if i ≤ n ∧ n - i < b then f i * g (n - i) else 0) = if i ≤ n then f i * g (n - i) else 0 := fun i => by
    by_cases h : i ≤ n
    · rw [if_pos h]
      by_cases h2 : n - i < b
      · rw [if_pos ⟨h, h2⟩]
      · rw [if_neg (fun z => h2 z.2), hg (n - i) (by omega), Int.mul_zero]
    · rw [if_neg h, if_neg (fun z => h z.1)]
  unfold prodF conv
  rw [sumN_congr a fun k _ => e k]
  have big : ∀ c, n + 1 ≤ c → sumN (fun i => if i ≤ n then f i * g (n - i) else 0) c = sumN (fun k => f k * g (n - k)) (n + 1) := fun c hc => by
    obtain ⟨d, rfl⟩ : ∃ d, c = (n + 1) + d := ⟨c - (n + 1), by omega⟩
    rw [sumN_split, sumN_zero d fun k _ => by rw [if_neg (by omega)], Int.add_zero]
    exact sumN_congr _ fun k hk => by rw [if_pos (by omega)]
  by_cases h : n + 1 ≤ a
  · exact big a h
  · have s : sumN (fun i => if i ≤ n then f i * g (n - i) else 0) (n + 1) = sumN (fun i => if i ≤ n then f i * g (n - i) else 0) a := by
      obtain ⟨d, hd⟩ : ∃ d, n + 1 = a + d := ⟨n + 1 - a, by omega⟩
      rw [hd, sumN_split, sumN_zero d fun k _ => by
        show (if a + k ≤ n then f (a + k) * g (n - (a + k)) else 0) = 0
        split
        · rw [hf (a + k) (by omega), Int.zero_mul]
        · rfl, Int.add_zero]
    rw [← s]
    exact big (n + 1) (Nat.le_refl _)
/-- 1 less x to c, as a row -/
def gcF (c n : Nat) : Int := if n = 0 then 1 else if n = c then -1 else 0
theorem conv_gc {c : Nat} (hc : 0 < c) (f : Nat → Int) (n : Nat) : conv f (gcF c) n = mc c f n := by
  rw [← conv_dl_right (mc c f), conv_mc_left, ← conv_mc_right]
  refine conv_congr (fun k _ => rfl) fun k _ => ?_
  unfold gcF mc sh dl
  by_cases h0 : k = 0
  · rw [if_pos h0, if_pos h0, if_neg (by omega)]; rfl
  · rw [if_neg h0, if_neg h0]
    by_cases h1 : k = c
    · rw [if_pos h1, if_pos (by omega), if_pos (by omega)]; rfl
    · rw [if_neg h1]
      by_cases h2 : c ≤ k
      · rw [if_pos h2, if_neg (by omega)]; rfl
      · rw [if_neg h2]; rfl
/-- so many ones -/
def onF (c n : Nat) : Int := if n < c then 1 else 0
theorem conv_on (c : Nat) (f : Nat → Int) (n : Nat) : conv (mc 1 f) (onF c) n = mc c f n := by
  rw [conv_mc_left, ← conv_mc_right, ← conv_dl_right (mc c f), conv_mc_left, ← conv_mc_right]
  refine conv_congr (fun k _ => rfl) fun k _ => ?_
  unfold mc sh onF dl
  by_cases h0 : k = 0
  · subst h0
    by_cases hc : 0 < c
    · rw [if_pos hc, if_neg (by omega), if_pos rfl, if_neg (by omega)]
    · rw [if_neg hc, if_neg (by omega), if_pos rfl, if_pos (by omega), if_pos (by omega)]; rfl
  · rw [if_pos (show 1 ≤ k by omega), if_neg h0]
    by_cases h1 : k < c
    · rw [if_pos h1, if_pos (show k - 1 < c by omega), if_neg (show ¬ c ≤ k by omega)]; rfl
    · rw [if_neg h1, if_pos (show c ≤ k by omega)]
      by_cases h2 : k = c
      · rw [if_pos (show k - 1 < c by omega), if_pos (show k - c = 0 by omega)]
      · rw [if_neg (show ¬ k - 1 < c by omega), if_neg (show ¬ k - c = 0 by omega)]
/-- the lots of coins by their signs -/
def lotsF : List Nat → List (Nat × Int)
  | [] => [(0, 1)]
  | c :: cs => lotsF cs ++ (lotsF cs).map fun p => (p.1 + c, -p.2)
def lotSum (l : List (Nat × Int)) (f : Nat → Int) (n : Nat) : Int := (l.map fun p => p.2 * sh p.1 f n).sum
theorem lotSum_app (a b : List (Nat × Int)) (f : Nat → Int) (n : Nat) : lotSum (a ++ b) f n = lotSum a f n + lotSum b f n := by
  unfold lotSum
  rw [List.map_append, List.sum_append]
theorem sh_sh (a b : Nat) (f : Nat → Int) (n : Nat) : sh (a + b) f n = sh b (sh a f) n := by
  show (if a + b ≤ n then f (n - (a + b)) else 0) = if b ≤ n then (if a ≤ n - b then f (n - b - a) else 0) else 0
  by_cases h : b ≤ n
  · rw [if_pos h]
    by_cases h2 : a ≤ n - b
    · rw [if_pos h2, if_pos (by omega), show n - (a + b) = n - b - a by omega]
    · rw [if_neg h2, if_neg (by omega)]
  · rw [if_neg h, if_neg (by omega)]
theorem lotSum_shift (c : Nat) (f : Nat → Int) (n : Nat) : ∀ l : List (Nat × Int), lotSum (l.map fun p => (p.1 + c, -p.2)) f n = - sh c (lotSum l f) n
  | [] => by unfold lotSum sh; simp
  | p :: l => by
    have ih := lotSum_shift c f n l
    have e : ∀ (q : Nat × Int) (r : List (Nat × Int)) (k : Nat), lotSum (q :: r) f k = q.2 * sh q.1 f k + lotSum r f k := fun q r k => by unfold lotSum; rw [List.map_cons, List.sum_cons]
    rw [List.map_cons, e, ih, sh_sh]
    unfold sh
    by_cases h : c ≤ n
    · rw [if_pos h, if_pos h, if_pos h, e]
      show -p.2 * sh p.1 f (n - c) + -lotSum l f (n - c) = -(p.2 * sh p.1 f (n - c) + lotSum l f (n - c))
      rw [Int.neg_mul]
      omega
    · rw [if_neg h, if_neg h, if_neg h]
      simp
theorem lots_mcs : ∀ (cs : List Nat) (f : Nat → Int) (n : Nat), lotSum (lotsF cs) f n = mcs cs f n
  | [], f, n => by
    show (1 * sh 0 f n) + 0 = f n
    unfold sh
    rw [if_pos (Nat.zero_le n), Nat.sub_zero, Int.one_mul, Int.add_zero]
  | c :: cs, f, n => by
    show lotSum (lotsF cs ++ (lotsF cs).map fun p => (p.1 + c, -p.2)) f n = mcs cs (mc c f) n
    rw [lotSum_app, lotSum_shift, mcs_mc]
    unfold mc
    rw [lots_mcs cs f n]
    have e : sh c (lotSum (lotsF cs) f) n = sh c (mcs cs f) n := by
      unfold sh
      split
      · exact lots_mcs cs f (n - c)
      · rfl
    rw [e]
    omega
/-- the row's other order: coins added at the end -/
theorem mcs_snoc (cs : List Nat) (c : Nat) (f : Nat → Int) : mcs (cs ++ [c]) f = mc c (mcs cs f) := mcs_append cs [c] f
/-! ### the greatest item and the greatest gap -/
theorem rests_last {m last : Nat} {cs W : List Nat} (R : Rests m cs W) (hm : 0 < m) (h : Last cs last) : last + m ∈ W ∧ ∀ y ∈ W, y ≤ last + m := by
  have up : ∀ y ∈ W, y ≤ last + m := fun y hy => by
    obtain ⟨x, hx, e⟩ := List.getElem_of_mem hy
    have e2 : W[x]? = some y := by rw [List.getElem?_eq_getElem hx, e]
    have ym := R.mod x y e2
    apply Classical.byContradiction
    intro hn
    have hyx : W[(y - m) % m]? = some y := by
      rw [← Nat.add_mod_right (y - m) m, Nat.sub_add_cancel (by omega), ym]; exact e2
    have := (R.pay (y - m) y hyx).mp (h.safe _ (by omega))
    omega
  refine ⟨?_, up⟩
  have hx : last % m < W.length := by rw [R.len]; exact Nat.mod_lt _ hm
  have e : W[last % m]? = some W[last % m] := List.getElem?_eq_getElem hx
  have hw : last < W[last % m] := by
    apply Classical.byContradiction
    intro hn
    exact h.gap ((R.pay last _ e).mpr (by omega))
  have h2 := up _ (List.getElem_mem hx)
  have h3 := R.mod _ _ e
  have h4 : W[last % m] = last + m := by
    have d : (W[last % m] - last) % m = 0 := by
      have := Nat.sub_mod_eq_zero_of_mod_eq (m := W[last % m]) (n := last) (k := m) h3
      exact this
    have d2 : m ∣ (W[last % m] - last) := Nat.dvd_of_mod_eq_zero d
    have := Nat.le_of_dvd (by omega) d2
    omega
  rw [← h4]
  exact List.getElem_mem hx
theorem last_of_max {m M : Nat} {cs W : List Nat} (R : Rests m cs W) (hm : 0 < m) (hM : M ∈ W) (hg : ∀ y ∈ W, y ≤ M) (hge : m ≤ M) : Last cs (M - m) := by
  constructor
  · intro p
    obtain ⟨x, hx, e⟩ := List.getElem_of_mem hM
    have e2 : W[x]? = some M := by rw [List.getElem?_eq_getElem hx, e]
    have hyx : W[(M - m) % m]? = some M := by
      rw [← Nat.add_mod_right (M - m) m, Nat.sub_add_cancel hge, R.mod x M e2]; exact e2
    have := (R.pay (M - m) M hyx).mp p
    omega
  · intro n hn
    have hx : n % m < W.length := by rw [R.len]; exact Nat.mod_lt _ hm
    have e : W[n % m]? = some W[n % m] := List.getElem?_eq_getElem hx
    refine (R.pay n _ e).mpr ?_
    have h1 := hg _ (List.getElem_mem hx)
    have h3 := R.mod _ _ e
    apply Classical.byContradiction
    intro hlt
    have d : (W[n % m] - n) % m = 0 := Nat.sub_mod_eq_zero_of_mod_eq h3
    have := Nat.le_of_dvd (by omega) (Nat.dvd_of_mod_eq_zero d)
    omega
end Pd

/-! Rules of my own beside the hand layer's: what cannot be reached; sum, max, min, sorted, enumerate of a tuple. -/
namespace Pd
open PySem PySem.Spec PyProof.Rows L2
theorem ps_dead {X : Cx} {st : Stmt} : PS X st (fun _ _ _ => False) := ⟨fun _ _ _ _ _ _ h => h.elim⟩
theorem pss_dead {X : Cx} {st : List Stmt} : PSs X st (fun _ _ _ => False) := ⟨fun _ _ _ _ _ _ h => h.elim⟩
theorem pe_dead {X : Cx} {e : Expr} : PE X e (fun _ _ _ => False) := ⟨fun _ _ _ _ _ _ h => h.elim⟩

/-! ### max, min of a tuple of ints, at the library's level -/
section
variable {prog : Program} {w : World} {A : Around} {E : Value → Shared → Prop} {s : Shared} {l : Addr} {its : List Value} {ns : List Int} {Q : Value → Shared → Prop}
theorem tup_iter {xs : Array (Int × Tok)} {R : Value → Shared → Prop} (hl : s.heap.IsTuple l (intItems xs))
    (h : l ≠ s.heap.objs.size → ∀ s₂ : Shared, s₂ = { s with heap := s.heap.push { cls := .type "tuple_iterator", data := .fields #[.ref l, .int 0 0] } } →
      s₂.heap.IsTupleIter s.heap.objs.size l 0 → s₂.heap.IsTuple l (intItems xs) → (∀ b ∈ [s.heap.objs.size, l], b < s₂.heap.objs.size) → R (.ref s.heap.objs.size) s₂) :
    wpAny (model prog w) A (pyIter (.ref l)) R E s := by
  have lt : l < s.heap.objs.size := by
    obtain ⟨_, e, _⟩ := id hl
    exact Heap.lt_size e
  have up : (s.heap.push { cls := .type "tuple_iterator", data := .fields #[.ref l, .int 0 0] }).objs.size = s.heap.objs.size + 1 := Heap.size_push ..
  refine wpAny_pyIter_tuple hl (h (Nat.ne_of_lt lt) _ rfl ⟨_, Heap.get?_push_size _ rfl, rfl, rfl⟩ (hl.at fun o e => Heap.get?_push_of_some _ e) fun b hb => ?_)
  show b < (s.heap.push _).objs.size
  rw [up]
  have hb' : b = s.heap.objs.size ∨ b = l := by simpa using hb
  rcases hb' with e | e
  · rw [e]
    exact Nat.lt_succ_self _
  · rw [e]
    exact Nat.lt_succ_of_lt lt
theorem tup_kept {h' : Heap} (hk : ∀ b o, b ∉ [s.heap.objs.size] → (s.heap.push { cls := .type "tuple_iterator", data := .fields #[.ref l, .int 0 0] }).get? b = some o → h'.get? b = some o) :
    ∀ b o, s.heap.get? b = some o → h'.get? b = some o := fun b o e =>
  hk b o (fun z => absurd (Heap.lt_size e) (by rw [List.mem_singleton.mp z]; exact Nat.lt_irrefl _)) (Heap.get?_push_of_some _ e)
theorem max_tupI (hh : A.handled = none) (hl : s.heap.IsTuple l its.toArray) (hi : IntsAre its ns) (hne : 0 < ns.length)
    (h : ∀ h' tk M t', (∀ b o, s.heap.get? b = some o → h'.get? b = some o) → M ∈ ns → (∀ a, a ∈ ns → a ≤ M) → Q (.int M t') { s with heap := h', toks := tk }) : wpAny (model prog w) A (call (.builtin "max") [.ref l]) Q E s := by
  obtain ⟨xs, e⟩ := hi.allInts.items
  obtain rfl : (xs.toList.map (·.1)) = ns := by
    rw [← nums_intItems, ← e]
    exact hi.numsOf
  rw [e] at hl
  have hsz : 0 < xs.size := by simpa using hne
  refine call_max_walk (tup_iter hl fun hne2 s₂ e2 st st2 hfp => ?_)
  subst e2
  refine ⟨_, _, _, _, _, _, _, rfl, Walks.tuple (A := A.in1) hh _ l hne2 (intItems xs), ⟨st, st2⟩, hfp, by simpa [intItems] using hsz, CmpOf.ints_gt (numAt xs) (fun _ _ => intItems_at), fun v h' tk hP hk => ?_⟩
  have hv : (intItems xs)[argBest (fun i j => decide (numAt xs i > numAt xs j)) (xs.size - 1)]? = some v := by simpa [intItems] using hP
  obtain ⟨t, rfl⟩ := intItems_at hv
  obtain ⟨b1, b2⟩ := argBest_gt (numAt xs) (xs.size - 1)
  refine h h' tk _ t (tup_kept hk) ?_ fun a ha => ?_
  · rw [numAt_eq]
    exact PySem.getD_mem (by rw [List.length_map, Array.length_toList]; omega)
  · obtain ⟨j, hj, rfl⟩ := mem_getD ha
    rw [List.length_map, Array.length_toList] at hj
    rw [← numAt_eq]
    exact b2 j (by omega)
theorem min_tupI (hh : A.handled = none) (hl : s.heap.IsTuple l its.toArray) (hi : IntsAre its ns) (hne : 0 < ns.length)
    (h : ∀ h' tk M t', (∀ b o, s.heap.get? b = some o → h'.get? b = some o) → M ∈ ns → (∀ a, a ∈ ns → M ≤ a) → Q (.int M t') { s with heap := h', toks := tk }) : wpAny (model prog w) A (call (.builtin "min") [.ref l]) Q E s := by
  obtain ⟨xs, e⟩ := hi.allInts.items
  obtain rfl : (xs.toList.map (·.1)) = ns := by
    rw [← nums_intItems, ← e]
    exact hi.numsOf
  rw [e] at hl
  have hsz : 0 < xs.size := by simpa using hne
  refine call_min_walk (tup_iter hl fun hne2 s₂ e2 st st2 hfp => ?_)
  subst e2
  refine ⟨_, _, _, _, _, _, _, rfl, Walks.tuple (A := A.in1) hh _ l hne2 (intItems xs), ⟨st, st2⟩, hfp, by simpa [intItems] using hsz, CmpOf.ints_lt (numAt xs) (fun _ _ => intItems_at), fun v h' tk hP hk => ?_⟩
  have hv : (intItems xs)[argBest (fun i j => decide (numAt xs i < numAt xs j)) (xs.size - 1)]? = some v := by simpa [intItems] using hP
  obtain ⟨t, rfl⟩ := intItems_at hv
  obtain ⟨b1, b2⟩ := argBest_lt (numAt xs) (xs.size - 1)
  refine h h' tk _ t (tup_kept hk) ?_ fun a ha => ?_
  · rw [numAt_eq]
    exact PySem.getD_mem (by rw [List.length_map, Array.length_toList]; omega)
  · obtain ⟨j, hj, rfl⟩ := mem_getD ha
    rw [List.length_map, Array.length_toList] at hj
    rw [← numAt_eq]
    exact b2 j (by omega)
theorem sum_tupI (hh : A.handled = none) (hl : s.heap.IsTuple l its.toArray) (hi : IntsAre its ns)
    (h : ∀ h' tk t', (∀ b o, s.heap.get? b = some o → h'.get? b = some o) → Q (.int ns.sum t') { s with heap := h', toks := tk }) : wpAny (model prog w) A (call (.builtin "sum") [.ref l]) Q E s := by
  obtain ⟨xs, e⟩ := hi.allInts.items
  have hn : (xs.toList.map (·.1)) = ns := by
    rw [← nums_intItems, ← e]
    exact hi.numsOf
  rw [e] at hl
  refine PySem.W.ktm_sumG hh hl fun h' tk t' hk => ?_
  have q := h h' tk t' hk
  rw [preSum_eq, List.take_of_length_le (by simp), hn]
  exact q
end

/-! ### the calls by values -/
section
variable {X : Cx}
def rSumT (K : PySem.W.Frag) : List V → Hp → VK → Prop := fun vs H Q => ∃ (a : Addr) (ns : List Int), vs = [V.ref a] ∧ SqT K H a (ns.map V.int) ∧ Q (.int ns.sum) H
def rMaxT (K : PySem.W.Frag) : List V → Hp → VK → Prop := fun vs H Q => ∃ (a : Addr) (ns : List Int), vs = [V.ref a] ∧ SqT K H a (ns.map V.int) ∧ 0 < ns.length ∧ ∀ m, m ∈ ns → (∀ y, y ∈ ns → y ≤ m) → Q (.int m) H
def rMinT (K : PySem.W.Frag) : List V → Hp → VK → Prop := fun vs H Q => ∃ (a : Addr) (ns : List Int), vs = [V.ref a] ∧ SqT K H a (ns.map V.int) ∧ 0 < ns.length ∧ ∀ m, m ∈ ns → (∀ y, y ∈ ns → m ≤ y) → Q (.int m) H
theorem cr_sumT (hc : X.calm = true) : CallR X (.builtin "sum") (rSumT X.K) := by
  intro pins s σ H vs us Q I r h
  obtain ⟨a, ns, rfl, hs, q⟩ := h
  obtain ⟨its, rv, p, _⟩ := I.tuple hs
  rw [Vals.ref1 r]
  exact sum_tupI (I.ok.hd hc) p rv.ints fun h' tk t' hk => ⟨.int _, H, I.kept hk, ⟨_, rfl⟩, q⟩
theorem cr_maxT (hc : X.calm = true) : CallR X (.builtin "max") (rMaxT X.K) := by
  intro pins s σ H vs us Q I r h
  obtain ⟨a, ns, rfl, hs, hne, q⟩ := h
  obtain ⟨its, rv, p, _⟩ := I.tuple hs
  rw [Vals.ref1 r]
  exact max_tupI (I.ok.hd hc) p rv.ints hne fun h' tk m t' hk h1 h2 => ⟨.int _, H, I.kept hk, ⟨_, rfl⟩, q m h1 h2⟩
theorem cr_minT (hc : X.calm = true) : CallR X (.builtin "min") (rMinT X.K) := by
  intro pins s σ H vs us Q I r h
  obtain ⟨a, ns, rfl, hs, hne, q⟩ := h
  obtain ⟨its, rv, p, _⟩ := I.tuple hs
  rw [Vals.ref1 r]
  exact min_tupI (I.ok.hd hc) p rv.ints hne fun h' tk m t' hk h1 h2 => ⟨.int _, H, I.kept hk, ⟨_, rfl⟩, q m h1 h2⟩
end
end Pd

/-! sorted of a tuple of ints, of any length; enumerate of a tuple. -/
namespace Pd
open PySem PySem.Spec PyProof.Rows L2
section
variable {prog : Program} {w : World} {A : Around} {E : Value → Shared → Prop} {s : Shared}
theorem sorted_tupO {l : Addr} {vs : List Value} {ltv : Value → Value → Bool} {Q : Value → Shared → Prop} (O : SrtO.Swo ltv) (hl : s.heap.IsTuple l vs.toArray) (hz : vs.length ≤ sizeLine)
    (hS : 2 ≤ vs.length → ∀ (h₁ : Heap) (a : Addr), SrtO.SortableO prog w A.in1.in1 { s with heap := h₁ } a vs ltv)
    (h : ∀ (out : List Value) (h1 h2 : Heap) (ep : Nat), SrtO.Srtd ltv out → SrtO.Stb ltv out vs → (∀ b o, s.heap.get? b = some o → h1.get? b = some o) → (∀ b o, h1.get? b = some o → h2.get? b = some o) →
      h2.get? h1.objs.size = some (seqObj "list" out.toArray ep) → Q (.ref h1.objs.size) { s with heap := h2 }) :
    wpAny (model prog w) A (call (.builtin "sorted") [.ref l]) Q E s := by
  obtain ⟨o, ho, hc, n, hd⟩ := id hl
  refine Calls.call_function_entry kind_sorted plain_sorted entry_sorted (args_sorted1 _) ?_
  unfold Builtin.«sorted»
  refine wpAny_bind (m := checkCount "sorted" 1 1 _) (wpAny_pure ?_)
  refine wpAny_bind (wpAny_collect_seq (A := A.in1) l (.inr rfl) ho hc hd (fun h1 k1 => ?_) (by rw [List.size_toArray]; exact hz))
  refine wpAny_bind (wpAny_newList ?_ hz)
  have at1 : (h1.push (seqObj "list" vs.toArray 0)).get? h1.objs.size = some (seqObj "list" vs.toArray 0) := Heap.get?_push_size _ rfl
  refine wpAny_bind (wpAny_holding (wpAny_call_entry slot_list_sort ⟨_, at1, rfl⟩ entry_list_sort (SrtO.list_sort_ord O at1 hz (fun h2 => hS h2 _ _) fun out hs hb => ⟨_, rfl, ?_⟩) (args_list_sort _)))
  obtain ⟨ep, at2⟩ := sortedHeap_at (out := out.toArray) at1
  refine wpAny_pure ⟨_, rfl, h out h1 _ ep hs hb k1 (fun b u e => ?_) at2⟩
  have lt := Heap.lt_size e
  rw [sortedHeap_old (Nat.ne_of_lt lt) (by rw [Heap.size_push]; exact Nat.lt_succ_of_lt lt)]
  exact Heap.get?_push_of_some _ e
end
section
variable {X : Cx}
def rSortedT (K : PySem.W.Frag) : List V → Hp → VK → Prop := fun vs H Q => ∃ (a : Addr) (ns : List Int), vs = [V.ref a] ∧ SqT K H a (ns.map V.int) ∧
  ∀ (ns' : List Int) (p : Addr), ns'.Perm ns → ns'.Pairwise (· ≤ ·) → H p = none → Q (.ref p) (upd H p (.lst (ns'.map V.int)))
theorem cr_sortedT' : CallR X (.builtin "sorted") (rSortedT X.K) := by
  intro pins s σ H vs us Q I r h
  obtain ⟨a, ns, rfl, hs, q⟩ := h
  obtain ⟨its, rv, pl, hz⟩ := I.tuple hs
  rw [Vals.ref1 r]
  have hi := rv.ints
  refine sorted_tupO SrtO.swo_int pl (by rw [← rv.length]; exact hz) (fun h2 _ _ => SrtO.ints_sortable hi h2) fun out h1 h2 ep o1 o2 k1 k2 at2 => ?_
  obtain ⟨e1, e2, e3⟩ := SrtO.ints_out hi o1 o2
  have hlen : ((out.map SrtO.iv).map V.int).length ≤ sizeLine := by
    rw [List.length_map, e2.length_eq]
    rw [List.length_map] at hz
    exact hz
  have I1 : Inv X pins σ H { s with heap := h1 } := I.kept (t' := s.toks) k1
  exact ⟨.ref _, upd H h1.objs.size (.lst ((out.map SrtO.iv).map V.int)), I1.laid (t' := s.toks) k2 (Nat.le_refl _) ⟨hlen, out, ep, vals_of_ints e1, at2⟩, rfl, q _ _ e2 e3 (I1.hok.fresh (Nat.le_refl _))⟩
end

/-! ### enumerate of a tuple -/
section
variable {prog : Program} {w : World} {A : Around} {E : Value → Shared → Prop} {s : Shared}
theorem enum_new1 {v : Value} {o : Obj} {F : Heap → Prop} (B : Begins v o F) :
    Meets (Builtin.«enumerate.__new__» ⟨[.type "enumerate", v], []⟩) (fun _ R s => F s.heap ∧
      R (.ok (.ret (.ref (s.heap.push o).objs.size))) { s with heap := (s.heap.push o).push { cls := .type "enumerate", data := .fields #[.none, .bool false, .ref s.heap.objs.size, rawInt 0, .none, .none] } }) :=
  .of_wp fun prog w A R s h => by
    obtain ⟨hp, g, d, tk, os⟩ := s
    obtain ⟨hF, hR⟩ := h
    have sub := sub_enumerate
    have go : ∀ {A' : Around} {E : Value → Shared → Prop} {Q : Value → Shared → Prop}, Q (.ref hp.objs.size) ⟨hp.push o, g, d, tk, os⟩ → wpAny (model prog w) A' (pyIter v) Q E ⟨hp, g, d, tk, os⟩ :=
      fun q => B.iter prog w _ _ ⟨hp, g, d, tk, os⟩ _ hF q
    wp_walk using go
    refine wpAny_stack_any fun st => wpAny_pure ?_
    split
    · rename_i c _ _ _ _ _
      cases (c == Value.type "enumerate") <;> (wp_walk using go; exact ⟨_, rfl, hR⟩)
    · wp_walk using go
      exact ⟨_, rfl, hR⟩
theorem call_enum1 {v : Value} {o : Obj} {Fh : Heap → Prop} {Q : Value → Shared → Prop} (B : Begins v o Fh) (hF : Fh s.heap)
    (h : ∀ h' : Heap, IsEnum h' (s.heap.objs.size + 1) s.heap.objs.size 0 .none → h'.get? s.heap.objs.size = some o →
      (∀ b u, s.heap.get? b = some u → h'.get? b = some u) → Q (.ref (s.heap.objs.size + 1)) { s with heap := h' }) :
    wpAny (model prog w) A (call (.type "enumerate") [v]) Q E s := by
  refine callType_new F.called_enumerate (by decide) (F.typeCall_enumerate_1 _) (F.newCall_enumerate_1 _) (fun obj => F.args_object_init_2 obj _) F.entry_enumerate_new (enum_new1 B) ⟨hF, ?_⟩
  have up : (s.heap.push o).objs.size = s.heap.objs.size + 1 := Heap.size_push ..
  show _ ∧ _
  rw [up]
  have he : IsEnum ((s.heap.push o).push { cls := .type "enumerate", data := .fields #[.none, .bool false, .ref s.heap.objs.size, rawInt 0, .none, .none] }) (s.heap.objs.size + 1) s.heap.objs.size 0 .none := by
    have q := Heap.get?_push_size (s.heap.push o) (o := { cls := .type "enumerate", data := .fields #[.none, .bool false, .ref s.heap.objs.size, rawInt 0, .none, .none] }) rfl
    rw [up] at q
    exact q
  exact ⟨⟨_, he, rfl⟩, h _ he (Heap.get?_push_of_some _ (Heap.get?_push_size _ B.free)) fun b u x => Heap.get?_push_of_some _ (Heap.get?_push_of_some _ x)⟩
end
/-- the tuple at a, place by place, in new pairs -/
def IteT (K : PySem.W.Frag) (a : Addr) : It :=
  ⟨fun i H => ∃ (xs : List V) (x : V), SqT K H a xs ∧ xs[i]? = some x,
    fun i H v H' => ∃ T x, v = .ref T ∧ H T = none ∧ H' = upd H T (.tup [.int (i : Nat), x]) ∧ ∀ xs, SqT K H a xs → xs[i]? = some x,
    fun i H => ∃ xs : List V, SqT K H a xs ∧ xs.length ≤ i⟩
theorem turn_enumT {P : Program} {w : World} {K : PySem.W.Frag} {elts : List Expr} {kk : Nat} {tpos : Pos} (a e it : Addr) :
    Turn P w K (.Tuple elts kk tpos) (IteT K a) [e, it] e (fun i h => (∃ old, IsEnum h e it ((i : Nat) : Int) old) ∧ h.IsTupleIter it a i ∧ e ≠ it ∧ a ≠ it ∧ a ≠ e) where
  mem := by simp
  obj := fun i h st b hb => by
    obtain ⟨⟨old, he⟩, hit, _⟩ := st
    obtain ⟨o, ho, hc, hd⟩ := hit
    have cs : b = e ∨ b = it := by simpa using hb
    rcases cs with z | z
    · rw [z]
      exact ⟨_, he, fun v q => nomatch q⟩
    · rw [z]
      exact ⟨o, ho, fun v q => by rw [hd] at q; cases q⟩
  keep := fun i h h' st k => by
    obtain ⟨⟨old, he⟩, hi, ne⟩ := st
    exact ⟨⟨old, k e (by simp) _ he⟩, hi.at fun o q => k it (by simp) o q, ne⟩
  item := by
    intro X hP hw hK hc i pins s σ H E I hf st hg
    subst hP hw hK
    obtain ⟨⟨old, he⟩, hit, ne, nai, nae⟩ := st
    obtain ⟨xs, x, hq, hx⟩ := hg
    obtain ⟨its, rv, p, hz⟩ := I.tuple hq
    obtain ⟨u, hu, ru⟩ := rv.get hx
    have lte : e < s.heap.objs.size := Heap.lt_size he
    have lti : it < s.heap.objs.size := by
      obtain ⟨_, q, _⟩ := id hit
      exact Heap.lt_size q
    have hil : i < its.toArray.size := by
      rw [List.size_toArray]
      exact (List.getElem?_eq_some_iff.mp hu).1
    refine wpAny_pyNext_enum_itemD (Draws.tuple (A := X.A.in1) (I.ok.hd hc) it a nai its.toArray) he ⟨hit, p⟩ hil ne (by simp [ne, nae.symm]) fun y h' tk hy ho hit' hT hsz hk => ?_
    obtain rfl : y = u := by
      have q : its.toArray[i]? = some u := by simpa using hu
      rw [q] at hy
      exact (Option.some.inj hy).symm
    refine ⟨_, rfl, wpAny_letOwnedTupleGo_enum (s := { s with heap := h', toks := tk + 1 }) ho fun h'' he' sb => ?_⟩
    have hT2 : h''.get? s.heap.objs.size = some { cls := .type "tuple", data := .seq #[.int i tk, y] } := (sb.2 _ (Nat.ne_of_gt lte)).trans hT
    have new : ObjOk X.prog X.w (upd H s.heap.objs.size (.tup [.int (i : Nat), x])) h'' s.heap.objs.size (.tup [.int (i : Nat), x]) :=
      ⟨by show 2 ≤ sizeLine; decide, [.int i tk, y], .cons ⟨_, rfl⟩ (.cons ru .nil), ⟨_, hT2, rfl, _, rfl⟩⟩
    have I1 : Inv X pins σ (upd H s.heap.objs.size (.tup [.int (i : Nat), x])) { s with heap := h'', toks := tk + 1 } :=
      I.turnedNew (ch := [e, it]) (fun b ob hb q => (sb.2 b (fun z => hb (by simp [z]))).trans (hk b ob (fun z => hb (by simp [z])) (fun z => hb (by simp [z])) q)) hf (Nat.le_refl _) new
    refine ⟨.ref s.heap.objs.size, _, I1, rfl, ⟨_, x, rfl, I.hok.fresh (Nat.le_refl _), rfl, fun ys hy => by rw [I.tuple_inj hy hq]; exact hx⟩, ⟨⟨y, ?_⟩, hit'.1.at fun o q => (sb.2 it (Ne.symm ne)).trans q, ne, nai, nae⟩, fun b hb => ?_⟩
    · rw [show ((i + 1 : Nat) : Int) = (i : Int) + 1 by omega]
      exact he'
    · have ltb : b < s.heap.objs.size := by
        have cs : b = e ∨ b = it := by simpa using hb
        rcases cs with z | z <;> (rw [z]; assumption)
      rw [upd_ne (Nat.ne_of_lt ltb)]
      exact (hf b hb).1
  done := by
    intro X hP hw hK hc i pins s σ H E I hf st hg
    subst hP hw hK
    obtain ⟨⟨old, he⟩, hit, ne, nai, nae⟩ := st
    obtain ⟨xs, hq, hx⟩ := hg
    obtain ⟨its, rv, p, hz⟩ := I.tuple hq
    obtain ⟨f0, f1, f2, f3, f4, f5⟩ := hf it (by simp)
    have hn : its.toArray.size ≤ i := by
      rw [List.size_toArray, ← rv.length]
      exact hx
    have T : s.TypeIs (.ref e) "enumerate" := ⟨_, he, rfl⟩
    unfold pyNext
    refine wpAny_bind (wpAny_attempt (wpAny_callSpecial?_slot (name := Str.ofString "__next__") T F.slot_enumerate_next (wpAny_call_entry F.slot_enumerate_next T F.entry_enumerate_next ?_ (F.args_enumerate_next_1 _))))
    show wpAny _ _ (field (.ref e) 2 >>= _) _ _ _
    refine wpAny_bind (wpAny_field he rfl (x := .ref it) rfl ?_)
    refine wpAny_bind (RZ.nextOf_tuple_end (A := X.A.in1) (I.ok.hd hc) hit p (Array.getElem?_eq_none hn) fun h' x ext hx' => ?_)
    obtain ⟨o, ho, hcl⟩ := hx'
    refine wpAny_bind (wpAny_isInstance (T := "StopIteration") (b := true) ⟨o, ho, hcl⟩ isSubtype_stop ?_)
    exact wpAny_pure ⟨rfl, I.turned (t' := s.toks) (fun b o hb q => ext b o hb q) f0 f1 f3 f4 f5⟩
  self := fun A i s Q E st h => by
    obtain ⟨⟨old, he⟩, _⟩ := st
    exact wpAny_pyIter_enum he h
def iEnumT (K : PySem.W.Frag) (ta : TA) : TI := fun σ H R => ta σ H fun vs H1 => ∃ a xs, vs = [.ref a] ∧ SqT K H1 a xs ∧ R (IteT K a) H1
theorem pi_enumT {X : Cx} {e : Expr} {ta : TA} {p pos tpos : Pos} {elts : List Expr} {kk : Nat} (hg : Gl X "enumerate") (hm : X.mg "enumerate" = none) (ha : PA X [e] ta) (hs : starEach [e] X.env = [(false, eval e X.env)] := by rfl) :
    PI X (.Tuple elts kk tpos) (.Call (.Name "enumerate" p) [e] [] pos) (iEnumT X.K ta) := by
  refine ⟨fun pins s σ H R I h => ?_⟩
  refine Call_ (ld_blt I hg hm boot_enumerate (PyProof.Rows.callWith_type1 (thn (ha.run pos pins s σ H _ I h) fun us s1 ⟨vs, H1, I1, r1, q1⟩ => ?_) hs rfl))
  obtain ⟨a, xs, ex, hq, q⟩ := q1
  subst ex
  rw [show us = [Value.ref a] from Vals.ref1 r1]
  obtain ⟨its, rv, pl, hz⟩ := I1.tuple hq
  have lta : a < s1.heap.objs.size := by
    obtain ⟨_, e, _⟩ := id pl
    exact Heap.lt_size e
  refine call_enum1 (begins_tuple a its.toArray) pl fun h' he hit hk => wpAny_pyIter_enum he ?_
  have I2 : Inv X pins σ H1 { s1 with heap := h' } := I1.kept (t' := s1.toks) hk
  refine ⟨s1.heap.objs.size + 1, [s1.heap.objs.size + 1, s1.heap.objs.size], _, _, H1, rfl, I2, turn_enumT a (s1.heap.objs.size + 1) s1.heap.objs.size, ⟨⟨.none, he⟩, ⟨_, hit, rfl, rfl⟩, Nat.succ_ne_self _, Nat.ne_of_lt lta, Nat.ne_of_lt (Nat.lt_succ_of_lt lta)⟩, fun b hb => ?_, q⟩
  have cs : b = s1.heap.objs.size + 1 ∨ b = s1.heap.objs.size := by simpa using hb
  have le : s1.heap.objs.size ≤ b := by
    rcases cs with z | z <;> rw [z]
    · exact Nat.le_add_right _ _
    · exact Nat.le_refl _
  exact I1.fpOk le (I1.hok.fresh le)
theorem walk_enumT {K : PySem.W.Frag} {a : Addr} {xs : List V} : Walk (IteT K a) xs.length (fun H => SqT K H a xs) (YPair (fun i => some (.int (i : Nat))) (fun i => xs[i]?)) := by
  refine ⟨fun i _ hi q => ⟨xs, xs[i], q, by simp [hi]⟩, fun _ q => ⟨xs, q, Nat.le_refl _⟩, fun i H v H' _ q y => ?_⟩
  obtain ⟨T, x, y1, y2, y3, y4⟩ := y
  exact ⟨T, .int (i : Nat), x, y1, y2, y3, rfl, y4 xs q⟩
end Pd

/-! The text of the row by places; what the top leaves. Printed by top_k22.py. -/
namespace Pd
open PySem PySem.Spec PyProof.Rows L2
def topS (i : Nat) : Stmt := PySem.Challenge.pw_paidornot_k22_whole_numerators_and_ways.main.body.getD i (.Pass ⟨0, 0, 0, 0⟩)
abbrev s_is_integer : Stmt := topS 2
abbrev n_is_integer : List Str := ["thing"]
theorem sc_is_integer : FnScope n_is_integer ["thing"] (defScope s_is_integer) := ⟨rfl, rfl, rfl, by decide +kernel, rfl, by decide +kernel, by decide +kernel⟩
abbrev s_is_within : Stmt := topS 3
abbrev n_is_within : List Str := ["thing", "low", "high"]
theorem sc_is_within : FnScope n_is_within ["thing", "low", "high"] (defScope s_is_within) := ⟨rfl, rfl, rfl, by decide +kernel, rfl, by decide +kernel, by decide +kernel⟩
abbrev s_common : Stmt := topS 4
abbrev n_common : List Str := ["one", "other"]
theorem sc_common : FnScope n_common ["one", "other"] (defScope s_common) := ⟨rfl, rfl, rfl, by decide +kernel, rfl, by decide +kernel, by decide +kernel⟩
abbrev s_common_of : Stmt := topS 5
abbrev n_common_of : List Str := ["some", "found", "item"]
theorem sc_common_of : FnScope n_common_of ["some"] (defScope s_common_of) := ⟨rfl, rfl, rfl, by decide +kernel, rfl, by decide +kernel, by decide +kernel⟩
abbrev s_round_up : Stmt := topS 21
abbrev n_round_up : List Str := ["found", "coin", "step", "modulus", "rounds", "start", "here", "turn", "there"]
theorem sc_round_up : FnScope n_round_up ["found", "coin", "step", "modulus"] (defScope s_round_up) := ⟨rfl, rfl, rfl, by decide +kernel, rfl, by decide +kernel, by decide +kernel⟩
abbrev s_built : Stmt := topS 22
abbrev n_built : List Str := ["coins", "modulus", "needed_ones", "table", "coin", "held"]
theorem sc_built : FnScope n_built ["coins"] (defScope s_built) := ⟨rfl, rfl, rfl, by decide +kernel, rfl, by decide +kernel, by decide +kernel⟩
abbrev s_check_coins : Stmt := topS 23
abbrev n_check_coins : List Str := ["coins", "at", "coin"]
theorem sc_check_coins : FnScope n_check_coins ["coins"] (defScope s_check_coins) := ⟨rfl, rfl, rfl, by decide +kernel, rfl, by decide +kernel, by decide +kernel⟩
abbrev s_System_init : Stmt := inClass (topS 24) 0
abbrev n_System_init : List Str := ["self", "coins", "needed_ones", "table"]
theorem sc_System_init : FnScope n_System_init ["self", "coins"] (defScope s_System_init) := ⟨rfl, rfl, rfl, by decide +kernel, rfl, by decide +kernel, by decide +kernel⟩
abbrev s_check_system : Stmt := topS 25
abbrev n_check_system : List Str := ["system"]
theorem sc_check_system : FnScope n_check_system ["system"] (defScope s_check_system) := ⟨rfl, rfl, rfl, by decide +kernel, rfl, by decide +kernel, by decide +kernel⟩
abbrev s_check_sum : Stmt := topS 26
abbrev n_check_sum : List Str := ["system", "number"]
theorem sc_check_sum : FnScope n_check_sum ["system", "number"] (defScope s_check_sum) := ⟨rfl, rfl, rfl, by decide +kernel, rfl, by decide +kernel, by decide +kernel⟩
abbrev s_pays_of : Stmt := topS 27
abbrev n_pays_of : List Str := ["system", "number"]
theorem sc_pays_of : FnScope n_pays_of ["system", "number"] (defScope s_pays_of) := ⟨rfl, rfl, rfl, by decide +kernel, rfl, by decide +kernel, by decide +kernel⟩
abbrev s_greatest_of : Stmt := topS 29
abbrev n_greatest_of : List Str := ["system"]
theorem sc_greatest_of : FnScope n_greatest_of ["system"] (defScope s_greatest_of) := ⟨rfl, rfl, rfl, by decide +kernel, rfl, by decide +kernel, by decide +kernel⟩
abbrev s_poly_of : Stmt := topS 32
abbrev n_poly_of : List Str := ["system", "last", "found", "number"]
theorem sc_poly_of : FnScope n_poly_of ["system"] (defScope s_poly_of) := ⟨rfl, rfl, rfl, by decide +kernel, rfl, by decide +kernel, by decide +kernel⟩
abbrev s_product : Stmt := topS 33
abbrev n_product : List Str := ["one", "other", "found", "at", "item", "place", "more"]
theorem sc_product : FnScope n_product ["one", "other"] (defScope s_product) := ⟨rfl, rfl, rfl, by decide +kernel, rfl, by decide +kernel, by decide +kernel⟩
abbrev s_numerator : Stmt := topS 34
abbrev n_numerator : List Str := ["system", "found", "coin"]
theorem sc_numerator : FnScope n_numerator ["system"] (defScope s_numerator) := ⟨rfl, rfl, rfl, by decide +kernel, rfl, by decide +kernel, by decide +kernel⟩
abbrev s_over_line : Stmt := topS 35
abbrev n_over_line : List Str := ["row", "coin"]
theorem sc_over_line : FnScope n_over_line ["row", "coin"] (defScope s_over_line) := ⟨rfl, rfl, rfl, by decide +kernel, rfl, by decide +kernel, by decide +kernel⟩
abbrev s_trimmed : Stmt := topS 36
abbrev n_trimmed : List Str := ["row", "found"]
theorem sc_trimmed : FnScope n_trimmed ["row"] (defScope s_trimmed) := ⟨rfl, rfl, rfl, by decide +kernel, rfl, by decide +kernel, by decide +kernel⟩
abbrev s_chi : Stmt := topS 37
abbrev n_chi : List Str := ["system", "number", "lots", "coin", "total", "sign"]
theorem sc_chi : FnScope n_chi ["system", "number"] (defScope s_chi) := ⟨rfl, rfl, rfl, by decide +kernel, rfl, by decide +kernel, by decide +kernel⟩
abbrev s_order_mark : Stmt := topS 38
abbrev n_order_mark : List Str := ["system", "most", "found", "number", "below", "less"]
theorem sc_order_mark : FnScope n_order_mark ["system", "most"] (defScope s_order_mark) := ⟨rfl, rfl, rfl, by decide +kernel, rfl, by decide +kernel, by decide +kernel⟩
abbrev s_small_ways : Stmt := topS 42
abbrev n_small_ways : List Str := ["coins", "most", "found", "coin", "number"]
theorem sc_small_ways : FnScope n_small_ways ["coins", "most"] (defScope s_small_ways) := ⟨rfl, rfl, rfl, by decide +kernel, rfl, by decide +kernel, by decide +kernel⟩
abbrev s_ways_of : Stmt := topS 46
abbrev n_ways_of : List Str := ["system", "number", "step", "many", "told", "row", "turn"]
theorem sc_ways_of : FnScope n_ways_of ["system", "number"] (defScope s_ways_of) := ⟨rfl, rfl, rfl, by decide +kernel, rfl, by decide +kernel, by decide +kernel⟩
abbrev s_ways : Stmt := topS 47
abbrev n_ways : List Str := ["system", "number"]
theorem sc_ways : FnScope n_ways ["system", "number"] (defScope s_ways) := ⟨rfl, rfl, rfl, by decide +kernel, rfl, by decide +kernel, by decide +kernel⟩
abbrev s_ways_list : Stmt := topS 48
abbrev n_ways_list : List Str := ["system", "most"]
theorem sc_ways_list : FnScope n_ways_list ["system", "most"] (defScope s_ways_list) := ⟨rfl, rfl, rfl, by decide +kernel, rfl, by decide +kernel, by decide +kernel⟩
abbrev s_law_hand : Stmt := topS 50
abbrev n_law_hand : List Str := ["script", "cells", "cell"]
theorem sc_law_hand : FnScope n_law_hand ["script"] (defScope s_law_hand) := ⟨rfl, rfl, rfl, by decide +kernel, rfl, by decide +kernel, by decide +kernel⟩
abbrev s_law_draw : Stmt := topS 51
abbrev n_law_draw : List Str := ["hand", "many", "cell", "digit", "number"]
theorem sc_law_draw : FnScope n_law_draw ["hand", "many"] (defScope s_law_draw) := ⟨rfl, rfl, rfl, by decide +kernel, rfl, by decide +kernel, by decide +kernel⟩
abbrev s_law_common : Stmt := topS 52
abbrev n_law_common : List Str := ["one", "other"]
theorem sc_law_common : FnScope n_law_common ["one", "other"] (defScope s_law_common) := ⟨rfl, rfl, rfl, by decide +kernel, rfl, by decide +kernel, by decide +kernel⟩
abbrev s_law_paid : Stmt := topS 53
abbrev n_law_paid : List Str := ["coins", "upto", "found", "number", "coin"]
theorem sc_law_paid : FnScope n_law_paid ["coins", "upto"] (defScope s_law_paid) := ⟨rfl, rfl, rfl, by decide +kernel, rfl, by decide +kernel, by decide +kernel⟩
abbrev s_law_coins : Stmt := topS 54
abbrev n_law_coins : List Str := ["hand", "least", "many", "size", "turn", "some", "rows", "kept", "coin", "shared", "at", "other"]
theorem sc_law_coins : FnScope n_law_coins ["hand", "least", "many", "size"] (defScope s_law_coins) := ⟨rfl, rfl, rfl, by decide +kernel, rfl, by decide +kernel, by decide +kernel⟩
abbrev s_law_ways : Stmt := topS 55
abbrev n_law_ways : List Str := ["coins", "most", "found", "coin", "number"]
theorem sc_law_ways : FnScope n_law_ways ["coins", "most"] (defScope s_law_ways) := ⟨rfl, rfl, rfl, by decide +kernel, rfl, by decide +kernel, by decide +kernel⟩
abbrev s_law_lots : Stmt := topS 56
abbrev n_law_lots : List Str := ["coins", "most", "found", "coin", "number"]
theorem sc_law_lots : FnScope n_law_lots ["coins", "most"] (defScope s_law_lots) := ⟨rfl, rfl, rfl, by decide +kernel, rfl, by decide +kernel, by decide +kernel⟩
abbrev s_law_times : Stmt := topS 57
abbrev n_law_times : List Str := ["one", "other", "number", "at", "item"]
theorem sc_law_times : FnScope n_law_times ["one", "other", "number"] (defScope s_law_times) := ⟨rfl, rfl, rfl, by decide +kernel, rfl, by decide +kernel, by decide +kernel⟩
abbrev s_law_is_right : Stmt := topS 58
abbrev n_law_is_right : List Str := ["hand", "coins", "system", "wide", "flags", "last", "most", "own", "lots", "row", "marks", "number", "turn", "due"]
theorem sc_law_is_right : FnScope n_law_is_right ["hand", "coins"] (defScope s_law_is_right) := ⟨rfl, rfl, rfl, by decide +kernel, rfl, by decide +kernel, by decide +kernel⟩
abbrev s_law : Stmt := topS 59
abbrev n_law : List Str := ["script", "hand"]
theorem sc_law : FnScope n_law ["script"] (defScope s_law) := ⟨rfl, rfl, rfl, by decide +kernel, rfl, by decide +kernel, by decide +kernel⟩
structure Top (K : PySem.W.Frag) (mg : Str → Option Value) where
  a_is_integer : Addr
  fd_is_integer : FuncData
  F_is_integer : Fun K "is_integer" "is_integer" s_is_integer a_is_integer fd_is_integer
  g_is_integer : mg "is_integer" = some (.ref a_is_integer)
  b_is_integer : Binds K fd_is_integer ["thing"] []
  a_is_within : Addr
  fd_is_within : FuncData
  F_is_within : Fun K "is_within" "is_within" s_is_within a_is_within fd_is_within
  g_is_within : mg "is_within" = some (.ref a_is_within)
  b_is_within : Binds K fd_is_within ["thing", "low", "high"] []
  a_common : Addr
  fd_common : FuncData
  F_common : Fun K "common" "common" s_common a_common fd_common
  g_common : mg "common" = some (.ref a_common)
  b_common : Binds K fd_common ["one", "other"] []
  a_common_of : Addr
  fd_common_of : FuncData
  F_common_of : Fun K "common_of" "common_of" s_common_of a_common_of fd_common_of
  g_common_of : mg "common_of" = some (.ref a_common_of)
  b_common_of : Binds K fd_common_of ["some"] []
  a_round_up : Addr
  fd_round_up : FuncData
  F_round_up : Fun K "round_up" "round_up" s_round_up a_round_up fd_round_up
  g_round_up : mg "round_up" = some (.ref a_round_up)
  b_round_up : Binds K fd_round_up ["found", "coin", "step", "modulus"] []
  a_built : Addr
  fd_built : FuncData
  F_built : Fun K "built" "built" s_built a_built fd_built
  g_built : mg "built" = some (.ref a_built)
  b_built : Binds K fd_built ["coins"] []
  a_check_coins : Addr
  fd_check_coins : FuncData
  F_check_coins : Fun K "check_coins" "check_coins" s_check_coins a_check_coins fd_check_coins
  g_check_coins : mg "check_coins" = some (.ref a_check_coins)
  b_check_coins : Binds K fd_check_coins ["coins"] []
  a_System_init : Addr
  fd_System_init : FuncData
  F_System_init : Fun K "__init__" "System.__init__" s_System_init a_System_init fd_System_init
  b_System_init : Binds K fd_System_init ["self", "coins"] []
  a_check_system : Addr
  fd_check_system : FuncData
  F_check_system : Fun K "check_system" "check_system" s_check_system a_check_system fd_check_system
  g_check_system : mg "check_system" = some (.ref a_check_system)
  b_check_system : Binds K fd_check_system ["system"] []
  a_check_sum : Addr
  fd_check_sum : FuncData
  F_check_sum : Fun K "check_sum" "check_sum" s_check_sum a_check_sum fd_check_sum
  g_check_sum : mg "check_sum" = some (.ref a_check_sum)
  b_check_sum : Binds K fd_check_sum ["system", "number"] []
  a_pays_of : Addr
  fd_pays_of : FuncData
  F_pays_of : Fun K "pays_of" "pays_of" s_pays_of a_pays_of fd_pays_of
  g_pays_of : mg "pays_of" = some (.ref a_pays_of)
  b_pays_of : Binds K fd_pays_of ["system", "number"] []
  a_greatest_of : Addr
  fd_greatest_of : FuncData
  F_greatest_of : Fun K "greatest_of" "greatest_of" s_greatest_of a_greatest_of fd_greatest_of
  g_greatest_of : mg "greatest_of" = some (.ref a_greatest_of)
  b_greatest_of : Binds K fd_greatest_of ["system"] []
  a_poly_of : Addr
  fd_poly_of : FuncData
  F_poly_of : Fun K "poly_of" "poly_of" s_poly_of a_poly_of fd_poly_of
  g_poly_of : mg "poly_of" = some (.ref a_poly_of)
  b_poly_of : Binds K fd_poly_of ["system"] []
  a_product : Addr
  fd_product : FuncData
  F_product : Fun K "product" "product" s_product a_product fd_product
  g_product : mg "product" = some (.ref a_product)
  b_product : Binds K fd_product ["one", "other"] []
  a_numerator : Addr
  fd_numerator : FuncData
  F_numerator : Fun K "numerator" "numerator" s_numerator a_numerator fd_numerator
  g_numerator : mg "numerator" = some (.ref a_numerator)
  b_numerator : Binds K fd_numerator ["system"] []
  a_over_line : Addr
  fd_over_line : FuncData
  F_over_line : Fun K "over_line" "over_line" s_over_line a_over_line fd_over_line
  g_over_line : mg "over_line" = some (.ref a_over_line)
  b_over_line : Binds K fd_over_line ["row", "coin"] []
  a_trimmed : Addr
  fd_trimmed : FuncData
  F_trimmed : Fun K "trimmed" "trimmed" s_trimmed a_trimmed fd_trimmed
  g_trimmed : mg "trimmed" = some (.ref a_trimmed)
  b_trimmed : Binds K fd_trimmed ["row"] []
  a_chi : Addr
  fd_chi : FuncData
  F_chi : Fun K "chi" "chi" s_chi a_chi fd_chi
  g_chi : mg "chi" = some (.ref a_chi)
  b_chi : Binds K fd_chi ["system", "number"] []
  a_order_mark : Addr
  fd_order_mark : FuncData
  F_order_mark : Fun K "order_mark" "order_mark" s_order_mark a_order_mark fd_order_mark
  g_order_mark : mg "order_mark" = some (.ref a_order_mark)
  b_order_mark : Binds K fd_order_mark ["system", "most"] []
  a_small_ways : Addr
  fd_small_ways : FuncData
  F_small_ways : Fun K "small_ways" "small_ways" s_small_ways a_small_ways fd_small_ways
  g_small_ways : mg "small_ways" = some (.ref a_small_ways)
  b_small_ways : Binds K fd_small_ways ["coins", "most"] []
  a_ways_of : Addr
  fd_ways_of : FuncData
  F_ways_of : Fun K "ways_of" "ways_of" s_ways_of a_ways_of fd_ways_of
  g_ways_of : mg "ways_of" = some (.ref a_ways_of)
  b_ways_of : Binds K fd_ways_of ["system", "number"] []
  a_ways : Addr
  fd_ways : FuncData
  F_ways : Fun K "ways" "ways" s_ways a_ways fd_ways
  g_ways : mg "ways" = some (.ref a_ways)
  b_ways : Binds K fd_ways ["system", "number"] []
  a_ways_list : Addr
  fd_ways_list : FuncData
  F_ways_list : Fun K "ways_list" "ways_list" s_ways_list a_ways_list fd_ways_list
  g_ways_list : mg "ways_list" = some (.ref a_ways_list)
  b_ways_list : Binds K fd_ways_list ["system", "most"] []
  a__law_hand : Addr
  fd__law_hand : FuncData
  F__law_hand : Fun K "_law_hand" "_law_hand" s_law_hand a__law_hand fd__law_hand
  g__law_hand : mg "_law_hand" = some (.ref a__law_hand)
  b__law_hand : Binds K fd__law_hand ["script"] []
  a__law_draw : Addr
  fd__law_draw : FuncData
  F__law_draw : Fun K "_law_draw" "_law_draw" s_law_draw a__law_draw fd__law_draw
  g__law_draw : mg "_law_draw" = some (.ref a__law_draw)
  b__law_draw : Binds K fd__law_draw ["hand", "many"] []
  a__law_common : Addr
  fd__law_common : FuncData
  F__law_common : Fun K "_law_common" "_law_common" s_law_common a__law_common fd__law_common
  g__law_common : mg "_law_common" = some (.ref a__law_common)
  b__law_common : Binds K fd__law_common ["one", "other"] []
  a__law_paid : Addr
  fd__law_paid : FuncData
  F__law_paid : Fun K "_law_paid" "_law_paid" s_law_paid a__law_paid fd__law_paid
  g__law_paid : mg "_law_paid" = some (.ref a__law_paid)
  b__law_paid : Binds K fd__law_paid ["coins", "upto"] []
  a__law_coins : Addr
  fd__law_coins : FuncData
  F__law_coins : Fun K "_law_coins" "_law_coins" s_law_coins a__law_coins fd__law_coins
  g__law_coins : mg "_law_coins" = some (.ref a__law_coins)
  b__law_coins : Binds K fd__law_coins ["hand", "least", "many", "size"] []
  a__law_ways : Addr
  fd__law_ways : FuncData
  F__law_ways : Fun K "_law_ways" "_law_ways" s_law_ways a__law_ways fd__law_ways
  g__law_ways : mg "_law_ways" = some (.ref a__law_ways)
  b__law_ways : Binds K fd__law_ways ["coins", "most"] []
  a__law_lots : Addr
  fd__law_lots : FuncData
  F__law_lots : Fun K "_law_lots" "_law_lots" s_law_lots a__law_lots fd__law_lots
  g__law_lots : mg "_law_lots" = some (.ref a__law_lots)
  b__law_lots : Binds K fd__law_lots ["coins", "most"] []
  a__law_times : Addr
  fd__law_times : FuncData
  F__law_times : Fun K "_law_times" "_law_times" s_law_times a__law_times fd__law_times
  g__law_times : mg "_law_times" = some (.ref a__law_times)
  b__law_times : Binds K fd__law_times ["one", "other", "number"] []
  a__law_is_right : Addr
  fd__law_is_right : FuncData
  F__law_is_right : Fun K "_law_is_right" "_law_is_right" s_law_is_right a__law_is_right fd__law_is_right
  g__law_is_right : mg "_law_is_right" = some (.ref a__law_is_right)
  b__law_is_right : Binds K fd__law_is_right ["hand", "coins"] []
  a_law : Addr
  fd_law : FuncData
  F_law : Fun K "law" "law" s_law a_law fd_law
  g_law : mg "law" = some (.ref a_law)
  b_law : Binds K fd_law ["script"] []
  a_System : Addr
  g_System : mg "System" = some (.ref a_System)
  m_System : Mk K a_System a_System_init
  i_System : C8.InsC K a_System
  n_System_coins : NoAttr K a_System "coins"
  n_System_needed_coins : NoAttr K a_System "needed_coins"
  n_System_rests : NoAttr K a_System "rests"
  z_isinstance : mg "isinstance" = none
  z_int : mg "int" = none
  z_bool : mg "bool" = none
  z_tuple : mg "tuple" = none
  z_abs : mg "abs" = none
  z_range : mg "range" = none
  z_len : mg "len" = none
  z_enumerate : mg "enumerate" = none
  z_min : mg "min" = none
  z_max : mg "max" = none
  z_sum : mg "sum" = none
  z_sorted : mg "sorted" = none
  z_list : mg "list" = none
  z_any : mg "any" = none
  z_dict : mg "dict" = none
  t_MOST_COIN : Tok
  c_MOST_COIN : mg "MOST_COIN" = some (.int 1000000 t_MOST_COIN)
  t_MOST_LEAST : Tok
  c_MOST_LEAST : mg "MOST_LEAST" = some (.int 2000 t_MOST_LEAST)
  t_MOST_COINS : Tok
  c_MOST_COINS : mg "MOST_COINS" = some (.int 700 t_MOST_COINS)
  t_MOST_GREAT : Tok
  c_MOST_GREAT : mg "MOST_GREAT" = some (.int 2000 t_MOST_GREAT)
  t_MOST_SMALL : Tok
  c_MOST_SMALL : mg "MOST_SMALL" = some (.int 100000 t_MOST_SMALL)
end Pd

/-! Readings of my own over Evl: ints, lists in place, what else is kept. -/
namespace Pd
open PySem PySem.Spec PyProof.Rows L2 Evl
section
variable {X : Cx}
def rGetL (K : PySem.W.Frag) : V → V → Hp → VK → Prop := fun o i H Q => ∃ p xs j v, o = .ref p ∧ i = .int ((j : Nat) : Int) ∧ SqL K H p xs ∧ xs[j]? = some v ∧ Q v H
theorem get_list : PGet X (rGetL X.K) := by
  intro pins s σ H o i ov iv Q I ro ri h
  obtain ⟨p, xs, j, v, rfl, rfl, hq, hv, q⟩ := h
  cases ro
  obtain ⟨t, rfl⟩ := ri
  obtain ⟨its, r, pl, hz⟩ := I.list hq
  obtain ⟨u, eu, ru⟩ := r.get hv
  have lt : j < xs.length := (List.getElem?_eq_some_iff.mp hv).1
  have line := line63
  exact wpAny_getItem_list pl.isList (by omega) (by omega) (by simpa using eu) ⟨v, H, I, ru, q⟩
end

/-! ### all that was tracked but one place -/
def Bt (l : Addr) (H H' : Hp) : Prop := ∀ a o, a ≠ l → H a = some o → H' a = some o
theorem Bt.refl (l : Addr) (H : Hp) : Bt l H H := fun _ _ _ h => h
theorem Bt.ex {l : Addr} {H H1 H2 : Hp} (b : Bt l H H1) (e : Ex H1 H2) : Bt l H H2 := fun a o n h => e a o (b a o n h)
theorem Bt.of {l : Addr} {H H1 : Hp} (e : Ex H H1) : Bt l H H1 := fun a o _ h => e a o h
theorem Bt.trans {l : Addr} {H H1 H2 : Hp} (b : Bt l H H1) (c : Bt l H1 H2) : Bt l H H2 := fun a o n h => c a o n (b a o n h)
theorem Bt.up {l : Addr} {H H1 : Hp} {o : HO} (b : Bt l H H1) : Bt l H (upd H1 l o) := fun a u n h => by rw [upd_ne n]; exact b a u n h
/-- the place is new: then all is kept -/
theorem Bt.new {l : Addr} {H H1 : Hp} (b : Bt l H H1) (n : H l = none) : Ex H H1 := fun a o h => b a o (ne_of_none h n) h
theorem ex_up {H H' : Hp} {l : Addr} {o : HO} (e : Ex H H') (n : H l = none) : Ex H (upd H' l o) := e.mut n

section
variable {K : PySem.W.Frag} {σ : L2.St} {H H' : Hp} {ta tb te tx : TE} {t u : TT} {x y z v : V} {r : R2}
theorem rv_mul {i j : Int} (hc : CMul i j) : RV (rI CMul fun i j => .int (i * j)) (.int i) (.int j) H (.int (i * j)) := rv_I hc
theorem rv_isN {x : V} : RV rIsN x .non H (.bl (decide (x = .non))) := fun H1 _ _ q => ⟨rfl, q H1 (Ex.refl H1)⟩
theorem rv_notN {x : V} : RV rNotN x .non H (.bl (!decide (x = .non))) := fun H1 _ _ q => ⟨rfl, q H1 (Ex.refl H1)⟩
/-- isinstance of an int -/
theorem rc_isi {x c : V} {t u : Value} {b : Bool} (k : ClsV c u) (ty : ∀ H1, Ex H H1 → TyX K H1 x t) (e : PySem.W.kitOne K t u = some b) : RC (rIsi K) [x, c] H (.bl b) := fun H1 e1 Q q => ⟨x, c, t, u, b, rfl, k, ty H1 e1, e, q H1 (Ex.refl H1)⟩
theorem ty_int {H : Hp} {i : Int} : TyX K H (.int i) (.type "int") := .base (.int i)
theorem ty_tup {H : Hp} {a : Addr} {xs : List V} (h : H a = some (.tup xs)) : TyX K H (.ref a) (.type "tuple") := .base (.tup h)
/-- a new list is a pair's place: tSeq by hand -/
theorem SpV.mono {sp : Sp} {vs : List V} {z : V} (h : SpV sp vs H z) (e : Ex H H') : SpV sp vs H' z := fun H1 e1 => h H1 (e.trans e1)
/-- one argument is a new list -/
theorem ev_callL1 {sp : Sp} {E : XK} {xs : List V} (h : EvL te σ H xs) (hs : ∀ p H1, Ex H H1 → H1 p = some (.lst xs) → SpV sp [.ref p] H1 z) : Ev (tCall sp [] E (tCons te tNil)) σ H z := fun H1 e Q q =>
  h H1 e _ fun p H2 _ e2 hp => hs p H2 (e.trans e2) hp H2 (Ex.refl H2) Q (fun H3 e3 => q H3 (e2.trans e3)) E
/-- a, b = x, y -/
theorem q_par {i j : Nat} {tA : TA} {D : Ends} {tz : TS} (h : EvA tA σ H [x, y]) (k : ∀ H1, Ex H H1 → tz D ((σ.set i (some x)).set j (some y)) H1) : tSeq (tPar i j tA) tz D σ H := h H (Ex.refl H) _ fun H1 e => ⟨x, y, rfl, k H1 e⟩
theorem s_par {i j : Nat} {tA : TA} {D : Ends} (h : EvA tA σ H [x, y]) (k : ∀ H1, Ex H H1 → D.nx ((σ.set i (some x)).set j (some y)) H1) : tPar i j tA D σ H := h H (Ex.refl H) _ fun H1 e => ⟨x, y, rfl, k H1 e⟩
theorem ev_abs {i : Int} (ha : Ev ta σ H (.int i)) : Ev (tCB (fun xs H Q => ∃ i, xs = [.int i] ∧ Q (.int (if i < 0 then -i else i)) H) (tCons ta tNil)) σ H (.int (if i < 0 then -i else i)) := fun H1 e Q q =>
  ha H1 e _ fun H2 e2 => ⟨i, rfl, q H2 e2⟩
end
end Pd

/-! The small defs: is_integer, is_within, common, common_of. -/
namespace Pd
open PySem PySem.Spec PyProof.Rows L2 Evl
section
variable {P : Program} {w : World} {K : PySem.W.Frag} {mg : Str → Option Value} {base : Heap}
def sp_is_integer : Sp := fun vs H Q _ => ∃ i : Int, vs = [.int i] ∧ RetV (.bl true) H Q
theorem sv_is_integer {H : Hp} (i : Int) : SpV sp_is_integer [.int i] H (.bl true) := fun H1 e Q q E => ⟨i, rfl, q⟩
theorem ok_is_integer (T : Top K mg) : FnOk P w K mg base CX0 1 T.a_is_integer T.fd_is_integer ["thing"] sp_is_integer := by
  refine T.F_is_integer.ok sc_is_integer (fun vs H Q E h => ?_) (fun cdv A outer s H vs Q E hr h => ?_)
  · obtain ⟨i, rfl, _⟩ := h
    rfl
  · obtain ⟨i, rfl, k⟩ := h
    have nd := sc_is_integer.nd
    refine ⟨_, (pss_one (ps_ret (pe_and (pe_callB call_isi (by rfl) T.z_isinstance (by decide +kernel) (pa_cons (pv 0) (pa_cons (pe_bltn (v := .ty "int") (u := .type "int") (by rfl) T.z_int (by decide +kernel) rfl) pa_nil))) (pe_one (pe_not (pe_callB call_isi (by rfl) T.z_isinstance (by decide +kernel) (pa_cons (pv 0) (pa_cons (pe_bltn (v := .ty "bool") (u := .type "bool") (by rfl) T.z_bool (by decide +kernel) rfl) pa_nil)))))))), ?_⟩
    refine s_ret (v := .bl true) (ev_is (ev_andV (a := true) (b := true) ?_ fun _ => ?_) rfl) fun H1 e1 => k H1 e1
    · exact ev_cb (ea_cons (ev_var rfl) (ea_cons ev_c ea_nil)) (rc_isi (.ty "int") (fun _ _ => ty_int) (kit_ty (by decide +kernel)))
    · exact ev_is (ev_notV (a := false) (ev_cb (ea_cons (ev_var rfl) (ea_cons ev_c ea_nil)) (rc_isi (.ty "bool") (fun _ _ => ty_int) (kit_ty (by decide +kernel))))) rfl
def sp_is_within : Sp := fun vs H Q _ => ∃ i lo hi : Int, vs = [.int i, .int lo, .int hi] ∧ RetV (.bl (decide (lo ≤ i) && decide (i ≤ hi))) H Q
theorem sv_is_within {H : Hp} (i lo hi : Int) : SpV sp_is_within [.int i, .int lo, .int hi] H (.bl (decide (lo ≤ i) && decide (i ≤ hi))) := fun H1 e Q q E => ⟨i, lo, hi, rfl, q⟩
/-- a chain of two comparisons of ints -/
theorem ev_chain {K : PySem.W.Frag} {σ : L2.St} {H : Hp} {ta tb tc : TE} {r r' : R2} {x y z : V} {a b : Bool} (h1 : Ev ta σ H x) (h2 : Ev tb σ H y) (h3 : Ev tc σ H z) (hr : RV r x y H (.bl a)) (hr' : RV r' y z H (.bl b)) :
    Ev (tChain r r' ta tb tc) σ H (.bl (a && b)) := fun H1 e1 Q q =>
  h1 H1 e1 _ fun H2 e2 => h2 H2 (e1.trans e2) _ fun H3 e3 => hr H3 ((e1.trans e2).trans e3) _ fun H4 e4 => ⟨a, rfl, by
    cases a with
    | true =>
      show tc σ H4 _
      exact h3 H4 (((e1.trans e2).trans e3).trans e4) _ fun H5 e5 => hr' H5 ((((e1.trans e2).trans e3).trans e4).trans e5) Q fun H6 e6 => q H6 ((((e2.trans e3).trans e4).trans e5).trans e6)
    | false =>
      show Q (.bl false) H4
      exact q H4 ((e2.trans e3).trans e4)⟩
theorem ok_is_within (T : Top K mg) : FnOk P w K mg base CX0 2 T.a_is_within T.fd_is_within ["thing", "low", "high"] sp_is_within := by
  refine T.F_is_within.ok sc_is_within (fun vs H Q E h => ?_) (fun cdv A outer s H vs Q E hr h => ?_)
  · obtain ⟨i, lo, hi, rfl, _⟩ := h
    rfl
  · obtain ⟨i, lo, hi, rfl, k⟩ := h
    have nd := sc_is_within.nd
    refine ⟨_, (pss_one (ps_ret (pe_and (pe_call (ok_is_integer T) (hr.mono (by decide)) (by rfl) T.g_is_integer T.F_is_integer.kp T.b_is_integer .nil pass0 (pa_cons (pv 0) pa_nil)) (pe_one (pe_chain op_le op_le (pv 1) (pv 0) (pv 2)))))), ?_⟩
    refine s_ret (v := .bl (decide (lo ≤ i) && decide (i ≤ hi))) (ev_is (ev_andV (a := true) (b := decide (lo ≤ i) && decide (i ≤ hi)) ?_ fun _ => ?_) (by simp)) fun H1 e1 => k H1 e1
    · exact ev_call (ea_cons (ev_var rfl) ea_nil) (sv_is_integer i)
    · exact ev_chain (K := K) (ev_var rfl) (ev_var rfl) (ev_var rfl) rv_I0 rv_I0
/-! ### common, common_of -/
def sp_common : Sp := fun vs H Q _ => ∃ a b : Nat, vs = [.int a, .int b] ∧ RetV (.int (Nat.gcd a b : Nat)) H Q
theorem sv_common {H : Hp} (a b : Nat) : SpV sp_common [.int a, .int b] H (.int (Nat.gcd a b : Nat)) := fun H1 e Q q E => ⟨a, b, rfl, q⟩
theorem ok_common (T : Top K mg) : FnOk P w K mg base CX0 1 T.a_common T.fd_common ["one", "other"] sp_common := by
  refine T.F_common.ok sc_common (fun vs H Q E h => ?_) (fun cdv A outer s H vs Q E hr h => ?_)
  · obtain ⟨a, b, rfl, _⟩ := h
    rfl
  · obtain ⟨a, b, rfl, k⟩ := h
    have nd := sc_common.nd
    refine ⟨_, (pss_cons (ps_par (i := 0) (j := 1) rfl nd rfl rfl (by decide) rfl rfl (pa_cons (pe_callB call_abs (by rfl) T.z_abs (by decide +kernel) (pa_cons (pv 0) pa_nil)) (pa_cons (pe_callB call_abs (by rfl) T.z_abs (by decide +kernel) (pa_cons (pv 1) pa_nil)) pa_nil)) (by rfl)) (pss_cons (ps_while PassesOwn.never (pt_cmpR op_gt (pv 1) pe_int (nomark _)) (pss_one (ps_par (i := 0) (j := 1) rfl nd rfl rfl (by decide) rfl rfl (pa_cons (pv 1) (pa_cons (pe_op op_mod (pv 0) (pv 1)) pa_nil)) (by rfl)))) (pss_one (ps_ret (pv 0))))), ?_⟩
    have nn : ∀ n : Nat, V.int (if (n : Int) < 0 then -(n : Int) else (n : Int)) = V.int (n : Int) := fun n => by rw [if_neg (by omega)]
    refine q_par (ea_cons (ev_is (ev_abs (ev_var rfl)) (nn a)) (ea_cons (ev_is (ev_abs (ev_var rfl)) (nn b)) ea_nil)) fun H1 e1 => ?_
    refine q_while (fun m σ H' => ∃ x y : Nat, σ = [some (.int x), some (.int y)] ∧ Nat.gcd x y = Nat.gcd a b ∧ y = m ∧ Ex H H') b ⟨a, b, rfl, rfl, rfl, e1⟩ fun m σ' H' hw => ?_
    obtain ⟨x, y, rfl, hg, rfl, e2⟩ := hw
    refine ⟨decide ((0 : Int) < (y : Int)), et_test (ev_op (ev_var rfl) ev_c rv_I0), fun hb H3 e3 => ?_, fun hb H3 e3 => ?_⟩
    · have hy : (0 : Int) < (y : Int) := of_decide_eq_true hb
      refine ⟨fun σ H' => ∃ u v : Nat, σ = [some (.int u), some (.int v)] ∧ Nat.gcd u v = Nat.gcd a b ∧ v < y ∧ Ex H H', fun σ2 H2 ⟨u, v, h1, h2, h3, h4⟩ => ⟨v, h3, u, v, h1, h2, rfl, h4⟩, ?_⟩
      refine s_par (ea_cons (ev_var rfl) (ea_cons (ev_op (ev_var rfl) (ev_var rfl) (rv_I hy)) ea_nil)) fun H4 e4 => ⟨y, x % y, rfl, ?_, Nat.mod_lt _ (by omega), (e2.trans e3).trans e4⟩
      rw [Nat.gcd_comm, ← Nat.gcd_rec, Nat.gcd_comm]
      exact hg
    · have hy : ¬ (0 : Int) < (y : Int) := of_decide_eq_false hb
      obtain rfl : y = 0 := by omega
      rw [Nat.gcd_zero_right] at hg
      subst hg
      exact s_ret (ev_var rfl) fun H4 e4 => k H4 ((e2.trans e3).trans e4)
end
end Pd

/-! common_of, round_up. -/
namespace Pd
open PySem PySem.Spec PyProof.Rows L2 Evl
theorem PI.or {X : Cx} {tg it : Expr} {wi wj : TI} (h : PI X tg it wi) (h' : PI X tg it wj) : PI X tg it (fun σ H R => wi σ H R ∨ wj σ H R) := by
  refine ⟨fun pins s σ H R I q => ?_⟩
  rcases q with q | q
  · exact h.run pins s σ H R I q
  · exact h'.run pins s σ H R I q
def nv (cs : List Nat) : List V := cs.map fun (c : Nat) => V.int (c : Int)
theorem nv_len (cs : List Nat) : (nv cs).length = cs.length := List.length_map _
theorem nv_get {cs : List Nat} {i : Nat} {x : V} (h : (nv cs)[i]? = some x) : ∃ c, cs[i]? = some c ∧ x = .int (c : Int) := by
  unfold nv at h
  rw [List.getElem?_map] at h
  cases e : cs[i]? with
  | none => rw [e] at h; cases h
  | some c => rw [e] at h; exact ⟨c, rfl, (Option.some.inj h).symm⟩
theorem take_next {α : Type} {l : List α} {i : Nat} {x : α} (h : l[i]? = some x) : l.take (i + 1) = l.take i ++ [x] := by
  rw [List.take_add_one, h]
  rfl
theorem gcdL_next {cs : List Nat} {i c : Nat} (h : cs[i]? = some c) : gcdL (cs.take (i + 1)) = Nat.gcd (gcdL (cs.take i)) c := by
  unfold gcdL
  rw [take_next h, List.foldl_append]
  rfl
section
variable {P : Program} {w : World} {K : PySem.W.Frag} {mg : Str → Option Value} {base : Heap}
def sp_common_of (K : PySem.W.Frag) : Sp := fun vs H Q _ => ∃ (l : Addr) (cs : List Nat), vs = [.ref l] ∧ (SqL K H l (nv cs) ∨ SqT K H l (nv cs)) ∧ RetV (.int (gcdL cs : Nat)) H Q
theorem ok_common_of (T : Top K mg) : FnOk P w K mg base CX0 2 T.a_common_of T.fd_common_of ["some"] (sp_common_of K) := by
  refine T.F_common_of.ok sc_common_of (fun vs H Q E h => ?_) (fun cdv A outer s H vs Q E hr h => ?_)
  · obtain ⟨l, cs, rfl, _⟩ := h
    rfl
  · obtain ⟨l, cs, rfl, hl, k⟩ := h
    have nd := sc_common_of.nd
    refine ⟨_, (pss_cons (ps_set (i := 1) nd rfl (Or.inl rfl) pe_int) (pss_cons (ps_for PassesOwn.never rfl (PI.or (pi_list (pv 0)) (pi_tup (pv 0))) (pg_name (i := 2) nd rfl (Or.inl rfl)) (pss_one (ps_set (i := 1) nd rfl (Or.inl rfl) (pe_call (ok_common T) (hr.mono (by decide)) (by rfl) T.g_common T.F_common.kp T.b_common .nil pass0 (pa_cons (pv 1) (pa_cons (pv 2) pa_nil)))))) (pss_one (ps_ret (pv 1))))), ?_⟩
    refine q_asg ev_c fun H1 e1 => ?_
    have st : ∀ i x σ' H', (nv cs)[i]? = some x → (∃ y, σ' = [some (.ref l), some (.int (gcdL (cs.take i) : Nat)), y] ∧ Ex H H') →
        tAsg (tCall sp_common [] E0 (tCons (tVar 1) (tCons (tVar 2) tNil))) (gName 1) { nx := fun σ' H' => ∃ y, σ' = [some (.ref l), some (.int (gcdL (cs.take (i + 1)) : Nat)), y] ∧ Ex H H', rt := Q } (σ'.set 2 (some x)) H' := fun i x σ' H' hx ⟨y, h1, e⟩ => by
      obtain ⟨c, hc, rfl⟩ := nv_get hx
      subst h1
      refine s_asg (ev_call (ea_cons (ev_var rfl) (ea_cons (ev_var rfl) ea_nil)) (sv_common _ _)) fun H4 e4 => ⟨some (.int (c : Int)), ?_, e.trans e4⟩
      rw [gcdL_next hc]
      rfl
    have fin : ∀ σ' H', (∃ y, σ' = [some (.ref l), some (.int (gcdL (cs.take (nv cs).length) : Nat)), y] ∧ Ex H H') → tRet (tVar 1) { nx := fun _ H' => Q .non H', rt := Q } σ' H' := fun σ' H' ⟨y, h1, e⟩ => by
      subst h1
      rw [nv_len, List.take_length]
      exact s_ret (ev_var rfl) fun H4 e4 => k H4 (e.trans e4)
    rcases hl with hl | hl
    · exact Or.inl (q_forL (ev_var rfl) (ex_l e1 hl) (fun i σ' H' => ∃ y, σ' = [some (.ref l), some (.int (gcdL (cs.take i) : Nat)), y] ∧ Ex H H') (fun H2 e2 => ⟨none, rfl, e1.trans e2⟩) (fun i σ' H' _ ⟨_, _, e⟩ => ex_l e hl) (fun i x σ' H' hx p => st i x σ' H' hx p) fin)
    · exact Or.inr (q_forT (ev_var rfl) (ex_t e1 hl) (fun i σ' H' => ∃ y, σ' = [some (.ref l), some (.int (gcdL (cs.take i) : Nat)), y] ∧ Ex H H') (fun H2 e2 => ⟨none, rfl, e1.trans e2⟩) (fun i σ' H' _ ⟨_, _, e⟩ => ex_t e hl) (fun i x σ' H' hx p => st i x σ' H' hx p) fin)
theorem sv_common_of {H : Hp} {l : Addr} {cs : List Nat} (h : SqL K H l (nv cs) ∨ SqT K H l (nv cs)) : SpV (sp_common_of K) [.ref l] H (.int (gcdL cs : Nat)) := fun H1 e Q q E =>
  ⟨l, cs, rfl, h.imp (ex_l e) (ex_t e), q⟩
/-! ### round_up -/
def enc : Option Nat → V
  | none => .non
  | some v => .int (v : Int)
def sp_round_up : Sp := fun vs H Q _ => ∃ (l : Addr) (T : Tb) (c s m : Nat), vs = [.ref l, .int c, .int s, .int m] ∧ H l = some (.lst (T.map enc)) ∧ T.length = m ∧ 0 < m ∧ m ≤ 2000 ∧
  ∀ H', Bt l H H' → H' l = some (.lst ((rounds T s c m (Nat.gcd s m)).map enc)) → Q .non H'
theorem enc_get {T : Tb} {i : Nat} {o : Option Nat} (h : T[i]? = some o) : (T.map enc)[i]? = some (enc o) := by rw [List.getElem?_map, h]; rfl
theorem turns_len (T : Tb) (st s c m : Nat) : ∀ n, (turns T st s c m n).length = T.length
  | 0 => rfl
  | n + 1 => by show (relax _ _ _ _).length = _; rw [relax_len, turns_len T st s c m n]
theorem rounds_len (T : Tb) (s c m : Nat) : ∀ n, (rounds T s c m n).length = T.length
  | 0 => rfl
  | n + 1 => by show (turns _ _ _ _ _ _).length = _; rw [turns_len, rounds_len T s c m n]
theorem ok_round_up (T : Top K mg) : FnOk P w K mg base CX0 3 T.a_round_up T.fd_round_up ["found", "coin", "step", "modulus"] sp_round_up := by
  refine T.F_round_up.ok sc_round_up (fun vs H Q E h => ?_) (fun cdv A outer s H vs Q E hr h => ?_)
  · obtain ⟨l, T, c, s, m, rfl, _⟩ := h
    rfl
  · obtain ⟨l, T0, c, s, m, rfl, hl, hlen, hm, hm2, k⟩ := h
    have nd := sc_round_up.nd
    refine ⟨_, (pss_cons (ps_set (i := 4) nd rfl (Or.inl rfl) (pe_call (ok_common_of T) (hr.mono (by decide)) (by rfl) T.g_common_of T.F_common_of.kp T.b_common_of .nil pass0 (pa_cons (pe_lst (pa_cons (pv 2) (pa_cons (pv 3) pa_nil))) pa_nil))) (pss_one (ps_for PassesOwn.never rfl (pi_range1 rfl T.z_range (pa_cons (pv 4) pa_nil)) (pg_name (i := 5) nd rfl (Or.inl rfl)) (pss_cons (ps_set (i := 6) nd rfl (Or.inl rfl) (pv 5)) (pss_one (ps_for PassesOwn.never rfl (pi_range1 rfl T.z_range (pa_cons (pe_op op_mul pe_int (pe_op op_fdiv (pv 3) (pv 4))) pa_nil)) (pg_name (i := 7) nd rfl (Or.inl rfl)) (pss_cons (ps_set (i := 8) nd rfl (Or.inl rfl) (pe_op op_mod (pe_op op_add (pv 6) (pv 2)) (pv 3))) (pss_cons (ps_if (PW.pt (pw_and (pt_cmpR op_notN1 (pe_ix ix_list (pv 0) (pv 6) (fun _ _ => rfl)) pe_non (nomark _)) (pw_and1 (PW.pt (pw_or (pt_cmpR op_isN1 (pe_ix ix_list (pv 0) (pv 8) (fun _ _ => rfl)) pe_non (nomark _)) (pw_or1 (pt_cmpR op_lt (pe_op op_add (pe_ix ix_list (pv 0) (pv 6) (fun _ _ => rfl)) (pv 1)) (pe_ix ix_list (pv 0) (pv 8) (fun _ _ => rfl)) (nomark _)))))))) (pss_one (ps_asg (pe_op op_add (pe_ix ix_list (pv 0) (pv 6) (fun _ _ => rfl)) (pv 1)) (pg_sub (pv 0) (pv 8) set_list))) pss_nil) (pss_one (ps_set (i := 6) nd rfl (Or.inl rfl) (pv 8))))))))))), ?_⟩
    have hg : 0 < Nat.gcd s m := Nat.gcd_pos_of_pos_right s hm
    have hgm : Nat.gcd s m ≤ m := Nat.le_of_dvd hm (Nat.gcd_dvd_right s m)
    have eg : gcdL [s, m] = Nat.gcd s m := by show Nat.gcd (Nat.gcd 0 s) m = _; rw [Nat.gcd_zero_left]
    refine q_asg (ev_callL1 (xs := nv [s, m]) (el_lst (ea_cons (ev_var rfl) (ea_cons (ev_var rfl) ea_nil)) (by show 2 ≤ 100000; decide)) fun p H1 e1 hp => sv_common_of (.inl (sq_of hp))) fun H1 e1 => ?_
    rw [eg]
    refine s_forR1 (ea_cons (ev_var rfl) ea_nil) ⟨by omega, by omega⟩
      (fun i σ' H' => ∃ a b d e, σ' = [some (.ref l), some (.int c), some (.int s), some (.int m), some (.int (Nat.gcd s m : Nat)), a, b, d, e] ∧ Bt l H H' ∧ H' l = some (.lst ((rounds T0 s c m i).map enc)))
      (fun H2 e2 => ⟨none, none, none, none, rfl, .of (e1.trans e2), e2 l _ (e1 l _ hl)⟩) (fun i σ' H' hi hp => ?_) (fun σ' H' hp => ?_)
    · obtain ⟨a, b, d, e, rfl, b1, hl1⟩ := hp
      refine q_asg (ev_var rfl) fun H2 e2 => ?_
      have hn : ((2 : Int) * ((m : Int) / (Nat.gcd s m : Nat))) = ((2 * (m / Nat.gcd s m) : Nat) : Int) := by omega
      have hq : m / Nat.gcd s m ≤ m := Nat.div_le_self _ _
      refine s_forR1 (ea_cons (ev_is (ev_op ev_c (ev_op (ev_var rfl) (ev_var rfl) (rv_I ⟨by omega, by omega⟩)) (rv_mul (.inl ⟨by decide, by decide⟩))) (congrArg V.int hn)) ea_nil) ⟨by omega, by omega⟩
        (fun j σ' H' => ∃ d e, σ' = [some (.ref l), some (.int c), some (.int s), some (.int m), some (.int (Nat.gcd s m : Nat)), some (.int (i : Int)), some (.int ((i + j * s) % m : Nat)), d, e] ∧ Bt l H H' ∧ H' l = some (.lst ((turns (rounds T0 s c m i) i s c m j).map enc)))
        (fun H3 e3 => ⟨d, e, ?_, (b1.ex e2).ex e3, e3 l _ (e2 l _ hl1)⟩) (fun j σ' H' hj hp => ?_) (fun σ' H' hp => ?_)
      · rw [Nat.zero_mul, Nat.add_zero, Nat.mod_eq_of_lt (by omega)]
        rfl
      · obtain ⟨d, e, rfl, b2, hl2⟩ := hp
        have hth : ((((i + j * s) % m : Nat) : Int) + (s : Int)) % (m : Int) = ((i + (j + 1) * s) % m : Nat) := by
          rw [Nat.add_mul, Nat.one_mul, ← Nat.add_assoc, ← Nat.mod_add_mod (i + j * s)]
          rfl
        refine q_asg (ev_is (ev_op (ev_op (ev_var rfl) (ev_var rfl) rv_I0) (ev_var rfl) (rv_I (by omega))) (congrArg V.int hth)) fun H3 e3 => ?_
        have hL : (turns (rounds T0 s c m i) i s c m j).length = m := by rw [turns_len, rounds_len, hlen]
        generalize hTT : turns (rounds T0 s c m i) i s c m j = TT at hl2 hL
        have hh : (i + j * s) % m < TT.length := by rw [hL]; exact Nat.mod_lt _ hm
        have ht : (i + (j + 1) * s) % m < TT.length := by rw [hL]; exact Nat.mod_lt _ hm
        have hl3 : H3 l = some (.lst (TT.map enc)) := e3 l _ hl2
        have nxt : ∀ H4, Bt l H H4 → H4 l = some (.lst ((relax TT ((i + j * s) % m) ((i + (j + 1) * s) % m) c).map enc)) →
            tAsg (tVar 8) (gName 6) { nx := fun σ' H' => ∃ d e, σ' = [some (.ref l), some (.int c), some (.int s), some (.int m), some (.int (Nat.gcd s m : Nat)), some (.int (i : Int)), some (.int ((i + (j + 1) * s) % m : Nat)), d, e] ∧ Bt l H H' ∧ H' l = some (.lst ((turns (rounds T0 s c m i) i s c m (j + 1)).map enc)), rt := Q, ct := fun σ' H' => ∃ d e, σ' = [some (.ref l), some (.int c), some (.int s), some (.int m), some (.int (Nat.gcd s m : Nat)), some (.int (i : Int)), some (.int ((i + (j + 1) * s) % m : Nat)), d, e] ∧ Bt l H H' ∧ H' l = some (.lst ((turns (rounds T0 s c m i) i s c m (j + 1)).map enc)), bk := fun σ' H' => ∃ a b d e, σ' = [some (.ref l), some (.int c), some (.int s), some (.int m), some (.int (Nat.gcd s m : Nat)), a, b, d, e] ∧ Bt l H H' ∧ H' l = some (.lst ((rounds T0 s c m (i + 1)).map enc)) }
              [some (.ref l), some (.int c), some (.int s), some (.int m), some (.int (Nat.gcd s m : Nat)), some (.int (i : Int)), some (.int ((i + j * s) % m : Nat)), some (.int (j : Int)), some (.int ((i + (j + 1) * s) % m : Nat))] H4 := fun H4 b4 h4 => by
          refine s_asg (ev_var rfl) fun H5 e5 => ⟨_, _, rfl, b4.ex e5, ?_⟩
          show H5 l = some (.lst ((relax (turns (rounds T0 s c m i) i s c m j) _ _ c).map enc))
          rw [hTT]
          exact e5 l _ h4
        obtain ⟨o1, ho1⟩ : ∃ o, TT[(i + j * s) % m]? = some o := ⟨_, List.getElem?_eq_getElem hh⟩
        obtain ⟨o2, ho2⟩ : ∃ o, TT[(i + (j + 1) * s) % m]? = some o := ⟨_, List.getElem?_eq_getElem ht⟩
        have ix1 : ∀ {H4 : Hp} {σ4 : L2.St} {tx : TE}, H4 l = some (.lst (TT.map enc)) → σ4[0]? = some (some (.ref l)) → Ev tx σ4 H4 (.int ((i + j * s) % m : Nat)) → Ev (tOp (rIxL K) (tVar 0) tx) σ4 H4 (enc o1) := fun h4 h5 h6 =>
          ev_op (ev_var h5) h6 (rv_ixL (sq_of h4) (atI_nat (enc_get ho1)))
        have ix2 : ∀ {H4 : Hp} {σ4 : L2.St} {tx : TE}, H4 l = some (.lst (TT.map enc)) → σ4[0]? = some (some (.ref l)) → Ev tx σ4 H4 (.int ((i + (j + 1) * s) % m : Nat)) → Ev (tOp (rIxL K) (tVar 0) tx) σ4 H4 (enc o2) := fun h4 h5 h6 =>
          ev_op (ev_var h5) h6 (rv_ixL (sq_of h4) (atI_nat (enc_get ho2)))
        cases o1 with
        | none =>
          refine q_when (b := false) (et_is (et_and (a := false) (b := false) (et_is (et_test (ev_op (ix1 hl3 rfl (ev_var rfl)) ev_c rv_notN)) (by rfl)) fun z => by cases z) rfl) (fun z => by cases z) fun _ H4 e4 => ?_
          refine nxt H4 ((b2.ex e3).ex e4) ?_
          have er : relax TT ((i + j * s) % m) ((i + (j + 1) * s) % m) c = TT := by unfold relax; rw [ho1]
          rw [er]
          exact e4 l _ hl3
        | some v =>
          have setk : ∀ H4, Ex H3 H4 → relax TT ((i + j * s) % m) ((i + (j + 1) * s) % m) c = TT.set ((i + (j + 1) * s) % m) (some (v + c)) → ∀ (D : L2.Ends), (∀ H5, Bt l H H5 → H5 l = some (.lst ((relax TT ((i + j * s) % m) ((i + (j + 1) * s) % m) c).map enc)) → D.nx [some (.ref l), some (.int c), some (.int s), some (.int m), some (.int (Nat.gcd s m : Nat)), some (.int (i : Int)), some (.int ((i + j * s) % m : Nat)), some (.int (j : Int)), some (.int ((i + (j + 1) * s) % m : Nat))] H5) →
              tAsg (tOp (rI0 fun i j => .int (i + j)) (tOp (rIxL K) (tVar 0) (tVar 6)) (tVar 1)) (gSub (tVar 0) (tVar 8) rSetL) D [some (.ref l), some (.int c), some (.int s), some (.int m), some (.int (Nat.gcd s m : Nat)), some (.int (i : Int)), some (.int ((i + j * s) % m : Nat)), some (.int (j : Int)), some (.int ((i + (j + 1) * s) % m : Nat))] H4 := fun H4 e4 er D hD => by
            have hl4 : H4 l = some (.lst (TT.map enc)) := e4 l _ hl3
            refine s_setL hl4 (ev_op (ix1 hl4 rfl (ev_var rfl)) (ev_var rfl) rv_I0) (ev_var rfl) (ev_var rfl) (by rw [List.length_map]; exact ht) fun H5 e5 => hD _ (((b2.ex e3).ex e4).ex e5).up ?_
            rw [upd_same, er, List.map_set]
            rfl
          cases o2 with
          | none =>
            refine q_when (b := true) (et_is (et_and (a := true) (b := true) (et_is (et_test (ev_op (ix1 hl3 rfl (ev_var rfl)) ev_c rv_notN)) (by rfl)) fun _ => et_is (et_or (a := true) (b := true) (et_is (et_test (ev_op (ix2 hl3 rfl (ev_var rfl)) ev_c rv_isN)) (by rfl)) fun z => by cases z) rfl) rfl) (fun _ H4 e4 => ?_) fun z => by cases z
            exact setk H4 e4 (by unfold relax; rw [ho1, ho2]) _ nxt
          | some u =>
            refine q_when (b := decide ((v : Int) + (c : Int) < (u : Int))) (et_is (et_and (a := true) (b := decide ((v : Int) + (c : Int) < (u : Int))) (et_is (et_test (ev_op (ix1 hl3 rfl (ev_var rfl)) ev_c rv_notN)) (by rfl)) fun _ => et_is (et_or (a := false) (b := decide ((v : Int) + (c : Int) < (u : Int))) (et_is (et_test (ev_op (ix2 hl3 rfl (ev_var rfl)) ev_c rv_isN)) (by rfl)) fun _ => et_test (ev_op (ev_op (ix1 hl3 rfl (ev_var rfl)) (ev_var rfl) rv_I0) (ix2 hl3 rfl (ev_var rfl)) rv_I0)) (by simp)) (by simp)) (fun z H4 e4 => ?_) fun z H4 e4 => ?_
            · have z' := of_decide_eq_true z
              exact setk H4 e4 (by unfold relax; rw [ho1, ho2]; exact if_pos (by omega)) _ nxt
            · have z' := of_decide_eq_false z
              refine nxt H4 ((b2.ex e3).ex e4) ?_
              have er : relax TT ((i + j * s) % m) ((i + (j + 1) * s) % m) c = TT := by unfold relax; rw [ho1, ho2]; exact if_neg (by omega)
              rw [er]
              exact e4 l _ hl3
      · obtain ⟨d, e, rfl, b2, hl2⟩ := hp
        refine ⟨_, _, _, _, rfl, b2, ?_⟩
        rw [hl2]
        rfl
    · obtain ⟨a, b, d, e, rfl, b1, hl1⟩ := hp
      exact k H' b1 hl1
end
end Pd

/-! More readings: new lists by + and *, tuples' slices, enumerate, max, min, sum. -/
namespace Pd
open PySem PySem.Spec PyProof.Rows L2 Evl
theorem inV_nv {c : Nat} {cs : List Nat} : inV (.int (c : Int)) (nv cs) = decide (c ∈ cs) := by
  unfold inV nv
  rw [List.any_map, Bool.eq_iff_iff, List.any_eq_true, decide_eq_true_iff]
  constructor
  · rintro ⟨d, hd, h⟩
    have e : ((d : Int) == (c : Int)) = true := h
    have e2 : (d : Int) = (c : Int) := eq_of_beq e
    have e3 : d = c := by omega
    exact e3 ▸ hd
  · intro h
    exact ⟨c, h, (by show ((c : Int) == (c : Int)) = true; exact beq_self_eq_true _)⟩
theorem nv_flat (cs : List Nat) : (nv cs).all flatV = true := by
  unfold nv
  rw [List.all_map, List.all_eq_true]
  intro c _
  rfl
theorem nv_ints (cs : List Nat) : nv cs = (cs.map fun (c : Nat) => (c : Int)).map V.int := by unfold nv; rw [List.map_map]; rfl
theorem cut_from (xs : List V) (n : Nat) : cutV xs (some (n : Int)) none = xs.drop n := by
  unfold cutV
  rw [HT.sIx_nat, HT.sIx_none]
  by_cases h : n ≤ xs.length
  · rw [Nat.min_eq_left h]
    exact List.take_of_length_le (by rw [List.length_drop] <;> omega)
  · rw [Nat.min_eq_right (by omega), List.drop_length, List.drop_eq_nil_of_le (by omega)]
    exact List.take_nil
theorem cut_to (xs : List V) (n : Nat) : cutV xs none (some (n : Int)) = xs.take n := by
  unfold cutV
  rw [HT.sIx_none, HT.sIx_nat]
  show List.take (min n xs.length - 0) (List.drop 0 xs) = xs.take n
  rw [List.drop_zero, Nat.sub_zero]
  by_cases h : n ≤ xs.length
  · rw [Nat.min_eq_left h]
  · rw [Nat.min_eq_right (by omega), List.take_length, List.take_of_length_le (by omega)]
section
variable {K : PySem.W.Frag} {σ : L2.St} {H H' : Hp} {ta tb te tx : TE} {t u : TT} {x y z v : V} {r : R2}
/-- a tuple, new or old -/
def EvS (K : PySem.W.Frag) (te : TE) (σ : L2.St) (H : Hp) (xs : List V) : Prop := ∀ H1, Ex H H1 → ∀ Q : VK, (∀ p H2, Ex H1 H2 → SqT K H2 p xs → Q (.ref p) H2) → te σ H1 Q
theorem EvS.of {a : Addr} {xs : List V} (h : Ev te σ H (.ref a)) (hx : SqT K H a xs) : EvS K te σ H xs := fun H1 e Q q => h H1 e Q fun H2 e2 => q a H2 e2 (ex_t (e.trans e2) hx)
theorem EvS.slTo {a : Addr} {xs : List V} {n : Nat} (h : Ev te σ H (.ref a)) (hx : SqT K H a xs) (hn : Ev tx σ H (.int (n : Int))) : EvS K (tSl (rSlA K) te tNoPart (tPart tx)) σ H (xs.take n) := fun H1 e Q q =>
  h H1 e _ fun H2 e2 => by
    show tx σ H2 _
    refine hn H2 (e.trans e2) _ fun H3 e3 => ⟨(n : Int), rfl, a, xs, rfl, ex_t ((e.trans e2).trans e3) hx, fun w => ?_, fun _ p hp => ?_⟩
    · have e4 : xs.take n = xs := by
        have w2 := w.2
        rw [HT.sIx_nat] at w2
        exact List.take_of_length_le (by omega)
      rw [e4] at q
      exact q a H3 (e2.trans e3) (ex_t ((e.trans e2).trans e3) hx)
    · rw [cut_to]
      exact q p _ ((e2.trans e3).trans (Ex.new hp)) (.inl (.inl upd_same))
theorem EvS.slFrom {a : Addr} {xs : List V} {n : Nat} (h : Ev te σ H (.ref a)) (hx : SqT K H a xs) (hn : Ev tx σ H (.int (n : Int))) : EvS K (tSl (rSlA K) te (tPart tx) tNoPart) σ H (xs.drop n) := fun H1 e Q q =>
  h H1 e _ fun H2 e2 => hn H2 (e.trans e2) _ fun H3 e3 => ⟨(n : Int), rfl, by
    refine ⟨a, xs, rfl, ex_t ((e.trans e2).trans e3) hx, fun w => ?_, fun _ p hp => ?_⟩
    · have e4 : xs.drop n = xs := by
        have w1 := w.1
        rw [HT.sIx_nat] at w1
        cases xs with
        | nil => simp
        | cons y ys =>
          have h0 : n = 0 := by rw [List.length_cons] at w1; omega
          rw [h0, List.drop_zero]
      rw [e4] at q
      exact q a H3 (e2.trans e3) (ex_t ((e.trans e2).trans e3) hx)
    · rw [cut_from]
      exact q p _ ((e2.trans e3).trans (Ex.new hp)) (.inl (.inl upd_same))⟩
theorem ev_inS {xs : List V} (ha : Ev ta σ H x) (hb : EvS K tb σ H xs) (hx : flatV x = true) (hf : xs.all flatV = true) : Ev (tOp (rIn K false) ta tb) σ H (.bl (inV x xs)) := fun H1 e Q q =>
  ha H1 e _ fun H2 e2 => hb H2 (e.trans e2) _ fun p H3 e3 hp => ⟨p, xs, rfl, .inr hp, hx, hf, q H3 (e2.trans e3)⟩
theorem ev_lenS {xs : List V} {a : Addr} (ha : Ev ta σ H (.ref a)) (h : SqL K H a xs ∨ SqT K H a xs) : Ev (tCB (rLenS K) (tCons ta tNil)) σ H (.int (xs.length : Int)) := fun H1 e Q q =>
  ha H1 e _ fun H2 e2 => ⟨a, xs, rfl, h.imp (ex_l (e.trans e2)) (ex_t (e.trans e2)), q H2 e2⟩
theorem ev_maxT {a : Addr} {ns : List Int} {m : Int} (ha : Ev ta σ H (.ref a)) (h : SqT K H a (ns.map V.int)) (hm : m ∈ ns) (hg : ∀ y ∈ ns, y ≤ m) : Ev (tCB (rMaxT K) (tCons ta tNil)) σ H (.int m) := fun H1 e Q q =>
  ha H1 e _ fun H2 e2 => ⟨a, ns, rfl, ex_t (e.trans e2) h, List.length_pos_of_mem hm, fun m' h1 h2 => by
    have e3 : m' = m := Int.le_antisymm (hg m' h1) (h2 m hm)
    rw [e3]
    exact q H2 e2⟩
theorem ev_minT {a : Addr} {ns : List Int} {m : Int} (ha : Ev ta σ H (.ref a)) (h : SqT K H a (ns.map V.int)) (hm : m ∈ ns) (hg : ∀ y ∈ ns, m ≤ y) : Ev (tCB (rMinT K) (tCons ta tNil)) σ H (.int m) := fun H1 e Q q =>
  ha H1 e _ fun H2 e2 => ⟨a, ns, rfl, ex_t (e.trans e2) h, List.length_pos_of_mem hm, fun m' h1 h2 => by
    have e3 : m' = m := Int.le_antisymm (h2 m hm) (hg m' h1)
    rw [e3]
    exact q H2 e2⟩
theorem ev_sumT {a : Addr} {ns : List Int} (ha : Ev ta σ H (.ref a)) (h : SqT K H a (ns.map V.int)) : Ev (tCB (rSumT K) (tCons ta tNil)) σ H (.int ns.sum) := fun H1 e Q q =>
  ha H1 e _ fun H2 e2 => ⟨a, ns, rfl, ex_t (e.trans e2) h, q H2 e2⟩
theorem ev_sumN {ns : List Int} (ha : EvL ta σ H (ns.map V.int)) : Ev (tCB (rSum K) (tCons ta tNil)) σ H (.int ns.sum) := fun H1 e Q q =>
  ha H1 e _ fun p H2 _ e2 hp => ⟨p, ns, rfl, sq_of hp, q H2 e2⟩
theorem ev_maxN {ns : List Int} {m : Int} (ha : EvL ta σ H (ns.map V.int)) (hm : m ∈ ns) (hg : ∀ y ∈ ns, y ≤ m) : Ev (tCB (rMax K) (tCons ta tNil)) σ H (.int m) := fun H1 e Q q =>
  ha H1 e _ fun p H2 _ e2 hp => ⟨p, ns, rfl, sq_of hp, List.length_pos_of_mem hm, fun m' h1 h2 => by
    have e3 : m' = m := Int.le_antisymm (hg m' h1) (h2 m hm)
    rw [e3]
    exact q H2 e2⟩
theorem el_cat {xs ys : List V} (ha : EvL ta σ H xs) (hb : EvL tb σ H ys) (hz : xs.length + ys.length ≤ 100000) : EvL (tOp rCat ta tb) σ H (xs ++ ys) := fun H1 e Q q =>
  ha H1 e _ fun p H2 np e2 hp => hb H2 (e.trans e2) _ fun p' H3 np' e3 hp' => ⟨p, p', xs, ys, rfl, rfl, e3 p _ hp, hp', sz_of hz, fun l hl => q l _ (fresh_back (e2.trans e3) hl) ((e2.trans e3).trans (Ex.new hl)) upd_same⟩
theorem el_rep {xs : List V} {k : Nat} (ha : EvL ta σ H xs) (hb : Ev tb σ H (.int (k : Int))) (hz : xs.length * k ≤ 100000) (hk : k ≤ 100000) : EvL (tOp rRep ta tb) σ H (List.replicate k xs).flatten := fun H1 e Q q =>
  ha H1 e _ fun p H2 np e2 hp => hb H2 (e.trans e2) _ fun H3 e3 => ⟨p, (k : Int), xs, rfl, rfl, e3 p _ hp, by omega, by omega, sz_of (by rw [Int.toNat_natCast]; exact hz), fun l hl => by
    rw [Int.toNat_natCast]
    exact q l _ (fresh_back (e2.trans e3) hl) ((e2.trans e3).trans (Ex.new hl)) upd_same⟩
theorem rep_flat (v : V) : ∀ k : Nat, (List.replicate k [v]).flatten = List.replicate k v
  | 0 => rfl
  | k + 1 => by rw [List.replicate_succ, List.flatten_cons, rep_flat v k]; rfl
theorem el_rep1 {v : V} {k : Nat} (ha : EvL ta σ H [v]) (hb : Ev tb σ H (.int (k : Int))) (hk : k ≤ 100000) : EvL (tOp rRep ta tb) σ H (List.replicate k v) := by
  have h := el_rep ha hb (by show 1 * k ≤ 100000; omega) hk
  rw [rep_flat] at h
  exact h
theorem el_is {xs ys : List V} (h : EvL te σ H xs) (e : xs = ys) : EvL te σ H ys := e ▸ h
/-- a, b = two new lists -/
theorem q_parLL {i j : Nat} {xs ys : List V} {D : L2.Ends} {tz : TS} (h1 : EvL ta σ H xs) (h2 : EvL tb σ H ys)
    (k : ∀ p q H1, H p = none → H q = none → p ≠ q → Ex H H1 → H1 p = some (.lst xs) → H1 q = some (.lst ys) → tz D ((σ.set i (some (.ref p))).set j (some (.ref q))) H1) : tSeq (tPar i j (tCons ta (tCons tb tNil))) tz D σ H :=
  h1 H (Ex.refl H) _ fun p H1 np e1 hp => h2 H1 e1 _ fun q H2 nq e2 hq => ⟨.ref p, .ref q, rfl, k p q H2 np (fresh_back e1 nq) (ne_of_none hp nq) (e1.trans e2) (e2 p _ hp) hq⟩
/-- a call of a def as a statement, by its promise -/
theorem s_dropCall {sp : Sp} {E : XK} {tA : TA} {vs : List V} {D : L2.Ends} (h : EvA tA σ H vs) (k : ∀ H1, Ex H H1 → sp (vs ++ []) H1 (fun _ H2 => D.nx σ H2) E) : tDrop (tCall sp [] E tA) D σ H := h H (Ex.refl H) _ fun H1 e1 => k H1 e1
theorem q_dropCall {sp : Sp} {E : XK} {tA : TA} {vs : List V} {D : L2.Ends} {tz : TS} (h : EvA tA σ H vs) (k : ∀ H1, Ex H H1 → sp (vs ++ []) H1 (fun _ H2 => tz D σ H2) E) : tSeq (tDrop (tCall sp [] E tA)) tz D σ H := h H (Ex.refl H) _ fun H1 e1 => k H1 e1
/-- x = a call of a def, by its promise -/
theorem s_asgCall {sp : Sp} {E : XK} {tA : TA} {vs : List V} {D : L2.Ends} {g : TG} (h : EvA tA σ H vs) (k : ∀ H1, Ex H H1 → sp (vs ++ []) H1 (fun v H2 => g v σ H2 D.nx) E) : tAsg (tCall sp [] E tA) g D σ H := h H (Ex.refl H) _ fun H1 e1 => k H1 e1
theorem q_asgCall {sp : Sp} {E : XK} {tA : TA} {vs : List V} {D : L2.Ends} {g : TG} {tz : TS} (h : EvA tA σ H vs) (k : ∀ H1, Ex H H1 → sp (vs ++ []) H1 (fun v H2 => g v σ H2 (tz D)) E) : tSeq (tAsg (tCall sp [] E tA) g) tz D σ H := h H (Ex.refl H) _ fun H1 e1 => k H1 e1
/-- for i, x in enumerate(a tuple) -/
theorem s_forEnumT {a : Addr} {xs : List V} {tA : TA} {i j : Nat} {tu : TS} {D : L2.Ends} (h : EvA tA σ H [.ref a]) (hx : SqT K H a xs) (Pv : Nat → L2.St → Hp → Prop) (h0 : ∀ H1, Ex H H1 → Pv 0 σ H1)
    (hG : ∀ n σ' H', n ≤ xs.length → Pv n σ' H' → SqT K H' a xs)
    (hs : ∀ n x σ' H' H2, xs[n]? = some x → Pv n σ' H' → Ex H' H2 → tu { D with nx := Pv (n + 1), ct := Pv (n + 1), bk := D.nx } ((σ'.set i (some (.int (n : Int)))).set j (some x)) H2) (hd : ∀ σ' H', Pv xs.length σ' H' → D.nx σ' H') :
    tFor (iEnumT K tA) (gTup K 2 (gCons (gName i) (gCons (gName j) gNil))) tu D σ H :=
  h H (Ex.refl H) _ fun H1 e1 => ⟨a, xs, rfl, ex_t e1 hx, for_it (walk_enumT (K := K) (a := a) (xs := xs)) Pv (h0 H1 e1) hG (fun n v σ' H' H2 hn p y => by
    obtain ⟨T, x1, x2, rfl, nT, rfl, f1, f2⟩ := y
    obtain rfl : V.int (n : Nat) = x1 := Option.some.inj f1
    exact ⟨T, [.int (n : Nat), x2], rfl, .inl (.inl upd_same), rfl, .int (n : Nat), [x2], rfl, x2, [], rfl, rfl, hs n x2 σ' H' _ f2 p (Ex.new nT)⟩) hd⟩
theorem q_forEnumT {a : Addr} {xs : List V} {tA : TA} {i j : Nat} {tu tz : TS} {D : L2.Ends} (h : EvA tA σ H [.ref a]) (hx : SqT K H a xs) (Pv : Nat → L2.St → Hp → Prop) (h0 : ∀ H1, Ex H H1 → Pv 0 σ H1)
    (hG : ∀ n σ' H', n ≤ xs.length → Pv n σ' H' → SqT K H' a xs)
    (hs : ∀ n x σ' H' H2, xs[n]? = some x → Pv n σ' H' → Ex H' H2 → tu { D with nx := Pv (n + 1), ct := Pv (n + 1), bk := tz D } ((σ'.set i (some (.int (n : Int)))).set j (some x)) H2) (hd : ∀ σ' H', Pv xs.length σ' H' → tz D σ' H') :
    tSeq (tFor (iEnumT K tA) (gTup K 2 (gCons (gName i) (gCons (gName j) gNil))) tu) tz D σ H := s_forEnumT (D := { D with nx := tz D }) h hx Pv h0 hG hs hd
/-- for i, x in enumerate(a list) -/
theorem s_forEnum {a : Addr} {xs : List V} {tA : TA} {i j : Nat} {tu : TS} {D : L2.Ends} (h : EvA tA σ H [.ref a]) (hx : SqL K H a xs) (Pv : Nat → L2.St → Hp → Prop) (h0 : ∀ H1, Ex H H1 → Pv 0 σ H1)
    (hG : ∀ n σ' H', n ≤ xs.length → Pv n σ' H' → SqL K H' a xs)
    (hs : ∀ n x σ' H' H2, xs[n]? = some x → Pv n σ' H' → Ex H' H2 → tu { D with nx := Pv (n + 1), ct := Pv (n + 1), bk := D.nx } ((σ'.set i (some (.int (n : Int)))).set j (some x)) H2) (hd : ∀ σ' H', Pv xs.length σ' H' → D.nx σ' H') :
    tFor (iEnum K tA) (gTup K 2 (gCons (gName i) (gCons (gName j) gNil))) tu D σ H :=
  h H (Ex.refl H) _ fun H1 e1 => ⟨a, xs, rfl, ex_l e1 hx, for_it (walk_enum (K := K) (a := a) (xs := xs)) Pv (h0 H1 e1) hG (fun n v σ' H' H2 hn p y => by
    obtain ⟨T, x1, x2, rfl, nT, rfl, f1, f2⟩ := y
    obtain rfl : V.int (n : Nat) = x1 := Option.some.inj f1
    exact ⟨T, [.int (n : Nat), x2], rfl, .inl (.inl upd_same), rfl, .int (n : Nat), [x2], rfl, x2, [], rfl, rfl, hs n x2 σ' H' _ f2 p (Ex.new nT)⟩) hd⟩
theorem q_forEnum {a : Addr} {xs : List V} {tA : TA} {i j : Nat} {tu tz : TS} {D : L2.Ends} (h : EvA tA σ H [.ref a]) (hx : SqL K H a xs) (Pv : Nat → L2.St → Hp → Prop) (h0 : ∀ H1, Ex H H1 → Pv 0 σ H1)
    (hG : ∀ n σ' H', n ≤ xs.length → Pv n σ' H' → SqL K H' a xs)
    (hs : ∀ n x σ' H' H2, xs[n]? = some x → Pv n σ' H' → Ex H' H2 → tu { D with nx := Pv (n + 1), ct := Pv (n + 1), bk := tz D } ((σ'.set i (some (.int (n : Int)))).set j (some x)) H2) (hd : ∀ σ' H', Pv xs.length σ' H' → tz D σ' H') :
    tSeq (tFor (iEnum K tA) (gTup K 2 (gCons (gName i) (gCons (gName j) gNil))) tu) tz D σ H := s_forEnum (D := { D with nx := tz D }) h hx Pv h0 hG hs hd
/-- tuple(a new list), list(..) -/
def rTupOf (K : PySem.W.Frag) : List V → Hp → VK → Prop := fun xs H Q => ∃ p ys, xs = [.ref p] ∧ ((SqL K H p ys ∧ ∀ l, H l = none → Q (.ref l) (upd H l (.tup ys))) ∨ (SqT K H p ys ∧ Q (.ref p) H))
theorem eu_tupOf {xs : List V} (ha : EvL ta σ H xs) : EvU (tCB (rTupOf K) (tCons ta tNil)) σ H xs := fun H1 e Q q =>
  ha H1 e _ fun p H2 np e2 hp => ⟨p, xs, rfl, .inl ⟨sq_of hp, fun l hl => q l _ (fresh_back e2 hl) (e2.trans (Ex.new hl)) upd_same⟩⟩
theorem eu_tupOfL {a : Addr} {xs : List V} (ha : Ev ta σ H (.ref a)) (hx : SqL K H a xs) : EvU (tCB (rTupOf K) (tCons ta tNil)) σ H xs := fun H1 e Q q =>
  ha H1 e _ fun H2 e2 => ⟨a, xs, rfl, .inl ⟨ex_l (e.trans e2) hx, fun l hl => q l _ (fresh_back e2 hl) (e2.trans (Ex.new hl)) upd_same⟩⟩
theorem el_listOfT {a : Addr} {xs : List V} (ha : Ev ta σ H (.ref a)) (hx : SqT K H a xs) : EvL (tCB (rListS K) (tCons ta tNil)) σ H xs := fun H1 e Q q =>
  ha H1 e _ fun H2 e2 => ⟨a, xs, rfl, .inr (ex_t (e.trans e2) hx), fun l hl => q l _ (fresh_back e2 hl) (e2.trans (Ex.new hl)) upd_same⟩
theorem el_listOfN {xs : List V} (ha : EvL ta σ H xs) : EvL (tCB (rListS K) (tCons ta tNil)) σ H xs := fun H1 e Q q =>
  ha H1 e _ fun p H2 np e2 hp => ⟨p, xs, rfl, .inl (sq_of hp), fun l hl => q l _ (fresh_back e2 hl) (e2.trans (Ex.new hl)) upd_same⟩
end
end Pd

/-! built, check_coins. -/
namespace Pd
open PySem PySem.Spec PyProof.Rows L2 Evl
theorem bstep_len {m : Nat} (s : List Nat × Tb) (c : Nat) : (bstep m s c).2.length = s.2.length := by
  unfold bstep
  split
  · split
    · exact rounds_len _ _ _ _ _
    · rfl
  · exact rounds_len _ _ _ _ _
  · rfl
theorem bsteps_len {m : Nat} : ∀ (cs : List Nat) (s : List Nat × Tb), (cs.foldl (bstep m) s).2.length = s.2.length
  | [], _ => rfl
  | c :: r, s => by rw [List.foldl_cons, bsteps_len r, bstep_len]
theorem bsteps_need {m : Nat} : ∀ (cs : List Nat) (s : List Nat × Tb), (cs.foldl (bstep m) s).1.length ≤ s.1.length + cs.length
  | [], _ => by simp
  | c :: r, s => by
    have h : (bstep m s c).1.length ≤ s.1.length + 1 := by
      unfold bstep
      split
      · split
        · simp
        · simp
      · simp
      · simp
    have := bsteps_need (m := m) r (bstep m s c)
    rw [List.foldl_cons, List.length_cons]
    omega
def bst0 (m : Nat) : List Nat × Tb := ([m], some 0 :: List.replicate (m - 1) none)
def bst (m : Nat) (rest : List Nat) (i : Nat) : List Nat × Tb := (rest.take i).foldl (bstep m) (bst0 m)
theorem bst_next {m i c : Nat} {rest : List Nat} (h : rest[i]? = some c) : bst m rest (i + 1) = bstep m (bst m rest i) c := by
  unfold bst
  rw [take_next h, List.foldl_append]
  rfl
theorem nv_app (a b : List Nat) : nv (a ++ b) = nv a ++ nv b := List.map_append
section
variable {P : Program} {w : World} {K : PySem.W.Frag} {mg : Str → Option Value} {base : Heap}
/-- built: a new tuple of two new lists -/
def sp_built (K : PySem.W.Frag) : Sp := fun vs H Q _ => ∃ (l : Addr) (m : Nat) (rest : List Nat), vs = [.ref l] ∧ SqL K H l (nv (m :: rest)) ∧ 0 < m ∧ m ≤ 2000 ∧ rest.length ≤ 1000 ∧
  ∀ (T : Tb) (t p q : Addr) (H' : Hp), Tab m (m :: rest) T → H p = none → H q = none → H t = none → Ex H H' → H' t = some (.tup [.ref p, .ref q]) → H' p = some (.lst (nv (m :: needM [m] rest))) → H' q = some (.lst (T.map enc)) → Q (.ref t) H'
theorem ok_built (T : Top K mg) : FnOk P w K mg base CX0 4 T.a_built T.fd_built ["coins"] (sp_built K) := by
  refine T.F_built.ok sc_built (fun vs H Q E h => ?_) (fun cdv A outer s H vs Q E hr h => ?_)
  · obtain ⟨l, m, rest, rfl, _⟩ := h
    rfl
  · obtain ⟨l, m, rest, rfl, hl, hm, hm2, hn, k⟩ := h
    have nd := sc_built.nd
    refine ⟨_, (pss_cons (ps_set (i := 1) nd rfl (Or.inl rfl) (pe_ix ix_list (pv 0) pe_int (fun _ _ => rfl))) (pss_cons (ps_par (i := 2) (j := 3) rfl nd rfl rfl (by decide) rfl rfl (pa_cons (pe_lst (pa_cons (pv 1) pa_nil)) (pa_cons (pe_op op_cat (pe_lst (pa_cons pe_int pa_nil)) (pe_op op_rep (pe_lst (pa_cons pe_non pa_nil)) (pe_op op_sub (pv 1) pe_int))) pa_nil)) (by rfl)) (pss_cons (ps_for PassesOwn.never rfl (pi_list (pe_slice sl_list (pv 0) (po_some pe_int) po_none)) (pg_name (i := 4) nd rfl (Or.inl rfl)) (pss_cons (ps_set (i := 5) nd rfl (Or.inl rfl) (pe_ix ix_list (pv 3) (pe_op op_mod (pv 4) (pv 1)) (fun _ _ => rfl))) (pss_one (ps_if (PW.pt (pw_or (pt_cmpR op_isN1 (pv 5) pe_non (nomark _)) (pw_or1 (pt_cmpR op_gt (pv 5) (pv 4) (nomark _))))) (pss_cons (ps_expr (pe_bm PySem.F.plainAttrs_list PySem.F.slot_list_append PySem.F.type_list_append mt_append (pv 2) (pa_cons (pv 4) pa_nil))) (pss_one (ps_expr (pe_call (ok_round_up T) (hr.mono (by decide)) (by rfl) T.g_round_up T.F_round_up.kp T.b_round_up .nil pass0 (pa_cons (pv 3) (pa_cons (pv 4) (pa_cons (pe_op op_mod (pv 4) (pv 1)) (pa_cons (pv 1) pa_nil)))))))) pss_nil)))) (pss_one (ps_ret (pe_tup (pa_cons (pv 2) (pa_cons (pv 3) pa_nil)))))))), ?_⟩
    refine q_asg (ev_op (ev_var rfl) ev_c (rv_ixL hl (atI_nat (j := 0) rfl))) fun H1 e1 => ?_
    have hm1 : ((m : Int) - 1) = ((m - 1 : Nat) : Int) := by omega
    refine q_parLL (el_lst (ea_cons (ev_var rfl) ea_nil) (by show 1 ≤ 100000; decide)) (el_cat (el_lst (ea_cons ev_c ea_nil) (by show 1 ≤ 100000; decide)) (el_rep1 (el_lst (ea_cons ev_c ea_nil) (by show 1 ≤ 100000; decide)) (ev_is (ev_op (ev_var rfl) ev_c rv_I0) (congrArg V.int hm1)) (by omega)) (by rw [List.length_replicate]; show 1 + (m - 1) ≤ 100000; omega)) fun p q H2 np nq npq e2 hp hq => ?_
    have np0 := fresh_back e1 np
    have nq0 := fresh_back e1 nq
    refine q_forNLn (xs := nv rest) (el_is (el_sl (ev_var rfl) (eo_some ev_c) eo_none (ex_l (e1.trans e2) hl)) (cut_from _ 1))
      (fun a i σ' H' => ∃ y z, σ' = [some (.ref l), some (.int m), some (.ref p), some (.ref q), y, z] ∧ Ex H H' ∧ a ≠ p ∧ a ≠ q ∧ H' a = some (.lst (nv rest)) ∧ H' p = some (.lst (nv (bst m rest i).1)) ∧ H' q = some (.lst ((bst m rest i).2.map enc)))
      (fun a H3 na e3 ha => ⟨none, none, rfl, (e1.trans e2).trans e3, (ne_of_none hp na).symm, (ne_of_none hq na).symm, ha, e3 p _ hp, ?_⟩) (fun a i σ' H' _ ⟨_, _, _, _, _, _, h, _⟩ => sq_of h) (fun a i x σ' H' hx hp' => ?_) (fun a σ' H' hp' => ?_)
    · rw [e3 q _ hq]
      show some (HO.lst (V.int 0 :: List.replicate (m - 1) V.non)) = some (HO.lst ((some 0 :: List.replicate (m - 1) none).map enc))
      rw [List.map_cons, List.map_replicate]
      rfl
    · obtain ⟨y, z, rfl, e3, nap, naq, ha, hp3, hq3⟩ := hp'
      obtain ⟨c, hc, rfl⟩ := nv_get hx
      have hL : (bst m rest i).2.length = m := by
        unfold bst
        rw [bsteps_len]
        show (some 0 :: List.replicate (m - 1) none).length = m
        rw [List.length_cons, List.length_replicate]
        omega
      have hcm : c % m < (bst m rest i).2.length := by rw [hL]; exact Nat.mod_lt _ hm
      obtain ⟨o, ho⟩ : ∃ o, (bst m rest i).2[c % m]? = some o := ⟨_, List.getElem?_eq_getElem hcm⟩
      have hmi : (c : Int) % (m : Int) = ((c % m : Nat) : Int) := rfl
      refine q_asg (ev_op (ev_var rfl) (ev_is (ev_op (ev_var rfl) (ev_var rfl) (rv_I (by omega))) (congrArg V.int hmi)) (rv_ixL (sq_of hq3) (atI_nat (enc_get ho)))) fun H4 e4 => ?_
      -- what the turn must come to
      have goal : ∀ (D : L2.Ends) (H5 : Hp), (∀ H6, (∃ y z, [some (V.ref l), some (V.int m), some (V.ref p), some (V.ref q), some (V.int c), some (enc o)] = [some (V.ref l), some (V.int m), some (V.ref p), some (V.ref q), y, z] ∧ Ex H H6 ∧ a ≠ p ∧ a ≠ q ∧ H6 a = some (.lst (nv rest)) ∧ H6 p = some (.lst (nv (bst m rest (i + 1)).1)) ∧ H6 q = some (.lst ((bst m rest (i + 1)).2.map enc))) → D.nx [some (V.ref l), some (V.int m), some (V.ref p), some (V.ref q), some (V.int c), some (enc o)] H6) →
          bstep m (bst m rest i) c = ((bst m rest i).1 ++ [c], rounds (bst m rest i).2 (c % m) c m (Nat.gcd (c % m) m)) → Ex H4 H5 →
          tSeq (tDrop (tBM K "list" rAppend (tVar 2) (tCons (tVar 4) tNil))) (tDrop (tCall sp_round_up [] E0 (tCons (tVar 3) (tCons (tVar 4) (tCons (tOp (rI (fun _ j => 0 < j) fun i j => .int (i % j)) (tVar 4) (tVar 1)) (tCons (tVar 1) tNil)))))) D [some (V.ref l), some (V.int m), some (V.ref p), some (V.ref q), some (V.int c), some (enc o)] H5 := fun D H5 hD eb e5 => by
        have hp5 : H5 p = some (.lst (nv (bst m rest i).1)) := e5 p _ (e4 p _ hp3)
        have hq5 : H5 q = some (.lst ((bst m rest i).2.map enc)) := e5 q _ (e4 q _ hq3)
        have ha5 : H5 a = some (.lst (nv rest)) := e5 a _ (e4 a _ ha)
        have hz : (nv (bst m rest i).1).length < 100000 := by
          rw [nv_len]
          have := bsteps_need (m := m) (rest.take i) (bst0 m)
          have h2 : (rest.take i).length ≤ rest.length := by rw [List.length_take]; omega
          unfold bst
          have h3 : (bst0 m).1.length = 1 := rfl
          omega
        refine q_app hp5 (ev_var rfl) (ev_var rfl) hz fun H6 e6 => ?_
        have hq6 : (upd H6 p (.lst (nv (bst m rest i).1 ++ [.int c]))) q = some (.lst ((bst m rest i).2.map enc)) := by
          rw [upd_ne npq.symm]
          exact e6 q _ hq5
        refine s_dropCall (ea_cons (ev_var rfl) (ea_cons (ev_var rfl) (ea_cons (ev_is (ev_op (ev_var rfl) (ev_var rfl) (rv_I (by omega))) (congrArg V.int hmi)) (ea_cons (ev_var rfl) ea_nil)))) fun H7 e7 => ?_
        refine ⟨q, (bst m rest i).2, c, c % m, m, rfl, e7 q _ hq6, hL, hm, hm2, fun H8 b8 h8 => hD H8 ⟨_, _, rfl, ?_, nap, naq, ?_, ?_, ?_⟩⟩
        · have e8 : Ex H (upd H6 p (.lst (nv (bst m rest i).1 ++ [.int c]))) := (((e3.trans e4).trans e5).trans e6).mut np0
          exact fun b u hb => b8 b u (ne_of_none hb nq0) (e7 b u (e8 b u hb))
        · refine b8 a _ naq (e7 a _ ?_)
          rw [upd_ne nap]
          exact e6 a _ ha5
        · rw [bst_next hc, eb, nv_app]
          exact b8 p _ npq (e7 p _ upd_same)
        · rw [bst_next hc, eb]
          exact h8
      cases o with
      | none =>
        refine s_when (b := true) (et_is (et_or (a := true) (b := true) (et_is (et_test (ev_op (ev_var rfl) ev_c rv_isN)) (by rfl)) fun z => by cases z) rfl) (fun _ H5 e5 => ?_) fun z => by cases z
        exact goal _ H5 (fun H6 h6 => h6) (by unfold bstep; rw [ho]) e5
      | some v =>
        refine s_when (b := decide ((c : Int) < (v : Int))) (et_is (et_or (a := false) (b := decide ((c : Int) < (v : Int))) (et_is (et_test (ev_op (ev_var rfl) ev_c rv_isN)) (by rfl)) fun _ => et_test (ev_op (x := .int (v : Int)) (y := .int (c : Int)) (ev_var rfl) (ev_var rfl) rv_I0)) (by simp)) (fun hb H5 e5 => ?_) fun hb H5 e5 => ?_
        · have hb' := of_decide_eq_true hb
          exact goal _ H5 (fun H6 h6 => h6) (by unfold bstep; rw [ho]; exact if_pos (by omega)) e5
        · have hb' := of_decide_eq_false hb
          have eb : bst m rest (i + 1) = bst m rest i := by rw [bst_next hc]; unfold bstep; rw [ho]; exact if_neg (by omega)
          refine ⟨_, _, rfl, (e3.trans e4).trans e5, nap, naq, e5 a _ (e4 a _ ha), ?_, ?_⟩
          · rw [eb]
            exact e5 p _ (e4 p _ hp3)
          · rw [eb]
            exact e5 q _ (e4 q _ hq3)
    · obtain ⟨y, z, rfl, e3, nap, naq, ha, hp3, hq3⟩ := hp'
      obtain ⟨TT, eT, hT⟩ := built_spec hm rest
      have eb : bst m rest (nv rest).length = (m :: needM [m] rest, TT) := by
        unfold bst
        rw [nv_len, List.take_length]
        exact eT
      rw [eb] at hp3 hq3
      refine s_retU (eu_tup (ea_cons (ev_var rfl) (ea_cons (ev_var rfl) ea_nil)) (by show 2 ≤ 100000; decide)) fun t H4 nt e4 ht => ?_
      exact k TT t p q H4 hT np0 nq0 (fresh_back e3 nt) (e3.trans e4) ht (e4 p _ hp3) (e4 q _ hq3)
end
end Pd

/-! sorted, stores to attributes, pairs. -/
namespace Pd
open PySem PySem.Spec PyProof.Rows L2 Evl
def srt (cs : List Nat) : List Nat := cs.mergeSort fun a b => decide (a ≤ b)
theorem srt_perm (cs : List Nat) : (srt cs).Perm cs := List.mergeSort_perm cs _
theorem srt_le (cs : List Nat) : (srt cs).Pairwise (· ≤ ·) := by
  have h := List.pairwise_mergeSort (le := fun a b : Nat => decide (a ≤ b)) (fun a b c h1 h2 => decide_eq_true (Nat.le_trans (of_decide_eq_true h1) (of_decide_eq_true h2))) (fun a b => by
    cases Nat.le_total a b with
    | inl q => simp [q]
    | inr q => simp [q]) cs
  exact h.imp fun q => of_decide_eq_true q
theorem srt_eq {cs : List Nat} (h : cs.Pairwise (· ≤ ·)) : srt cs = cs := List.Perm.eq_of_pairwise (fun a b _ _ h1 h2 => Nat.le_antisymm h1 h2) (srt_le cs) h (srt_perm cs)
theorem ints_sorted {cs : List Nat} {ns : List Int} (p : ns.Perm (cs.map fun (c : Nat) => (c : Int))) (s : ns.Pairwise (· ≤ ·)) : ns.map V.int = nv (srt cs) := by
  have h1 : ((srt cs).map fun (c : Nat) => (c : Int)).Pairwise (· ≤ ·) := List.pairwise_map.mpr ((srt_le cs).imp fun h => by omega)
  have h2 : ns = (srt cs).map fun (c : Nat) => (c : Int) := List.Perm.eq_of_pairwise (fun a b _ _ x y => Int.le_antisymm x y) s h1 (p.trans ((srt_perm cs).symm.map _))
  rw [h2, nv_ints]
section
variable {K : PySem.W.Frag} {σ : L2.St} {H H' : Hp} {ta tb te tx : TE} {x y z v : V}
theorem el_sortedT {a : Addr} {cs : List Nat} (ha : Ev ta σ H (.ref a)) (h : SqT K H a (nv cs)) : EvL (tCB (rSortedT K) (tCons ta tNil)) σ H (nv (srt cs)) := fun H1 e Q q =>
  ha H1 e _ fun H2 e2 => ⟨a, cs.map fun (c : Nat) => (c : Int), rfl, by rw [← nv_ints]; exact ex_t (e.trans e2) h, fun ns p hp hs np => by
    rw [ints_sorted hp hs]
    exact q p _ (fresh_back e2 np) (e2.trans (Ex.new np)) upd_same⟩
theorem el_sortedN {cs : List Nat} (ha : EvL ta σ H (nv cs)) : EvL (tCB (rSortedI K) (tCons ta tNil)) σ H (nv (srt cs)) := fun H1 e Q q =>
  ha H1 e _ fun a H2 na e2 h => ⟨a, cs.map fun (c : Nat) => (c : Int), rfl, by rw [← nv_ints]; exact sq_of h, fun ns p hp hs np => by
    rw [ints_sorted hp hs]
    exact q p _ (fresh_back e2 np) (e2.trans (Ex.new np)) upd_same⟩
/-- g = f(a new list) -/
theorem q_asgCallL {sp : Sp} {E : XK} {xs : List V} {D : L2.Ends} {g : TG} {tz : TS} (h : EvL te σ H xs) (k : ∀ p H1, H p = none → Ex H H1 → H1 p = some (.lst xs) → sp [.ref p] H1 (fun v H2 => g v σ H2 (tz D)) E) :
    tSeq (tAsg (tCall sp [] E (tCons te tNil)) g) tz D σ H := h H (Ex.refl H) _ k
theorem g_pair {i j : Nat} {a : Addr} {Q : L2.St → Hp → Prop} (h : H a = some (.tup [x, y])) (k : Q ((σ.set i (some x)).set j (some y)) H) : gTup K 2 (gCons (gName i) (gCons (gName j) gNil)) (.ref a) σ H Q :=
  ⟨a, [x, y], rfl, .inl (.inl h), rfl, x, [y], rfl, y, [], rfl, rfl, k⟩
theorem ev_fld {o C dx : Addr} {fs : List (Str × V)} {f : Str} (ho : Ev ta σ H (.ref o)) (h : H o = some (.ins C dx fs)) (c : Cls K C) (n : NoAttr K C f) (hv : fs.lookup f = some v) : Ev (tFld K ta f) σ H v := fun H1 e Q q =>
  ho H1 e _ fun H2 e2 => ⟨o, C, dx, fs, v, rfl, e2 _ _ (e _ _ h), c, n, hv, q H2 e2⟩
theorem s_fldU {o C dx : Addr} {fs : List (Str × V)} {f : Str} {xs : List V} {D : L2.Ends} (h : EvU te σ H xs) (ho : Ev ta σ H (.ref o)) (hi : H o = some (.ins C dx fs)) (c : Cls K C) (n : NoAttr K C f) (hz : fs.length < 1000)
    (k : ∀ p H1, H p = none → Ex H H1 → H1 p = some (.tup xs) → D.nx σ (upd H1 o (.ins C dx (putF f (.ref p) fs)))) : sFld K ta te f D σ H :=
  h H (Ex.refl H) _ fun p H1 np e1 hp => ho H1 e1 _ fun H2 e2 => ⟨o, C, dx, fs, rfl, e2 _ _ (e1 _ _ hi), c, n, hz, k p H2 np (e1.trans e2) (e2 _ _ hp)⟩
theorem q_fldU {o C dx : Addr} {fs : List (Str × V)} {f : Str} {xs : List V} {D : L2.Ends} {tz : TS} (h : EvU te σ H xs) (ho : Ev ta σ H (.ref o)) (hi : H o = some (.ins C dx fs)) (c : Cls K C) (n : NoAttr K C f) (hz : fs.length < 1000)
    (k : ∀ p H1, H p = none → Ex H H1 → H1 p = some (.tup xs) → tz D σ (upd H1 o (.ins C dx (putF f (.ref p) fs)))) : tSeq (sFld K ta te f) tz D σ H := s_fldU (D := { D with nx := tz D }) h ho hi c n hz k
end
end Pd

/-! check_coins, System. -/
namespace Pd
open PySem PySem.Spec PyProof.Rows L2 Evl
/-- coins that a system takes -/
structure Good (cs : List Nat) : Prop where
  ne : cs ≠ []
  len : cs.length ≤ 700
  rng : ∀ c ∈ cs, 1 ≤ c ∧ c ≤ 1000000
  nodup : cs.Nodup
  least : ∃ m ∈ cs, m ≤ 2000 ∧ ∀ c ∈ cs, m ≤ c
  gcd : gcdL cs = 1
theorem dvd_gcdF {d : Nat} : ∀ (cs : List Nat) (a : Nat), d ∣ cs.foldl Nat.gcd a ↔ d ∣ a ∧ ∀ c ∈ cs, d ∣ c
  | [], a => by simp
  | c :: r, a => by
    rw [List.foldl_cons, dvd_gcdF r, Nat.dvd_gcd_iff]
    simp only [List.mem_cons, forall_eq_or_imp]
    constructor
    · rintro ⟨⟨h1, h2⟩, h3⟩
      exact ⟨h1, h2, h3⟩
    · rintro ⟨h1, h2, h3⟩
      exact ⟨⟨h1, h2⟩, h3⟩
theorem gcdL_one {cs : List Nat} : gcdL cs = 1 ↔ ∀ d, (∀ c ∈ cs, d ∣ c) → d = 1 := by
  constructor
  · intro h d hd
    have : d ∣ gcdL cs := (dvd_gcdF cs 0).mpr ⟨Nat.dvd_zero d, hd⟩
    rw [h] at this
    exact Nat.dvd_one.mp this
  · intro h
    exact h _ ((dvd_gcdF cs 0).mp (Nat.dvd_refl _)).2
theorem gcdL_perm {cs ds : List Nat} (p : cs.Perm ds) (h : gcdL cs = 1) : gcdL ds = 1 := gcdL_one.mpr fun d hd => gcdL_one.mp h d fun c hc => hd c (p.mem_iff.mp hc)
theorem take_notMem {cs : List Nat} {n c : Nat} (nd : cs.Nodup) (h : cs[n]? = some c) : c ∉ cs.take n := by
  intro hm
  obtain ⟨lt, e⟩ := List.getElem?_eq_some_iff.mp h
  obtain ⟨i, hi, e2⟩ := List.mem_take_iff_getElem.mp hm
  have hin : i < n := by omega
  have hil : i < cs.length := by omega
  have := (List.getElem_inj (h₀ := hil) (h₁ := lt) nd).mp (by rw [e2, e])
  omega
section
variable {P : Program} {w : World} {K : PySem.W.Frag} {mg : Str → Option Value} {base : Heap}
def sp_check_coins : Sp := fun vs H Q _ => ∃ (t : Addr) (cs : List Nat), vs = [.ref t] ∧ H t = some (.tup (nv cs)) ∧ Good cs ∧ RetV .non H Q
theorem ok_check_coins (T : Top K mg) : FnOk P w K mg base CX0 4 T.a_check_coins T.fd_check_coins ["coins"] sp_check_coins := by
  refine T.F_check_coins.ok sc_check_coins (fun vs H Q E h => ?_) (fun cdv A outer s H vs Q E hr h => ?_)
  · obtain ⟨t, cs, rfl, _⟩ := h
    rfl
  · obtain ⟨t, cs, rfl, ht, G, k⟩ := h
    have nd := sc_check_coins.nd
    refine ⟨_, (pss_cons (ps_if (PW.pt (pw_or (pt_not (pt_val (pe_callB call_isi (by rfl) T.z_isinstance (by decide +kernel) (pa_cons (pv 0) (pa_cons (pe_bltn (v := .ty "tuple") (u := .type "tuple") (by rfl) T.z_tuple (by decide +kernel) rfl) pa_nil))))) (pw_or1 (pt_cmpR op_eq (pe_callB call_len_seq (by rfl) T.z_len PySem.boot_len (pa_cons (pv 0) pa_nil)) pe_int (nomark _))))) pss_dead pss_nil) (pss_cons (ps_for PassesOwn.never rfl (pi_enumT (by rfl) T.z_enumerate (pa_cons (pv 0) pa_nil)) (pg_tup rfl (pgs_cons (pg_name (i := 1) nd rfl (Or.inl rfl)) (pgs_cons (pg_name (i := 2) nd rfl (Or.inl rfl)) pgs_nil))) (pss_one (ps_if (PW.pt (pw_or (pt_cmpR op_ge (pv 1) (pe_glob (v := .int 700) rfl T.c_MOST_COINS ⟨_, rfl⟩) (nomark _)) (pw_or (pt_not (pt_val (pe_call (ok_is_within T) (hr.mono (by decide)) (by rfl) T.g_is_within T.F_is_within.kp T.b_is_within .nil pass0 (pa_cons (pv 2) (pa_cons pe_int (pa_cons (pe_glob (v := .int 1000000) rfl T.c_MOST_COIN ⟨_, rfl⟩) pa_nil)))))) (pw_or1 (pt_cmpR op_in_seq (pv 2) (pe_slice sl_tupA (pv 0) po_none (po_some (pv 1))) rfl))))) pss_dead pss_nil))) (pss_one (ps_if (PW.pt (pw_or (pt_cmpR op_gt (pe_callB (cr_minT rfl) (by rfl) T.z_min (by decide +kernel) (pa_cons (pv 0) pa_nil)) (pe_glob (v := .int 2000) rfl T.c_MOST_LEAST ⟨_, rfl⟩) (nomark _)) (pw_or1 (pt_cmpR op_ne (pe_call (ok_common_of T) (hr.mono (by decide)) (by rfl) T.g_common_of T.F_common_of.kp T.b_common_of .nil pass0 (pa_cons (pv 0) pa_nil)) pe_int (nomark _))))) pss_dead pss_nil)))), ?_⟩
    have hlen : ¬ ((nv cs).length : Int) = 0 := by
      rw [nv_len]
      have := List.length_pos_iff.mpr G.ne
      omega
    refine q_when (b := false) (et_is (et_or (a := false) (b := false) (et_is (et_not (a := true) (et_B (ev_cb (ea_cons (ev_var rfl) (ea_cons ev_c ea_nil)) (rc_isi (.ty "tuple") (fun H1 e1 => ty_tup (e1 _ _ ht)) (kit_ty (by decide +kernel)))))) rfl) fun _ => et_is (et_test (ev_op (ev_lenS (K := K) (ev_var rfl) (.inr (st_of ht))) ev_c (rv_eq rfl))) (decide_eq_false fun z => hlen (V.int.inj z))) rfl) (fun z => by cases z) fun _ H1 e1 => ?_
    refine q_forEnumT (K := K) (ea_cons (ev_var rfl) ea_nil) (st_of (e1 _ _ ht)) (fun n σ' H' => ∃ a b, σ' = [some (.ref t), a, b] ∧ Ex H H') (fun H2 e2 => ⟨none, none, rfl, e1.trans e2⟩) (fun n σ' H' _ ⟨_, _, _, e⟩ => st_of (e _ _ ht)) (fun n x σ' H' H2 hx hp e2 => ?_) (fun σ' H' hp => ?_)
    · obtain ⟨a, b, rfl, e⟩ := hp
      obtain ⟨c, hc, rfl⟩ := nv_get hx
      have hn : n < cs.length := (List.getElem?_eq_some_iff.mp hc).1
      have hmem : c ∈ cs := List.mem_of_getElem? hc
      obtain ⟨c1, c2⟩ := G.rng c hmem
      have g1 : decide ((700 : Int) ≤ (n : Int)) = false := decide_eq_false (by have := G.len; omega)
      have g2 : (decide ((1 : Int) ≤ (c : Int)) && decide ((c : Int) ≤ 1000000)) = true := by rw [decide_eq_true (by omega), decide_eq_true (by omega)]; rfl
      have g3 : inV (.int (c : Int)) ((nv cs).take n) = false := by
        have : (nv cs).take n = nv (cs.take n) := List.map_take.symm
        rw [this, inV_nv]
        exact decide_eq_false (take_notMem G.nodup hc)
      have ht2 : SqT K H2 t (nv cs) := st_of ((e.trans e2) _ _ ht)
      refine s_when (b := false) (et_is (et_or (a := false) (b := false) (et_is (et_test (ev_op (ev_var rfl) ev_c rv_I0)) g1) fun _ => et_or (a := false) (b := false) (et_is (et_not (a := true) (et_B (ev_is (ev_call (ea_cons (ev_var rfl) (ea_cons ev_c (ea_cons ev_c ea_nil))) (sv_is_within _ _ _)) (congrArg V.bl g2)))) rfl) fun _ => et_is (et_test (ev_inS (K := K) (ev_var rfl) (EvS.slTo (ev_var rfl) ht2 (ev_var rfl)) rfl ?_)) g3) rfl) (fun z => by cases z) fun _ H3 e3 => ⟨_, _, rfl, (e.trans e2).trans e3⟩
      rw [List.all_eq_true]
      intro y hy
      exact List.all_eq_true.mp (nv_flat cs) y (List.mem_of_mem_take hy)
    · obtain ⟨a, b, rfl, e⟩ := hp
      obtain ⟨m, hm, hm2, hml⟩ := G.least
      have htT : SqT K H' t ((cs.map fun (c : Nat) => (c : Int)).map V.int) := by rw [← nv_ints]; exact st_of (e _ _ ht)
      have g1 : decide ((2000 : Int) < (m : Int)) = false := decide_eq_false (by omega)
      have g2 : (!decide (V.int ((gcdL cs : Nat) : Int) = V.int 1)) = false := by rw [G.gcd]; rfl
      refine s_when (b := false) (et_is (et_or (a := false) (b := false) (et_is (et_test (ev_op (ev_minT (K := K) (m := (m : Int)) (ev_var rfl) htT (List.mem_map.mpr ⟨m, hm, rfl⟩) fun y hy => ?_) ev_c rv_I0)) g1) fun _ => et_is (et_test (ev_op (ev_call (ea_cons (ev_var rfl) ea_nil) (sv_common_of (K := K) (.inr (st_of (e _ _ ht))))) ev_c (rv_ne rfl))) g2) rfl) (fun z => by cases z) fun _ H3 e3 => k H3 (e.trans e3)
      obtain ⟨c, hc, rfl⟩ := List.mem_map.mp hy
      have := hml c hc
      omega
/-! ### System -/
theorem nc_ : ¬ (("needed_coins" : Str) = "coins") := by decide +kernel
theorem cn_ : ¬ (("coins" : Str) = "needed_coins") := by decide +kernel
theorem cr_ : ¬ (("coins" : Str) = "rests") := by decide +kernel
theorem nr_ : ¬ (("needed_coins" : Str) = "rests") := by decide +kernel
theorem putF_len (f : Str) (v : V) : ∀ fs : List (Str × V), (putF f v fs).length ≤ fs.length + 1
  | [] => Nat.le_refl _
  | (g, x) :: r => by
    show (if g = f then (g, v) :: r else (g, x) :: putF f v r).length ≤ r.length + 1 + 1
    split
    · rw [List.length_cons]; omega
    · rw [List.length_cons]; have := putF_len f v r; omega
def sysF (a b c : V) : List (Str × V) := putF "rests" c (putF "needed_coins" b (putF "coins" a []))
theorem sysF_need (a b c : V) : (sysF a b c).lookup ("needed_coins" : Str) = some b := by
  unfold sysF
  rw [lookup_putF, if_neg nr_, lookup_putF, if_pos rfl]
theorem sysF_rests (a b c : V) : (sysF a b c).lookup ("rests" : Str) = some c := by
  unfold sysF
  rw [lookup_putF, if_pos rfl]
theorem put1_coins (a : V) : (putF "coins" a []).lookup ("coins" : Str) = some a := by rw [lookup_putF, if_pos rfl]
/-- a system stands at x: its needed coins, its rests -/
def SysAt (C : Addr) (H : Hp) (x : Addr) (nd W : List Nat) : Prop := ∃ (dx b c : Addr) (a : V), H x = some (.ins C dx (sysF a (.ref b) (.ref c))) ∧ H b = some (.tup (nv nd)) ∧ H c = some (.tup (nv W))
theorem SysAt.ex {C x : Addr} {H H' : Hp} {nd W : List Nat} (h : SysAt C H x nd W) (e : Ex H H') : SysAt C H' x nd W := by
  obtain ⟨dx, b, c, a, h1, h2, h3⟩ := h
  exact ⟨dx, b, c, a, e _ _ h1, e _ _ h2, e _ _ h3⟩
def sp_System_init (C : Addr) : Sp := fun vs H Q _ => ∃ (x t dx : Addr) (cs : List Nat), vs = [.ref x, .ref t] ∧ H x = some (.ins C dx []) ∧ H t = some (.tup (nv cs)) ∧ Good cs ∧
  ∀ (m : Nat) (rest W : List Nat) (H' : Hp), (m :: rest).Perm cs → (m :: rest).Pairwise (· ≤ ·) → Rests m (m :: rest) W → Bt x H H' → SysAt C H' x (m :: needM [m] rest) W → Q .non H'
theorem sorted_cons {ns : List Nat} (h : ns ≠ []) : ∃ m rest, ns = m :: rest := by
  cases ns with
  | nil => exact absurd rfl h
  | cons m r => exact ⟨m, r, rfl⟩
theorem ok_System_init (T : Top K mg) : FnOk P w K mg base CX0 5 T.a_System_init T.fd_System_init ["self", "coins"] (sp_System_init T.a_System) := by
  refine T.F_System_init.ok sc_System_init (fun vs H Q E h => ?_) (fun cdv A outer s H vs Q E hr h => ?_)
  · obtain ⟨x, t, dx, cs, rfl, _⟩ := h
    rfl
  · obtain ⟨x, t, dx, cs, rfl, hx, ht, G, k⟩ := h
    have nd := sc_System_init.nd
    have cl : Cls K T.a_System := T.i_System.cl
    refine ⟨_, (pss_cons (ps_expr (pe_call (ok_check_coins T) (hr.mono (by decide)) (by rfl) T.g_check_coins T.F_check_coins.kp T.b_check_coins .nil pass0 (pa_cons (pv 1) pa_nil))) (pss_cons (ps_fld (pv 0) (pe_callTy call_tuple_of (by rfl) T.z_tuple (by decide +kernel) (pa_cons (pe_callB cr_sortedT' (by rfl) T.z_sorted (by decide +kernel) (pa_cons (pv 1) pa_nil)) pa_nil)) rfl) (pss_cons (ps_asg (pe_call (ok_built T) (hr.mono (by decide)) (by rfl) T.g_built T.F_built.kp T.b_built .nil pass0 (pa_cons (pe_callTy call_list_of (by rfl) T.z_list (by decide +kernel) (pa_cons (pe_fld (pv 0) rfl) pa_nil)) pa_nil)) (pg_tup rfl (pgs_cons (pg_name (i := 2) nd rfl (Or.inl rfl)) (pgs_cons (pg_name (i := 3) nd rfl (Or.inl rfl)) pgs_nil)))) (pss_cons (ps_fld (pv 0) (pe_callTy call_tuple_of (by rfl) T.z_tuple (by decide +kernel) (pa_cons (pv 2) pa_nil)) rfl) (pss_one (ps_fld (pv 0) (pe_callTy call_tuple_of (by rfl) T.z_tuple (by decide +kernel) (pa_cons (pv 3) pa_nil)) rfl)))))), ?_⟩
    have ntx : t ≠ x := ne_of ht hx (by intro z; cases z)
    refine q_dropCall (ea_cons (ev_var rfl) ea_nil) fun H1 e1 => ⟨t, cs, rfl, e1 _ _ ht, G, fun H2 e2 => ?_⟩
    -- self.coins = tuple(sorted(coins))
    have hx2 := e2 _ _ (e1 _ _ hx)
    have b2 : Ex H H2 := e1.trans e2
    refine q_fldU (eu_tupOf (K := K) (el_sortedT (ev_var rfl) (st_of (b2 _ _ ht)))) (ev_var rfl) hx2 cl T.n_System_coins (by show 0 < 1000; decide) fun p H3 np e3 hp => ?_
    have px : p ≠ x := (ne_of_none hx2 np).symm
    have hp4 : (upd H3 x (.ins T.a_System dx (putF "coins" (.ref p) []))) p = some (.tup (nv (srt cs))) := by rw [upd_ne px]; exact hp
    have b4 : Bt x H (upd H3 x (.ins T.a_System dx (putF "coins" (.ref p) []))) := (Bt.of (b2.trans e3)).up
    generalize hH4 : upd H3 x (.ins T.a_System dx (putF "coins" (.ref p) [])) = H4 at hp4 b4
    have hx4 : H4 x = some (.ins T.a_System dx (putF "coins" (.ref p) [])) := by rw [← hH4]; exact upd_same
    -- needed_ones, table = built(list(self.coins))
    have pm := srt_perm cs
    obtain ⟨m, rest, es⟩ := sorted_cons (ns := srt cs) (fun z => G.ne (by rw [z] at pm; exact List.nil_perm.mp pm))
    rw [es] at pm hp4
    have so : (m :: rest).Pairwise (· ≤ ·) := es ▸ srt_le cs
    have mm : m ∈ cs := pm.mem_iff.mp (by simp)
    have hm1 := (G.rng m mm).1
    have hm2 : m ≤ 2000 := by
      obtain ⟨a, ha, ha2, _⟩ := G.least
      rcases List.mem_cons.mp (pm.mem_iff.mpr ha) with rfl | h
      · exact ha2
      · exact Nat.le_trans ((List.pairwise_cons.mp so).1 a h) ha2
    have ln := pm.length_eq
    refine q_asgCallL (el_listOfT (K := K) (ev_fld (ev_var rfl) hx4 cl T.n_System_coins (put1_coins _)) (st_of hp4)) fun l H5 nl e5 hl => ?_
    refine ⟨l, m, rest, rfl, sq_of hl, hm1, hm2, by rw [List.length_cons] at ln; have := G.len; omega, fun TT t' p' q' H6 hT np' nq' nt' e6 ht' hp' hq' => ?_⟩
    refine g_pair ht' ?_
    have hx6 : H6 x = some (.ins T.a_System dx (putF "coins" (.ref p) [])) := e6 _ _ (e5 _ _ hx4)
    have b6 : Bt x H H6 := (b4.ex e5).ex e6
    obtain ⟨W, eW, R⟩ := hT.whole hm1 (by simp) (gcdL_perm pm.symm G.gcd)
    -- self.needed_coins = tuple(needed_ones)
    refine q_fldU (eu_tupOfL (K := K) (ev_var rfl) (sq_of hp')) (ev_var rfl) hx6 cl T.n_System_needed_coins (by show 1 < 1000; decide) fun u H7 nu e7 hu => ?_
    have ux : u ≠ x := (ne_of_none hx6 nu).symm
    have qx : q' ≠ x := ne_of hq' hx6 (by intro z; cases z)
    have b8 : Bt x H (upd H7 x (.ins T.a_System dx (putF "needed_coins" (.ref u) (putF "coins" (.ref p) [])))) := (b6.ex e7).up
    have hu8 : (upd H7 x (.ins T.a_System dx (putF "needed_coins" (.ref u) (putF "coins" (.ref p) [])))) u = some (.tup (nv (m :: needM [m] rest))) := by rw [upd_ne ux]; exact hu
    have hq8 : (upd H7 x (.ins T.a_System dx (putF "needed_coins" (.ref u) (putF "coins" (.ref p) [])))) q' = some (.lst (TT.map enc)) := by rw [upd_ne qx]; exact e7 _ _ hq'
    have hx8 : (upd H7 x (.ins T.a_System dx (putF "needed_coins" (.ref u) (putF "coins" (.ref p) [])))) x = some (.ins T.a_System dx (putF "needed_coins" (.ref u) (putF "coins" (.ref p) []))) := upd_same
    generalize upd H7 x (.ins T.a_System dx (putF "needed_coins" (.ref u) (putF "coins" (.ref p) []))) = H8 at b8 hu8 hq8 hx8
    -- self.rests = tuple(table)
    refine s_fldU (eu_tupOfL (K := K) (ev_var rfl) (sq_of hq8)) (ev_var rfl) hx8 cl T.n_System_rests (by have h1 := putF_len "needed_coins" (.ref u) (putF "coins" (.ref p) []); have h2 := putF_len "coins" (.ref p) []; rw [List.length_nil] at h2; omega) fun r H9 nr e9 hr9 => ?_
    have rx : r ≠ x := (ne_of_none hx8 nr).symm
    refine k m rest W _ pm so R ((b8.ex e9).up) ⟨dx, u, r, .ref p, upd_same, ?_, ?_⟩
    · rw [upd_ne ux]
      exact e9 _ _ hu8
    · rw [upd_ne rx, hr9, eW, List.map_map]
      rfl
end
end Pd

/-! Rows of ints by a function; walks over tuples new or old. -/
namespace Pd
open PySem PySem.Spec PyProof.Rows L2 Evl
/-- f 0, f 1, .. as values -/
def iv (f : Nat → Int) (n : Nat) : List V := (List.range n).map fun k => V.int (f k)
theorem iv_len (f : Nat → Int) (n : Nat) : (iv f n).length = n := by unfold iv; rw [List.length_map, List.length_range]
theorem iv_get {f : Nat → Int} {n k : Nat} (h : k < n) : (iv f n)[k]? = some (.int (f k)) := by
  unfold iv
  rw [List.getElem?_map, List.getElem?_range h]
  rfl
theorem iv_of {f : Nat → Int} {n k : Nat} {x : V} (h : (iv f n)[k]? = some x) : k < n ∧ x = .int (f k) := by
  have lt : k < n := by
    have := (List.getElem?_eq_some_iff.mp h).1
    rwa [iv_len] at this
  rw [iv_get lt] at h
  exact ⟨lt, (Option.some.inj h).symm⟩
theorem iv_succ (f : Nat → Int) (n : Nat) : iv f (n + 1) = iv f n ++ [.int (f n)] := by
  unfold iv
  rw [List.range_succ, List.map_append]
  rfl
theorem iv_congr {f g : Nat → Int} {n : Nat} (h : ∀ k, k < n → f k = g k) : iv f n = iv g n := by
  unfold iv
  refine List.map_congr_left fun k hk => ?_
  rw [h k (List.mem_range.mp hk)]
theorem iv_set {f g : Nat → Int} {n j : Nat} (hj : j < n) (h : ∀ k, k < n → k ≠ j → f k = g k) : (iv f n).set j (.int (g j)) = iv g n := by
  apply List.ext_getElem?
  intro k
  rw [List.getElem?_set]
  by_cases e : j = k
  · subst e
    rw [if_pos rfl, if_pos (by rw [iv_len]; exact hj), iv_get hj]
  · rw [if_neg e]
    by_cases hk : k < n
    · rw [iv_get hk, iv_get hk, h k hk (fun z => e z.symm)]
    · rw [List.getElem?_eq_none (by rw [iv_len]; omega), List.getElem?_eq_none (by rw [iv_len]; omega)]
theorem iv_rep (c : Int) (n : Nat) : List.replicate n (V.int c) = iv (fun _ => c) n := by
  unfold iv
  rw [List.map_const', List.length_range]
theorem iv_app (f g : Nat → Int) (a b : Nat) : iv f a ++ iv g b = iv (fun k => if k < a then f k else g (k - a)) (a + b) := by
  apply List.ext_getElem?
  intro k
  rw [List.getElem?_append]
  by_cases h : k < a
  · rw [if_pos (by rw [iv_len]; exact h), iv_get h, iv_get (by omega), if_pos h]
  · rw [if_neg (by rw [iv_len]; exact h), iv_len]
    by_cases h2 : k < a + b
    · rw [iv_get (by omega), iv_get h2, if_neg h]
    · rw [List.getElem?_eq_none (by rw [iv_len]; omega), List.getElem?_eq_none (by rw [iv_len]; omega)]
theorem iv_one (c : Int) : [V.int c] = iv (fun _ => c) 1 := rfl
theorem iv_sum (f : Nat → Int) : ∀ n, ((List.range n).map f).sum = sumN f n
  | 0 => rfl
  | n + 1 => by
    rw [List.range_succ, List.map_append, List.sum_append, iv_sum f n]
    show sumN f n + (f n + 0) = sumN f n + f n
    rw [Int.add_zero]
theorem iv_ints (f : Nat → Int) (n : Nat) : iv f n = ((List.range n).map f).map V.int := by unfold iv; rw [List.map_map]; rfl
/-- sums over what a comprehension gives -/
theorem given_ints {n : Nat} {f : Nat → Bool} {v : Nat → Int} : ∃ ns : List Int, given n f (fun k => V.int (v k)) = ns.map V.int ∧ ns.sum = sumN (fun k => if f k = true then v k else 0) n := by
  refine ⟨((List.range n).filter f).map v, by unfold given; rw [List.map_map]; rfl, ?_⟩
  induction n with
  | zero => rfl
  | succ n ih =>
    rw [List.range_succ, List.filter_append, List.map_append, List.sum_append, ih]
    show _ + ((List.filter f [n]).map v).sum = sumN _ n + (if f n = true then v n else 0)
    by_cases h : f n = true
    · rw [List.filter_cons_of_pos h, if_pos h]
      show _ + (v n + 0) = _
      rw [Int.add_zero]
    · rw [List.filter_cons_of_neg h, if_neg h]
      rfl
section
variable {K : PySem.W.Frag} {σ : L2.St} {H H' : Hp} {ta tb te tx tl : TE} {x y z v : V} {t u : TT} {r : R2}
/-- for x in a tuple, new or old -/
theorem s_forS {xs : List V} {j : Nat} {tu : TS} {D : L2.Ends} (h : EvS K tl σ H xs) (Pv : Nat → L2.St → Hp → Prop) (h0 : ∀ H1, Ex H H1 → Pv 0 σ H1) (hex : ∀ i σ' H', Pv i σ' H' → Ex H H')
    (hk : ∀ a H1, Ex H H1 → SqT K H1 a xs → ∀ i σ' H', Pv i σ' H' → SqT K H' a xs)
    (hs : ∀ i x σ' H', xs[i]? = some x → Pv i σ' H' → tu { D with nx := Pv (i + 1), ct := Pv (i + 1), bk := D.nx } (σ'.set j (some x)) H') (hd : ∀ σ' H', Pv xs.length σ' H' → D.nx σ' H') : tFor (iTup K tl) (gName j) tu D σ H :=
  h H (Ex.refl H) _ fun a H1 e hx => ⟨a, rfl, ⟨xs, hx⟩, for_tup Pv (h0 H1 e) (fun i σ' H' _ p => hk a H1 e hx i σ' H' p) hs hd⟩
/-- the same with a word that the tuple stands beside it -/
theorem s_forSx {xs : List V} {j : Nat} {tu : TS} {D : L2.Ends} (h : EvS K tl σ H xs) (Pv : Nat → L2.St → Hp → Prop) (h0 : ∀ H1, Ex H H1 → Pv 0 σ H1)
    (hs : ∀ (Z : Hp → Prop), (∀ H1 H2, Z H1 → Ex H1 H2 → Z H2) → ∀ i x σ' H', xs[i]? = some x → Pv i σ' H' → Z H' → tu { D with nx := fun σ2 H2 => Pv (i + 1) σ2 H2 ∧ Z H2, ct := fun σ2 H2 => Pv (i + 1) σ2 H2 ∧ Z H2, bk := D.nx } (σ'.set j (some x)) H')
    (hd : ∀ σ' H', Pv xs.length σ' H' → D.nx σ' H') : tFor (iTup K tl) (gName j) tu D σ H :=
  h H (Ex.refl H) _ fun a H1 e hx => ⟨a, rfl, ⟨xs, hx⟩, for_tup (fun i σ' H' => Pv i σ' H' ∧ SqT K H' a xs) ⟨h0 H1 e, hx⟩ (fun i σ' H' _ p => p.2) (fun i x σ' H' hi p => hs (fun H2 => SqT K H2 a xs) (fun _ _ q e2 => ex_t e2 q) i x σ' H' hi p.1 p.2) fun σ' H' p => hd σ' H' p.1⟩
theorem q_forSx {xs : List V} {j : Nat} {tu tz : TS} {D : L2.Ends} (h : EvS K tl σ H xs) (Pv : Nat → L2.St → Hp → Prop) (h0 : ∀ H1, Ex H H1 → Pv 0 σ H1)
    (hs : ∀ (Z : Hp → Prop), (∀ H1 H2, Z H1 → Ex H1 H2 → Z H2) → ∀ i x σ' H', xs[i]? = some x → Pv i σ' H' → Z H' → tu { D with nx := fun σ2 H2 => Pv (i + 1) σ2 H2 ∧ Z H2, ct := fun σ2 H2 => Pv (i + 1) σ2 H2 ∧ Z H2, bk := tz D } (σ'.set j (some x)) H')
    (hd : ∀ σ' H', Pv xs.length σ' H' → tz D σ' H') : tSeq (tFor (iTup K tl) (gName j) tu) tz D σ H := s_forSx (D := { D with nx := tz D }) h Pv h0 hs hd
/-- xs[i] += e -/
theorem s_augL {l : Addr} {xs : List V} {j : Nat} {a b : Int} {D : L2.Ends} (hl : H l = some (.lst xs)) (ho : Ev ta σ H (.ref l)) (hi : Ev tb σ H (.int (j : Int))) (hx : xs[j]? = some (.int a)) (he : Ev te σ H (.int b))
    (k : ∀ H1, Ex H H1 → D.nx σ (upd H1 l (.lst (xs.set j (.int (a + b)))))) : tAugS ta tb te (rGetL K) (ipI fun i j => i + j) rSetL D σ H :=
  ho H (Ex.refl H) _ fun H1 e1 => hi H1 e1 _ fun H2 e2 => ⟨l, xs, j, .int a, rfl, rfl, sq_of ((e1.trans e2) _ _ hl), hx, he H2 (e1.trans e2) _ fun H3 e3 => ⟨a, b, rfl, rfl, l, xs, (j : Int), j, rfl, rfl, ((e1.trans e2).trans e3) _ _ hl, ixN_nat (List.getElem?_eq_some_iff.mp hx).1, k H3 ((e1.trans e2).trans e3)⟩⟩
/-- list[int] at a place -/
theorem ev_ixL {a : Addr} {xs : List V} {j : Nat} (h : Ev ta σ H (.ref a)) (hx : SqL K H a xs) (hi : Ev tb σ H (.int (j : Int))) (hv : xs[j]? = some v) : Ev (tOp (rIxL K) ta tb) σ H v := ev_op h hi (rv_ixL hx (atI_nat hv))
theorem ev_ixT {a : Addr} {xs : List V} {j : Nat} (h : Ev ta σ H (.ref a)) (hx : SqT K H a xs) (hi : Ev tb σ H (.int (j : Int))) (hv : xs[j]? = some v) : Ev (tOp (rIxT K) ta tb) σ H v := ev_op h hi (rv_ixT hx (atI_nat hv))
theorem ev_intI {i : Int} (h : Ev ta σ H (.int i)) : Ev (tCB (fun xs H Q => (∃ i, xs = [.int i] ∧ Q (.int i) H) ∨ ∃ k, xs = [.bl k] ∧ Q (.int (if k then 1 else 0)) H) (tCons ta tNil)) σ H (.int i) := fun H1 e Q q => h H1 e _ fun H2 e2 => .inl ⟨i, rfl, q H2 e2⟩
theorem ev_intB {b : Bool} (h : Ev ta σ H (.bl b)) : Ev (tCB (fun xs H Q => (∃ i, xs = [.int i] ∧ Q (.int i) H) ∨ ∃ k, xs = [.bl k] ∧ Q (.int (if k then 1 else 0)) H) (tCons ta tNil)) σ H (.int (if b then 1 else 0)) := fun H1 e Q q => h H1 e _ fun H2 e2 => .inr ⟨b, rfl, q H2 e2⟩
end
end Pd

/-! check_system, check_sum, pays_of, greatest_of, poly_of, product, over_line, trimmed. -/
namespace Pd
open PySem PySem.Spec PyProof.Rows L2 Evl
/-- a system with least coin m, the others tl, and its rests -/
structure SyAt (C : Addr) (H : Hp) (x : Addr) (m : Nat) (tl W : List Nat) : Prop where
  at_ : SysAt C H x (m :: tl) W
  rests : Rests m (m :: tl) W
  pos : ∀ c ∈ m :: tl, 0 < c
theorem SyAt.ex {C x : Addr} {H H' : Hp} {m : Nat} {tl W : List Nat} (h : SyAt C H x m tl W) (e : Ex H H') : SyAt C H' x m tl W := ⟨h.at_.ex e, h.rests, h.pos⟩
theorem SyAt.hm {C x : Addr} {H : Hp} {m : Nat} {tl W : List Nat} (h : SyAt C H x m tl W) : 0 < m := h.pos m (by simp)
section
variable {K : PySem.W.Frag} {σ : L2.St} {H H' : Hp} {ta tb te tx : TE} {x y z v : V}
theorem rc_isC {a C dx : Addr} {fs : List (Str × V)} (h : H a = some (.ins C dx fs)) : RC (fun xs H Q => ∃ a dx fs, xs = [.ref a, .ref C] ∧ H a = some (.ins C dx fs) ∧ Q (.bl true) H) [.ref a, .ref C] H (.bl true) := fun H1 e Q q => ⟨a, dx, fs, rfl, e _ _ h, q H1 (Ex.refl _)⟩
theorem el_callL1 {sp : Sp} {E : XK} {xs zs : List V} (h : EvL te σ H xs) (hs : ∀ p H1, Ex H H1 → H1 p = some (.lst xs) → SpL sp [.ref p] H1 zs) : EvL (tCall sp [] E (tCons te tNil)) σ H zs := fun H1 e Q q =>
  h H1 e _ fun p H2 np e2 hp => hs p H2 (e.trans e2) hp H2 (Ex.refl H2) Q (fun p' H3 np' e3 h3 => q p' H3 (fresh_back e2 np') (e2.trans e3) h3) E
theorem el_callVL {sp : Sp} {E : XK} {xs zs : List V} (ha : Ev ta σ H x) (h : EvL te σ H xs) (hs : ∀ p H1, Ex H H1 → H1 p = some (.lst xs) → SpL sp [x, .ref p] H1 zs) : EvL (tCall sp [] E (tCons ta (tCons te tNil))) σ H zs := fun H1 e Q q =>
  ha H1 e _ fun H2 e2 => h H2 (e.trans e2) _ fun p H3 np e3 hp => hs p H3 ((e.trans e2).trans e3) hp H3 (Ex.refl H3) Q (fun p' H4 np' e4 h4 => q p' H4 (fresh_back (e2.trans e3) np') ((e2.trans e3).trans e4) h4) E
theorem el_callLV {sp : Sp} {E : XK} {xs zs : List V} (h : EvL te σ H xs) (ha : Ev ta σ H x) (hs : ∀ p H1, Ex H H1 → H1 p = some (.lst xs) → SpL sp [.ref p, x] H1 zs) : EvL (tCall sp [] E (tCons te (tCons ta tNil))) σ H zs := fun H1 e Q q =>
  h H1 e _ fun p H2 np e2 hp => ha H2 (e.trans e2) _ fun H3 e3 => hs p H3 ((e.trans e2).trans e3) (e3 _ _ hp) H3 (Ex.refl H3) Q (fun p' H4 np' e4 h4 => q p' H4 (fresh_back (e2.trans e3) np') ((e2.trans e3).trans e4) h4) E
def RetU (xs : List V) (H : Hp) (Q : VK) : Prop := ∀ p H2, H p = none → Ex H H2 → H2 p = some (.tup xs) → Q (.ref p) H2
theorem RetU.go {xs : List V} {Q : VK} (k : RetU xs H Q) (e : Ex H H') {p : Addr} {H2 : Hp} (hp : H' p = none) (e2 : Ex H' H2) (h : H2 p = some (.tup xs)) : Q (.ref p) H2 := k p H2 (fresh_back e hp) (e.trans e2) h
def SpU (sp : Sp) (vs : List V) (H : Hp) (xs : List V) : Prop := ∀ H1, Ex H H1 → ∀ Q : VK, (∀ p H2, H1 p = none → Ex H1 H2 → H2 p = some (.tup xs) → Q (.ref p) H2) → ∀ E : XK, sp vs H1 Q E
theorem eu_call {sp : Sp} {vs xs : List V} {E : XK} {ta : TA} (h : EvA ta σ H vs) (hs : SpU sp (vs ++ []) H xs) : EvU (tCall sp [] E ta) σ H xs := fun H1 e Q q =>
  h H1 e _ fun H2 e2 => hs H2 (e.trans e2) Q (fun p H3 np e3 h3 => q p H3 (fresh_back e2 np) (e2.trans e3) h3) E
end
section
variable {P : Program} {w : World} {K : PySem.W.Frag} {mg : Str → Option Value} {base : Heap}
def sp_check_system (C : Addr) : Sp := fun vs H Q _ => ∃ (x dx : Addr) (fs : List (Str × V)), vs = [.ref x] ∧ H x = some (.ins C dx fs) ∧ RetV .non H Q
theorem sv_check_system {C x : Addr} {H : Hp} {m : Nat} {tl W : List Nat} (h : SyAt C H x m tl W) : SpV (sp_check_system C) [.ref x] H .non := fun H1 e Q q E => by
  obtain ⟨dx, b, c, a, h1, _⟩ := h.at_
  exact ⟨x, dx, _, rfl, e _ _ h1, q⟩
theorem ok_check_system (T : Top K mg) : FnOk P w K mg base CX0 1 T.a_check_system T.fd_check_system ["system"] (sp_check_system T.a_System) := by
  refine T.F_check_system.ok sc_check_system (fun vs H Q E h => ?_) (fun cdv A outer s H vs Q E hr h => ?_)
  · obtain ⟨x, dx, fs, rfl, _⟩ := h
    rfl
  · obtain ⟨x, dx, fs, rfl, hx, k⟩ := h
    have nd := sc_check_system.nd
    refine ⟨_, (pss_one (ps_if (pt_not (pt_val (pe_callB (C8.call_isC T.i_System) (by rfl) T.z_isinstance (by decide +kernel) (pa_cons (pv 0) (pa_cons (pe_glob (v := .ref T.a_System) rfl T.g_System rfl) pa_nil))))) pss_dead pss_nil)), ?_⟩
    exact s_when (b := false) (et_is (et_not (a := true) (et_B (ev_cb (ea_cons (ev_var rfl) (ea_cons ev_c ea_nil)) (rc_isC hx)))) rfl) (fun z => by cases z) fun _ H1 e1 => k H1 e1
def sp_check_sum (C : Addr) : Sp := fun vs H Q _ => ∃ (x dx : Addr) (fs : List (Str × V)) (n : Int), vs = [.ref x, .int n] ∧ H x = some (.ins C dx fs) ∧ RetV .non H Q
theorem sv_check_sum {C x : Addr} {H : Hp} {m : Nat} {tl W : List Nat} (h : SyAt C H x m tl W) (n : Int) : SpV (sp_check_sum C) [.ref x, .int n] H .non := fun H1 e Q q E => by
  obtain ⟨dx, b, c, a, h1, _⟩ := h.at_
  exact ⟨x, dx, _, n, rfl, e _ _ h1, q⟩
theorem ok_check_sum (T : Top K mg) : FnOk P w K mg base CX0 2 T.a_check_sum T.fd_check_sum ["system", "number"] (sp_check_sum T.a_System) := by
  refine T.F_check_sum.ok sc_check_sum (fun vs H Q E h => ?_) (fun cdv A outer s H vs Q E hr h => ?_)
  · obtain ⟨x, dx, fs, n, rfl, _⟩ := h
    rfl
  · obtain ⟨x, dx, fs, n, rfl, hx, k⟩ := h
    have nd := sc_check_sum.nd
    refine ⟨_, (pss_cons (ps_expr (pe_call (ok_check_system T) (hr.mono (by decide)) (by rfl) T.g_check_system T.F_check_system.kp T.b_check_system .nil pass0 (pa_cons (pv 0) pa_nil))) (pss_one (ps_if (pt_not (pt_val (pe_call (ok_is_integer T) (hr.mono (by decide)) (by rfl) T.g_is_integer T.F_is_integer.kp T.b_is_integer .nil pass0 (pa_cons (pv 1) pa_nil)))) pss_dead pss_nil))), ?_⟩
    refine q_drop (v := .non) (ev_call (ea_cons (ev_var rfl) ea_nil) fun H1 e Q q E => ⟨x, dx, fs, rfl, e _ _ hx, q⟩) fun H1 e1 => ?_
    exact s_when (b := false) (et_is (et_not (a := true) (et_B (ev_call (ea_cons (ev_var rfl) ea_nil) (sv_is_integer n)))) rfl) (fun z => by cases z) fun _ H2 e2 => k H2 (e1.trans e2)
/-! ### pays_of -/
noncomputable def pbI (cs : List Nat) (n : Int) : Bool := decide (0 ≤ n) && pb cs n.toNat
def sp_pays_of (C : Addr) : Sp := fun vs H Q _ => ∃ (x : Addr) (n : Int) (m : Nat) (tl W : List Nat), vs = [.ref x, .int n] ∧ SyAt C H x m tl W ∧ RetV (.bl (pbI (m :: tl) n)) H Q
theorem sv_pays_of {C x : Addr} {H : Hp} {m : Nat} {tl W : List Nat} (h : SyAt C H x m tl W) (n : Int) : SpV (sp_pays_of C) [.ref x, .int n] H (.bl (pbI (m :: tl) n)) := fun H1 e Q q E => ⟨x, n, m, tl, W, rfl, h.ex e, q⟩
theorem ok_pays_of (T : Top K mg) : FnOk P w K mg base CX0 1 T.a_pays_of T.fd_pays_of ["system", "number"] (sp_pays_of T.a_System) := by
  refine T.F_pays_of.ok sc_pays_of (fun vs H Q E h => ?_) (fun cdv A outer s H vs Q E hr h => ?_)
  · obtain ⟨x, n, m, tl, W, rfl, _⟩ := h
    rfl
  · obtain ⟨x, n, m, tl, W, rfl, h, k⟩ := h
    have nd := sc_pays_of.nd
    have cl : Cls K T.a_System := T.i_System.cl
    have hm := h.hm
    have R := h.rests
    obtain ⟨dx, b, c, a, hx, hb, hc⟩ := h.at_
    refine ⟨_, (pss_one (ps_ret (pe_and (pe_cmpR op_ge (pv 1) pe_int (nomark _)) (pe_one (pe_cmpR op_le (pe_ix ix_tup (pe_fld (pv 0) rfl) (pe_op op_mod (pv 1) (pe_callB call_len_seq (by rfl) T.z_len PySem.boot_len (pa_cons (pe_fld (pv 0) rfl) pa_nil))) (fun _ _ => rfl)) (pv 1) (nomark _)))))), ?_⟩
    have lt : n.toNat % m < W.length := by rw [R.len]; exact Nat.mod_lt _ hm
    have hw : W[n.toNat % m]? = some W[n.toNat % m] := List.getElem?_eq_getElem lt
    have p := R.pay n.toNat _ hw
    refine s_ret (v := .bl (pbI (m :: tl) n)) (ev_is (ev_andV (a := decide (0 ≤ n)) (b := decide ((W[n.toNat % m] : Nat) ≤ n)) (ev_op (ev_var rfl) ev_c rv_I0) fun h0 => ?_) ?_) fun H1 e1 => k H1 e1
    · have h0 := of_decide_eq_true h0
      have e : n % ((nv W).length : Int) = ((n.toNat % m : Nat) : Int) := by
        rw [nv_len, R.len]
        have : n = (n.toNat : Int) := by omega
        rw [this]
        rfl
      refine ev_op (x := .int (W[n.toNat % m] : Nat)) (ev_ixT (K := K) (ev_fld (ev_var rfl) hx cl T.n_System_rests (sysF_rests _ _ _)) (st_of hc) (ev_is (ev_op (ev_var rfl) (ev_lenS (K := K) (ev_fld (ev_var rfl) hx cl T.n_System_rests (sysF_rests _ _ _)) (.inr (st_of hc))) (rv_I ?_)) (congrArg V.int e)) ?_) (ev_var rfl) rv_I0
      · rw [nv_len, R.len]
        omega
      · show (nv W)[n.toNat % m]? = _
        unfold nv
        rw [List.getElem?_map, hw]
        rfl
    · unfold pbI
      congr 1
      by_cases h0 : 0 ≤ n
      · rw [decide_eq_true h0, Bool.true_and, Bool.true_and]
        by_cases q : Pay (m :: tl) n.toNat
        · rw [pb_iff.mpr q]
          exact decide_eq_true (by have := p.mp q; omega)
        · rw [pb_not.mpr q]
          exact decide_eq_false (fun z => q (p.mpr (by omega)))
      · rw [decide_eq_false h0, Bool.false_and, Bool.false_and]
/-! ### greatest_of -/
def sp_greatest_of (C : Addr) : Sp := fun vs H Q _ => ∃ (x : Addr) (m : Nat) (tl W : List Nat) (last : Nat), vs = [.ref x] ∧ SyAt C H x m tl W ∧ Last (m :: tl) last ∧ RetV (.int (last : Nat)) H Q
theorem sv_greatest_of {C x : Addr} {H : Hp} {m last : Nat} {tl W : List Nat} (h : SyAt C H x m tl W) (hl : Last (m :: tl) last) : SpV (sp_greatest_of C) [.ref x] H (.int (last : Nat)) := fun H1 e Q q E => ⟨x, m, tl, W, last, rfl, h.ex e, hl, q⟩
theorem ok_greatest_of (T : Top K mg) : FnOk P w K mg base CX0 1 T.a_greatest_of T.fd_greatest_of ["system"] (sp_greatest_of T.a_System) := by
  refine T.F_greatest_of.ok sc_greatest_of (fun vs H Q E h => ?_) (fun cdv A outer s H vs Q E hr h => ?_)
  · obtain ⟨x, m, tl, W, last, rfl, _⟩ := h
    rfl
  · obtain ⟨x, m, tl, W, last, rfl, h, hl, k⟩ := h
    have nd := sc_greatest_of.nd
    have cl : Cls K T.a_System := T.i_System.cl
    have R := h.rests
    obtain ⟨h1, h2⟩ := rests_last R h.hm hl
    obtain ⟨dx, b, c, a, hx, hb, hc⟩ := h.at_
    refine ⟨_, (pss_one (ps_ret (pe_op op_sub (pe_callB (cr_maxT rfl) (by rfl) T.z_max (by decide +kernel) (pa_cons (pe_fld (pv 0) rfl) pa_nil)) (pe_callB call_len_seq (by rfl) T.z_len PySem.boot_len (pa_cons (pe_fld (pv 0) rfl) pa_nil))))), ?_⟩
    have e : (((last + m : Nat) : Int) - ((nv W).length : Int)) = (last : Int) := by rw [nv_len, R.len]; omega
    refine s_ret (ev_is (ev_op (ev_maxT (K := K) (m := ((last + m : Nat) : Int)) (ns := W.map fun (c : Nat) => (c : Int)) (ev_fld (ev_var rfl) hx cl T.n_System_rests (sysF_rests _ _ _)) (by rw [← nv_ints]; exact st_of hc) (List.mem_map.mpr ⟨_, h1, rfl⟩) fun y hy => ?_) (ev_lenS (K := K) (ev_fld (ev_var rfl) hx cl T.n_System_rests (sysF_rests _ _ _)) (.inr (st_of hc))) rv_I0) (congrArg V.int e)) fun H1 e1 => k H1 e1
    obtain ⟨c, hc, rfl⟩ := List.mem_map.mp hy
    have := h2 c hc
    omega
/-! ### poly_of -/
def sp_poly_of (C : Addr) : Sp := fun vs H Q _ => ∃ (x : Addr) (m : Nat) (tl W : List Nat) (last : Nat), vs = [.ref x] ∧ SyAt C H x m tl W ∧ Last (m :: tl) last ∧ last ≤ 10000 ∧ RetL (iv (mc 1 (pf (m :: tl))) (last + 2)) H Q
theorem sl_poly_of {C x : Addr} {H : Hp} {m last : Nat} {tl W : List Nat} (h : SyAt C H x m tl W) (hl : Last (m :: tl) last) (hz : last ≤ 10000) : SpL (sp_poly_of C) [.ref x] H (iv (mc 1 (pf (m :: tl))) (last + 2)) := fun H1 e Q q E => ⟨x, m, tl, W, last, rfl, h.ex e, hl, hz, q⟩
theorem pbI_nat (cs : List Nat) (n : Nat) : pbI cs (n : Int) = pb cs n := by
  unfold pbI
  rw [decide_eq_true (by omega), Bool.true_and, Int.toNat_natCast]
theorem ok_poly_of (T : Top K mg) : FnOk P w K mg base CX0 2 T.a_poly_of T.fd_poly_of ["system"] (sp_poly_of T.a_System) := by
  refine T.F_poly_of.ok sc_poly_of (fun vs H Q E h => ?_) (fun cdv A outer s H vs Q E hr h => ?_)
  · obtain ⟨x, m, tl, W, last, rfl, _⟩ := h
    rfl
  · obtain ⟨x, m, tl, W, last, rfl, h, hl, hz, k⟩ := h
    have nd := sc_poly_of.nd
    refine ⟨_, (pss_cons (ps_set (i := 1) nd rfl (Or.inl rfl) (pe_op op_add (pe_call (ok_greatest_of T) (hr.mono (by decide)) (by rfl) T.g_greatest_of T.F_greatest_of.kp T.b_greatest_of .nil pass0 (pa_cons (pv 0) pa_nil)) pe_int)) (pss_cons (ps_set (i := 2) nd rfl (Or.inl rfl) (pe_lst pa_nil)) (pss_cons (ps_for PassesOwn.never rfl (pi_range1 rfl T.z_range (pa_cons (pe_op op_add (pv 1) pe_int) pa_nil)) (pg_name (i := 3) nd rfl (Or.inl rfl)) (pss_one (ps_expr (pe_bm PySem.F.plainAttrs_list PySem.F.slot_list_append PySem.F.type_list_append mt_append (pv 2) (pa_cons (pe_op op_sub (pe_callTy call_int1 (by rfl) T.z_int (by decide +kernel) (pa_cons (pe_call (ok_pays_of T) (hr.mono (by decide)) (by rfl) T.g_pays_of T.F_pays_of.kp T.b_pays_of .nil pass0 (pa_cons (pv 0) (pa_cons (pv 3) pa_nil))) pa_nil)) (pe_callTy call_int1 (by rfl) T.z_int (by decide +kernel) (pa_cons (pe_call (ok_pays_of T) (hr.mono (by decide)) (by rfl) T.g_pays_of T.F_pays_of.kp T.b_pays_of .nil pass0 (pa_cons (pv 0) (pa_cons (pe_op op_sub (pv 3) pe_int) pa_nil))) pa_nil))) pa_nil))))) (pss_one (ps_ret (pv 2)))))), ?_⟩
    refine q_asg (v := .int ((last + 1 : Nat) : Int)) (ev_op (ev_call (ea_cons (ev_var rfl) ea_nil) (sv_greatest_of h hl)) ev_c rv_I0) fun H1 e1 => ?_
    refine q_asgL (el_lst ea_nil (by show 0 ≤ 100000; decide)) fun l H2 nl e2 hl2 => ?_
    have nl0 := fresh_back e1 nl
    refine q_forR1 (n := ((last + 2 : Nat) : Int)) (ea_cons (ev_op (ev_var rfl) ev_c rv_I0) ea_nil) ⟨by omega, by omega⟩
      (fun i σ' H' => ∃ y, σ' = [some (.ref x), some (.int ((last + 1 : Nat) : Int)), some (.ref l), y] ∧ Ex H H' ∧ H' l = some (.lst (iv (mc 1 (pf (m :: tl))) i)))
      (fun H3 e3 => ⟨none, rfl, (e1.trans e2).trans e3, e3 _ _ hl2⟩) (fun i σ' H' hi hp => ?_) (fun σ' H' hp => ?_)
    · obtain ⟨y, rfl, e, h3⟩ := hp
      have v : ((if pbI (m :: tl) (i : Int) then (1 : Int) else 0) - (if pbI (m :: tl) ((i : Int) - 1) then (1 : Int) else 0)) = mc 1 (pf (m :: tl)) i := by
        unfold mc sh pf
        rw [pbI_nat]
        by_cases h0 : 1 ≤ i
        · rw [if_pos h0, show ((i : Int) - 1) = ((i - 1 : Nat) : Int) by omega, pbI_nat]
        · have : i = 0 := by omega
          subst this
          rw [if_neg h0]
          rfl
      refine s_app h3 (ev_var rfl) (ev_is (ev_op (ev_intB (ev_call (ea_cons (ev_var rfl) (ea_cons (ev_var rfl) ea_nil)) (sv_pays_of (h.ex e) _))) (ev_intB (ev_call (ea_cons (ev_var rfl) (ea_cons (ev_op (ev_var rfl) ev_c rv_I0) ea_nil)) (sv_pays_of (h.ex e) _))) rv_I0) (congrArg V.int v)) (by rw [iv_len]; omega) fun H4 e4 => ⟨_, rfl, (e.trans e4).mut nl0, ?_⟩
      rw [iv_succ]
      exact upd_same
    · obtain ⟨y, rfl, e, h3⟩ := hp
      have et : ((last + 2 : Nat) : Int).toNat = last + 2 := Int.toNat_natCast _
      rw [et] at h3
      exact s_ret (ev_var rfl) fun H4 e4 => k l H4 nl0 (e.trans e4) (e4 _ _ h3)
/-! ### product -/
def sp_product (K : PySem.W.Frag) : Sp := fun vs H Q _ => ∃ (p q : Addr) (f g : Nat → Int) (a b : Nat), vs = [.ref p, .ref q] ∧ SqL K H p (iv f a) ∧ SqL K H q (iv g b) ∧ 0 < a ∧ 0 < b ∧ a + b ≤ 20000 ∧ (∀ n, n < b → -1 ≤ g n ∧ g n ≤ 1) ∧ RetL (iv (prodF f a g b) (a + b - 1)) H Q
theorem ok_product (T : Top K mg) : FnOk P w K mg base CX0 1 T.a_product T.fd_product ["one", "other"] (sp_product K) := by
  refine T.F_product.ok sc_product (fun vs H Q E h => ?_) (fun cdv A outer s H vs Q E hr h => ?_)
  · obtain ⟨p, q, f, g, a, b, rfl, _⟩ := h
    rfl
  · obtain ⟨p, q, f, g, a, b, rfl, hp, hq, ha, hb, hz, hg, k⟩ := h
    have nd := sc_product.nd
    refine ⟨_, (pss_cons (ps_set (i := 2) nd rfl (Or.inl rfl) (pe_op op_rep (pe_lst (pa_cons pe_int pa_nil)) (pe_op op_sub (pe_op op_add (pe_callB call_len_seq (by rfl) T.z_len PySem.boot_len (pa_cons (pv 0) pa_nil)) (pe_callB call_len_seq (by rfl) T.z_len PySem.boot_len (pa_cons (pv 1) pa_nil))) pe_int))) (pss_cons (ps_for PassesOwn.never rfl (pi_enum (by rfl) T.z_enumerate (pa_cons (pv 0) pa_nil)) (pg_tup rfl (pgs_cons (pg_name (i := 3) nd rfl (Or.inl rfl)) (pgs_cons (pg_name (i := 4) nd rfl (Or.inl rfl)) pgs_nil))) (pss_one (ps_if (pt_cmpR op_ne (pv 4) pe_int (nomark _)) (pss_one (ps_for PassesOwn.never rfl (pi_enum (by rfl) T.z_enumerate (pa_cons (pv 1) pa_nil)) (pg_tup rfl (pgs_cons (pg_name (i := 5) nd rfl (Or.inl rfl)) (pgs_cons (pg_name (i := 6) nd rfl (Or.inl rfl)) pgs_nil))) (pss_one (ps_augS (pv 2) (pe_op op_add (pv 3) (pv 5)) get_list (pe_op op_mul (pv 4) (pv 6)) ip_add set_list)))) pss_nil))) (pss_one (ps_ret (pv 2))))), ?_⟩
    have en : (((iv f a).length : Int) + ((iv g b).length : Int)) - 1 = ((a + b - 1 : Nat) : Int) := by rw [iv_len, iv_len]; omega
    refine q_asgL (el_is (el_rep1 (v := .int 0) (k := a + b - 1) (el_lst (ea_cons ev_c ea_nil) (by show 1 ≤ 100000; decide)) (ev_is (ev_op (ev_op (ev_lenS (K := K) (ev_var rfl) (.inl hp)) (ev_lenS (K := K) (ev_var rfl) (.inl hq)) rv_I0) ev_c rv_I0) (congrArg V.int en)) (by omega)) (iv_rep 0 _)) fun l H1 nl e1 hl => ?_
    refine q_forEnum (K := K) (ea_cons (ev_var rfl) ea_nil) (ex_l e1 hp) (fun n σ' H' => ∃ c d e i, σ' = [some (.ref p), some (.ref q), some (.ref l), c, d, e, i] ∧ Ex H H' ∧ H' l = some (.lst (iv (prodF f n g b) (a + b - 1))))
      (fun H2 e2 => ⟨none, none, none, none, rfl, e1.trans e2, ?_⟩) (fun n σ' H' _ ⟨_, _, _, _, _, e, _⟩ => ex_l e hp) (fun n x σ' H' H2 hx hp' e2 => ?_) (fun σ' H' hp' => ?_)
    · rw [e2 _ _ hl]
      rfl
    · obtain ⟨c, d, e', i', rfl, e, h3⟩ := hp'
      obtain ⟨hn, rfl⟩ := iv_of hx
      refine s_when (b := !decide (V.int (f n) = V.int 0)) (et_test (ev_op (ev_var rfl) ev_c (rv_ne rfl))) (fun hb0 H4 e4 => ?_) (fun hb0 H4 e4 => ?_)
      · refine s_forEnum (K := K) (ea_cons (ev_var rfl) ea_nil) (ex_l ((e.trans e2).trans e4) hq) (fun j σ' H' => ∃ u v, σ' = [some (.ref p), some (.ref q), some (.ref l), some (.int (n : Int)), some (.int (f n)), u, v] ∧ Ex H H' ∧ H' l = some (.lst (iv (fun k => prodF f n g b k + if n ≤ k ∧ k - n < j then f n * g (k - n) else 0) (a + b - 1))))
          (fun H5 e5 => ⟨_, _, rfl, ((e.trans e2).trans e4).trans e5, ?_⟩) (fun n σ' H' _ ⟨_, _, _, e, _⟩ => ex_l e hq) (fun j x σ' H' H5 hx hp' e5 => ?_) (fun σ' H' hp' => ?_)
        · rw [e5 _ _ (e4 _ _ (e2 _ _ h3))]
          congr 2
          refine iv_congr fun k _ => ?_
          rw [if_neg (by omega), Int.add_zero]
        · obtain ⟨u, v, rfl, e6, h6⟩ := hp'
          obtain ⟨hj, rfl⟩ := iv_of hx
          have hmul : CMul (f n) (g j) := .inr (by have := hg j hj; exact ⟨by omega, by omega⟩)
          refine s_augL (K := K) (j := n + j) (a := prodF f n g b (n + j) + if n ≤ n + j ∧ n + j - n < j then f n * g (n + j - n) else 0) (b := f n * g j) (e5 _ _ h6) (ev_var rfl) (ev_op (ev_var rfl) (ev_var rfl) rv_I0) (iv_get (by omega)) (ev_op (ev_var rfl) (ev_var rfl) (rv_mul hmul)) fun H7 e7 => ⟨_, _, rfl, ((e6.trans e5).trans e7).mut nl, ?_⟩
          rw [upd_same, if_neg (by omega), Int.add_zero]
          congr 2
          have z := iv_set (f := fun k => prodF f n g b k + if n ≤ k ∧ k - n < j then f n * g (k - n) else 0) (g := fun k => prodF f n g b k + if n ≤ k ∧ k - n < j + 1 then f n * g (k - n) else 0) (n := a + b - 1) (j := n + j) (by omega) fun k hk hne => by
            show _ + (if n ≤ k ∧ k - n < j then f n * g (k - n) else 0) = _ + (if n ≤ k ∧ k - n < j + 1 then f n * g (k - n) else 0)
            by_cases q : n ≤ k ∧ k - n < j
            · rw [if_pos q, if_pos ⟨q.1, by omega⟩]
            · rw [if_neg q, if_neg fun q2 => q ⟨q2.1, by omega⟩]
          rw [← z]
          show _ = (iv _ _).set (n + j) (.int (prodF f n g b (n + j) + if n ≤ n + j ∧ n + j - n < j + 1 then f n * g (n + j - n) else 0))
          rw [if_pos ⟨by omega, by omega⟩, show n + j - n = j by omega]
        · obtain ⟨u, v, rfl, e6, h6⟩ := hp'
          refine ⟨_, _, _, _, rfl, e6, ?_⟩
          rw [h6, iv_len]
          rfl
      · have h0 : f n = 0 := by
          have : decide (V.int (f n) = V.int 0) = true := by
            cases hh : decide (V.int (f n) = V.int 0) with
            | true => rfl
            | false => rw [hh] at hb0; cases hb0
          exact V.int.inj (of_decide_eq_true this)
        refine ⟨_, _, _, _, rfl, (e.trans e2).trans e4, ?_⟩
        rw [e4 _ _ (e2 _ _ h3)]
        congr 2
        refine iv_congr fun k _ => ?_
        show prodF f n g b k = prodF f n g b k + if n ≤ k ∧ k - n < b then f n * g (k - n) else 0
        rw [h0]
        split
        · rw [Int.zero_mul, Int.add_zero]
        · rw [Int.add_zero]
    · obtain ⟨c, d, e', i', rfl, e, h3⟩ := hp'
      rw [iv_len] at h3
      exact s_ret (ev_var rfl) fun H4 e4 => k l H4 nl (e.trans e4) (e4 _ _ h3)
theorem sl_product {H : Hp} {p q : Addr} {f g : Nat → Int} {a b : Nat} (hp : SqL K H p (iv f a)) (hq : SqL K H q (iv g b)) (ha : 0 < a) (hb : 0 < b) (hz : a + b ≤ 20000) (hg : ∀ n, n < b → -1 ≤ g n ∧ g n ≤ 1) : SpL (sp_product K) [.ref p, .ref q] H (iv (prodF f a g b) (a + b - 1)) := fun H1 e Q k E =>
  ⟨p, q, f, g, a, b, rfl, ex_l e hp, ex_l e hq, ha, hb, hz, hg, k⟩
/-! ### over_line, trimmed -/
def sp_over_line (K : PySem.W.Frag) : Sp := fun vs H Q _ => ∃ (p : Addr) (f : Nat → Int) (a c : Nat), vs = [.ref p, .int c] ∧ SqL K H p (iv f a) ∧ 0 < a ∧ 0 < c ∧ a + c ≤ 20000 ∧ RetL (iv (prodF f a (onF c) c) (a + c - 1)) H Q
theorem ok_over_line (T : Top K mg) : FnOk P w K mg base CX0 2 T.a_over_line T.fd_over_line ["row", "coin"] (sp_over_line K) := by
  refine T.F_over_line.ok sc_over_line (fun vs H Q E h => ?_) (fun cdv A outer s H vs Q E hr h => ?_)
  · obtain ⟨p, f, a, c, rfl, _⟩ := h
    rfl
  · obtain ⟨p, f, a, c, rfl, hp, ha, hc, hz, k⟩ := h
    have nd := sc_over_line.nd
    refine ⟨_, (pss_one (ps_ret (pe_call (ok_product T) (hr.mono (by decide)) (by rfl) T.g_product T.F_product.kp T.b_product .nil pass0 (pa_cons (pv 0) (pa_cons (pe_op op_rep (pe_lst (pa_cons pe_int pa_nil)) (pv 1)) pa_nil))))), ?_⟩
    have e1 : List.replicate c (V.int 1) = iv (onF c) c := by
      rw [iv_rep]
      exact iv_congr fun k hk => by unfold onF; rw [if_pos hk]
    refine s_retL (el_callVL (ev_var rfl) (el_is (el_rep1 (v := .int 1) (el_lst (ea_cons ev_c ea_nil) (by show 1 ≤ 100000; decide)) (ev_var rfl) (by omega)) e1) fun q H1 e1 hq => sl_product (ex_l e1 hp) (sq_of hq) ha hc hz fun n _ => by unfold onF; split <;> decide) fun p' H1 np e1 h1 => k p' H1 np e1 h1
def sp_trimmed (K : PySem.W.Frag) : Sp := fun vs H Q _ => ∃ (p : Addr) (f : Nat → Int) (a : Nat), vs = [.ref p] ∧ SqL K H p (iv f (a + 1)) ∧ f a ≠ 0 ∧ RetL (iv f (a + 1)) H Q
theorem ok_trimmed (T : Top K mg) : FnOk P w K mg base CX0 1 T.a_trimmed T.fd_trimmed ["row"] (sp_trimmed K) := by
  refine T.F_trimmed.ok sc_trimmed (fun vs H Q E h => ?_) (fun cdv A outer s H vs Q E hr h => ?_)
  · obtain ⟨p, f, a, rfl, _⟩ := h
    rfl
  · obtain ⟨p, f, a, rfl, hp, ha, k⟩ := h
    have nd := sc_trimmed.nd
    refine ⟨_, (pss_cons (ps_set (i := 1) nd rfl (Or.inl rfl) (pe_callTy call_list_of (by rfl) T.z_list (by decide +kernel) (pa_cons (pv 0) pa_nil))) (pss_cons (ps_while PassesOwn.never (PW.pt (pw_and (pt_cmpR op_gt (pe_callB call_len_seq (by rfl) T.z_len PySem.boot_len (pa_cons (pv 1) pa_nil)) pe_int (nomark _)) (pw_and1 (pt_cmpR op_eq (pe_ix ix_list (pv 1) (pe_un un_neg pe_int) (fun _ _ => rfl)) pe_int (nomark _))))) (pss_one ps_dead)) (pss_one (ps_ret (pv 1))))), ?_⟩
    refine q_asgL (el_list (K := K) (ev_var rfl) hp) fun l H1 nl e1 hl => ?_
    have hlast : atI (iv f (a + 1)) (-1) = some (.int (f a)) := by
      unfold atI
      rw [iv_len]
      have : ixN (a + 1) (-1) = some a := by
        unfold ixN
        simp
        omega
      rw [this]
      show (iv f (a + 1))[a]? = _
      exact iv_get (by omega)
    refine q_while (fun m σ H' => m = 0 ∧ σ = [some (.ref p), some (.ref l)] ∧ H1 = H') 0 ⟨rfl, rfl, rfl⟩ fun m σ' H' hw => ?_
    obtain ⟨_, rfl, rfl⟩ := hw
    have g0 : decide (V.int (f a) = V.int 0) = false := decide_eq_false fun z => ha (V.int.inj z)
    refine ⟨false, et_is (et_and (a := decide ((1 : Int) < ((iv f (a + 1)).length : Int))) (b := false) (et_test (ev_op (ev_lenS (K := K) (ev_var rfl) (.inl (sq_of hl))) ev_c rv_I0)) fun _ => et_is (et_test (ev_op (ev_op (ev_var rfl) (ev_un ev_c ru_neg) (rv_ixL (K := K) (sq_of hl) hlast)) ev_c (rv_eq rfl))) g0) (Bool.and_false _), fun z => by (cases z), fun _ H2 e2 => ?_⟩
    exact s_ret (ev_var rfl) fun H3 e3 => k l H3 nl ((e1.trans e2).trans e3) (e3 _ _ (e2 _ _ hl))
end
end Pd

/-! numerator, small_ways, ways_of, ways, ways_list. -/
namespace Pd
open PySem PySem.Spec PyProof.Rows L2 Evl
theorem gc_row {c : Nat} (hc : 0 < c) : (([V.int 1] ++ List.replicate (c - 1) (V.int 0)) ++ [V.int (-1)]) = iv (gcF c) (c + 1) := by
  rw [iv_rep, iv_one 1, iv_one (-1), iv_app, iv_app, show 1 + (c - 1) + 1 = c + 1 by omega]
  refine iv_congr fun k hk => ?_
  unfold gcF
  by_cases h0 : k = 0
  · subst h0
    rw [if_pos (by omega), if_pos (by omega), if_pos rfl]
  · rw [if_neg h0]
    by_cases h1 : k = c
    · rw [if_pos h1, if_neg (by omega)]
    · rw [if_neg h1, if_pos (by omega), if_neg (by omega)]
theorem gcF_end {c k : Nat} (h : c + 1 ≤ k) : gcF c k = 0 := by
  unfold gcF
  rw [if_neg (by omega), if_neg (by omega)]
theorem onF_end {c k : Nat} (h : c ≤ k) : onF c k = 0 := by
  unfold onF
  rw [if_neg (by omega)]
theorem gcF_small {c n : Nat} : -1 ≤ gcF c n ∧ gcF c n ≤ 1 := by
  unfold gcF
  split
  · decide
  · split <;> decide
theorem sum_take_le {cs : List Nat} : ∀ i, (cs.take i).sum ≤ cs.sum := by
  induction cs with
  | nil => intro i; simp
  | cons c r ih =>
    intro i
    cases i with
    | zero => simp
    | succ i => rw [List.take_succ_cons, List.sum_cons, List.sum_cons]; have := ih i; omega
theorem sum_take_next {cs : List Nat} {i c : Nat} (h : cs[i]? = some c) : (cs.take (i + 1)).sum = (cs.take i).sum + c := by
  rw [take_next h, List.sum_append]
  simp
theorem mem_le_sum {cs : List Nat} {c : Nat} (h : c ∈ cs) : c ≤ cs.sum := by
  induction cs with
  | nil => cases h
  | cons d r ih =>
    rw [List.sum_cons]
    rcases List.mem_cons.mp h with rfl | h
    · omega
    · have := ih h; omega
section
variable {P : Program} {w : World} {K : PySem.W.Frag} {mg : Str → Option Value} {base : Heap}
theorem sl_over_line {H : Hp} {p : Addr} {f : Nat → Int} {a c : Nat} (hp : SqL K H p (iv f a)) (ha : 0 < a) (hc : 0 < c) (hz : a + c ≤ 20000) : SpL (sp_over_line K) [.ref p, .int c] H (iv (prodF f a (onF c) c) (a + c - 1)) := fun H1 e Q k E =>
  ⟨p, f, a, c, rfl, ex_l e hp, ha, hc, hz, k⟩
theorem sl_trimmed {H : Hp} {p : Addr} {f : Nat → Int} {a : Nat} (hp : SqL K H p (iv f (a + 1))) (ha : f a ≠ 0) : SpL (sp_trimmed K) [.ref p] H (iv f (a + 1)) := fun H1 e Q k E =>
  ⟨p, f, a, rfl, ex_l e hp, ha, k⟩
/-! ### numerator -/
def sp_numerator (C : Addr) : Sp := fun vs H Q _ => ∃ (x : Addr) (m : Nat) (tl W : List Nat) (last : Nat), vs = [.ref x] ∧ SyAt C H x m tl W ∧ Last (m :: tl) last ∧ last + (m :: tl).sum ≤ 2000 ∧ RetU (iv (mcs (m :: tl) (pf (m :: tl))) (last + (m :: tl).sum + 1)) H Q
theorem su_numerator {C x : Addr} {H : Hp} {m last : Nat} {tl W : List Nat} (h : SyAt C H x m tl W) (hl : Last (m :: tl) last) (hz : last + (m :: tl).sum ≤ 2000) : SpU (sp_numerator C) [.ref x] H (iv (mcs (m :: tl) (pf (m :: tl))) (last + (m :: tl).sum + 1)) := fun H1 e Q q E => ⟨x, m, tl, W, last, rfl, h.ex e, hl, hz, q⟩
theorem ok_numerator (T : Top K mg) : FnOk P w K mg base CX0 3 T.a_numerator T.fd_numerator ["system"] (sp_numerator T.a_System) := by
  refine T.F_numerator.ok sc_numerator (fun vs H Q E h => ?_) (fun cdv A outer s H vs Q E hr h => ?_)
  · obtain ⟨x, m, tl, W, last, rfl, _⟩ := h
    rfl
  · obtain ⟨x, m, tl, W, last, rfl, h, hl, hz, k⟩ := h
    have nd := sc_numerator.nd
    have cl : Cls K T.a_System := T.i_System.cl
    refine ⟨_, (pss_cons (ps_expr (pe_call (ok_check_system T) (hr.mono (by decide)) (by rfl) T.g_check_system T.F_check_system.kp T.b_check_system .nil pass0 (pa_cons (pv 0) pa_nil))) (pss_cons (ps_if (pt_cmpR op_gt (pe_op op_add (pe_call (ok_greatest_of T) (hr.mono (by decide)) (by rfl) T.g_greatest_of T.F_greatest_of.kp T.b_greatest_of .nil pass0 (pa_cons (pv 0) pa_nil)) (pe_callB (cr_sumT rfl) (by rfl) T.z_sum (by decide +kernel) (pa_cons (pe_fld (pv 0) rfl) pa_nil))) (pe_glob (v := .int 2000) rfl T.c_MOST_GREAT ⟨_, rfl⟩) (nomark _)) pss_dead pss_nil) (pss_cons (ps_set (i := 1) nd rfl (Or.inl rfl) (pe_call (ok_poly_of T) (hr.mono (by decide)) (by rfl) T.g_poly_of T.F_poly_of.kp T.b_poly_of .nil pass0 (pa_cons (pv 0) pa_nil))) (pss_cons (ps_for PassesOwn.never rfl (pi_tup (pe_slice sl_tupA (pe_fld (pv 0) rfl) (po_some pe_int) po_none)) (pg_name (i := 2) nd rfl (Or.inl rfl)) (pss_one (ps_set (i := 1) nd rfl (Or.inl rfl) (pe_call (ok_product T) (hr.mono (by decide)) (by rfl) T.g_product T.F_product.kp T.b_product .nil pass0 (pa_cons (pv 1) (pa_cons (pe_op op_cat (pe_op op_cat (pe_lst (pa_cons pe_int pa_nil)) (pe_op op_rep (pe_lst (pa_cons pe_int pa_nil)) (pe_op op_sub (pv 2) pe_int))) (pe_lst (pa_cons (pe_un un_neg pe_int) pa_nil))) pa_nil)))))) (pss_one (ps_ret (pe_callTy call_tuple_of (by rfl) T.z_tuple (by decide +kernel) (pa_cons (pe_call (ok_trimmed T) (hr.mono (by decide)) (by rfl) T.g_trimmed T.F_trimmed.kp T.b_trimmed .nil pass0 (pa_cons (pe_call (ok_over_line T) (hr.mono (by decide)) (by rfl) T.g_over_line T.F_over_line.kp T.b_over_line .nil pass0 (pa_cons (pv 1) (pa_cons (pe_ix ix_tup (pe_fld (pv 0) rfl) pe_int (fun _ _ => rfl)) pa_nil))) pa_nil)) pa_nil)))))))), ?_⟩
    obtain ⟨dx, b, c, a, hx, hb, hc⟩ := h.at_
    have hm := h.hm
    have hs : (m :: tl).sum = m + tl.sum := List.sum_cons
    have es : ((m :: tl).map fun (c : Nat) => (c : Int)).sum = ((m :: tl).sum : Nat) := by
      generalize m :: tl = cs
      induction cs with
      | nil => rfl
      | cons c r ih => rw [List.map_cons, List.sum_cons, List.sum_cons, ih]; omega
    refine q_drop (ev_call (ea_cons (ev_var rfl) ea_nil) (sv_check_system h)) fun H1 e1 => ?_
    have g1 : decide ((2000 : Int) < ((last : Nat) : Int) + (((m :: tl).map fun (c : Nat) => (c : Int)).sum)) = false := decide_eq_false (by rw [es]; omega)
    refine q_when (b := false) (et_is (et_test (ev_op (ev_op (ev_call (ea_cons (ev_var rfl) ea_nil) (sv_greatest_of (h.ex e1) hl)) (ev_sumT (K := K) (ev_fld (ev_var rfl) (e1 _ _ hx) cl T.n_System_needed_coins (sysF_need _ _ _)) (by rw [← nv_ints]; exact st_of (e1 _ _ hb))) rv_I0) ev_c rv_I0)) g1) (fun z => by cases z) fun _ H2 e2 => ?_
    have e02 := e1.trans e2
    refine q_asgL (el_call (ea_cons (ev_var rfl) ea_nil) (sl_poly_of (h.ex e02) hl (by omega))) fun p H3 np e3 hp => ?_
    have e03 := e02.trans e3
    have E1 : ∀ i, EndsAt (mcs (tl.take i) (mc 1 (pf (m :: tl)))) (last + 1 + (tl.take i).sum) := fun i => (ends_mcs _ (ends_first hl (by decide)).1 fun d hd => h.pos d (List.mem_cons_of_mem _ (List.mem_of_mem_take hd))).1
    have nvtl : (nv (m :: tl)).drop 1 = nv tl := rfl
    refine q_forSx (K := K) (xs := nv tl) (nvtl ▸ EvS.slFrom (n := 1) (ev_fld (ev_var rfl) (e03 _ _ hx) cl T.n_System_needed_coins (sysF_need _ _ _)) (st_of (e03 _ _ hb)) ev_c)
      (fun i σ' H' => ∃ (p : Addr) (y : Option V), σ' = [some (.ref x), some (.ref p), y] ∧ Ex H H' ∧ H' p = some (.lst (iv (mcs (tl.take i) (mc 1 (pf (m :: tl)))) (last + 2 + (tl.take i).sum))))
      (fun H4 e4 => ⟨p, none, rfl, e03.trans e4, e4 _ _ hp⟩) (fun Z hZ i v σ' H' hv hp' hz' => ?_) (fun σ' H' hp' => ?_)
    · obtain ⟨p', y, rfl, e, h3⟩ := hp'
      obtain ⟨c, hc, rfl⟩ := nv_get hv
      have hcm : c ∈ m :: tl := List.mem_cons_of_mem _ (List.mem_of_getElem? hc)
      have c0 := h.pos c hcm
      have cz := mem_le_sum hcm
      have stz := sum_take_le (cs := tl) i
      have hcm1 : ((c : Int) - 1) = ((c - 1 : Nat) : Int) := by omega
      refine s_asgL (el_callVL (ev_var rfl) (el_is (el_cat (el_cat (el_lst (ea_cons ev_c ea_nil) (by show 1 ≤ 100000; decide)) (el_rep1 (v := .int 0) (el_lst (ea_cons ev_c ea_nil) (by show 1 ≤ 100000; decide)) (ev_is (ev_op (ev_var rfl) ev_c rv_I0) (congrArg V.int hcm1)) (by omega)) (by rw [List.length_replicate]; show 1 + (c - 1) ≤ 100000; omega)) (el_lst (ea_cons (ev_un ev_c ru_neg) ea_nil) (by show 1 ≤ 100000; decide)) (by rw [List.length_append, List.length_replicate]; show 1 + (c - 1) + 1 ≤ 100000; omega)) (gc_row c0)) fun q H4 e4 hq => sl_product (sq_of (e4 _ _ h3)) (sq_of hq) (by omega) (by omega) (by omega) fun n _ => gcF_small) fun p2 H4 np2 e4 h4 => ⟨⟨p2, _, rfl, e.trans e4, ?_⟩, hZ _ _ hz' e4⟩
      rw [h4, sum_take_next hc, show last + 2 + ((tl.take i).sum + c) = last + 2 + (tl.take i).sum + (c + 1) - 1 by omega]
      congr 2
      refine iv_congr fun k _ => ?_
      rw [prod_conv (fun k hk => E1 i k (by omega)) (fun k hk => gcF_end hk), conv_gc c0, take_next hc, mcs_snoc]
    · obtain ⟨p', y, rfl, e, h3⟩ := hp'
      rw [nv_len, List.take_length] at h3
      have EE := E1 tl.length
      rw [List.take_length] at EE
      obtain ⟨n1, n2⟩ := ends_num (c := m) (cs := tl) hl h.pos
      have nz : last + 2 + tl.sum + m - 1 = last + (m :: tl).sum + 1 := by omega
      have row : iv (prodF (mcs tl (mc 1 (pf (m :: tl)))) (last + 2 + tl.sum) (onF m) m) (last + 2 + tl.sum + m - 1) = iv (mcs (m :: tl) (pf (m :: tl))) (last + (m :: tl).sum + 1) := by
        rw [nz]
        refine iv_congr fun k _ => ?_
        rw [prod_conv (fun k hk => EE k (by omega)) (fun k hk => onF_end hk)]
        rw [conv_congr (f' := mc 1 (mcs tl (pf (m :: tl)))) (g' := onF m) (fun j _ => mcs_mc 1 tl _ j) fun _ _ => rfl]
        rw [conv_on]
        show _ = mcs tl (mc m (pf (m :: tl))) k
        rw [mcs_mc]
      refine s_retU (eu_tupOf (K := K) (el_callL1 (xs := iv (mcs (m :: tl) (pf (m :: tl))) (last + (m :: tl).sum + 1)) (zs := iv (mcs (m :: tl) (pf (m :: tl))) (last + (m :: tl).sum + 1)) (el_is (el_call (vs := [.ref p', .int (m : Int)]) (ea_cons (ev_var rfl) (ea_cons (ev_ixT (K := K) (j := 0) (ev_fld (ev_var rfl) (e _ _ hx) cl T.n_System_needed_coins (sysF_need _ _ _)) (st_of (e _ _ hb)) ev_c rfl) ea_nil)) (sl_over_line (sq_of h3) (by omega) hm (by omega))) row) fun q H4 e4 hq => sl_trimmed (sq_of hq) n2)) fun t H4 nt e4 ht => k t H4 (fresh_back e nt) (e.trans e4) ht
/-! ### small_ways -/
theorem ics_snoc (c : Nat) : ∀ (cs : List Nat) (f : Nat → Int), ics (cs ++ [c]) f = ic c (ics cs f)
  | [], _ => rfl
  | d :: cs, f => ics_snoc c cs (ic d f)
/-- one coin's turn, told by places -/
def upto (c t : Nat) (f : Nat → Int) (k : Nat) : Int := if k < c + t then ic c f k else f k
theorem upto_zero {c : Nat} (hc : 0 < c) (f : Nat → Int) (n : Nat) : iv (upto c 0 f) n = iv f n := iv_congr fun k _ => by
  unfold upto
  split
  · rw [ic_eq hc, if_neg (by omega), Int.add_zero]
  · rfl
theorem upto_set {c t n : Nat} (hc : 0 < c) (f : Nat → Int) (h : c + t < n) : (iv (upto c t f) n).set (c + t) (.int (upto c t f (c + t) + upto c t f t)) = iv (upto c (t + 1) f) n := by
  have e : upto c t f (c + t) + upto c t f t = upto c (t + 1) f (c + t) := by
    unfold upto
    rw [if_neg (by omega), if_pos (by omega), if_pos (by omega), ic_eq hc f (c + t), if_pos (by omega), show c + t - c = t by omega]
  rw [e]
  refine iv_set h fun k _ hne => ?_
  unfold upto
  by_cases q : k < c + t
  · rw [if_pos q, if_pos (by omega)]
  · rw [if_neg q, if_neg (by omega)]
theorem upto_end {c most : Nat} (hc : 0 < c) (f : Nat → Int) : iv (upto c ((most : Int) + 1 - (c : Int)).toNat f) (most + 1) = iv (ic c f) (most + 1) := iv_congr fun k hk => by
  unfold upto
  by_cases q : k < c + ((most : Int) + 1 - (c : Int)).toNat
  · rw [if_pos q]
  · rw [if_neg q, ic_eq hc, if_neg (by omega), Int.add_zero]
theorem dl_row (most : Nat) : [V.int 1] ++ List.replicate most (V.int 0) = iv dl (most + 1) := by
  rw [iv_rep, iv_one 1, iv_app, Nat.add_comm 1 most]
  refine iv_congr fun k _ => ?_
  unfold dl
  by_cases h0 : k = 0
  · rw [if_pos h0, if_pos (by omega)]
  · rw [if_neg h0, if_neg (by omega)]
def sp_small_ways (K : PySem.W.Frag) : Sp := fun vs H Q _ => ∃ (t : Addr) (cs : List Nat) (most : Nat), vs = [.ref t, .int most] ∧ SqT K H t (nv cs) ∧ most < 50000 ∧ (∀ c ∈ cs, 0 < c ∧ c ≤ 50000) ∧ RetL (iv (ics cs dl) (most + 1)) H Q
theorem sl_small_ways {H : Hp} {t : Addr} {cs : List Nat} {most : Nat} (ht : SqT K H t (nv cs)) (hm : most < 50000) (hc : ∀ c ∈ cs, 0 < c ∧ c ≤ 50000) : SpL (sp_small_ways K) [.ref t, .int most] H (iv (ics cs dl) (most + 1)) := fun H1 e Q q E => ⟨t, cs, most, rfl, ex_t e ht, hm, hc, q⟩
theorem ok_small_ways (T : Top K mg) : FnOk P w K mg base CX0 1 T.a_small_ways T.fd_small_ways ["coins", "most"] (sp_small_ways K) := by
  refine T.F_small_ways.ok sc_small_ways (fun vs H Q E h => ?_) (fun cdv A outer s H vs Q E hr h => ?_)
  · obtain ⟨t, cs, most, rfl, _⟩ := h
    rfl
  · obtain ⟨t, cs, most, rfl, ht, hm, hc, k⟩ := h
    have nd := sc_small_ways.nd
    refine ⟨_, (pss_cons (ps_set (i := 2) nd rfl (Or.inl rfl) (pe_op op_cat (pe_lst (pa_cons pe_int pa_nil)) (pe_op op_rep (pe_lst (pa_cons pe_int pa_nil)) (pv 1)))) (pss_cons (ps_for PassesOwn.never rfl (pi_tup (pv 0)) (pg_name (i := 3) nd rfl (Or.inl rfl)) (pss_one (ps_for PassesOwn.never rfl (pi_range2 rfl T.z_range (pa_cons (pv 3) (pa_cons (pe_op op_add (pv 1) pe_int) pa_nil))) (pg_name (i := 4) nd rfl (Or.inl rfl)) (pss_one (ps_augS (pv 2) (pv 4) get_list (pe_ix ix_list (pv 2) (pe_op op_sub (pv 4) (pv 3)) (fun _ _ => rfl)) ip_add set_list))))) (pss_one (ps_ret (pv 2))))), ?_⟩
    refine q_asgL (el_is (el_cat (el_lst (ea_cons ev_c ea_nil) (by show 1 ≤ 100000; decide)) (el_rep1 (v := .int 0) (el_lst (ea_cons ev_c ea_nil) (by show 1 ≤ 100000; decide)) (ev_var rfl) (by omega)) (by rw [List.length_replicate]; show 1 + most ≤ 100000; omega)) (dl_row most)) fun l H1 nl e1 hl => ?_
    refine q_forT (ev_var rfl) (ex_t e1 ht) (fun i σ' H' => ∃ a b, σ' = [some (.ref t), some (.int (most : Int)), some (.ref l), a, b] ∧ Ex H H' ∧ H' l = some (.lst (iv (ics (cs.take i) dl) (most + 1))))
      (fun H2 e2 => ⟨none, none, rfl, e1.trans e2, e2 _ _ hl⟩) (fun i σ' H' _ ⟨_, _, _, e, _⟩ => ex_t e ht) (fun i x σ' H' hx hp' => ?_) (fun σ' H' hp' => ?_)
    · obtain ⟨a, b, rfl, e, h3⟩ := hp'
      obtain ⟨c, hcc, rfl⟩ := nv_get hx
      obtain ⟨c0, c1⟩ := hc c (List.mem_of_getElem? hcc)
      refine s_forR2 (lo := (c : Int)) (n := (most : Int) + 1) (ea_cons (ev_var rfl) (ea_cons (ev_op (ev_var rfl) ev_c rv_I0) ea_nil)) ⟨by omega, by omega, by omega, by omega⟩
        (fun j σ' H' => ∃ b, σ' = [some (.ref t), some (.int (most : Int)), some (.ref l), some (.int (c : Int)), b] ∧ Ex H H' ∧ H' l = some (.lst (iv (upto c j (ics (cs.take i) dl)) (most + 1))))
        (fun H4 e4 => ⟨_, rfl, e.trans e4, ?_⟩) (fun j σ' H' hj hp' => ?_) (fun σ' H' hp' => ?_)
      · rw [upto_zero c0]
        exact e4 _ _ h3
      · obtain ⟨b, rfl, e4, h4⟩ := hp'
        have hcj : ((c : Int) + (j : Int)) = ((c + j : Nat) : Int) := by omega
        have hcc2 : ((c : Int) + (j : Int)) - (c : Int) = (j : Int) := by omega
        refine s_augL (K := K) (j := c + j) (a := upto c j (ics (cs.take i) dl) (c + j)) (b := upto c j (ics (cs.take i) dl) j) h4 (ev_var rfl) (ev_is (ev_var rfl) (congrArg V.int hcj)) (iv_get (by omega)) (ev_ixL (K := K) (ev_var rfl) (sq_of h4) (ev_is (ev_op (ev_var rfl) (ev_var rfl) rv_I0) (congrArg V.int hcc2)) (iv_get (by omega))) fun H5 e5 => ⟨_, rfl, (e4.trans e5).mut nl, ?_⟩
        rw [upd_same, upto_set c0 _ (by omega)]
      · obtain ⟨b, rfl, e4, h4⟩ := hp'
        refine ⟨_, _, rfl, e4, ?_⟩
        rw [h4, upto_end c0, take_next hcc, ics_snoc]
    · obtain ⟨a, b, rfl, e, h3⟩ := hp'
      rw [nv_len, List.take_length] at h3
      exact s_ret (ev_var rfl) fun H4 e4 => k l H4 nl (e.trans e4) (e4 _ _ h3)
/-! ### ways -/
def sp_ways_of (C : Addr) : Sp := fun vs H Q _ => ∃ (x : Addr) (m : Nat) (tl W : List Nat) (n : Nat), vs = [.ref x, .int n] ∧ SyAt C H x m tl W ∧ (∀ c ∈ m :: tl, c ≤ 50000) ∧ n ≤ 10000 ∧ RetV (.int (ics (m :: tl) dl n)) H Q
theorem ok_ways_of (T : Top K mg) : FnOk P w K mg base CX0 2 T.a_ways_of T.fd_ways_of ["system", "number"] (sp_ways_of T.a_System) := by
  refine T.F_ways_of.ok sc_ways_of (fun vs H Q E h => ?_) (fun cdv A outer s H vs Q E hr h => ?_)
  · obtain ⟨x, m, tl, W, n, rfl, _⟩ := h
    rfl
  · obtain ⟨x, m, tl, W, n, rfl, h, hb, hn, k⟩ := h
    have nd := sc_ways_of.nd
    have cl : Cls K T.a_System := T.i_System.cl
    refine ⟨_, (pss_cons (ps_if (pt_cmpR op_lt (pv 1) pe_int (nomark _)) (pss_one (ps_ret pe_int)) pss_nil) (pss_cons (ps_if (pt_cmpR op_le (pv 1) (pe_op op_fdiv (pe_glob (v := .int 100000) rfl T.c_MOST_SMALL ⟨_, rfl⟩) pe_int) (nomark _)) (pss_one (ps_ret (pe_ix ix_list (pe_call (ok_small_ways T) (hr.mono (by decide)) (by rfl) T.g_small_ways T.F_small_ways.kp T.b_small_ways .nil pass0 (pa_cons (pe_fld (pv 0) rfl) (pa_cons (pv 1) pa_nil))) (pv 1) (fun _ _ => rfl)))) pss_nil) pss_dead)), ?_⟩
    obtain ⟨dx, b, c, a, hx, hbn, hc⟩ := h.at_
    refine q_when (b := false) (et_is (et_test (ev_op (ev_var rfl) ev_c rv_I0)) (decide_eq_false (by omega))) (fun z => by cases z) fun _ H1 e1 => ?_
    refine q_when (b := true) (et_is (et_test (ev_op (ev_var rfl) (ev_op ev_c ev_c (rv_I ⟨by decide, by decide⟩)) rv_I0)) (decide_eq_true (by show (n : Int) ≤ 100000 / 10; omega))) (fun _ H2 e2 => ?_) fun z => by cases z
    have e02 := e1.trans e2
    refine s_ret (ev_opL1 (el_call (ea_cons (ev_fld (ev_var rfl) (e02 _ _ hx) cl T.n_System_needed_coins (sysF_need _ _ _)) (ea_cons (ev_var rfl) ea_nil)) (sl_small_ways (st_of (e02 _ _ hbn)) (by omega) fun c hc => ⟨h.pos c hc, hb c hc⟩)) (fun H3 e3 => ev_var rfl) fun p H3 hp e3 => rv_ixL (K := K) (sq_of hp) (atI_nat (iv_get (by omega)))) fun H3 e3 => k H3 (e02.trans e3)
def sp_ways (C : Addr) : Sp := sp_ways_of C
theorem sv_ways_of {C x : Addr} {H : Hp} {m : Nat} {tl W : List Nat} (h : SyAt C H x m tl W) (hb : ∀ c ∈ m :: tl, c ≤ 50000) {n : Nat} (hn : n ≤ 10000) : SpV (sp_ways_of C) [.ref x, .int n] H (.int (ics (m :: tl) dl n)) := fun H1 e Q q E => ⟨x, m, tl, W, n, rfl, h.ex e, hb, hn, q⟩
theorem ok_ways (T : Top K mg) : FnOk P w K mg base CX0 3 T.a_ways T.fd_ways ["system", "number"] (sp_ways T.a_System) := by
  refine T.F_ways.ok sc_ways (fun vs H Q E h => ?_) (fun cdv A outer s H vs Q E hr h => ?_)
  · obtain ⟨x, m, tl, W, n, rfl, _⟩ := h
    rfl
  · obtain ⟨x, m, tl, W, n, rfl, h, hb, hn, k⟩ := h
    have nd := sc_ways.nd
    refine ⟨_, (pss_cons (ps_expr (pe_call (ok_check_sum T) (hr.mono (by decide)) (by rfl) T.g_check_sum T.F_check_sum.kp T.b_check_sum .nil pass0 (pa_cons (pv 0) (pa_cons (pv 1) pa_nil)))) (pss_one (ps_ret (pe_call (ok_ways_of T) (hr.mono (by decide)) (by rfl) T.g_ways_of T.F_ways_of.kp T.b_ways_of .nil pass0 (pa_cons (pv 0) (pa_cons (pv 1) pa_nil)))))), ?_⟩
    refine q_drop (ev_call (ea_cons (ev_var rfl) (ea_cons (ev_var rfl) ea_nil)) (sv_check_sum h _)) fun H1 e1 => ?_
    exact s_ret (ev_call (ea_cons (ev_var rfl) (ea_cons (ev_var rfl) ea_nil)) (sv_ways_of (h.ex e1) hb hn)) fun H2 e2 => k H2 (e1.trans e2)
def sp_ways_list (C : Addr) : Sp := fun vs H Q _ => ∃ (x : Addr) (m : Nat) (tl W : List Nat) (n : Nat), vs = [.ref x, .int n] ∧ SyAt C H x m tl W ∧ (∀ c ∈ m :: tl, c ≤ 50000) ∧ n ≤ 10000 ∧ RetL (iv (ics (m :: tl) dl) (n + 1)) H Q
theorem sl_ways_list {C x : Addr} {H : Hp} {m : Nat} {tl W : List Nat} (h : SyAt C H x m tl W) (hb : ∀ c ∈ m :: tl, c ≤ 50000) {n : Nat} (hn : n ≤ 10000) : SpL (sp_ways_list C) [.ref x, .int n] H (iv (ics (m :: tl) dl) (n + 1)) := fun H1 e Q q E => ⟨x, m, tl, W, n, rfl, h.ex e, hb, hn, q⟩
theorem ok_ways_list (T : Top K mg) : FnOk P w K mg base CX0 3 T.a_ways_list T.fd_ways_list ["system", "most"] (sp_ways_list T.a_System) := by
  refine T.F_ways_list.ok sc_ways_list (fun vs H Q E h => ?_) (fun cdv A outer s H vs Q E hr h => ?_)
  · obtain ⟨x, m, tl, W, n, rfl, _⟩ := h
    rfl
  · obtain ⟨x, m, tl, W, n, rfl, h, hb, hn, k⟩ := h
    have nd := sc_ways_list.nd
    have cl : Cls K T.a_System := T.i_System.cl
    refine ⟨_, (pss_cons (ps_expr (pe_call (ok_check_system T) (hr.mono (by decide)) (by rfl) T.g_check_system T.F_check_system.kp T.b_check_system .nil pass0 (pa_cons (pv 0) pa_nil))) (pss_cons (ps_if (pt_not (pt_val (pe_call (ok_is_within T) (hr.mono (by decide)) (by rfl) T.g_is_within T.F_is_within.kp T.b_is_within .nil pass0 (pa_cons (pv 1) (pa_cons pe_int (pa_cons (pe_glob (v := .int 100000) rfl T.c_MOST_SMALL ⟨_, rfl⟩) pa_nil)))))) pss_dead pss_nil) (pss_one (ps_ret (pe_call (ok_small_ways T) (hr.mono (by decide)) (by rfl) T.g_small_ways T.F_small_ways.kp T.b_small_ways .nil pass0 (pa_cons (pe_fld (pv 0) rfl) (pa_cons (pv 1) pa_nil))))))), ?_⟩
    obtain ⟨dx, b, c, a, hx, hbn, hc⟩ := h.at_
    refine q_drop (ev_call (ea_cons (ev_var rfl) ea_nil) (sv_check_system h)) fun H1 e1 => ?_
    have g2 : (decide ((0 : Int) ≤ (n : Int)) && decide ((n : Int) ≤ 100000)) = true := by rw [decide_eq_true (by omega), decide_eq_true (by omega)]; rfl
    refine q_when (b := false) (et_is (et_not (a := true) (et_B (ev_is (ev_call (ea_cons (ev_var rfl) (ea_cons ev_c (ea_cons ev_c ea_nil))) (sv_is_within _ _ _)) (congrArg V.bl g2)))) rfl) (fun z => by cases z) fun _ H2 e2 => ?_
    have e02 := e1.trans e2
    exact s_retL (el_call (ea_cons (ev_fld (ev_var rfl) (e02 _ _ hx) cl T.n_System_needed_coins (sysF_need _ _ _)) (ea_cons (ev_var rfl) ea_nil)) (sl_small_ways (st_of (e02 _ _ hbn)) (by omega) fun c hc => ⟨h.pos c hc, hb c hc⟩)) fun p H3 np e3 hp => k p H3 (fresh_back e02 np) (e02.trans e3) hp
end
end Pd

/-! order_mark, chi. -/
namespace Pd
open PySem PySem.Spec PyProof.Rows L2 Evl
/-! ### the marks -/
noncomputable def mkF (ds : List Nat) : Nat → Nat → Int
  | 0 => fun _ => 0
  | n + 1 => fun k => if k = n then (if pb ds n = true then (if n = 0 then 1 else -sumN (fun j => if pb ds (n - j) = true then mkF ds n j else 0) n) else 0) else mkF ds n k
noncomputable def mkM (ds : List Nat) (n : Nat) : Int := mkF ds (n + 1) n
theorem mkF_eq (ds : List Nat) : ∀ n k, k < n → mkF ds n k = mkM ds k
  | 0, _, h => by omega
  | n + 1, k, h => by
    by_cases e : k = n
    · subst e
      rfl
    · show (if k = n then _ else mkF ds n k) = _
      rw [if_neg e]
      exact mkF_eq ds n k (by omega)
theorem mkM_eq (ds : List Nat) (n : Nat) : mkM ds n = if pb ds n = true then (if n = 0 then 1 else -sumN (fun j => if pb ds (n - j) = true then mkM ds j else 0) n) else 0 := by
  show (if n = n then _ else _) = _
  rw [if_pos rfl]
  rw [sumN_congr (f := fun j => if pb ds (n - j) = true then mkF ds n j else 0) (g := fun j => if pb ds (n - j) = true then mkM ds j else 0) n fun k hk => by
    show (if pb ds (n - k) = true then mkF ds n k else 0) = if pb ds (n - k) = true then mkM ds k else 0
    rw [mkF_eq ds n k hk]]
theorem mk_marks (ds : List Nat) (most : Nat) : Marks ds most (mkM ds) := by
  refine ⟨fun n _ h => ?_, ?_, fun n _ h0 p => ?_⟩
  · rw [mkM_eq, pb_not.mpr h]
    rfl
  · rw [mkM_eq, if_pos (pb_zero ds), if_pos rfl]
  · rw [mkM_eq, if_pos (pb_iff.mpr p), if_neg (by omega)]
section
variable {P : Program} {w : World} {K : PySem.W.Frag} {mg : Str → Option Value} {base : Heap}
def sp_order_mark (C : Addr) : Sp := fun vs H Q _ => ∃ (x : Addr) (m : Nat) (tl W : List Nat) (most : Nat), vs = [.ref x, .int most] ∧ SyAt C H x m tl W ∧ most ≤ 2000 ∧ RetU (iv (mkM (m :: tl)) (most + 1)) H Q
theorem su_order_mark {C x : Addr} {H : Hp} {m : Nat} {tl W : List Nat} (h : SyAt C H x m tl W) {most : Nat} (hm : most ≤ 2000) : SpU (sp_order_mark C) [.ref x, .int most] H (iv (mkM (m :: tl)) (most + 1)) := fun H1 e Q q E => ⟨x, m, tl, W, most, rfl, h.ex e, hm, q⟩
theorem ok_order_mark (T : Top K mg) : FnOk P w K mg base CX0 3 T.a_order_mark T.fd_order_mark ["system", "most"] (sp_order_mark T.a_System) := by
  refine T.F_order_mark.ok sc_order_mark (fun vs H Q E h => ?_) (fun cdv A outer s H vs Q E hr h => ?_)
  · obtain ⟨x, m, tl, W, most, rfl, _⟩ := h
    rfl
  · obtain ⟨x, m, tl, W, most, rfl, h, hm, k⟩ := h
    have nd := sc_order_mark.nd
    refine ⟨_, (pss_cons (ps_expr (pe_call (ok_check_system T) (hr.mono (by decide)) (by rfl) T.g_check_system T.F_check_system.kp T.b_check_system .nil pass0 (pa_cons (pv 0) pa_nil))) (pss_cons (ps_if (pt_not (pt_val (pe_call (ok_is_within T) (hr.mono (by decide)) (by rfl) T.g_is_within T.F_is_within.kp T.b_is_within .nil pass0 (pa_cons (pv 1) (pa_cons pe_int (pa_cons (pe_glob (v := .int 2000) rfl T.c_MOST_GREAT ⟨_, rfl⟩) pa_nil)))))) pss_dead pss_nil) (pss_cons (ps_set (i := 2) nd rfl (Or.inr rfl) (pe_lst pa_nil)) (pss_cons (ps_for PassesOwn.never rfl (pi_range1 rfl T.z_range (pa_cons (pe_op op_add (pv 1) pe_int) pa_nil)) (pg_name (i := 3) nd rfl (Or.inr rfl)) (pss_one (ps_if (pt_not (pt_val (pe_call (ok_pays_of T) (hr.mono (by decide)) (by rfl) T.g_pays_of T.F_pays_of.kp T.b_pays_of .nil pass0 (pa_cons (pv 0) (pa_cons (pv 3) pa_nil))))) (pss_one (ps_expr (pe_bm PySem.F.plainAttrs_list PySem.F.slot_list_append PySem.F.type_list_append mt_append (pv 2) (pa_cons pe_int pa_nil)))) (pss_cons (ps_set (i := 4) nd rfl (Or.inl rfl) (pe_callB (cr_sum rfl) (by rfl) T.z_sum (by decide +kernel) (pa_cons (pe_lc (own := [("less", 5)]) (by rfl) nd (pi_range1 rfl T.z_range (pa_cons (pv 3) pa_nil)) (blkOk_by (own := [("less", 5)]) (N := n_order_mark) (sc := defScope s_order_mark) (by decide +kernel)) (fun _ _ _ _ _ => (pg_name (i := 5) nd rfl (Or.inl rfl))) (fun _ _ _ _ _ => pts_one (pt_val (pe_call (ok_pays_of T) (hr.mono (by decide)) (by rfl) T.g_pays_of T.F_pays_of.kp T.b_pays_of .nil pass0 (pa_cons (pv 0) (pa_cons (pe_op op_sub (pv 3) (pv 5)) pa_nil))))) (fun _ _ _ _ _ => (pe_ix (show IxR _ (rIxL K) from ix_list) (pv 2) (pv 5) (fun _ _ => rfl)))) pa_nil))) (pss_one (ps_expr (pe_bm PySem.F.plainAttrs_list PySem.F.slot_list_append PySem.F.type_list_append mt_append (pv 2) (pa_cons (pe_ifExp (pt_cmpR op_eq (pv 3) pe_int (nomark _)) pe_int (pe_un un_neg (pv 4))) pa_nil)))))))) (pss_one (ps_ret (pe_callTy call_tuple_of (by rfl) T.z_tuple (by decide +kernel) (pa_cons (pv 2) pa_nil)))))))), ?_⟩
    refine q_drop (ev_call (ea_cons (ev_var rfl) ea_nil) (sv_check_system h)) fun H1 e1 => ?_
    have g2 : (decide ((0 : Int) ≤ (most : Int)) && decide ((most : Int) ≤ 2000)) = true := by rw [decide_eq_true (by omega), decide_eq_true (by omega)]; rfl
    refine q_when (b := false) (et_is (et_not (a := true) (et_B (ev_is (ev_call (ea_cons (ev_var rfl) (ea_cons ev_c (ea_cons ev_c ea_nil))) (sv_is_within _ _ _)) (congrArg V.bl g2)))) rfl) (fun z => by cases z) fun _ H2 e2 => ?_
    refine q_asgL (el_lst ea_nil (by show 0 ≤ 100000; decide)) fun l H3 nl e3 hl => ?_
    have e02 := e1.trans e2
    have nl0 := fresh_back e02 nl
    refine q_forR1 (n := ((most + 1 : Nat) : Int)) (ea_cons (ev_op (ev_var rfl) ev_c rv_I0) ea_nil) ⟨by omega, by omega⟩
      (fun i σ' H' => ∃ y z, σ' = [some (.ref x), some (.int (most : Int)), some (.ref l), y, z, none] ∧ Ex H H' ∧ H' l = some (.lst (iv (mkM (m :: tl)) i)))
      (fun H4 e4 => ⟨none, none, rfl, (e02.trans e3).trans e4, e4 _ _ hl⟩) (fun i σ' H' hi hp => ?_) (fun σ' H' hp => ?_)
    · obtain ⟨y, z, rfl, e, h3⟩ := hp
      have hz : (iv (mkM (m :: tl)) i).length < 100000 := by rw [iv_len]; omega
      refine s_if (b := !pbI (m :: tl) (i : Int)) (et_not (et_B (ev_call (ea_cons (ev_var rfl) (ea_cons (ev_var rfl) ea_nil)) (sv_pays_of (h.ex e) _)))) (fun hb H4 e4 => ?_) (fun hb H4 e4 => ?_)
      · have hb2 : pb (m :: tl) i = false := by
          rw [← pbI_nat]
          cases hh : pbI (m :: tl) (i : Int) with
          | true => rw [hh] at hb; cases hb
          | false => rfl
        refine s_app (e4 _ _ h3) (ev_var rfl) ev_c hz fun H5 e5 => ⟨_, _, rfl, ((e.trans e4).trans e5).mut nl0, ?_⟩
        rw [iv_succ, mkM_eq, hb2]
        exact upd_same
      · have hb2 : pb (m :: tl) i = true := by
          rw [← pbI_nat]
          cases hh : pbI (m :: tl) (i : Int) with
          | true => rfl
          | false => rw [hh] at hb; cases hb
        have e04 := e.trans e4
        obtain ⟨ns, en, es⟩ := given_ints (n := i) (f := fun j => pbI (m :: tl) ((i : Int) - (j : Int))) (v := fun j => mkM (m :: tl) j)
        refine q_asg (v := .int ns.sum) (ev_sumN (K := K) (el_is (el_lcR1 (n := (i : Int)) (fun j => pbI (m :: tl) ((i : Int) - (j : Int))) (fun j => V.int (mkM (m :: tl) j)) (ea_cons (ev_var rfl) ea_nil) ⟨by omega, by omega⟩ (fun v => rfl) (fun j H5 e5 hj => ?_) (fun j H5 e5 hj _ => ?_)) en)) fun H5 e5 => ?_
        · exact et_B (ev_call (ea_cons (ev_var rfl) (ea_cons (ev_op (ev_var rfl) (ev_var rfl) rv_I0) ea_nil)) (sv_pays_of (h.ex (e04.trans e5)) _))
        · exact ev_ixL (K := K) (ev_var rfl) (sq_of (e5 _ _ (e4 _ _ h3))) (ev_var rfl) (iv_get (by omega))
        · refine s_app (v := .int (mkM (m :: tl) i)) (e5 _ _ (e4 _ _ h3)) (ev_var rfl) ?_ hz fun H6 e6 => ⟨_, _, rfl, ((e04.trans e5).trans e6).mut nl0, ?_⟩
          · refine ev_if (b := decide (V.int (i : Int) = V.int 0)) (et_test (ev_op (ev_var rfl) ev_c (rv_eq rfl))) (fun hb3 => ?_) (fun hb3 => ?_)
            · have h0 : (i : Int) = 0 := V.int.inj (of_decide_eq_true hb3)
              obtain rfl : i = 0 := by omega
              refine ev_is ev_c ?_
              rw [mkM_eq, if_pos hb2, if_pos rfl]
            · have h0 : ¬ V.int (i : Int) = V.int 0 := of_decide_eq_false hb3
              have h1 : ¬ i = 0 := fun z => h0 (by rw [z]; rfl)
              refine ev_is (ev_un (ev_var rfl) ru_neg) ?_
              rw [mkM_eq, if_pos hb2, if_neg h1, es]
              refine congrArg (fun z => V.int (-z)) (sumN_congr i fun j hj => ?_)
              show (if pbI (m :: tl) ((i : Int) - (j : Int)) = true then _ else _) = if pb (m :: tl) (i - j) = true then _ else _
              rw [show ((i : Int) - (j : Int)) = ((i - j : Nat) : Int) by omega, pbI_nat]
          · rw [iv_succ]
            exact upd_same
    · obtain ⟨y, z, rfl, e, h3⟩ := hp
      have et : ((most + 1 : Nat) : Int).toNat = most + 1 := Int.toNat_natCast _
      rw [et] at h3
      exact s_retU (eu_tupOfL (K := K) (ev_var rfl) (sq_of h3)) fun p H4 np e4 hp => k p H4 (fresh_back e np) (e.trans e4) hp
end
/-! ### lots of coins -/
/-- tuples of two ints, in a row -/
def PairsAt (H : Hp) (rs : List V) (ps : List (Nat × Int)) : Prop := rs.length = ps.length ∧ ∀ (i : Nat) (p : Nat × Int), ps[i]? = some p → ∃ a : Addr, rs[i]? = some (.ref a) ∧ H a = some (.tup [.int (p.1 : Nat), .int p.2])
theorem PairsAt.ex {H H' : Hp} {rs : List V} {ps : List (Nat × Int)} (h : PairsAt H rs ps) (e : Ex H H') : PairsAt H' rs ps := ⟨h.1, fun i p hp => by
  obtain ⟨a, h1, h2⟩ := h.2 i p hp
  exact ⟨a, h1, e _ _ h2⟩⟩
theorem PairsAt.app {H : Hp} {rs rs' : List V} {ps ps' : List (Nat × Int)} (h : PairsAt H rs ps) (h' : PairsAt H rs' ps') : PairsAt H (rs ++ rs') (ps ++ ps') := by
  refine ⟨by rw [List.length_append, List.length_append, h.1, h'.1], fun i p hp => ?_⟩
  rw [List.getElem?_append] at hp
  rw [List.getElem?_append, h.1]
  split
  · rename_i q
    rw [if_pos q] at hp
    exact h.2 i p hp
  · rename_i q
    rw [if_neg q] at hp
    exact h'.2 _ p hp
theorem PairsAt.of {H : Hp} {rs : List V} {ps : List (Nat × Int)} (h : PairsAt H rs ps) {i : Nat} {x : V} (hx : rs[i]? = some x) : ∃ p a, ps[i]? = some p ∧ x = .ref a ∧ H a = some (.tup [.int (p.1 : Nat), .int p.2]) := by
  have lt : i < ps.length := by rw [← h.1]; exact (List.getElem?_eq_some_iff.mp hx).1
  obtain ⟨a, h1, h2⟩ := h.2 i _ (List.getElem?_eq_getElem lt)
  rw [hx] at h1
  exact ⟨_, a, List.getElem?_eq_getElem lt, Option.some.inj h1, h2⟩
section
variable {K : PySem.W.Frag} {σ : L2.St} {H H' : Hp} {ta tb te tx tl : TE} {x y z v : V} {t u : TT} {g : TG}
/-- over a list, the target told by a word -/
theorem el_lcG {a : Addr} {xs : List V} {vs : List Nat} (f : Nat → Bool) (v : Nat → V) (σs : Nat → L2.St) (h : Ev tl σ H (.ref a)) (hx : SqL K H a xs) (hz : xs.length ≤ 40000)
    (hg : ∀ (i : Nat) (x : V) H1 (Q : L2.St → Hp → Prop), Ex H H1 → xs[i]? = some x → Q (σs i) H1 → g x (wipe σ vs) H1 Q) (hw : ∀ i, i < xs.length → wipe (σs i) vs = wipe σ vs)
    (ht : ∀ (i : Nat) (x : V) H1, Ex H H1 → xs[i]? = some x → EvT t (σs i) H1 (f i)) (he : ∀ (i : Nat) (x : V) H1, Ex H H1 → xs[i]? = some x → f i = true → Ev te (σs i) H1 (v i)) :
    EvL (tLc (iList K tl) g t te vs) σ H (given xs.length f v) := fun H0 e Q q => h H0 e _ fun H1 e1 => ⟨a, rfl, ⟨xs, ex_l (e.trans e1) hx⟩, fun Dl hD =>
  lc_list (xs := xs) (Cw H1 f v Dl) ⟨hD, Ex.new hD, upd_same⟩ (fun i H' _ p => ex_l ((e.trans e1).trans p.2.1) hx) (fun i x H' hi p => hg i x H' _ ((e.trans e1).trans p.2.1) hi ⟨hw i (List.getElem?_eq_some_iff.mp hi).1, cw_turn p (by have := (List.getElem?_eq_some_iff.mp hi).1; omega) (ht i x H1 (e.trans e1) hi) (fun hf => he i x H1 (e.trans e1) hi hf)⟩)
    (fun H' p => q Dl H' (fresh_back e1 p.1) (e1.trans p.2.1) p.2.2)⟩
/-- x = [a new tuple] -/
theorem q_asgLU {i : Nat} {xs : List V} {D : L2.Ends} {tz : TS} (h : EvU te σ H xs) (k : ∀ t l H1, H l = none → Ex H H1 → H1 t = some (.tup xs) → H1 l = some (.lst [.ref t]) → tz D (σ.set i (some (.ref l))) H1) : tSeq (tAsg (tLst (tCons te tNil)) (gName i)) tz D σ H :=
  h H (Ex.refl H) _ fun t H1 nt e1 ht => ⟨by show 1 ≤ sizeLine; decide, fun l nl => k t l _ (fresh_back e1 nl) (e1.trans (Ex.new nl)) (Ex.new nl _ _ ht) upd_same⟩
theorem s_asgCatP {i : Nat} {l : Addr} {rs : List V} {ps : List (Nat × Int)} {D : L2.Ends} (ha : Ev ta σ H (.ref l)) (hl : H l = some (.lst rs))
    (hb : ∀ H0, Ex H H0 → ∀ Q : VK, (∀ p rs' H2, H0 p = none → Ex H0 H2 → H2 p = some (.lst rs') → PairsAt H2 rs' ps → Q (.ref p) H2) → tb σ H0 Q) (hz : rs.length + ps.length ≤ 100000)
    (k : ∀ q rs' H1, Ex H H1 → H1 q = some (.lst (rs ++ rs')) → PairsAt H1 rs' ps → D.nx (σ.set i (some (.ref q))) H1) : tAsg (tOp rCat ta tb) (gName i) D σ H :=
  ha H (Ex.refl H) _ fun H1 e1 => hb H1 e1 _ fun p rs' H2 np e2 hp pr => ⟨l, p, rs, rs', rfl, rfl, e2 _ _ (e1 _ _ hl), hp, sz_of (by rw [pr.1]; exact hz), fun q nq => k q rs' _ ((e1.trans e2).trans (Ex.new nq)) upd_same (pr.ex (Ex.new nq))⟩
/-- the same, each turn a new pair -/
theorem ep_lcG {a : Addr} {xs : List V} {vs : List Nat} {ta : TA} (ps : List (Nat × Int)) (σs : Nat → L2.St) (h : Ev tl σ H (.ref a)) (hx : SqL K H a xs) (hl : xs.length = ps.length) (hz : xs.length ≤ 40000)
    (hg : ∀ (i : Nat) (x : V) H1 (Q : L2.St → Hp → Prop), Ex H H1 → xs[i]? = some x → Q (σs i) H1 → g x (wipe σ vs) H1 Q) (hw : ∀ i, i < xs.length → wipe (σs i) vs = wipe σ vs)
    (he : ∀ (i : Nat) (p : Nat × Int) H1, Ex H H1 → ps[i]? = some p → EvA ta (σs i) H1 [.int (p.1 : Nat), .int p.2]) :
    ∀ H0, Ex H H0 → ∀ Q : VK, (∀ p rs H2, H0 p = none → Ex H0 H2 → H2 p = some (.lst rs) → PairsAt H2 rs ps → Q (.ref p) H2) → tLc (iList K tl) g tYes (tTup ta) vs σ H0 Q := fun H0 e Q q => h H0 e _ fun H1 e1 => ⟨a, rfl, ⟨xs, ex_l (e.trans e1) hx⟩, fun Dl hD =>
  lc_list (xs := xs) (fun i H' => Ex H1 H' ∧ ∃ acc, H' Dl = some (.lst acc) ∧ PairsAt H' acc (ps.take i)) ⟨Ex.new hD, [], upd_same, rfl, fun i p hp => by rw [List.take_zero] at hp; cases hp⟩ (fun i H' _ p => ex_l ((e.trans e1).trans p.1) hx) (fun i x H' hi p => hg i x H' _ ((e.trans e1).trans p.1) hi ⟨hw i (List.getElem?_eq_some_iff.mp hi).1, by
      obtain ⟨p1, acc, p2, p3⟩ := p
      have lt : i < ps.length := by rw [← hl]; exact (List.getElem?_eq_some_iff.mp hi).1
      have hp : ps[i]? = some ps[i] := List.getElem?_eq_getElem lt
      show tTup ta (σs i) H' (fun y H4 => ∃ acc, H4 Dl = some (.lst acc) ∧ acc.length < sizeLine ∧ (Ex H1 (upd H4 Dl (.lst (acc ++ [y]))) ∧ ∃ acc1, upd H4 Dl (.lst (acc ++ [y])) Dl = some (.lst acc1) ∧ PairsAt (upd H4 Dl (.lst (acc ++ [y]))) acc1 (ps.take (i + 1))))
      refine he i _ H1 (e.trans e1) hp H' p1 _ fun H3 e3 => ⟨by show 2 ≤ sizeLine; decide, fun b hb => ?_⟩
      have hD3 : H3 Dl = some (.lst acc) := e3 _ _ p2
      have bD : b ≠ Dl := fun z => by rw [z, hD3] at hb; cases hb
      have exb : Ex H3 (upd H3 b (.tup [.int (ps[i].1 : Nat), .int ps[i].2])) := Ex.new hb
      have lacc : acc.length = i := by rw [p3.1, List.length_take]; omega
      refine ⟨acc, exb _ _ hD3, Nat.lt_of_lt_of_le (show acc.length < 100000 by omega) (by decide), Ex.mut ((p1.trans e3).trans exb) hD, acc ++ [.ref b], upd_same, ?_⟩
      have q1 : PairsAt (upd H3 b (.tup [.int (ps[i].1 : Nat), .int ps[i].2])) (acc ++ [.ref b]) (ps.take (i + 1)) := by
        rw [take_next hp]
        refine ((p3.ex e3).ex exb).app ⟨rfl, fun j p hj => ?_⟩
        cases j with
        | zero =>
          obtain rfl := Option.some.inj hj
          exact ⟨b, rfl, upd_same⟩
        | succ j => cases hj
      refine ⟨q1.1, fun j p hj => ?_⟩
      obtain ⟨c, h1, h2⟩ := q1.2 j p hj
      refine ⟨c, h1, ?_⟩
      have cD : c ≠ Dl := fun z => by rw [z, exb _ _ hD3] at h2; cases h2
      rw [upd_ne cD]
      exact h2⟩)
    (fun H' p => by
      obtain ⟨p1, acc, p2, p3⟩ := p
      rw [hl, List.take_length] at p3
      exact q Dl acc H' (fresh_back e1 hD) (e1.trans p1) p2 p3)⟩
end
theorem lotsF_len : ∀ cs : List Nat, (lotsF cs).length = 2 ^ cs.length
  | [] => rfl
  | c :: cs => by
    show (lotsF cs ++ (lotsF cs).map fun p => (p.1 + c, -p.2)).length = _
    rw [List.length_append, List.length_map, lotsF_len cs, List.length_cons, Nat.pow_succ]
    omega
theorem mcs_rev (f : Nat → Int) : ∀ (cs : List Nat) (n : Nat), mcs cs.reverse f n = mcs cs f n
  | [], _ => rfl
  | c :: cs, n => by
    rw [List.reverse_cons, mcs_snoc]
    show _ = mcs cs (mc c f) n
    rw [mcs_mc]
    exact mc_congr fun k _ => mcs_rev f cs k
theorem sumN_list {α : Type} (F : α → Int) (d : α) : ∀ l : List α, sumN (fun k => F (l.getD k d)) l.length = (l.map F).sum
  | [] => rfl
  | a :: l => by
    rw [List.length_cons, Nat.add_comm, sumN_split, List.map_cons, List.sum_cons, ← sumN_list F d l]
    have e1 : sumN (fun k => F ((a :: l).getD k d)) 1 = F a := by show 0 + F a = F a; omega
    rw [e1]
    refine congrArg (F a + ·) (sumN_congr _ fun k _ => ?_)
    show F ((a :: l).getD (1 + k) d) = F (l.getD k d)
    rw [Nat.add_comm 1 k, List.getD_cons_succ]
noncomputable def chiV (cs : List Nat) (n : Int) : Int := if 0 ≤ n then mcs cs (pf cs) n.toNat else 0
theorem chi_sum (cs : List Nat) (n : Int) : sumN (fun i => if pbI cs (n - (((lotsF cs.reverse).getD i (0, 0)).1 : Nat)) = true then ((lotsF cs.reverse).getD i (0, 0)).2 else 0) (lotsF cs.reverse).length = chiV cs n := by
  rw [sumN_list (fun p : Nat × Int => if pbI cs (n - (p.1 : Nat)) = true then p.2 else 0) (0, 0)]
  unfold chiV
  split
  · rename_i h0
    rw [← mcs_rev, ← lots_mcs]
    unfold lotSum
    refine congrArg List.sum (List.map_congr_left fun p _ => ?_)
    obtain ⟨N, rfl⟩ : ∃ N : Nat, n = (N : Int) := ⟨n.toNat, by omega⟩
    rw [Int.toNat_natCast]
    unfold sh pf
    by_cases hp : p.1 ≤ N
    · rw [if_pos hp, show ((N : Int) - (p.1 : Nat)) = ((N - p.1 : Nat) : Int) by omega, pbI_nat]
      split
      · rw [Int.mul_one]
      · rw [Int.mul_zero]
    · rw [if_neg hp, Int.mul_zero]
      unfold pbI
      rw [decide_eq_false (by omega)]
      rfl
  · rename_i h0
    have : ∀ l : List (Nat × Int), (l.map fun p => if pbI cs (n - (p.1 : Nat)) = true then p.2 else 0).sum = 0 := fun l => by
      induction l with
      | nil => rfl
      | cons p r ih =>
        rw [List.map_cons, List.sum_cons, ih]
        unfold pbI
        rw [decide_eq_false (by omega)]
        rfl
    exact this _
section
variable {P : Program} {w : World} {K : PySem.W.Frag} {mg : Str → Option Value} {base : Heap}
def sp_chi (C : Addr) : Sp := fun vs H Q _ => ∃ (x : Addr) (m : Nat) (tl W : List Nat) (n : Int), vs = [.ref x, .int n] ∧ SyAt C H x m tl W ∧ (m :: tl).length ≤ 14 ∧ -1000000 ≤ n ∧ n ≤ 1000000 ∧ RetV (.int (chiV (m :: tl) n)) H Q
theorem sv_chi {C x : Addr} {H : Hp} {m : Nat} {tl W : List Nat} (h : SyAt C H x m tl W) (hl : (m :: tl).length ≤ 14) {n : Int} (h1 : -1000000 ≤ n) (h2 : n ≤ 1000000) : SpV (sp_chi C) [.ref x, .int n] H (.int (chiV (m :: tl) n)) := fun H1 e Q q E => ⟨x, m, tl, W, n, rfl, h.ex e, hl, h1, h2, q⟩
theorem ok_chi (T : Top K mg) : FnOk P w K mg base CX0 3 T.a_chi T.fd_chi ["system", "number"] (sp_chi T.a_System) := by
  refine T.F_chi.ok sc_chi (fun vs H Q E h => ?_) (fun cdv A outer s H vs Q E hr h => ?_)
  · obtain ⟨x, m, tl, W, n, rfl, _⟩ := h
    rfl
  · obtain ⟨x, m, tl, W, n, rfl, h, hl, hn1, hn2, k⟩ := h
    have nd := sc_chi.nd
    have cl : Cls K T.a_System := T.i_System.cl
    refine ⟨_, (pss_cons (ps_expr (pe_call (ok_check_system T) (hr.mono (by decide)) (by rfl) T.g_check_system T.F_check_system.kp T.b_check_system .nil pass0 (pa_cons (pv 0) pa_nil))) (pss_cons (ps_if (PW.pt (pw_or (pt_not (pt_val (pe_call (ok_is_integer T) (hr.mono (by decide)) (by rfl) T.g_is_integer T.F_is_integer.kp T.b_is_integer .nil pass0 (pa_cons (pv 1) pa_nil)))) (pw_or1 (pt_cmpR op_gt (pe_callB call_abs (by rfl) T.z_abs (by decide +kernel) (pa_cons (pv 1) pa_nil)) (pe_op op_pow pe_int pe_int) (nomark _))))) pss_dead pss_nil) (pss_cons (ps_if (pt_cmpR op_gt (pe_callB call_len_seq (by rfl) T.z_len PySem.boot_len (pa_cons (pe_fld (pv 0) rfl) pa_nil)) pe_int (nomark _)) pss_dead pss_nil) (pss_cons (ps_set (i := 2) nd rfl (Or.inl rfl) (pe_lst (pa_cons (pe_tup (pa_cons pe_int (pa_cons pe_int pa_nil))) pa_nil))) (pss_cons (ps_for PassesOwn.never rfl (pi_tup (pe_fld (pv 0) rfl)) (pg_name (i := 3) nd rfl (Or.inr rfl)) (pss_one (ps_set (i := 2) nd rfl (Or.inl rfl) (pe_op op_cat (pv 2) (pe_lc (own := [("total", 4), ("sign", 5)]) (by rfl) nd (pi_list (pv 2)) (blkOk_by (own := [("total", 4), ("sign", 5)]) (N := n_chi) (sc := defScope s_chi) (by decide +kernel)) (fun _ _ _ _ _ => (show PG _ _ (gTup K 2 (gCons (gName 4) (gCons (gName 5) gNil))) from (pg_tup rfl (pgs_cons (pg_name (i := 4) nd rfl (Or.inl rfl)) (pgs_cons (pg_name (i := 5) nd rfl (Or.inl rfl)) pgs_nil))))) (fun _ _ _ _ _ => pts_nil) (fun _ _ _ _ _ => (pe_tup (pa_cons (pe_op op_add (pv 4) (pv 3)) (pa_cons (pe_un un_neg (pv 5)) pa_nil))))))))) (pss_one (ps_ret (pe_callB (cr_sum rfl) (by rfl) T.z_sum (by decide +kernel) (pa_cons (pe_lc (own := [("total", 4), ("sign", 5)]) (by rfl) nd (pi_list (pv 2)) (blkOk_by (own := [("total", 4), ("sign", 5)]) (N := n_chi) (sc := defScope s_chi) (by decide +kernel)) (fun _ _ _ _ _ => (show PG _ _ (gTup K 2 (gCons (gName 4) (gCons (gName 5) gNil))) from (pg_tup rfl (pgs_cons (pg_name (i := 4) nd rfl (Or.inl rfl)) (pgs_cons (pg_name (i := 5) nd rfl (Or.inl rfl)) pgs_nil))))) (fun _ _ _ _ _ => pts_one (pt_val (pe_call (ok_pays_of T) (hr.mono (by decide)) (by rfl) T.g_pays_of T.F_pays_of.kp T.b_pays_of .nil pass0 (pa_cons (pv 0) (pa_cons (pe_op op_sub (pv 1) (pv 4)) pa_nil))))) (fun _ _ _ _ _ => (pv 5))) pa_nil))))))))), ?_⟩
    obtain ⟨dx, b, c, a, hx, hb, hc⟩ := h.at_
    refine q_drop (ev_call (ea_cons (ev_var rfl) ea_nil) (sv_check_system h)) fun H1 e1 => ?_
    have g1 : decide (((10 : Int) ^ (6 : Int).toNat) < (if n < 0 then -n else n)) = false := decide_eq_false (by
      have : ((10 : Int) ^ (6 : Int).toNat) = 1000000 := by decide
      rw [this]
      split <;> omega)
    refine q_when (b := false) (et_is (et_or (a := false) (b := false) (et_is (et_not (a := true) (et_B (ev_call (ea_cons (ev_var rfl) ea_nil) (sv_is_integer n)))) rfl) fun _ => et_is (et_test (ev_op (ev_abs (ev_var rfl)) (ev_op ev_c ev_c (rv_I ⟨by decide, by decide, by decide⟩)) rv_I0)) g1) rfl) (fun z => by cases z) fun _ H2 e2 => ?_
    have e02 := e1.trans e2
    have g2 : decide ((14 : Int) < ((nv (m :: tl)).length : Int)) = false := decide_eq_false (by rw [nv_len]; omega)
    refine q_when (b := false) (et_is (et_test (ev_op (ev_lenS (K := K) (ev_fld (ev_var rfl) (e02 _ _ hx) cl T.n_System_needed_coins (sysF_need _ _ _)) (.inr (st_of (e02 _ _ hb)))) ev_c rv_I0)) g2) (fun z => by cases z) fun _ H3 e3 => ?_
    have e03 := e02.trans e3
    -- lots = [(0, 1)]
    refine q_asgLU (eu_tup (ea_cons ev_c (ea_cons ev_c ea_nil)) (by show 2 ≤ 100000; decide)) fun t l H4 nl e4 ht hl4 => ?_
    have e05 := e03.trans e4
    refine q_forT (ev_fld (ev_var rfl) (e05 _ _ hx) cl T.n_System_needed_coins (sysF_need _ _ _)) (st_of (e05 _ _ hb))
      (fun i σ' H' => ∃ (l : Addr) (rs : List V) (y : Option V), σ' = [some (.ref x), some (.int n), some (.ref l), y, none, none] ∧ Ex H H' ∧ H' l = some (.lst rs) ∧ PairsAt H' rs (lotsF ((m :: tl).take i).reverse))
      (fun H5 e5 => ⟨l, [.ref t], none, rfl, e05.trans e5, e5 _ _ hl4, rfl, fun j p hj => ?_⟩) (fun i σ' H' _ ⟨_, _, _, _, e, _⟩ => st_of (e _ _ hb)) (fun i v σ' H' hv hp' => ?_) (fun σ' H' hp' => ?_)
    · cases j with
      | zero =>
        obtain rfl := Option.some.inj hj
        exact ⟨t, rfl, e5 _ _ ht⟩
      | succ j => cases hj
    · obtain ⟨l, rs, y, rfl, e, h3, hpr⟩ := hp'
      obtain ⟨c, hcc, rfl⟩ := nv_get hv
      have hlen : rs.length ≤ 16384 := by
        rw [hpr.1, lotsF_len, List.length_reverse, List.length_take]
        have h1 : min i (m :: tl).length ≤ 14 := by omega
        exact Nat.pow_le_pow_right (n := 2) (by decide) h1
      refine s_asgCatP (ps := (lotsF ((m :: tl).take i).reverse).map fun p => (p.1 + c, -p.2)) (ev_var rfl) h3 (ep_lcG (K := K) (a := l) (xs := rs) ((lotsF ((m :: tl).take i).reverse).map fun p => (p.1 + c, -p.2))
        (fun j => [some (.ref x), some (.int n), some (.ref l), some (.int (c : Int)), some (.int ((((lotsF ((m :: tl).take i).reverse).getD j (0, 0)).1 : Nat) : Int)), some (.int ((lotsF ((m :: tl).take i).reverse).getD j (0, 0)).2)])
        (ev_var rfl) (sq_of h3) (by rw [List.length_map]; exact hpr.1) (by omega) (fun j z H5 Q e5 hz q => ?_) (fun j hj => rfl) (fun j p H5 e5 hj => ?_)) (by rw [List.length_map, ← hpr.1]; omega) fun q rs' H5 e5 hq pr5 => ⟨q, rs ++ rs', _, rfl, e.trans e5, hq, ?_⟩
      · obtain ⟨p, a, h1, rfl, h2⟩ := hpr.of hz
        have eg : (lotsF ((m :: tl).take i).reverse).getD j (0, 0) = p := by rw [List.getD_eq_getElem?_getD, h1]; rfl
        rw [eg] at q
        exact g_pair (e5 _ _ h2) q
      · rw [List.getElem?_map] at hj
        cases h1 : (lotsF ((m :: tl).take i).reverse)[j]? with
        | none => rw [h1] at hj; cases hj
        | some p0 =>
          rw [h1] at hj
          obtain rfl := Option.some.inj hj
          have eg : (lotsF ((m :: tl).take i).reverse).getD j (0, 0) = p0 := by rw [List.getD_eq_getElem?_getD, h1]; rfl
          rw [eg]
          exact ea_cons (ev_op (ev_var rfl) (ev_var rfl) rv_I0) (ea_cons (ev_un (ev_var rfl) ru_neg) ea_nil)
      · rw [take_next hcc, List.reverse_append]
        exact (hpr.ex e5).app pr5
    · obtain ⟨l, rs, y, rfl, e, h3, hpr⟩ := hp'
      rw [nv_len, List.take_length] at hpr
      have hlen : rs.length ≤ 16384 := by
        rw [hpr.1, lotsF_len, List.length_reverse]
        exact Nat.pow_le_pow_right (n := 2) (by decide) hl
      obtain ⟨ns, en, es⟩ := given_ints (n := rs.length) (f := fun j => pbI (m :: tl) (n - (((lotsF (m :: tl).reverse).getD j (0, 0)).1 : Nat))) (v := fun j => ((lotsF (m :: tl).reverse).getD j (0, 0)).2)
      refine s_ret (v := .int (chiV (m :: tl) n)) (ev_is (ev_sumN (K := K) (el_is (el_lcG (K := K) (σ := [some (.ref x), some (.int n), some (.ref l), y, none, none]) (vs := [4, 5]) (a := l) (xs := rs) (fun j => pbI (m :: tl) (n - (((lotsF (m :: tl).reverse).getD j (0, 0)).1 : Nat))) (fun j => V.int ((lotsF (m :: tl).reverse).getD j (0, 0)).2)
        (fun j => [some (.ref x), some (.int n), some (.ref l), y, some (.int ((((lotsF (m :: tl).reverse).getD j (0, 0)).1 : Nat) : Int)), some (.int ((lotsF (m :: tl).reverse).getD j (0, 0)).2)])
        (ev_var rfl) (sq_of h3) (by omega) (fun j z H5 Q e5 hz q => ?_) (fun j hj => rfl) (fun j z H5 e5 hz => ?_) (fun j z H5 e5 hz _ => ev_var rfl)) en)) ?_) fun H4 e4 => k H4 (e.trans e4)
      · obtain ⟨p, a, h1, rfl, h2⟩ := hpr.of hz
        have eg : (lotsF (m :: tl).reverse).getD j (0, 0) = p := by rw [List.getD_eq_getElem?_getD, h1]; rfl
        rw [eg] at q
        exact g_pair (e5 _ _ h2) q
      · exact et_B (ev_call (ea_cons (ev_var rfl) (ea_cons (ev_op (ev_var rfl) (ev_var rfl) rv_I0) ea_nil)) (sv_pays_of (h.ex (e.trans e5)) _))
      · rw [es, hpr.1, chi_sum]
end
end Pd

/-! The law's own defs: hand, draw, common, paid, ways, lots, times. -/
namespace Pd
open PySem PySem.Spec PyProof.Rows L2 Evl
/-! ### readings -/
def rIxS2 (K : PySem.W.Frag) : R2 := fun x y H Q => rIxL K x y H Q ∨ rIxT K x y H Q
theorem ix_seq {X : Cx} : IxR X (rIxS2 X.K) := by
  intro value slice pins s σ H x y v u Q I r1 r2 h hs
  rcases h with h | h
  · exact ix_list value slice pins s σ H x y v u Q I r1 r2 h hs
  · exact ix_tup value slice pins s σ H x y v u Q I r1 r2 h hs
def bv (f : Nat → Bool) (n : Nat) : List V := (List.range n).map fun k => V.bl (f k)
theorem bv_len (f : Nat → Bool) (n : Nat) : (bv f n).length = n := by unfold bv; rw [List.length_map, List.length_range]
theorem bv_get {f : Nat → Bool} {n k : Nat} (h : k < n) : (bv f n)[k]? = some (.bl (f k)) := by
  unfold bv
  rw [List.getElem?_map, List.getElem?_range h]
  rfl
theorem bv_congr {f g : Nat → Bool} {n : Nat} (h : ∀ k, k < n → f k = g k) : bv f n = bv g n := by
  unfold bv
  refine List.map_congr_left fun k hk => ?_
  rw [h k (List.mem_range.mp hk)]
theorem bv_set {f g : Nat → Bool} {n j : Nat} (hj : j < n) (h : ∀ k, k < n → k ≠ j → f k = g k) : (bv f n).set j (.bl (g j)) = bv g n := by
  apply List.ext_getElem?
  intro k
  rw [List.getElem?_set]
  by_cases e : j = k
  · subst e
    rw [if_pos rfl, if_pos (by rw [bv_len]; exact hj), bv_get hj]
  · rw [if_neg e]
    by_cases hk : k < n
    · rw [bv_get hk, bv_get hk, h k hk (fun z => e z.symm)]
    · rw [List.getElem?_eq_none (by rw [bv_len]; omega), List.getElem?_eq_none (by rw [bv_len]; omega)]
theorem bv_start (cs : List Nat) (n : Nat) : [V.bl true] ++ List.replicate n (V.bl false) = bv (fun k => if k < 1 then pb cs k else false) (n + 1) := by
  apply List.ext_getElem?
  intro k
  cases k with
  | zero =>
    rw [bv_get (by omega), if_pos (by omega), pb_zero]
    rfl
  | succ k =>
    show (List.replicate n (V.bl false))[k]? = _
    rw [List.getElem?_replicate]
    by_cases h : k < n
    · rw [if_pos h, bv_get (by omega), if_neg (by omega)]
    · rw [if_neg h, List.getElem?_eq_none (by rw [bv_len]; omega)]
theorem list_range {α : Type} (d : α) : ∀ l : List α, (List.range l.length).map (fun j => l.getD j d) = l := fun l => by
  apply List.ext_getElem?
  intro k
  rw [List.getElem?_map]
  by_cases h : k < l.length
  · rw [List.getElem?_range h, List.getElem?_eq_getElem h]
    show some (l.getD k d) = _
    rw [List.getD_eq_getElem?_getD, List.getElem?_eq_getElem h]
    rfl
  · rw [List.getElem?_eq_none (by rw [List.length_range]; omega), List.getElem?_eq_none (by omega)]
    rfl
theorem given_all (n : Nat) (v : Nat → V) : given n (fun _ => true) v = (List.range n).map v := by
  unfold given
  rw [List.filter_eq_self.mpr (fun _ _ => rfl)]
theorem any_range {α : Type} (d : α) (g : α → Bool) (l : List α) : ((List.range l.length).map fun j => g (l.getD j d)).any id = l.any g := by
  rw [List.any_map]
  show (List.range l.length).any (g ∘ fun j => l.getD j d) = _
  rw [← List.any_map, list_range]
section
variable {K : PySem.W.Frag} {σ : L2.St} {H H' : Hp} {ta tb te tx tl : TE} {x y z v : V} {t u : TT} {g : TG}
theorem ev_ixS {a : Addr} {xs : List V} {j : Nat} (h : Ev ta σ H (.ref a)) (hx : SqL K H a xs ∨ SqT K H a xs) (hi : Ev tb σ H (.int (j : Int))) (hv : xs[j]? = some v) : Ev (tOp (rIxS2 K) ta tb) σ H v :=
  ev_op h hi fun H1 e Q q => hx.elim (fun hx => .inl (rv_ixL hx (atI_nat hv) H1 e Q q)) fun hx => .inr (rv_ixT hx (atI_nat hv) H1 e Q q)
theorem ev_anyN {bs : List Bool} (ha : EvL ta σ H (bs.map V.bl)) : Ev (tCB (rAny K) (tCons ta tNil)) σ H (.bl (bs.any id)) := fun H1 e Q q =>
  ha H1 e _ fun p H2 _ e2 hp => ⟨p, bs, rfl, sq_of hp, q H2 e2⟩
theorem el_lcT {a : Addr} {xs : List V} {j : Nat} {vs : List Nat} (f : Nat → Bool) (v : Nat → V) (h : Ev tl σ H (.ref a)) (hx : SqT K H a xs) (hz : xs.length ≤ 40000) (hw : ∀ x, wipe ((wipe σ vs).set j (some x)) vs = wipe σ vs)
    (ht : ∀ (i : Nat) (x : V) H1, Ex H H1 → xs[i]? = some x → EvT t ((wipe σ vs).set j (some x)) H1 (f i)) (he : ∀ (i : Nat) (x : V) H1, Ex H H1 → xs[i]? = some x → f i = true → Ev te ((wipe σ vs).set j (some x)) H1 (v i)) :
    EvL (tLc (iTup K tl) (gName j) t te vs) σ H (given xs.length f v) := fun H0 e Q q => h H0 e _ fun H1 e1 => ⟨a, rfl, ⟨xs, ex_t (e.trans e1) hx⟩, fun Dl hD =>
  lc_tup (xs := xs) (Cw H1 f v Dl) ⟨hD, Ex.new hD, upd_same⟩ (fun i H' _ p => ex_t ((e.trans e1).trans p.2.1) hx) (fun i x H' hi p => ⟨hw x, cw_turn p (by have := (List.getElem?_eq_some_iff.mp hi).1; omega) (ht i x H1 (e.trans e1) hi) (fun hf => he i x H1 (e.trans e1) hi hf)⟩)
    (fun H' p => q Dl H' (fresh_back e1 p.1) (e1.trans p.2.1) p.2.2)⟩
/-- over a list or a tuple -/
theorem el_lcS {a : Addr} {xs : List V} {j : Nat} {vs : List Nat} (f : Nat → Bool) (v : Nat → V) (h : Ev tl σ H (.ref a)) (hx : SqL K H a xs ∨ SqT K H a xs) (hz : xs.length ≤ 40000) (hw : ∀ x, wipe ((wipe σ vs).set j (some x)) vs = wipe σ vs)
    (ht : ∀ (i : Nat) (x : V) H1, Ex H H1 → xs[i]? = some x → EvT t ((wipe σ vs).set j (some x)) H1 (f i)) (he : ∀ (i : Nat) (x : V) H1, Ex H H1 → xs[i]? = some x → f i = true → Ev te ((wipe σ vs).set j (some x)) H1 (v i)) :
    EvL (tLc (fun σ H R => iList K tl σ H R ∨ iTup K tl σ H R) (gName j) t te vs) σ H (given xs.length f v) := fun H0 e Q q =>
  hx.elim (fun hx => .inl (el_lcL f v h hx hz hw ht he H0 e Q q)) fun hx => .inr (el_lcT f v h hx hz hw ht he H0 e Q q)
/-- over enumerate of a tuple, new or old -/
theorem el_lcEnumS {xs : List V} {i j : Nat} {vs : List Nat} (f : Nat → Bool) (v : Nat → V) (h : EvS K tl σ H xs) (hz : xs.length ≤ 40000)
    (hw : ∀ n x, wipe (((wipe σ vs).set i (some (.int ((n : Nat) : Int)))).set j (some x)) vs = wipe σ vs)
    (ht : ∀ (n : Nat) (x : V) H1, Ex H H1 → xs[n]? = some x → EvT t (((wipe σ vs).set i (some (.int (n : Int)))).set j (some x)) H1 (f n))
    (he : ∀ (n : Nat) (x : V) H1, Ex H H1 → xs[n]? = some x → f n = true → Ev te (((wipe σ vs).set i (some (.int (n : Int)))).set j (some x)) H1 (v n)) :
    EvL (tLc (iEnumT K (tCons tl tNil)) (gTup K 2 (gCons (gName i) (gCons (gName j) gNil))) t te vs) σ H (given xs.length f v) := fun H0 e Q q => h H0 e _ fun a H1 e1 hx => ⟨a, xs, rfl, hx, fun Dl hD =>
  lc_it (walk_enumT (K := K) (a := a) (xs := xs)) (Cw H1 f v Dl) ⟨hD, Ex.new hD, upd_same⟩ (fun i H' _ p => ex_t p.2.1 hx) (fun n v' H' H2 hn p y => by
    obtain ⟨T, x1, x2, rfl, nT, rfl, f1, f2⟩ := y
    obtain rfl : V.int (n : Nat) = x1 := Option.some.inj f1
    have ex : Ex H' (upd H' T (.tup [.int (n : Nat), x2])) := Ex.new nT
    exact ⟨T, [.int (n : Nat), x2], rfl, .inl (.inl upd_same), rfl, .int (n : Nat), [x2], rfl, x2, [], rfl, rfl, hw n x2, cw_turn ⟨p.1, p.2.1.trans ex, ex _ _ p.2.2⟩ (by omega) (ht n x2 H1 (e.trans e1) f2) (fun hf => he n x2 H1 (e.trans e1) f2 hf)⟩) (fun H' p => q Dl H' (fresh_back e1 p.1) (e1.trans p.2.1) p.2.2)⟩
theorem EvS.slToN {a : Addr} {xs : List V} {n : Nat} (h : Ev te σ H (.ref a)) (hx : SqT K H a xs) (hn : Ev tx σ H (.int (n : Int))) : EvS K (tSl (rSlA K) te tNoPart (tPart tx)) σ H (xs.take n) := EvS.slTo h hx hn
/-- for x in range(hi, lo, -1) -/
theorem s_forDown {tA : TA} {j : Nat} {hi lo : Int} {tu : TS} {D : L2.Ends} (h : EvA tA σ H [.int hi, .int lo, .int (-1)]) (hb : 0 ≤ hi ∧ hi ≤ 100000 ∧ -1 ≤ lo ∧ lo ≤ 100000) (Pv : Nat → L2.St → Hp → Prop) (h0 : ∀ H1, Ex H H1 → Pv 0 σ H1)
    (hs : ∀ (t : Nat) σ' H', (t : Int) < hi - lo → Pv t σ' H' → tu { D with nx := Pv (t + 1), ct := Pv (t + 1), bk := D.nx } (σ'.set j (some (.int (hi - (t : Int))))) H') (hd : ∀ σ' H', Pv (hi - lo).toNat σ' H' → D.nx σ' H') : tFor (iRng3 tA) (gName j) tu D σ H :=
  h H (Ex.refl H) _ fun H1 e => ⟨hi, lo, -1, (hi - lo).toNat, rfl, RgC.neg (by omega) (by omega) (by omega) (by omega), for_rangeC Pv (h0 H1 e) (fun t σ' H' ht p => by
    show tu { D with nx := Pv (t + 1), ct := Pv (t + 1), bk := D.nx } (σ'.set j (some (.int (hi + (t : Nat) * (-1))))) H'
    rw [show hi + ((t : Nat) : Int) * (-1) = hi - (t : Int) by omega]
    exact hs t σ' H' (by omega) p) hd⟩
end
section
variable {P : Program} {w : World} {K : PySem.W.Frag} {mg : Str → Option Value} {base : Heap}
/-! ### the hand -/
/-- a hand at h whose cells stand at c -/
def HandC (H : Hp) (h c : Addr) (cells : List Int) : Prop := (∃ (i : Nat) (u s d : Int), H h = some (.lst [.ref c, .int (i : Int), .int u, .int s, .int d])) ∧ H c = some (.lst (cells.map V.int))
theorem HandC.ex {H H' : Hp} {h c : Addr} {cells : List Int} (a : HandC H h c cells) (e : Ex H H') : HandC H' h c cells := by
  obtain ⟨⟨i, u, s, d, h1⟩, h2⟩ := a
  exact ⟨⟨i, u, s, d, e _ _ h1⟩, e _ _ h2⟩
theorem HandC.ne {H : Hp} {h c : Addr} {cells : List Int} (a : HandC H h c cells) : c ≠ h := fun z => by
  obtain ⟨⟨i, u, s, d, h1⟩, h2⟩ := a
  rw [z, h1] at h2
  have := HO.lst.inj (Option.some.inj h2)
  cases cells with
  | nil => cases this
  | cons x r => cases (List.cons.inj this).1
def sp__law_hand (K : PySem.W.Frag) : Sp := fun vs H Q _ => ∃ (a : Addr) (ns : List Int), vs = [.ref a] ∧ SqL K H a (ns.map V.int) ∧ ns.length ≤ 63 ∧ ∀ h c cells H', H h = none → Ex H H' → HandC H' h c cells → Q (.ref h) H'
theorem ok_law_hand (T : Top K mg) : FnOk P w K mg base CX0 1 T.a__law_hand T.fd__law_hand ["script"] (sp__law_hand K) := by
  refine T.F__law_hand.ok sc_law_hand (fun vs H Q E h => ?_) (fun cdv A outer s H vs Q E hr h => ?_)
  · obtain ⟨a, ns, rfl, _⟩ := h
    rfl
  · obtain ⟨a, ns, rfl, ha, hl, k⟩ := h
    have nd := sc_law_hand.nd
    refine ⟨_, (pss_cons (ps_setLc (i := 1) (own := [("cell", 2)]) (by rfl) nd rfl rfl (sw_true rfl rfl rfl (by decide +kernel)) (pi_list (pe_slice sl_list (pv 0) po_none (po_some pe_int))) (blkOk_by (own := [("cell", 2)]) (N := n_law_hand) (sc := defScope s_law_hand) (by decide +kernel)) (fun _ _ _ _ _ => (pg_name (i := 2) nd rfl (Or.inl rfl))) (fun _ _ _ _ _ => pts_nil) (fun _ _ _ _ _ => (pe_callB call_abs (by rfl) T.z_abs (by decide +kernel) (pa_cons (pe_callTy call_int1 (by rfl) T.z_int (by decide +kernel) (pa_cons (pv 2) pa_nil)) pa_nil)))) (pss_one (ps_ret (pe_lst (pa_cons (pv 1) (pa_cons pe_int (pa_cons pe_int (pa_cons (pe_op op_add pe_int (pe_op op_mul pe_int (pe_callB call_len_seq (by rfl) T.z_len PySem.boot_len (pa_cons (pv 1) pa_nil)))) (pa_cons pe_int pa_nil))))))))), ?_⟩
    have hz : ((ns.take 63).map V.int).length ≤ 40000 := by rw [List.length_map, List.length_take]; omega
    obtain ⟨cells, en, _⟩ := given_ints (n := ((ns.take 63).map V.int).length) (f := fun _ => true) (v := fun j => if (ns.take 63).getD j 0 < 0 then -((ns.take 63).getD j 0) else (ns.take 63).getD j 0)
    refine q_asgL (el_is (el_lcNL (K := K) (xs := (ns.take 63).map V.int) (fun _ => true) (fun j => V.int (if (ns.take 63).getD j 0 < 0 then -((ns.take 63).getD j 0) else (ns.take 63).getD j 0)) (el_is (el_sl (ev_var rfl) eo_none (eo_some ev_c) ha) ?_) hz (fun x => rfl) (fun i x H1 e1 hx => ?_) (fun i x H1 e1 hx _ => ?_)) en) fun c H1 nc e1 hc => ?_
    · show cutV (ns.map V.int) none (some ((63 : Nat) : Int)) = _
      rw [cut_to, List.map_take]
    · exact fun H2 e2 Q q => q H2 (Ex.refl H2)
    · rw [List.getElem?_map] at hx
      cases e : (ns.take 63)[i]? with
      | none => rw [e] at hx; cases hx
      | some n =>
        rw [e] at hx
        obtain rfl := Option.some.inj hx
        have eg : (ns.take 63).getD i 0 = n := by rw [List.getD_eq_getElem?_getD, e]; rfl
        rw [eg]
        exact ev_abs (ev_intI (ev_var rfl))
    · have lc : (cells.map V.int).length ≤ 63 := by
        rw [← en]
        refine Nat.le_trans (given_len _ _ _) ?_
        rw [List.length_map, List.length_take]
        omega
      refine s_retL (el_lst (ea_cons (ev_var rfl) (ea_cons ev_c (ea_cons ev_c (ea_cons (ev_op ev_c (ev_op ev_c (ev_lenS (K := K) (ev_var rfl) (.inl (sq_of hc))) (rv_mul (.inl ⟨by decide, by decide⟩))) rv_I0) (ea_cons ev_c ea_nil))))) (by show 5 ≤ 100000; decide)) fun h H2 nh e2 hh => ?_
      exact k h c cells H2 (fresh_back e1 nh) (e1.trans e2) ⟨⟨0, 0, _, 0, hh⟩, e2 _ _ hc⟩
/-! ### a draw -/
def sp__law_draw : Sp := fun vs H Q _ => ∃ (h c : Addr) (cells : List Int) (many : Nat), vs = [.ref h, .int many] ∧ HandC H h c cells ∧ 0 < many ∧ many ≤ 1000000 ∧ ∀ (r : Nat) H', r < many → Bt h H H' → HandC H' h c cells → Q (.int r) H'
theorem mod_nat {a : Int} {m : Nat} (h : 0 < m) : ∃ r : Nat, r < m ∧ a % (m : Int) = (r : Int) := ⟨(a % (m : Int)).toNat, by
  have h1 := Int.emod_nonneg a (show (m : Int) ≠ 0 by omega)
  have h2 := Int.emod_lt_of_pos a (show (0 : Int) < (m : Int) by omega)
  omega, by
  have h1 := Int.emod_nonneg a (show (m : Int) ≠ 0 by omega)
  omega⟩
theorem mod_small {a m : Int} (h : 0 < m) (hm : m < 2 ^ 64) : -(2 ^ 64) < a % m ∧ a % m < 2 ^ 64 := by
  have h1 := Int.emod_nonneg a (show m ≠ 0 by omega)
  have h2 := Int.emod_lt_of_pos a h
  omega
theorem ok_law_draw (T : Top K mg) : FnOk P w K mg base CX0 1 T.a__law_draw T.fd__law_draw ["hand", "many"] sp__law_draw := by
  refine T.F__law_draw.ok sc_law_draw (fun vs H Q E h => ?_) (fun cdv A outer s H vs Q E hr h => ?_)
  · obtain ⟨h, c, cells, many, rfl, _⟩ := h
    rfl
  · obtain ⟨h, c, cells, many, rfl, hh, hm, hm2, k⟩ := h
    have nd := sc_law_draw.nd
    refine ⟨_, (pss_cut (ps_if (PW.pt (pw_and (pt_cmpR op_eq (pe_ix ix_list (pv 0) pe_int (fun _ _ => rfl)) pe_int (nomark _)) (pw_and1 (pt_cmpR op_lt (pe_ix ix_list (pv 0) pe_int (fun _ _ => rfl)) (pe_callB call_len_seq (by rfl) T.z_len PySem.boot_len (pa_cons (pe_ix ix_list (pv 0) pe_int (fun _ _ => rfl)) pa_nil)) (nomark _))))) (pss_cons (ps_set (i := 2) nd rfl (Or.inl rfl) (pe_ix ix_list (pe_ix ix_list (pv 0) pe_int (fun _ _ => rfl)) (pe_ix ix_list (pv 0) pe_int (fun _ _ => rfl)) (fun _ _ => rfl))) (pss_cons (ps_asg (pe_op op_add (pe_ix ix_list (pv 0) pe_int (fun _ _ => rfl)) pe_int) (pg_sub (pv 0) pe_int set_list)) (pss_cons (ps_asg (pe_op op_mod (pe_callTy call_int1 (by rfl) T.z_int (by decide +kernel) (pa_cons (pe_op op_add (pe_op op_add (pe_op op_mul (pe_ix ix_list (pv 0) pe_int (fun _ _ => rfl)) pe_int) (pe_op op_mul (pv 2) pe_int)) pe_int) pa_nil)) pe_int) (pg_sub (pv 0) pe_int set_list)) (pss_one (ps_if (pt_cmpR op_ge (pv 2) (pe_op op_pow pe_int pe_int) (nomark _)) (pss_one (ps_asg (pv 2) (pg_sub (pv 0) pe_int set_list))) pss_nil))))) pss_nil) (pss_cons (ps_if (pt_cmpR op_gt (pe_ix ix_list (pv 0) pe_int (fun _ _ => rfl)) pe_int (nomark _)) (pss_cons (ps_set (i := 3) nd rfl (Or.inl rfl) (pe_op op_mod (pe_callTy call_int1 (by rfl) T.z_int (by decide +kernel) (pa_cons (pe_ix ix_list (pv 0) pe_int (fun _ _ => rfl)) pa_nil)) (pv 1))) (pss_cons (ps_asg (pe_op op_fdiv (pe_ix ix_list (pv 0) pe_int (fun _ _ => rfl)) (pv 1)) (pg_sub (pv 0) pe_int set_list)) (pss_one (ps_ret (pv 3))))) pss_nil) (pss_cons (ps_asg (pe_op op_add (pe_ix ix_list (pv 0) pe_int (fun _ _ => rfl)) pe_int) (pg_sub (pv 0) pe_int set_list)) (pss_cons (ps_set (i := 4) nd rfl (Or.inl rfl) (pe_op op_mod (pe_callTy call_int1 (by rfl) T.z_int (by decide +kernel) (pa_cons (pe_op op_mul (pe_callTy call_int1 (by rfl) T.z_int (by decide +kernel) (pa_cons (pe_op op_add (pe_ix ix_list (pv 0) pe_int (fun _ _ => rfl)) (pe_op op_mul pe_int (pe_ix ix_list (pv 0) pe_int (fun _ _ => rfl)))) pa_nil)) pe_int) pa_nil)) pe_int)) (pss_cons (ps_set (i := 4) nd rfl (Or.inl rfl) (pe_op op_mod (pe_callTy call_int1 (by rfl) T.z_int (by decide +kernel) (pa_cons (pe_op op_mul (pv 4) (pe_op op_add (pe_op op_fdiv (pv 4) pe_int) pe_int)) pa_nil)) pe_int)) (pss_cons (ps_set (i := 4) nd rfl (Or.inl rfl) (pe_op op_mod (pe_callTy call_int1 (by rfl) T.z_int (by decide +kernel) (pa_cons (pe_op op_mul (pv 4) (pe_op op_add (pe_op op_fdiv (pv 4) pe_int) pe_int)) pa_nil)) pe_int)) (pss_one (ps_ret (pe_op op_mod (pe_callTy call_int1 (by rfl) T.z_int (by decide +kernel) (pa_cons (pe_op op_fdiv (pv 4) pe_int) pa_nil)) (pv 1)))))))))), ?_⟩
    have hc := hh.ne
    obtain ⟨⟨i, u, s, d, h1⟩, h2⟩ := hh
    refine q_cut (M := fun σ' H' => ∃ y, σ' = [some (.ref h), some (.int (many : Int)), y, none, none] ∧ Bt h H H' ∧ ∃ (i : Nat) (u s d : Int), H' h = some (.lst [.ref c, .int (i : Int), .int u, .int s, .int d]) ∧ H' c = some (.lst (cells.map V.int))) ?_ fun σ' H' hM => ?_
    · refine s_when (b := decide (V.int u = V.int 0) && decide ((i : Int) < ((cells.map V.int).length : Int))) (et_and (et_test (ev_op (ev_ixL (K := K) (j := 2) (ev_var rfl) (sq_of h1) ev_c rfl) ev_c (rv_eq rfl))) fun _ => et_test (ev_op (ev_ixL (K := K) (j := 1) (ev_var rfl) (sq_of h1) ev_c rfl) (ev_lenS (K := K) (ev_ixL (K := K) (j := 0) (ev_var rfl) (sq_of h1) ev_c rfl) (.inl (sq_of h2))) rv_I0)) (fun hb H1 e1 => ?_) fun hb H1 e1 => ⟨none, rfl, .of e1, i, u, s, d, e1 _ _ h1, e1 _ _ h2⟩
      have hi : (i : Int) < ((cells.map V.int).length : Int) := of_decide_eq_true (Bool.and_eq_true_iff.mp hb).2
      have hi2 : i < cells.length := by rw [List.length_map] at hi; omega
      have hv : (cells.map V.int)[i]? = some (.int cells[i]) := by rw [List.getElem?_map, List.getElem?_eq_getElem hi2]; rfl
      have a1 := e1 _ _ h1
      have a2 := e1 _ _ h2
      refine q_asg (v := .int cells[i]) (ev_ixL (K := K) (ev_ixL (K := K) (j := 0) (ev_var rfl) (sq_of a1) ev_c rfl) (sq_of a2) (ev_ixL (K := K) (j := 1) (ev_var rfl) (sq_of a1) ev_c rfl) hv) fun H2 e2 => ?_
      have b1 := e2 _ _ a1
      refine q_setL (j := 1) b1 (ev_op (ev_ixL (K := K) (j := 1) (ev_var rfl) (sq_of b1) ev_c rfl) ev_c rv_I0) (ev_var rfl) ev_c (by show 1 < 5; decide) fun H3 e3 => ?_
      have c2 : (upd H3 h (.lst [.ref c, .int ((i : Int) + 1), .int u, .int s, .int d])) c = some (.lst (cells.map V.int)) := by rw [upd_ne hc]; exact e3 _ _ (e2 _ _ a2)
      have c1 : (upd H3 h (.lst [.ref c, .int ((i : Int) + 1), .int u, .int s, .int d])) h = some (.lst [.ref c, .int ((i : Int) + 1), .int u, .int s, .int d]) := upd_same
      have bb : Bt h H (upd H3 h (.lst [.ref c, .int ((i : Int) + 1), .int u, .int s, .int d])) := (Bt.of ((e1.trans e2).trans e3)).up
      show tSeq _ _ _ _ (upd H3 h (.lst [.ref c, .int ((i : Int) + 1), .int u, .int s, .int d]))
      generalize upd H3 h (.lst [.ref c, .int ((i : Int) + 1), .int u, .int s, .int d]) = H4 at c1 c2 bb
      refine q_setL (j := 3) c1 (ev_op (ev_intI (ev_op (ev_op (ev_op (ev_ixL (K := K) (j := 3) (ev_var rfl) (sq_of c1) ev_c rfl) ev_c (rv_mul (.inr ⟨by decide, by decide⟩))) (ev_op (ev_var rfl) ev_c (rv_mul (.inr ⟨by decide, by decide⟩))) rv_I0) ev_c rv_I0)) ev_c (rv_I (by decide))) (ev_var rfl) ev_c (by show 3 < 5; decide) fun H5 e5 => ?_
      generalize hs' : (s * 69621 + cells[i] * 40692 + 877) % 2147483629 = s'
      show tIfS _ _ _ _ _ (upd H5 h (.lst [.ref c, .int ((i : Int) + 1), .int u, .int s', .int d]))
      have d2 : (upd H5 h (.lst [.ref c, .int ((i : Int) + 1), .int u, .int s', .int d])) c = some (.lst (cells.map V.int)) := by rw [upd_ne hc]; exact e5 _ _ c2
      have d1 : (upd H5 h (.lst [.ref c, .int ((i : Int) + 1), .int u, .int s', .int d])) h = some (.lst [.ref c, .int ((i : Int) + 1), .int u, .int s', .int d]) := upd_same
      have bb2 : Bt h H (upd H5 h (.lst [.ref c, .int ((i : Int) + 1), .int u, .int s', .int d])) := (bb.ex e5).up
      generalize upd H5 h (.lst [.ref c, .int ((i : Int) + 1), .int u, .int s', .int d]) = H6 at d1 d2 bb2
      refine s_when (et_test (ev_op (ev_var rfl) (ev_op ev_c ev_c (rv_I ⟨by decide, by decide, by decide⟩)) rv_I0)) (fun _ H7 e7 => ?_) fun _ H7 e7 => ⟨_, rfl, bb2.ex e7, i + 1, u, s', d, e7 _ _ d1, e7 _ _ d2⟩
      refine s_setL (j := 2) (e7 _ _ d1) (ev_var rfl) (ev_var rfl) ev_c (by show 2 < 5; decide) fun H8 e8 => ⟨_, rfl, ((bb2.ex e7).ex e8).up, i + 1, cells[i], s', d, upd_same, ?_⟩
      rw [upd_ne hc]
      exact e8 _ _ (e7 _ _ d2)
    · obtain ⟨y, rfl, b, i, u, s, d, h1, h2⟩ := hM
      refine q_when (b := decide ((0 : Int) < u)) (et_test (ev_op (ev_ixL (K := K) (j := 2) (ev_var rfl) (sq_of h1) ev_c rfl) ev_c rv_I0)) (fun hb H1 e1 => ?_) fun hb H1 e1 => ?_
      · have a1 := e1 _ _ h1
        obtain ⟨r, hr1, hr2⟩ := mod_nat (a := u) hm
        refine q_asg (v := .int (r : Int)) (ev_is (ev_op (ev_intI (ev_ixL (K := K) (j := 2) (ev_var rfl) (sq_of a1) ev_c rfl)) (ev_var rfl) (rv_I (by omega))) (congrArg V.int hr2)) fun H2 e2 => ?_
        have b1 := e2 _ _ a1
        refine q_setL (j := 2) b1 (ev_op (ev_ixL (K := K) (j := 2) (ev_var rfl) (sq_of b1) ev_c rfl) (ev_var rfl) (rv_I ⟨by omega, by omega⟩)) (ev_var rfl) ev_c (by show 2 < 5; decide) fun H3 e3 => ?_
        refine s_ret (ev_var rfl) fun H4 e4 => k r H4 hr1 (((b.ex ((e1.trans e2).trans e3)).up).ex e4) ⟨⟨i, u / (many : Int), s, d, e4 _ _ upd_same⟩, e4 _ _ ?_⟩
        rw [upd_ne hc]
        exact e3 _ _ (e2 _ _ (e1 _ _ h2))
      · have a1 := e1 _ _ h1
        refine q_setL (j := 4) a1 (ev_op (ev_ixL (K := K) (j := 4) (ev_var rfl) (sq_of a1) ev_c rfl) ev_c rv_I0) (ev_var rfl) ev_c (by show 4 < 5; decide) fun H3 e3 => ?_
        show tSeq _ _ _ _ (upd H3 h (.lst [.ref c, .int (i : Int), .int u, .int s, .int (d + 1)]))
        have c2 : (upd H3 h (.lst [.ref c, .int (i : Int), .int u, .int s, .int (d + 1)])) c = some (.lst (cells.map V.int)) := by rw [upd_ne hc]; exact e3 _ _ (e1 _ _ h2)
        have c1 : (upd H3 h (.lst [.ref c, .int (i : Int), .int u, .int s, .int (d + 1)])) h = some (.lst [.ref c, .int (i : Int), .int u, .int s, .int (d + 1)]) := upd_same
        have bb : Bt h H (upd H3 h (.lst [.ref c, .int (i : Int), .int u, .int s, .int (d + 1)])) := (b.ex (e1.trans e3)).up
        generalize upd H3 h (.lst [.ref c, .int (i : Int), .int u, .int s, .int (d + 1)]) = H4 at c1 c2 bb
        refine q_asg (ev_op (ev_intI (ev_op (ev_intI (ev_op (ev_ixL (K := K) (j := 3) (ev_var rfl) (sq_of c1) ev_c rfl) (ev_op ev_c (ev_ixL (K := K) (j := 4) (ev_var rfl) (sq_of c1) ev_c rfl) (rv_mul (.inl ⟨by decide, by decide⟩))) rv_I0)) ev_c (rv_mul (.inr ⟨by decide, by decide⟩)))) ev_c (rv_I (by decide))) fun H5 e5 => ?_
        generalize hn1 : (s + 7919 * (d + 1)) * 48271 % 2147483647 = n1
        have s1 : -(2 ^ 64) < n1 ∧ n1 < 2 ^ 64 := hn1 ▸ mod_small (by decide) (by decide)
        refine q_asg (ev_op (ev_intI (ev_op (ev_var rfl) (ev_op (ev_op (ev_var rfl) ev_c (rv_I ⟨by decide, by decide⟩)) ev_c rv_I0) (rv_mul (.inl s1)))) ev_c (rv_I (by decide))) fun H6 e6 => ?_
        generalize hn2 : n1 * (n1 / 1009 + 69621) % 2147483647 = n2
        have s2 : -(2 ^ 64) < n2 ∧ n2 < 2 ^ 64 := hn2 ▸ mod_small (by decide) (by decide)
        refine q_asg (ev_op (ev_intI (ev_op (ev_var rfl) (ev_op (ev_op (ev_var rfl) ev_c (rv_I ⟨by decide, by decide⟩)) ev_c rv_I0) (rv_mul (.inl s2)))) ev_c (rv_I (by decide))) fun H7 e7 => ?_
        generalize hn3 : n2 * (n2 / 2003 + 40692) % 2147483399 = n3
        obtain ⟨r, hr1, hr2⟩ := mod_nat (a := n3 / 16) hm
        refine s_ret (v := .int (r : Int)) (ev_is (ev_op (ev_intI (ev_op (ev_var rfl) ev_c (rv_I ⟨by decide, by decide⟩))) (ev_var rfl) (rv_I (by omega))) (congrArg V.int hr2)) fun H8 e8 => ?_
        have e48 := ((e5.trans e6).trans e7).trans e8
        exact k r H8 hr1 (bb.ex e48) ⟨⟨i, u, s, d + 1, e48 _ _ c1⟩, e48 _ _ c2⟩
/-! ### common -/
theorem ok_law_common (T : Top K mg) : FnOk P w K mg base CX0 1 T.a__law_common T.fd__law_common ["one", "other"] sp_common := by
  refine T.F__law_common.ok sc_law_common (fun vs H Q E h => ?_) (fun cdv A outer s H vs Q E hr h => ?_)
  · obtain ⟨a, b, rfl, _⟩ := h
    rfl
  · obtain ⟨a, b, rfl, k⟩ := h
    have nd := sc_law_common.nd
    refine ⟨_, (pss_cons (ps_while PassesOwn.never (pt_cmpR op_gt (pv 1) pe_int (nomark _)) (pss_one (ps_par (i := 0) (j := 1) rfl nd rfl rfl (by decide) rfl rfl (pa_cons (pv 1) (pa_cons (pe_op op_mod (pe_callTy call_int1 (by rfl) T.z_int (by decide +kernel) (pa_cons (pv 0) pa_nil)) (pv 1)) pa_nil)) (by rfl)))) (pss_one (ps_ret (pv 0)))), ?_⟩
    refine q_while (fun m σ H' => ∃ x y : Nat, σ = [some (.int x), some (.int y)] ∧ Nat.gcd x y = Nat.gcd a b ∧ y = m ∧ Ex H H') b ⟨a, b, rfl, rfl, rfl, Ex.refl H⟩ fun m σ' H' hw => ?_
    obtain ⟨x, y, rfl, hg, rfl, e2⟩ := hw
    refine ⟨decide ((0 : Int) < (y : Int)), et_test (ev_op (ev_var rfl) ev_c rv_I0), fun hb H3 e3 => ?_, fun hb H3 e3 => ?_⟩
    · have hy : (0 : Int) < (y : Int) := of_decide_eq_true hb
      refine ⟨fun σ H' => ∃ u v : Nat, σ = [some (.int u), some (.int v)] ∧ Nat.gcd u v = Nat.gcd a b ∧ v < y ∧ Ex H H', fun σ2 H2 ⟨u, v, h1, h2, h3, h4⟩ => ⟨v, h3, u, v, h1, h2, rfl, h4⟩, ?_⟩
      refine s_par (ea_cons (ev_var rfl) (ea_cons (ev_op (ev_intI (ev_var rfl)) (ev_var rfl) (rv_I hy)) ea_nil)) fun H4 e4 => ⟨y, x % y, rfl, ?_, Nat.mod_lt _ (by omega), (e2.trans e3).trans e4⟩
      rw [Nat.gcd_comm, ← Nat.gcd_rec, Nat.gcd_comm]
      exact hg
    · have hy : ¬ (0 : Int) < (y : Int) := of_decide_eq_false hb
      obtain rfl : y = 0 := by omega
      rw [Nat.gcd_zero_right] at hg
      subst hg
      exact s_ret (ev_var rfl) fun H4 e4 => k H4 ((e2.trans e3).trans e4)
/-! ### paid -/
def sp__law_paid (K : PySem.W.Frag) : Sp := fun vs H Q _ => ∃ (l : Addr) (cs : List Nat) (n : Nat), vs = [.ref l, .int n] ∧ (SqL K H l (nv cs) ∨ SqT K H l (nv cs)) ∧ (∀ c ∈ cs, 0 < c) ∧ cs.length ≤ 40000 ∧ n ≤ 40000 ∧ RetL (bv (pb cs) (n + 1)) H Q
theorem sl_law_paid {H : Hp} {l : Addr} {cs : List Nat} {n : Nat} (hl : SqL K H l (nv cs) ∨ SqT K H l (nv cs)) (hc : ∀ c ∈ cs, 0 < c) (hz : cs.length ≤ 40000) (hn : n ≤ 40000) : SpL (sp__law_paid K) [.ref l, .int n] H (bv (pb cs) (n + 1)) := fun H1 e Q q E =>
  ⟨l, cs, n, rfl, hl.imp (ex_l e) (ex_t e), hc, hz, hn, q⟩
theorem ok_law_paid (T : Top K mg) : FnOk P w K mg base CX0 1 T.a__law_paid T.fd__law_paid ["coins", "upto"] (sp__law_paid K) := by
  refine T.F__law_paid.ok sc_law_paid (fun vs H Q E h => ?_) (fun cdv A outer s H vs Q E hr h => ?_)
  · obtain ⟨l, cs, n, rfl, _⟩ := h
    rfl
  · obtain ⟨l, cs, n, rfl, hl, hc, hz, hn, k⟩ := h
    have nd := sc_law_paid.nd
    refine ⟨_, (pss_cons (ps_set (i := 2) nd rfl (Or.inr rfl) (pe_op op_cat (pe_lst (pa_cons pe_bl pa_nil)) (pe_op op_rep (pe_lst (pa_cons pe_bl pa_nil)) (pv 1)))) (pss_cons (ps_for PassesOwn.never rfl (pi_range2 rfl T.z_range (pa_cons pe_int (pa_cons (pe_op op_add (pv 1) pe_int) pa_nil))) (pg_name (i := 3) nd rfl (Or.inr rfl)) (pss_one (ps_asg (pe_callB (cr_any rfl) (by rfl) T.z_any (by decide +kernel) (pa_cons (pe_lc (own := [("coin", 4)]) (by rfl) nd (PI.or (pi_list (pv 0)) (pi_tup (pv 0))) (blkOk_by (own := [("coin", 4)]) (N := n_law_paid) (sc := defScope s_law_paid) (by decide +kernel)) (fun _ _ _ _ _ => (pg_name (i := 4) nd rfl (Or.inl rfl))) (fun _ _ _ _ _ => pts_nil) (fun _ _ _ _ _ => (pe_and (pe_cmpR op_le (pv 4) (pv 3) (nomark _)) (pe_one (pe_ix (show IxR _ (rIxL K) from ix_list) (pv 2) (pe_op op_sub (pv 3) (pv 4)) (fun _ _ => rfl)))))) pa_nil)) (pg_sub (pv 2) (pv 3) set_list)))) (pss_one (ps_ret (pv 2))))), ?_⟩
    refine q_asgL (el_is (el_cat (el_lst (ea_cons ev_c ea_nil) (by show 1 ≤ 100000; decide)) (el_rep1 (v := .bl false) (el_lst (ea_cons ev_c ea_nil) (by show 1 ≤ 100000; decide)) (ev_var rfl) (by omega)) (by rw [List.length_replicate]; show 1 + n ≤ 100000; omega)) (bv_start cs n)) fun p H1 np e1 hp => ?_
    refine q_forR2 (lo := 1) (n := (n : Int) + 1) (ea_cons ev_c (ea_cons (ev_op (ev_var rfl) ev_c rv_I0) ea_nil)) ⟨by omega, by omega, by omega, by omega⟩
      (fun i σ' H' => ∃ y, σ' = [some (.ref l), some (.int (n : Int)), some (.ref p), y, none] ∧ Ex H H' ∧ H' p = some (.lst (bv (fun k => if k < 1 + i then pb cs k else false) (n + 1))))
      (fun H4 e4 => ⟨none, rfl, e1.trans e4, e4 _ _ hp⟩) (fun i σ' H' hi hp' => ?_) (fun σ' H' hp' => ?_)
    · obtain ⟨y, rfl, e, h3⟩ := hp'
      have en : ((1 : Int) + (i : Int)) = ((1 + i : Nat) : Int) := by omega
      have hcs : ∀ j : Nat, (nv cs)[j]? = some (.int ((cs.getD j 0 : Nat) : Int)) ∨ (nv cs)[j]? = none := fun j => by
        unfold nv
        rw [List.getElem?_map, List.getD_eq_getElem?_getD]
        cases cs[j]? with
        | none => exact .inr rfl
        | some c => exact .inl rfl
      have eb : ((List.range cs.length).map fun j => (decide (cs.getD j 0 ≤ 1 + i) && pb cs (1 + i - cs.getD j 0))).any id = pb cs (1 + i) := by
        rw [any_range 0 (fun c => decide (c ≤ 1 + i) && pb cs (1 + i - c)), ← pb_step (by omega)]
      refine s_setL (l := p) (j := 1 + i) (v := .bl (pb cs (1 + i))) h3 (ev_is (ev_anyN (K := K) (bs := (List.range cs.length).map fun j => (decide (cs.getD j 0 ≤ 1 + i) && pb cs (1 + i - cs.getD j 0))) (el_is (el_lcS (K := K) (a := l) (xs := nv cs) (fun _ => true) (fun j => .bl (decide (cs.getD j 0 ≤ 1 + i) && pb cs (1 + i - cs.getD j 0))) (ev_var rfl) (hl.imp (ex_l e) (ex_t e)) (by rw [nv_len]; exact hz) (fun x => rfl) (fun j x H5 e5 hx => fun H6 e6 Q q => q H6 (Ex.refl H6)) (fun j x H5 e5 hx _ => ?_)) ?_)) (congrArg V.bl eb)) (ev_var rfl) (ev_is (ev_var rfl) (congrArg V.int en)) (by rw [bv_len]; omega) fun H5 e5 => ⟨_, rfl, (e.trans e5).mut np, ?_⟩
      · have hx2 : x = .int ((cs.getD j 0 : Nat) : Int) := by
          rcases hcs j with q | q
          · rw [q] at hx; exact (Option.some.inj hx).symm
          · rw [q] at hx; cases hx
        have c0 : 0 < cs.getD j 0 := by
          obtain ⟨c, h1, h2⟩ := nv_get hx
          rw [List.getD_eq_getElem?_getD, h1]
          exact hc c (List.mem_of_getElem? h1)
        subst hx2
        refine ev_is (ev_andV (a := decide (((cs.getD j 0 : Nat) : Int) ≤ 1 + (i : Int))) (b := pb cs (1 + i - cs.getD j 0)) (ev_op (ev_var rfl) (ev_var rfl) rv_I0) fun hb => ?_) ?_
        · have hb := of_decide_eq_true hb
          refine ev_ixL (K := K) (j := 1 + i - cs.getD j 0) (ev_var rfl) (sq_of (e5 _ _ h3)) (ev_is (ev_op (ev_var rfl) (ev_var rfl) rv_I0) (congrArg V.int (by omega))) ?_
          rw [bv_get (by omega), if_pos (by omega)]
        · have : decide (((cs.getD j 0 : Nat) : Int) ≤ 1 + (i : Int)) = decide (cs.getD j 0 ≤ 1 + i) := decide_eq_decide.mpr (by omega)
          rw [this]
      · rw [given_all, nv_len, List.map_map]
        rfl
      · rw [upd_same]
        have z := bv_set (f := fun k => if k < 1 + i then pb cs k else false) (g := fun k => if k < 1 + (i + 1) then pb cs k else false) (n := n + 1) (j := 1 + i) (by omega) fun k hk hne => by
          show (if k < 1 + i then pb cs k else false) = if k < 1 + (i + 1) then pb cs k else false
          by_cases q : k < 1 + i
          · rw [if_pos q, if_pos (by omega)]
          · rw [if_neg q, if_neg (by omega)]
        rw [← z, if_pos (by omega)]
    · obtain ⟨y, rfl, e, h3⟩ := hp'
      refine s_ret (ev_var rfl) fun H4 e4 => k p H4 np (e.trans e4) ?_
      rw [e4 _ _ h3]
      congr 2
      exact bv_congr fun k hk => if_pos (by omega)
/-! ### ways -/
theorem ok_law_ways (T : Top K mg) : FnOk P w K mg base CX0 1 T.a__law_ways T.fd__law_ways ["coins", "most"] (sp_small_ways K) := by
  refine T.F__law_ways.ok sc_law_ways (fun vs H Q E h => ?_) (fun cdv A outer s H vs Q E hr h => ?_)
  · obtain ⟨t, cs, most, rfl, _⟩ := h
    rfl
  · obtain ⟨t, cs, most, rfl, ht, hm, hc, k⟩ := h
    have nd := sc_law_ways.nd
    refine ⟨_, (pss_cons (ps_set (i := 2) nd rfl (Or.inl rfl) (pe_op op_cat (pe_lst (pa_cons pe_int pa_nil)) (pe_op op_rep (pe_lst (pa_cons pe_int pa_nil)) (pv 1)))) (pss_cons (ps_for PassesOwn.never rfl (pi_tup (pv 0)) (pg_name (i := 3) nd rfl (Or.inl rfl)) (pss_one (ps_for PassesOwn.never rfl (pi_range2 rfl T.z_range (pa_cons (pv 3) (pa_cons (pe_op op_add (pv 1) pe_int) pa_nil))) (pg_name (i := 4) nd rfl (Or.inl rfl)) (pss_one (ps_asg (pe_op op_add (pe_ix ix_list (pv 2) (pv 4) (fun _ _ => rfl)) (pe_ix ix_list (pv 2) (pe_op op_sub (pv 4) (pv 3)) (fun _ _ => rfl))) (pg_sub (pv 2) (pv 4) set_list)))))) (pss_one (ps_ret (pv 2))))), ?_⟩
    refine q_asgL (el_is (el_cat (el_lst (ea_cons ev_c ea_nil) (by show 1 ≤ 100000; decide)) (el_rep1 (v := .int 0) (el_lst (ea_cons ev_c ea_nil) (by show 1 ≤ 100000; decide)) (ev_var rfl) (by omega)) (by rw [List.length_replicate]; show 1 + most ≤ 100000; omega)) (dl_row most)) fun l H1 nl e1 hl => ?_
    refine q_forT (ev_var rfl) (ex_t e1 ht) (fun i σ' H' => ∃ a b, σ' = [some (.ref t), some (.int (most : Int)), some (.ref l), a, b] ∧ Ex H H' ∧ H' l = some (.lst (iv (ics (cs.take i) dl) (most + 1))))
      (fun H2 e2 => ⟨none, none, rfl, e1.trans e2, e2 _ _ hl⟩) (fun i σ' H' _ ⟨_, _, _, e, _⟩ => ex_t e ht) (fun i x σ' H' hx hp' => ?_) (fun σ' H' hp' => ?_)
    · obtain ⟨a, b, rfl, e, h3⟩ := hp'
      obtain ⟨c, hcc, rfl⟩ := nv_get hx
      obtain ⟨c0, c1⟩ := hc c (List.mem_of_getElem? hcc)
      refine s_forR2 (lo := (c : Int)) (n := (most : Int) + 1) (ea_cons (ev_var rfl) (ea_cons (ev_op (ev_var rfl) ev_c rv_I0) ea_nil)) ⟨by omega, by omega, by omega, by omega⟩
        (fun j σ' H' => ∃ b, σ' = [some (.ref t), some (.int (most : Int)), some (.ref l), some (.int (c : Int)), b] ∧ Ex H H' ∧ H' l = some (.lst (iv (upto c j (ics (cs.take i) dl)) (most + 1))))
        (fun H4 e4 => ⟨_, rfl, e.trans e4, ?_⟩) (fun j σ' H' hj hp' => ?_) (fun σ' H' hp' => ?_)
      · rw [upto_zero c0]
        exact e4 _ _ h3
      · obtain ⟨b, rfl, e4, h4⟩ := hp'
        have hcj : ((c : Int) + (j : Int)) = ((c + j : Nat) : Int) := by omega
        have hcc2 : ((c : Int) + (j : Int)) - (c : Int) = (j : Int) := by omega
        refine s_setL (l := l) (j := c + j) (v := .int (upto c j (ics (cs.take i) dl) (c + j) + upto c j (ics (cs.take i) dl) j)) h4 (ev_op (ev_ixL (K := K) (ev_var rfl) (sq_of h4) (ev_is (ev_var rfl) (congrArg V.int hcj)) (iv_get (by omega))) (ev_ixL (K := K) (ev_var rfl) (sq_of h4) (ev_is (ev_op (ev_var rfl) (ev_var rfl) rv_I0) (congrArg V.int hcc2)) (iv_get (by omega))) rv_I0) (ev_var rfl) (ev_is (ev_var rfl) (congrArg V.int hcj)) (by rw [iv_len]; omega) fun H5 e5 => ⟨_, rfl, (e4.trans e5).mut nl, ?_⟩
        rw [upd_same, upto_set c0 _ (by omega)]
      · obtain ⟨b, rfl, e4, h4⟩ := hp'
        refine ⟨_, _, rfl, e4, ?_⟩
        rw [h4, upto_end c0, take_next hcc, ics_snoc]
    · obtain ⟨a, b, rfl, e, h3⟩ := hp'
      rw [nv_len, List.take_length] at h3
      exact s_ret (ev_var rfl) fun H4 e4 => k l H4 nl (e.trans e4) (e4 _ _ h3)
/-! ### lots -/
/-- one coin's turn downwards -/
def dnto (c most t : Nat) (f : Nat → Int) (k : Nat) : Int := if most - t < k ∨ most < t then mc c f k else f k
def sp__law_lots (K : PySem.W.Frag) : Sp := fun vs H Q _ => ∃ (t : Addr) (cs : List Nat) (most : Nat), vs = [.ref t, .int most] ∧ SqT K H t (nv cs) ∧ most < 50000 ∧ (∀ c ∈ cs, 0 < c ∧ c ≤ 50000) ∧ RetL (iv (mcs cs dl) (most + 1)) H Q
theorem ok_law_lots (T : Top K mg) : FnOk P w K mg base CX0 1 T.a__law_lots T.fd__law_lots ["coins", "most"] (sp__law_lots K) := by
  refine T.F__law_lots.ok sc_law_lots (fun vs H Q E h => ?_) (fun cdv A outer s H vs Q E hr h => ?_)
  · obtain ⟨t, cs, most, rfl, _⟩ := h
    rfl
  · obtain ⟨t, cs, most, rfl, ht, hm, hc, k⟩ := h
    have nd := sc_law_lots.nd
    refine ⟨_, (pss_cons (ps_set (i := 2) nd rfl (Or.inl rfl) (pe_op op_cat (pe_lst (pa_cons pe_int pa_nil)) (pe_op op_rep (pe_lst (pa_cons pe_int pa_nil)) (pv 1)))) (pss_cons (ps_for PassesOwn.never rfl (pi_tup (pv 0)) (pg_name (i := 3) nd rfl (Or.inl rfl)) (pss_one (ps_for PassesOwn.never rfl (pi_range3 rfl T.z_range (pa_cons (pv 1) (pa_cons (pe_op op_sub (pv 3) pe_int) (pa_cons (pe_un un_neg pe_int) pa_nil)))) (pg_name (i := 4) nd rfl (Or.inl rfl)) (pss_one (ps_asg (pe_op op_sub (pe_ix ix_list (pv 2) (pv 4) (fun _ _ => rfl)) (pe_ix ix_list (pv 2) (pe_op op_sub (pv 4) (pv 3)) (fun _ _ => rfl))) (pg_sub (pv 2) (pv 4) set_list)))))) (pss_one (ps_ret (pv 2))))), ?_⟩
    refine q_asgL (el_is (el_cat (el_lst (ea_cons ev_c ea_nil) (by show 1 ≤ 100000; decide)) (el_rep1 (v := .int 0) (el_lst (ea_cons ev_c ea_nil) (by show 1 ≤ 100000; decide)) (ev_var rfl) (by omega)) (by rw [List.length_replicate]; show 1 + most ≤ 100000; omega)) (dl_row most)) fun l H1 nl e1 hl => ?_
    refine q_forT (ev_var rfl) (ex_t e1 ht) (fun i σ' H' => ∃ a b, σ' = [some (.ref t), some (.int (most : Int)), some (.ref l), a, b] ∧ Ex H H' ∧ H' l = some (.lst (iv (mcs (cs.take i) dl) (most + 1))))
      (fun H2 e2 => ⟨none, none, rfl, e1.trans e2, e2 _ _ hl⟩) (fun i σ' H' _ ⟨_, _, _, e, _⟩ => ex_t e ht) (fun i x σ' H' hx hp' => ?_) (fun σ' H' hp' => ?_)
    · obtain ⟨a, b, rfl, e, h3⟩ := hp'
      obtain ⟨c, hcc, rfl⟩ := nv_get hx
      obtain ⟨c0, c1⟩ := hc c (List.mem_of_getElem? hcc)
      refine s_forDown (hi := (most : Int)) (lo := (c : Int) - 1) (ea_cons (ev_var rfl) (ea_cons (ev_op (ev_var rfl) ev_c rv_I0) (ea_cons (ev_un ev_c ru_neg) ea_nil))) ⟨by omega, by omega, by omega, by omega⟩
        (fun j σ' H' => ∃ b, σ' = [some (.ref t), some (.int (most : Int)), some (.ref l), some (.int (c : Int)), b] ∧ Ex H H' ∧ H' l = some (.lst (iv (fun k => if (most : Int) - (j : Int) < (k : Int) then mc c (mcs (cs.take i) dl) k else mcs (cs.take i) dl k) (most + 1))))
        (fun H4 e4 => ⟨_, rfl, e.trans e4, ?_⟩) (fun j σ' H' hj hp' => ?_) (fun σ' H' hp' => ?_)
      · rw [e4 _ _ h3]
        congr 2
        refine iv_congr fun k hk => ?_
        rw [if_neg (by omega)]
      · obtain ⟨b, rfl, e4, h4⟩ := hp'
        have hN : ((most : Int) - (j : Int)) = ((most - j : Nat) : Int) := by omega
        have hcc2 : ((most : Int) - (j : Int)) - (c : Int) = ((most - j - c : Nat) : Int) := by omega
        have ev : mcs (cs.take i) dl (most - j) - mcs (cs.take i) dl (most - j - c) = mc c (mcs (cs.take i) dl) (most - j) := by
          unfold mc sh
          rw [if_pos (by omega)]
        refine s_setL (l := l) (j := most - j) (v := .int (mc c (mcs (cs.take i) dl) (most - j))) h4 (ev_is (ev_op (x := .int (mcs (cs.take i) dl (most - j))) (y := .int (mcs (cs.take i) dl (most - j - c))) (ev_ixL (K := K) (ev_var rfl) (sq_of h4) (ev_is (ev_var rfl) (congrArg V.int hN)) ?_) (ev_ixL (K := K) (ev_var rfl) (sq_of h4) (ev_is (ev_op (ev_var rfl) (ev_var rfl) rv_I0) (congrArg V.int hcc2)) ?_) rv_I0) (congrArg V.int ev)) (ev_var rfl) (ev_is (ev_var rfl) (congrArg V.int hN)) (by rw [iv_len]; omega) fun H5 e5 => ⟨_, rfl, (e4.trans e5).mut nl, ?_⟩
        · rw [iv_get (by omega), if_neg (by omega)]
        · rw [iv_get (by omega), if_neg (by omega)]
        · rw [upd_same]
          have z := iv_set (f := fun k => if (most : Int) - (j : Int) < (k : Int) then mc c (mcs (cs.take i) dl) k else mcs (cs.take i) dl k) (g := fun k => if (most : Int) - ((j + 1 : Nat) : Int) < (k : Int) then mc c (mcs (cs.take i) dl) k else mcs (cs.take i) dl k) (n := most + 1) (j := most - j) (by omega) fun k hk hne => by
            show (if (most : Int) - (j : Int) < (k : Int) then mc c (mcs (cs.take i) dl) k else mcs (cs.take i) dl k) = if (most : Int) - ((j + 1 : Nat) : Int) < (k : Int) then mc c (mcs (cs.take i) dl) k else mcs (cs.take i) dl k
            by_cases q : (most : Int) - (j : Int) < (k : Int)
            · rw [if_pos q, if_pos (by omega)]
            · rw [if_neg q, if_neg (by omega)]
          rw [← z, if_pos (by omega)]
      · obtain ⟨b, rfl, e4, h4⟩ := hp'
        refine ⟨_, _, rfl, e4, ?_⟩
        rw [h4, take_next hcc, mcs_snoc]
        congr 2
        refine iv_congr fun k hk => ?_
        by_cases q : c ≤ k
        · rw [if_pos (by omega)]
        · have : mc c (mcs (cs.take i) dl) k = mcs (cs.take i) dl k := by
            unfold mc sh
            rw [if_neg q, Int.sub_zero]
          rw [this]
          split <;> rfl
    · obtain ⟨a, b, rfl, e, h3⟩ := hp'
      rw [nv_len, List.take_length] at h3
      exact s_ret (ev_var rfl) fun H4 e4 => k l H4 nl (e.trans e4) (e4 _ _ h3)
/-! ### times -/
def sp__law_times (K : PySem.W.Frag) : Sp := fun vs H Q _ => ∃ (r o : Addr) (f g : Nat → Int) (a b n : Nat), vs = [.ref r, .ref o, .int n] ∧ SqT K H r (iv f a) ∧ (SqL K H o (iv g b) ∨ SqT K H o (iv g b)) ∧ n < b ∧ n ≤ 30000 ∧ a ≤ 30000 ∧ (∀ k, a ≤ k → f k = 0) ∧ (∀ k, -(2 ^ 64) < f k ∧ f k < 2 ^ 64) ∧ RetV (.int (conv f g n)) H Q
theorem sv_law_times {H : Hp} {r o : Addr} {f g : Nat → Int} {a b n : Nat} (hr : SqT K H r (iv f a)) (ho : SqL K H o (iv g b) ∨ SqT K H o (iv g b)) (hn : n < b) (hn2 : n ≤ 30000) (ha : a ≤ 30000) (he : ∀ k, a ≤ k → f k = 0) (hf : ∀ k, -(2 ^ 64) < f k ∧ f k < 2 ^ 64) : SpV (sp__law_times K) [.ref r, .ref o, .int n] H (.int (conv f g n)) := fun H1 e Q q E =>
  ⟨r, o, f, g, a, b, n, rfl, ex_t e hr, ho.imp (ex_l e) (ex_t e), hn, hn2, ha, he, hf, q⟩
theorem iv_take (f : Nat → Int) (a n : Nat) : (iv f a).take n = iv f (min n a) := by
  unfold iv
  rw [← List.map_take, List.take_range]
theorem ok_law_times (T : Top K mg) : FnOk P w K mg base CX0 1 T.a__law_times T.fd__law_times ["one", "other", "number"] (sp__law_times K) := by
  refine T.F__law_times.ok sc_law_times (fun vs H Q E h => ?_) (fun cdv A outer s H vs Q E hr h => ?_)
  · obtain ⟨r, o, f, g, a, b, n, rfl, _⟩ := h
    rfl
  · obtain ⟨r, o, f, g, a, b, n, rfl, hR, ho, hn, hn2, ha, he, hf, k⟩ := h
    have nd := sc_law_times.nd
    refine ⟨_, (pss_one (ps_ret (pe_callB (cr_sum rfl) (by rfl) T.z_sum (by decide +kernel) (pa_cons (pe_lc (own := [("at", 3), ("item", 4)]) (by rfl) nd (pi_enumT (by rfl) T.z_enumerate (pa_cons (pe_slice sl_tupA (pv 0) po_none (po_some (pe_op op_add (pv 2) pe_int))) pa_nil)) (blkOk_by (own := [("at", 3), ("item", 4)]) (N := n_law_times) (sc := defScope s_law_times) (by decide +kernel)) (fun _ _ _ _ _ => (show PG _ _ (gTup K 2 (gCons (gName 3) (gCons (gName 4) gNil))) from (pg_tup rfl (pgs_cons (pg_name (i := 3) nd rfl (Or.inl rfl)) (pgs_cons (pg_name (i := 4) nd rfl (Or.inl rfl)) pgs_nil))))) (fun _ _ _ _ _ => pts_one (pt_cmpR op_ne (pv 4) pe_int (nomark _))) (fun _ _ _ _ _ => (pe_op op_mul (pv 4) (pe_ix (show IxR _ (rIxS2 K) from ix_seq) (pv 1) (pe_op op_sub (pv 2) (pv 3)) (fun _ _ => rfl))))) pa_nil)))), ?_⟩
    have et : (iv f a).take (n + 1) = iv f (min (n + 1) a) := iv_take f a (n + 1)
    obtain ⟨ns, en, es⟩ := given_ints (n := (iv f (min (n + 1) a)).length) (f := fun j => !decide (V.int (f j) = V.int 0)) (v := fun j => f j * g (n - j))
    have hsum : ns.sum = conv f g n := by
      rw [es, iv_len]
      rw [sumN_congr (g := fun j => f j * g (n - j)) _ fun j _ => by
        show (if (!decide (V.int (f j) = V.int 0)) = true then f j * g (n - j) else 0) = f j * g (n - j)
        by_cases h0 : f j = 0
        · rw [h0, Int.zero_mul]
          split <;> rfl
        · rw [decide_eq_false (fun z => h0 (V.int.inj z))]
          rfl]
      unfold conv
      by_cases q : n + 1 ≤ a
      · rw [Nat.min_eq_left q]
      · rw [Nat.min_eq_right (by omega)]
        obtain ⟨d, hd⟩ : ∃ d, n + 1 = a + d := ⟨n + 1 - a, by omega⟩
        rw [hd, sumN_split, sumN_zero d fun j _ => by rw [he (a + j) (by omega), Int.zero_mul], Int.add_zero]
    refine s_ret (v := .int (conv f g n)) (ev_is (ev_sumN (K := K) (el_is (el_lcEnumS (K := K) (xs := iv f (min (n + 1) a)) (fun j => !decide (V.int (f j) = V.int 0)) (fun j => V.int (f j * g (n - j))) (et ▸ EvS.slToN (n := n + 1) (ev_var rfl) hR (ev_op (ev_var rfl) ev_c rv_I0)) (by rw [iv_len]; omega) (fun _ _ => rfl) (fun j x H5 e5 hx => ?_) (fun j x H5 e5 hx _ => ?_)) en)) (congrArg V.int hsum)) fun H4 e4 => k H4 e4
    · obtain ⟨hj, rfl⟩ := iv_of hx
      exact et_test (ev_op (ev_var rfl) ev_c (rv_ne rfl))
    · obtain ⟨hj, rfl⟩ := iv_of hx
      have hnj : (n : Int) - (j : Int) = ((n - j : Nat) : Int) := by omega
      exact ev_op (ev_var rfl) (ev_ixS (K := K) (ev_var rfl) (ho.imp (ex_l e5) (ex_t e5)) (ev_is (ev_op (ev_var rfl) (ev_var rfl) rv_I0) (congrArg V.int hnj)) (iv_get (by omega))) (rv_mul (.inl (hf j)))
end
end Pd

/-! The coins that the law draws. -/
namespace Pd
open PySem PySem.Spec PyProof.Rows L2 Evl
/-! ### plain -/
noncomputable def tst (some : List Nat) (c : Nat) : Bool := some.any fun d => decide (d < c) && pb some (c - d)
noncomputable def kpt (some : List Nat) : List Nat := some.filter fun c => !tst some c
/-- coins as the law leaves them -/
structure Drawn (least many top : Nat) (cs : List Nat) : Prop where
  asc : cs.Pairwise (· < ·)
  two : ∀ c ∈ cs, 2 ≤ c ∧ c ≤ top
  len : least ≤ cs.length ∧ cs.length ≤ many
  gcd : gcdL cs = 1
  need : ∀ a c b, cs = a ++ c :: b → ¬ Pay a c
theorem kpt_sub (some : List Nat) : ∀ c ∈ kpt some, c ∈ some ∧ tst some c = false := fun c h => by
  obtain ⟨h1, h2⟩ := List.mem_filter.mp h
  refine ⟨h1, ?_⟩
  cases e : tst some c with
  | false => rfl
  | true => rw [e] at h2; cases h2
theorem kpt_need {some : List Nat} (asc : some.Pairwise (· < ·)) (two : ∀ c ∈ some, 2 ≤ c) : ∀ a c b, kpt some = a ++ c :: b → ¬ Pay a c := fun a c b e p => by
  have ha : (kpt some).Pairwise (· < ·) := List.Pairwise.filter _ asc
  rw [e] at ha
  obtain ⟨_, _, h3⟩ := List.pairwise_append.mp ha
  have hc : c ∈ kpt some := by rw [e]; simp
  obtain ⟨c1, c2⟩ := kpt_sub some c hc
  rcases p.inv with h0 | ⟨d, hd, hl, q⟩
  · have := two c c1
    omega
  · have dk : d ∈ kpt some := by rw [e]; exact List.mem_append_left _ hd
    have hlt : d < c := h3 d hd c (by simp)
    have : tst some c = true := by
      unfold tst
      rw [List.any_eq_true]
      refine ⟨d, (kpt_sub some d dk).1, ?_⟩
      rw [decide_eq_true hlt, Bool.true_and, pb_iff]
      exact q.mono fun x hx => (kpt_sub some x (by rw [e]; exact List.mem_append_left _ hx)).1
    rw [this] at c2
    cases c2
def fall (least : Nat) : List Nat := (List.range least).map fun i => least + 1 + i
theorem fall_drawn {least many top : Nat} (h2 : 2 ≤ least) (hm : least ≤ many) (ht : 2 * least ≤ top) : Drawn least many top (fall least) := by
  have mem : ∀ c, c ∈ fall least → least + 1 ≤ c ∧ c ≤ 2 * least := fun c hc => by
    obtain ⟨i, hi, rfl⟩ := List.mem_map.mp hc
    have := List.mem_range.mp hi
    omega
  have asc : (fall least).Pairwise (· < ·) := List.pairwise_map.mpr (List.pairwise_lt_range.imp fun h => by omega)
  refine ⟨asc, fun c hc => by have := mem c hc; omega, by unfold fall; rw [List.length_map, List.length_range]; omega, gcdL_one.mpr fun d hd => ?_, fun a c b e p => ?_⟩
  · have d1 : d ∣ least + 1 := hd _ (List.mem_map.mpr ⟨0, List.mem_range.mpr (by omega), rfl⟩)
    have d2 : d ∣ least + 1 + 1 := hd _ (List.mem_map.mpr ⟨1, List.mem_range.mpr (by omega), rfl⟩)
    exact Nat.dvd_one.mp ((Nat.dvd_add_right d1).mp d2)
  · have hc := mem c (by rw [e]; simp)
    rw [e] at asc
    obtain ⟨_, _, h3⟩ := List.pairwise_append.mp asc
    rcases p.inv with h0 | ⟨d, hd, hl, q⟩
    · omega
    · have hdl := mem d (by rw [e]; exact List.mem_append_left _ hd)
      have hlt : d < c := h3 d hd c (by simp)
      rcases q.inv with h0 | ⟨d', hd', hl', _⟩
      · omega
      · have hdl' := mem d' (by rw [e]; exact List.mem_append_left _ hd')
        omega
/-! ### dict, sorted -/
theorem putK_in {acc : List (Key × V)} {k : Key} {v : V} (h : k ∈ acc.map (·.1)) : (putK acc k v).map (·.1) = acc.map (·.1) := by
  unfold putK
  have ha : (acc.any fun kv => decide (kv.1 = k)) = true := by
    obtain ⟨x, hx, e⟩ := List.mem_map.mp h
    exact List.any_eq_true.mpr ⟨x, hx, decide_eq_true e⟩
  rw [if_pos ha, List.map_map]
  refine List.map_congr_left fun x _ => ?_
  show (if x.1 = k then (x.1, v) else x).1 = x.1
  split <;> rfl
theorem putK_new {acc : List (Key × V)} {k : Key} {v : V} (h : ¬ k ∈ acc.map (·.1)) : (putK acc k v).map (·.1) = acc.map (·.1) ++ [k] := by
  unfold putK
  have ha : ¬ (acc.any fun kv => decide (kv.1 = k)) = true := fun z => h (by
    obtain ⟨x, hx, e⟩ := List.any_eq_true.mp z
    exact List.mem_map.mpr ⟨x, hx, of_decide_eq_true e⟩)
  rw [if_neg ha, List.map_append]
  rfl
def ky (n : Nat) : Key := Sum.inl (n : Int)
theorem ky_inj {a b : Nat} (h : ky a = ky b) : a = b := by
  have := Sum.inl.inj h
  omega
theorem merge_keys : ∀ (ps : List (Nat × Int)) (acc : List (Key × V)) (ks0 : List Nat), acc.map (·.1) = ks0.map ky → ks0.Nodup →
    ∃ ks : List Nat, (mergeK acc (ps.map fun p => (ky p.1, V.int p.2))).map (·.1) = ks.map ky ∧ ks.Nodup ∧ ks.length ≤ ks0.length + ps.length ∧ ∀ k ∈ ks, k ∈ ks0 ∨ ∃ p ∈ ps, p.1 = k
  | [], acc, ks0, h, nd => ⟨ks0, h, nd, by simp, fun k hk => .inl hk⟩
  | p :: r, acc, ks0, h, nd => by
    by_cases q : p.1 ∈ ks0
    · have e := putK_in (k := ky p.1) (v := .int p.2) (by rw [h]; exact List.mem_map.mpr ⟨_, q, rfl⟩)
      rw [h] at e
      obtain ⟨ks, h1, h2, h3, h4⟩ := merge_keys r (putK acc (ky p.1) (.int p.2)) ks0 e nd
      exact ⟨ks, h1, h2, by rw [List.length_cons]; omega, fun k hk => (h4 k hk).imp id fun ⟨x, hx, ex⟩ => ⟨x, List.mem_cons_of_mem _ hx, ex⟩⟩
    · have e := putK_new (acc := acc) (k := ky p.1) (v := .int p.2) (by rw [h]; exact fun z => q (by obtain ⟨x, hx, ex⟩ := List.mem_map.mp z; exact ky_inj ex ▸ hx))
      rw [h] at e
      have e2 : (putK acc (ky p.1) (.int p.2)).map (·.1) = (ks0 ++ [p.1]).map ky := by rw [e, List.map_append]; rfl
      have nd2 : (ks0 ++ [p.1]).Nodup := List.nodup_append.mpr ⟨nd, by simp, fun a ha b hb z => by
        rw [List.mem_singleton.mp hb] at z
        exact q (z ▸ ha)⟩
      obtain ⟨ks, h1, h2, h3, h4⟩ := merge_keys r (putK acc (ky p.1) (.int p.2)) (ks0 ++ [p.1]) e2 nd2
      refine ⟨ks, h1, h2, by rw [List.length_append] at h3; rw [List.length_cons]; simp only [List.length_cons, List.length_nil] at h3; omega, fun k hk => ?_⟩
      rcases h4 k hk with h | ⟨x, hx, ex⟩
      · rcases List.mem_append.mp h with h | h
        · exact .inl h
        · exact .inr ⟨p, by simp, (List.mem_singleton.mp h).symm⟩
      · exact .inr ⟨x, List.mem_cons_of_mem _ hx, ex⟩
theorem PairsAt.tail {H : Hp} {r : V} {rs : List V} {p : Nat × Int} {ps : List (Nat × Int)} (h : PairsAt H (r :: rs) (p :: ps)) : PairsAt H rs ps := ⟨Nat.succ.inj h.1, fun i q hq => h.2 (i + 1) q hq⟩
theorem PairsAt.addrs {K : PySem.W.Frag} {H : Hp} : ∀ {ps : List (Nat × Int)} {rs : List V}, PairsAt H rs ps → ∃ as : List Addr, rs = as.map V.ref ∧ Paired (fun a (kv : Key × V) => SqT K H a [kV kv.1, kv.2]) as (ps.map fun p => (ky p.1, V.int p.2))
  | [], rs, h => ⟨[], by have := h.1; exact List.length_eq_zero_iff.mp this, .nil⟩
  | p :: ps, [], h => by have := h.1; cases this
  | p :: ps, r :: rs, h => by
    obtain ⟨a, h1, h2⟩ := h.2 0 p rfl
    obtain rfl := Option.some.inj h1
    obtain ⟨as, h3, h4⟩ := h.tail.addrs
    exact ⟨a :: as, by rw [h3]; rfl, .cons (st_of h2) h4⟩
theorem Bt.mut {l : Addr} {H H' : Hp} {p : Addr} {o : HO} (b : Bt l H H') (n : H p = none) : Bt l H (upd H' p o) := fun a u ne h => by
  rw [upd_ne (ne_of_none h n)]
  exact b a u ne h
theorem bt_back {l : Addr} {H H' : Hp} {p : Addr} (b : Bt l H H') (hl : p ≠ l) (h : H' p = none) : H p = none := by
  cases e : H p with
  | none => rfl
  | some o => rw [b p o hl e] at h; cases h
theorem HandC.ref {H : Hp} {h c : Addr} {cells : List Int} (a : HandC H h c cells) {p : Addr} (hp : H p = none) : p ≠ h ∧ p ≠ c := by
  obtain ⟨⟨i, u, s, d, h1⟩, h2⟩ := a
  exact ⟨(ne_of_none h1 hp).symm, (ne_of_none h2 hp).symm⟩
theorem HandC.upd {H : Hp} {h c : Addr} {cells : List Int} (a : HandC H h c cells) {p : Addr} {o : HO} (hp : p ≠ h ∧ p ≠ c) : HandC (upd H p o) h c cells := by
  obtain ⟨⟨i, u, s, d, h1⟩, h2⟩ := a
  exact ⟨⟨i, u, s, d, by rw [upd_ne hp.1.symm]; exact h1⟩, by rw [upd_ne hp.2.symm]; exact h2⟩
theorem PairsAt.bt {H H' : Hp} {h c : Addr} {cells : List Int} {rs : List V} {ps : List (Nat × Int)} (q : PairsAt H rs ps) (a : HandC H h c cells) (b : Bt h H H') : PairsAt H' rs ps := ⟨q.1, fun i p hp => by
  obtain ⟨x, h1, h2⟩ := q.2 i p hp
  obtain ⟨⟨_, _, _, _, e⟩, _⟩ := a
  exact ⟨x, h1, b _ _ (fun z => by rw [z, e] at h2; cases h2) h2⟩⟩
section
variable {K : PySem.W.Frag} {σ : L2.St} {H H' : Hp} {ta tb te tx tl : TE} {tA : TA} {h c : Addr} {cells : List Int}
/-- an expression that may draw: a word about its value -/
def EvD (te : TE) (σ : L2.St) (h c : Addr) (cells : List Int) (W : V → Prop) : Prop := ∀ H, HandC H h c cells → ∀ Q : VK, (∀ v H', W v → Bt h H H' → HandC H' h c cells → Q v H') → te σ H Q
theorem ed_of {v : V} (f : ∀ H, Ev te σ H v) : EvD te σ h c cells (fun x => x = v) := fun H hh Q q => f H H (Ex.refl H) Q fun H2 e2 => q v H2 rfl (.of e2) (hh.ex e2)
theorem ed_draw {E : XK} {many : Nat} (hσ : σ[0]? = some (some (.ref h))) (hm : ∀ H, Ev tb σ H (.int (many : Nat))) (h0 : 0 < many) (h1 : many ≤ 1000000) : EvD (tCall sp__law_draw [] E (tCons (tVar 0) (tCons tb tNil))) σ h c cells (fun x => ∃ r : Nat, x = .int (r : Nat) ∧ r < many) := fun H hh Q q =>
  ⟨_, hσ, hm H H (Ex.refl H) _ fun H1 e1 => ⟨h, c, cells, many, rfl, hh.ex e1, h0, h1, fun r H' hr b hh' => q _ H' ⟨r, rfl, hr⟩ (fun a o ne ha => b a o ne (e1 a o ha)) hh'⟩⟩
theorem Bt.ex1 {l : Addr} {H H1 H2 : Hp} (e : Ex H H1) (b : Bt l H1 H2) : Bt l H H2 := fun a o ne ha => b a o ne (e a o ha)
theorem ed_op {g : Int → Int → V} {W1 W2 W3 : V → Prop} (ha : EvD ta σ h c cells W1) (hb : EvD tb σ h c cells W2) (hw : ∀ x y, W1 x → W2 y → ∃ i j, x = .int i ∧ y = .int j ∧ W3 (g i j)) : EvD (tOp (rI0 g) ta tb) σ h c cells W3 := fun H hh Q q =>
  ha H hh _ fun x H1 w1 b1 hh1 => hb H1 hh1 _ fun y H2 w2 b2 hh2 => by
    obtain ⟨i, j, rfl, rfl, w3⟩ := hw x y w1 w2
    exact ⟨i, j, rfl, rfl, q _ H2 w3 (b1.trans b2) hh2⟩
/-- a list of pairs (what is drawn, 1) -/
theorem lc_draws {j N lo hi : Nat} {vs : List Nat} (hN : N ≤ 1000) (hA : EvD ta σ h c cells fun v => ∃ n : Nat, v = .int (n : Nat) ∧ n ≤ N)
    (hE : ∀ i : Nat, EvD te ((wipe σ vs).set j (some (.int (i : Int)))) h c cells fun v => ∃ x : Nat, v = .int (x : Nat) ∧ lo ≤ x ∧ x ≤ hi) (hw : ∀ x, wipe ((wipe σ vs).set j (some x)) vs = wipe σ vs) :
    ∀ H, HandC H h c cells → ∀ Q : VK, (∀ p rs ps H', H p = none → Bt h H H' → HandC H' h c cells → H' p = some (.lst rs) → PairsAt H' rs ps → ps.length ≤ N → (∀ q ∈ ps, lo ≤ q.1 ∧ q.1 ≤ hi) → Q (.ref p) H') →
      tLc (iRng1 (tCons ta tNil)) (gName j) tYes (tTup (tCons te (tCons (tC (.int 1)) tNil))) vs σ H Q := fun H hh Q q =>
  hA H hh _ fun v H1 w1 b1 hh1 => by
    obtain ⟨n, rfl, hn⟩ := w1
    refine ⟨(n : Int), rfl, by omega, by omega, fun Dl hD => ?_⟩
    refine lc_range (lo := 0) (n := (n : Int).toNat) (fun i H' => Bt h H1 H' ∧ HandC H' h c cells ∧ ∃ rs ps, H' Dl = some (.lst rs) ∧ PairsAt H' rs ps ∧ ps.length = i ∧ ∀ q ∈ ps, lo ≤ q.1 ∧ q.1 ≤ hi)
      ⟨(Bt.refl h H1).mut hD, hh1.upd (hh1.ref hD), [], [], upd_same, ⟨rfl, fun i p hp => by cases hp⟩, rfl, fun q hq => by cases hq⟩ (fun i H' hi' p => ?_) (fun H' p => ?_)
    · have e0 : (0 : Int) + (i : Int) = (i : Int) := Int.zero_add _
      obtain ⟨b2, hh2, rs, ps, hr, pr, hl, hb⟩ := p
      show wipe ((wipe σ vs).set j (some (.int ((0 : Int) + (i : Int))))) vs = wipe σ vs ∧ te ((wipe σ vs).set j (some (.int ((0 : Int) + (i : Int))))) H' fun x H3 => (2 ≤ sizeLine ∧ ∀ b, H3 b = none → ∃ acc, (upd H3 b (.tup [x, .int 1])) Dl = some (.lst acc) ∧ acc.length < sizeLine ∧ (Bt h H1 (upd (upd H3 b (.tup [x, .int 1])) Dl (.lst (acc ++ [.ref b]))) ∧ HandC (upd (upd H3 b (.tup [x, .int 1])) Dl (.lst (acc ++ [.ref b]))) h c cells ∧ ∃ rs ps, (upd (upd H3 b (.tup [x, .int 1])) Dl (.lst (acc ++ [.ref b]))) Dl = some (.lst rs) ∧ PairsAt (upd (upd H3 b (.tup [x, .int 1])) Dl (.lst (acc ++ [.ref b]))) rs ps ∧ ps.length = i + 1 ∧ ∀ q ∈ ps, lo ≤ q.1 ∧ q.1 ≤ hi))
      rw [e0]
      refine ⟨hw _, hE i H' hh2 _ fun x H3 w3 b3 hh3 => ⟨by decide, fun b nb => ?_⟩⟩
      obtain ⟨x, rfl, x1, x2⟩ := w3
      have Dh := (hh1.ref hD).1
      have hr3 : H3 Dl = some (.lst rs) := b3 _ _ Dh hr
      have bD : b ≠ Dl := (ne_of_none hr3 nb).symm
      have nb1 : H1 b = none := bt_back (b2.trans b3) (hh3.ref nb).1 nb
      have ex : Ex H3 (upd H3 b (.tup [.int (x : Nat), .int 1])) := Ex.new nb
      have pr3 := (pr.bt hh2 b3).ex ex
      have lr : rs.length = i := by rw [pr.1, hl]
      refine ⟨rs, ex _ _ hr3, Nat.lt_of_lt_of_le (show rs.length < 100000 by omega) (by decide), ((b2.trans b3).mut nb1).mut hD, (hh3.ex ex).upd (hh1.ref hD), rs ++ [.ref b], ps ++ [(x, 1)], upd_same, ?_, by rw [List.length_append, hl]; rfl, fun q hq => ?_⟩
      · have q1 : PairsAt (upd H3 b (.tup [.int (x : Nat), .int 1])) (rs ++ [.ref b]) (ps ++ [(x, 1)]) := pr3.app ⟨rfl, fun k p hk => by
          cases k with
          | zero =>
            obtain rfl := Option.some.inj hk
            exact ⟨b, rfl, upd_same⟩
          | succ k => cases hk⟩
        refine ⟨q1.1, fun k p hk => ?_⟩
        obtain ⟨y, h1, h2⟩ := q1.2 k p hk
        refine ⟨y, h1, ?_⟩
        have yD : y ≠ Dl := fun z => by rw [z, ex _ _ hr3] at h2; cases h2
        rw [upd_ne yD]
        exact h2
      · rcases List.mem_append.mp hq with hq | hq
        · exact hb q hq
        · obtain rfl := List.mem_singleton.mp hq
          exact ⟨x1, x2⟩
    · obtain ⟨b2, hh2, rs, ps, hr, pr, hl, hb⟩ := p
      have en : (n : Int).toNat = n := Int.toNat_natCast n
      refine q Dl rs ps H' (bt_back b1 (hh1.ref hD).1 hD) (b1.trans b2) hh2 hr pr (by omega) hb
def rDictP (K : PySem.W.Frag) : List V → Hp → VK → Prop := fun xs H Q => ∃ (a : Addr) (ps : List Addr) (kvs : List (Key × V)), xs = [.ref a] ∧ SqL K H a (ps.map V.ref) ∧ Paired (fun p kv => SqT K H p [kV kv.1, kv.2]) ps kvs ∧
  ∀ p, H p = none → Q (.ref p) (upd H p (.dK (mergeK [] kvs)))
def rSortDI : List V → Hp → VK → Prop := fun xs H Q => ∃ (a : Addr) (kvs : List (Key × V)) (ks : List Int), xs = [.ref a] ∧ Rd H a (.dK kvs) ∧ kvs.map (·.1) = ks.map Sum.inl ∧ ks.length < 64 ∧
  ∀ (ys : List Int) (p : Addr), ys.Perm ks → ys.Pairwise (· ≤ ·) → H p = none → Q (.ref p) (upd H p (.lst (ys.map V.int)))
/-- x = sorted(dict(drawn pairs)) -/
theorem q_some {i N lo hi : Nat} {D : L2.Ends} {tz : TS} (hN : N < 64) (hl : ∀ Q : VK, (∀ p rs ps H', H p = none → Bt h H H' → HandC H' h c cells → H' p = some (.lst rs) → PairsAt H' rs ps → ps.length ≤ N → (∀ q ∈ ps, lo ≤ q.1 ∧ q.1 ≤ hi) → Q (.ref p) H') → tl σ H Q)
    (k : ∀ p cs H', H p = none → p ≠ h → Bt h H H' → HandC H' h c cells → H' p = some (.lst (nv cs)) → cs.Pairwise (· < ·) → (∀ x ∈ cs, lo ≤ x ∧ x ≤ hi) → cs.length < 64 → tz D (σ.set i (some (.ref p))) H') :
    tSeq (tAsg (tCB rSortDI (tCons (tCB (rDictP K) (tCons tl tNil)) tNil)) (gName i)) tz D σ H :=
  hl _ fun p rs ps H1 np b1 hh1 hp pr hps hb => by
    obtain ⟨as, rfl, pa⟩ := pr.addrs (K := K)
    obtain ⟨ks, h1, h2, h3, h4⟩ := merge_keys ps [] [] rfl List.nodup_nil
    refine ⟨p, as, _, rfl, sq_of hp, pa, fun d nd => ⟨d, _, ks.map fun (n : Nat) => (n : Int), rfl, .inl upd_same, by rw [h1, List.map_map]; rfl, by rw [List.length_map]; simp only [List.length_nil] at h3; omega, fun ys q hpm hso nq => ?_⟩⟩
    rw [ints_sorted hpm hso]
    have hs := srt_perm ks
    have nq1 : H1 q = none := fresh_back (Ex.new nd) nq
    have ed : Ex H1 (upd H1 d (.dK (mergeK [] (ps.map fun p => (ky p.1, V.int p.2))))) := Ex.new nd
    have eq : Ex (upd H1 d (.dK (mergeK [] (ps.map fun p => (ky p.1, V.int p.2))))) (upd (upd H1 d (.dK (mergeK [] (ps.map fun p => (ky p.1, V.int p.2))))) q (.lst (nv (srt ks)))) := Ex.new nq
    refine k q (srt ks) _ (bt_back b1 (hh1.ref nq1).1 nq1) (hh1.ref nq1).1 ((b1.ex ed).ex eq) ((hh1.ex ed).ex eq) upd_same ?_ (fun x hx => ?_) (by rw [hs.length_eq]; simp only [List.length_nil] at h3; omega)
    · have n2 : (srt ks).Nodup := hs.nodup_iff.mpr h2
      have := List.Pairwise.and (srt_le ks) n2
      exact this.imp fun ⟨x, y⟩ => by omega
    · rcases h4 x (hs.mem_iff.mp hx) with z | ⟨y, hy, rfl⟩
      · cases z
      · exact hb y hy
end
section
variable {P : Program} {w : World} {K : PySem.W.Frag} {mg : Str → Option Value} {base : Heap}
def sp__law_coins : Sp := fun vs H Q _ => ∃ (h c : Addr) (cells : List Int) (least many size : Nat), vs = [.ref h, .int least, .int many, .int size] ∧ HandC H h c cells ∧ 2 ≤ least ∧ least ≤ many ∧ many ≤ 50 ∧ 2 ≤ size ∧ 2 * least ≤ size ∧ size ≤ 1000 ∧
  ∀ cs t H', Drawn least many size cs → Bt h H H' → HandC H' h c cells → H' t = some (.tup (nv cs)) → Q (.ref t) H'
theorem ok_law_coins (T : Top K mg) : FnOk P w K mg base CX0 2 T.a__law_coins T.fd__law_coins ["hand", "least", "many", "size"] sp__law_coins := by
  refine T.F__law_coins.ok sc_law_coins (fun vs H Q E h => ?_) (fun cdv A outer s H vs Q E hr h => ?_)
  · obtain ⟨h, c, cells, least, many, size, rfl, _⟩ := h
    rfl
  · obtain ⟨h, c, cells, least, many, size, rfl, hh, hl2, hlm, hm, hs2, hsl, hs, k⟩ := h
    have nd := sc_law_coins.nd
    refine ⟨_, (pss_cons (ps_for PassesOwn.never rfl (pi_range1 rfl T.z_range (pa_cons pe_int pa_nil)) (pg_name (i := 4) nd rfl (Or.inl rfl)) (pss_cons (ps_set (i := 5) nd rfl (Or.inl rfl) (pe_callB (call_sortedDI rfl) (by rfl) T.z_sorted (by decide +kernel) (pa_cons (pe_callTy (call_dictP rfl) (by rfl) T.z_dict (by decide +kernel) (pa_cons (pe_lc (own := [("at", 10)]) (by rfl) nd (pi_range1 rfl T.z_range (pa_cons (pe_op op_add (pe_op op_add (pv 1) (pe_call (ok_law_draw T) (hr.mono (by decide)) (by rfl) T.g__law_draw T.F__law_draw.kp T.b__law_draw .nil pass0 (pa_cons (pv 0) (pa_cons (pe_op op_add (pe_op op_sub (pv 2) (pv 1)) pe_int) pa_nil)))) pe_int) pa_nil)) (blkOk_by (own := [("at", 10)]) (N := n_law_coins) (sc := defScope s_law_coins) (by decide +kernel)) (fun _ _ _ _ _ => (pg_name (i := 10) nd rfl (Or.inl rfl))) (fun _ _ _ _ _ => pts_nil) (fun _ _ _ _ _ => (pe_tup (pa_cons (pe_op op_add pe_int (pe_call (ok_law_draw T) (hr.mono (by decide)) (by rfl) T.g__law_draw T.F__law_draw.kp T.b__law_draw .nil pass0 (pa_cons (pv 0) (pa_cons (pe_op op_sub (pv 3) pe_int) pa_nil)))) (pa_cons pe_int pa_nil))))) pa_nil)) pa_nil))) (pss_cons (ps_set (i := 6) nd rfl (Or.inr rfl) (pe_call (ok_law_paid T) (hr.mono (by decide)) (by rfl) T.g__law_paid T.F__law_paid.kp T.b__law_paid .nil pass0 (pa_cons (pv 5) (pa_cons (pv 3) pa_nil)))) (pss_cons (ps_set (i := 7) nd rfl (Or.inl rfl) (pe_lst pa_nil)) (pss_cons (ps_for PassesOwn.never rfl (pi_list (pv 5)) (pg_name (i := 8) nd rfl (Or.inr rfl)) (pss_one (ps_if (pt_not (pt_val (pe_callB (cr_any rfl) (by rfl) T.z_any (by decide +kernel) (pa_cons (pe_lc (own := [("other", 11)]) (by rfl) nd (pi_list (pv 5)) (blkOk_by (own := [("other", 11)]) (N := n_law_coins) (sc := defScope s_law_coins) (by decide +kernel)) (fun _ _ _ _ _ => (pg_name (i := 11) nd rfl (Or.inl rfl))) (fun _ _ _ _ _ => pts_nil) (fun _ _ _ _ _ => (pe_and (pe_cmpR op_lt (pv 11) (pv 8) (nomark _)) (pe_one (pe_ix (show IxR _ (rIxL K) from ix_list) (pv 6) (pe_op op_sub (pv 8) (pv 11)) (fun _ _ => rfl)))))) pa_nil)))) (pss_one (ps_expr (pe_bm PySem.F.plainAttrs_list PySem.F.slot_list_append PySem.F.type_list_append mt_append (pv 7) (pa_cons (pv 8) pa_nil)))) pss_nil))) (pss_cons (ps_set (i := 9) nd rfl (Or.inl rfl) pe_int) (pss_cons (ps_for PassesOwn.never rfl (pi_list (pv 7)) (pg_name (i := 8) nd rfl (Or.inr rfl)) (pss_one (ps_set (i := 9) nd rfl (Or.inl rfl) (pe_call (ok_law_common T) (hr.mono (by decide)) (by rfl) T.g__law_common T.F__law_common.kp T.b__law_common .nil pass0 (pa_cons (pv 8) (pa_cons (pv 9) pa_nil)))))) (pss_one (ps_if (PW.pt (pw_and (pt_cmpR op_eq (pv 9) pe_int (nomark _)) (pw_and1 (pt_chain op_le op_le (pv 1) (pe_callB call_len_seq (by rfl) T.z_len PySem.boot_len (pa_cons (pv 7) pa_nil)) (pv 2))))) (pss_one (ps_ret (pe_callTy call_tuple_of (by rfl) T.z_tuple (by decide +kernel) (pa_cons (pv 7) pa_nil)))) pss_nil))))))))) (pss_one (ps_ret (pe_ifExp (pt_cmpR op_gt (pv 1) pe_int (nomark _)) (pe_tupRg rfl (by rfl) T.z_tuple (prg_2 (by rfl) T.z_range (pe_op op_add (pv 1) pe_int) (pe_op op_add (pe_op op_mul pe_int (pv 1)) pe_int))) (pe_tup (pa_cons pe_int (pa_cons pe_int pa_nil))))))), ?_⟩
    refine q_forR1 (n := 40) (ea_cons ev_c ea_nil) ⟨by omega, by omega⟩
      (fun i σ' H' => ∃ a b d e f g, σ' = [some (.ref h), some (.int (least : Int)), some (.int (many : Int)), some (.int (size : Int)), a, b, d, e, f, g, none, none] ∧ Bt h H H' ∧ HandC H' h c cells)
      (fun H1 e1 => ⟨none, none, none, none, none, none, rfl, .of e1, hh.ex e1⟩) (fun i σ' H' hi hp => ?_) (fun σ' H' hp => ?_)
    · obtain ⟨a, b, d, e, f, g, rfl, b0, hh0⟩ := hp
      refine q_some (K := K) (h := h) (c := c) (cells := cells) (N := many + 1) (lo := 2) (hi := size) (by omega) (fun Q q => lc_draws (σ := [some (.ref h), some (.int (least : Int)), some (.int (many : Int)), some (.int (size : Int)), some (.int (i : Int)), b, d, e, f, g, none, none]) (vs := [10]) (j := 10) (N := many + 1) (lo := 2) (hi := size) (by omega) (ed_op (W1 := fun v => ∃ n : Nat, v = .int (n : Nat) ∧ n ≤ many) (W2 := fun v => v = .int 1) (ed_op (W1 := fun v => v = .int (least : Int)) (W2 := fun x => ∃ r : Nat, x = .int (r : Nat) ∧ r < many - least + 1) (ed_of fun _ => ev_var rfl) (ed_draw (many := many - least + 1) rfl (fun H => ev_is (ev_op (ev_op (ev_var rfl) (ev_var rfl) rv_I0) ev_c rv_I0) (congrArg V.int (show (many : Int) - (least : Int) + 1 = ((many - least + 1 : Nat) : Int) by omega))) (by omega) (by omega)) fun x y hx hy => ?_) (ed_of fun _ => ev_c) fun x y hx hy => ?_) (fun i' => ed_op (W1 := fun v => v = .int 2) (W2 := fun x => ∃ r : Nat, x = .int (r : Nat) ∧ r < size - 1) (ed_of fun _ => ev_c) (ed_draw (many := size - 1) rfl (fun H => ev_is (ev_op (ev_var rfl) ev_c rv_I0) (congrArg V.int (show (size : Int) - 1 = ((size - 1 : Nat) : Int) by omega))) (by omega) (by omega)) fun x y hx hy => ?_) (fun x => rfl) H' hh0 Q q) fun p1 cs H1 np1 p1h b1 hh1 hp1 asc two hl64 => ?_
      · obtain ⟨r, rfl, hr⟩ := hy
        subst hx
        exact ⟨_, _, rfl, rfl, least + r, congrArg V.int (by omega), by omega⟩
      · obtain ⟨n, rfl, hn⟩ := hx
        subst hy
        exact ⟨_, _, rfl, rfl, n + 1, congrArg V.int (by omega), by omega⟩
      · obtain ⟨r, rfl, hr⟩ := hy
        subst hx
        exact ⟨_, _, rfl, rfl, 2 + r, congrArg V.int (by omega), by omega, by omega⟩
      -- rows = _law_paid(some, size)
      refine q_asgL (el_call (ea_cons (ev_var rfl) (ea_cons (ev_var rfl) ea_nil)) (sl_law_paid (K := K) (.inl (sq_of hp1)) (fun x hx => by have := two x hx; omega) (by omega) (by omega))) fun p2 H2 np2 e2 hp2 => ?_
      refine q_asgL (el_lst ea_nil (by show 0 ≤ 100000; decide)) fun p3 H3 np3 e3 hp3 => ?_
      have hp12 := e2 _ _ hp1
      refine q_forLn (ev_var rfl) (sq_of (e3 _ _ hp12))
        (fun n σ' H' => ∃ f, σ' = [some (.ref h), some (.int (least : Int)), some (.int (many : Int)), some (.int (size : Int)), some (.int (i : Int)), some (.ref p1), some (.ref p2), some (.ref p3), f, g, none, none] ∧ Ex H2 H' ∧ H' p3 = some (.lst (nv ((cs.take n).filter fun c => !tst cs c))))
        (fun H4 e4 => ⟨f, rfl, e3.trans e4, e4 _ _ hp3⟩) (fun n σ' H' _ ⟨_, _, e, _⟩ => sq_of (e _ _ hp12)) (fun n x σ' H' hx hp' => ?_) (fun σ' H' hp' => ?_)
      · obtain ⟨f, rfl, e, h3⟩ := hp'
        obtain ⟨cn, hcn, rfl⟩ := nv_get hx
        have hmem : cn ∈ cs := List.mem_of_getElem? hcn
        have c2 := two cn hmem
        have et : ((List.range cs.length).map fun j => (decide (cs.getD j 0 < cn) && pb cs (cn - cs.getD j 0))).any id = tst cs cn := any_range 0 (fun d => decide (d < cn) && pb cs (cn - d)) cs
        refine s_when (b := !tst cs cn) (et_not (et_B (ev_is (ev_anyN (K := K) (bs := (List.range cs.length).map fun j => (decide (cs.getD j 0 < cn) && pb cs (cn - cs.getD j 0))) (el_is (el_lcL (K := K) (a := p1) (xs := nv cs) (fun _ => true) (fun j => .bl (decide (cs.getD j 0 < cn) && pb cs (cn - cs.getD j 0))) (ev_var rfl) (sq_of (e _ _ hp12)) (by rw [nv_len]; omega) (fun x => rfl) (fun j x H5 e5 hx => fun H6 e6 Q q => q H6 (Ex.refl H6)) (fun j x H5 e5 hx _ => ?_)) ?_)) (congrArg V.bl et)))) (fun hb H5 e5 => ?_) (fun hb H5 e5 => ?_)
        · obtain ⟨cj, hcj, rfl⟩ := nv_get hx
          have eg : cs.getD j 0 = cj := by rw [List.getD_eq_getElem?_getD, hcj]; rfl
          rw [eg]
          have hcj2 := two cj (List.mem_of_getElem? hcj)
          refine ev_is (ev_andV (a := decide ((cj : Int) < (cn : Int))) (b := pb cs (cn - cj)) (ev_op (ev_var rfl) (ev_var rfl) rv_I0) fun hb => ?_) ?_
          · have hb := of_decide_eq_true hb
            exact ev_ixL (K := K) (j := cn - cj) (ev_var rfl) (sq_of (e5 _ _ (e _ _ hp2))) (ev_is (ev_op (ev_var rfl) (ev_var rfl) rv_I0) (congrArg V.int (by omega))) (bv_get (by omega))
          · have : decide ((cj : Int) < (cn : Int)) = decide (cj < cn) := decide_eq_decide.mpr (by omega)
            rw [this]
        · rw [given_all, nv_len, List.map_map]
          rfl
        · have lz : (nv ((cs.take n).filter fun c => !tst cs c)).length < 100000 := by
            rw [nv_len]
            have := List.length_filter_le (fun c => !tst cs c) (cs.take n)
            rw [List.length_take] at this
            omega
          refine s_app (e5 _ _ h3) (ev_var rfl) (ev_var rfl) lz fun H6 e6 => ⟨_, rfl, ((e.trans e5).trans e6).mut np3, ?_⟩
          rw [upd_same, take_next hcn, List.filter_append, nv_app, List.filter_cons_of_pos (by exact hb)]
          rfl
        · refine ⟨_, rfl, e.trans e5, ?_⟩
          rw [e5 _ _ h3, take_next hcn, List.filter_append, List.filter_cons_of_neg (by rw [hb]; decide)]
          show _ = some (HO.lst (nv (_ ++ [])))
          rw [List.append_nil]
      · obtain ⟨f, rfl, e, h3⟩ := hp'
        rw [nv_len, List.take_length] at h3
        have h3k : H' p3 = some (.lst (nv (kpt cs))) := h3
        refine q_asg ev_c fun H5 e5 => ?_
        have h5k := e5 _ _ h3k
        refine q_forLn (ev_var rfl) (sq_of h5k)
          (fun n σ' H' => ∃ f, σ' = [some (.ref h), some (.int (least : Int)), some (.int (many : Int)), some (.int (size : Int)), some (.int (i : Int)), some (.ref p1), some (.ref p2), some (.ref p3), f, some (.int ((gcdL ((kpt cs).take n) : Nat) : Int)), none, none] ∧ Ex H5 H')
          (fun H6 e6 => ⟨f, rfl, e6⟩) (fun n σ' H' _ ⟨_, _, e⟩ => sq_of (e _ _ h5k)) (fun n x σ' H' hx hp' => ?_) (fun σ' H' hp' => ?_)
        · obtain ⟨f, rfl, e6⟩ := hp'
          obtain ⟨cn, hcn, rfl⟩ := nv_get hx
          refine s_asg (ev_call (ea_cons (ev_var rfl) (ea_cons (ev_var rfl) ea_nil)) (sv_common cn (gcdL ((kpt cs).take n)))) fun H7 e7 => ⟨some (.int (cn : Int)), ?_, e6.trans e7⟩
          rw [gcdL_next hcn, Nat.gcd_comm]
          rfl
        · obtain ⟨f, rfl, e6⟩ := hp'
          rw [nv_len, List.take_length]
          have h6k := e6 _ _ h5k
          have b6 : Bt h H H' := (b0.trans b1).ex (((e2.trans e).trans e5).trans e6)
          have hh6 : HandC H' h c cells := hh1.ex (((e2.trans e).trans e5).trans e6)
          refine s_when (et_and (et_test (ev_op (ev_var rfl) ev_c (rv_eq rfl))) fun _ => et_test (ev_chain (K := K) (ev_var rfl) (ev_lenS (K := K) (ev_var rfl) (.inl (sq_of h6k))) (ev_var rfl) rv_I0 rv_I0)) (fun hb H7 e7 => ?_) (fun hb H7 e7 => ⟨_, _, _, _, _, _, rfl, b6.ex e7, hh6.ex e7⟩)
          obtain ⟨g1, g2⟩ := Bool.and_eq_true_iff.mp hb
          obtain ⟨g2, g3⟩ := Bool.and_eq_true_iff.mp g2
          have g1 := V.int.inj (of_decide_eq_true g1)
          have g2 := of_decide_eq_true g2
          have g3 := of_decide_eq_true g3
          rw [nv_len] at g2 g3
          refine s_retU (eu_tupOfL (K := K) (ev_var rfl) (sq_of (e7 _ _ h6k))) fun t H8 nt e8 ht => k (kpt cs) t H8 ⟨List.Pairwise.filter _ asc, fun x hx => two x (kpt_sub cs x hx).1, ⟨by omega, by omega⟩, by omega, kpt_need asc fun x hx => (two x hx).1⟩ ((b6.ex e7).ex e8) ((hh6.ex e7).ex e8) ht
    · obtain ⟨a, b, d, e, f, g, rfl, b0, hh0⟩ := hp
      have efall : rgV ((least : Int) + 1) (2 * (least : Int) + 1) = nv (fall least) := by
        unfold rgV nv fall
        rw [List.map_map, show (2 * (least : Int) + 1 - ((least : Int) + 1)).toNat = least by omega]
        refine List.map_congr_left fun j _ => ?_
        exact congrArg V.int (show (least : Int) + 1 + (j : Nat) = ((least + 1 + j : Nat) : Int) by omega)
      refine s_retU (xs := nv (fall least)) (fun H1 e1 Q q => ?_) fun t H8 nt e8 ht => k (fall least) t H8 (fall_drawn hl2 hlm (by omega)) (b0.ex e8) (hh0.ex e8) ht
      refine (et_is (et_test (ev_op (ev_var rfl) ev_c rv_I0)) (decide_eq_true (by omega)) : EvT _ _ _ true) H1 e1 _ fun H2 e2 => ?_
      rw [if_pos rfl]
      refine (ev_op (ev_var rfl) ev_c rv_I0 : Ev _ _ H2 (.int ((least : Int) + 1))) H2 (Ex.refl H2) _ fun H3 e3 => ?_
      refine (ev_op (ev_op ev_c (ev_var rfl) (rv_mul (.inl ⟨by decide, by decide⟩))) ev_c rv_I0 : Ev _ _ H3 (.int (2 * (least : Int) + 1))) H3 (Ex.refl H3) _ fun H4 e4 => ⟨_, _, rfl, rfl, RgOk.of_le (by omega) (by omega) (by omega) (by omega), fun p np => ?_⟩
      rw [efall]
      exact q p _ (fresh_back ((e2.trans e3).trans e4) np) (((e2.trans e3).trans e4).trans (Ex.new np)) upd_same
end
end Pd

/-! The law. -/
namespace Pd
open PySem PySem.Spec PyProof.Rows L2 Evl
/-! ### plain -/
theorem cast_sum : ∀ cs : List Nat, (cs.map fun (c : Nat) => (c : Int)).sum = ((cs.sum : Nat) : Int)
  | [] => rfl
  | c :: r => by rw [List.map_cons, List.sum_cons, List.sum_cons, cast_sum r]; omega
theorem last_ge : ∀ (l : List Nat) (h : l ≠ []), l.Pairwise (· < ·) → ∀ c ∈ l, c ≤ l.getLast h
  | [], h, _, _, _ => absurd rfl h
  | [a], _, _, c, hc => by rw [List.mem_singleton.mp hc]; exact Nat.le_refl _
  | a :: b :: r, _, hp, c, hc => by
    rw [List.getLast_cons (by simp)]
    obtain ⟨h1, h2⟩ := List.pairwise_cons.mp hp
    rcases List.mem_cons.mp hc with rfl | hc
    · exact Nat.le_of_lt (h1 _ (List.getLast_mem _))
    · exact last_ge (b :: r) (by simp) h2 c hc
theorem sum_le {B : Nat} : ∀ cs : List Nat, (∀ c ∈ cs, c ≤ B) → cs.sum ≤ cs.length * B
  | [], _ => by simp
  | c :: r, h => by
    have h1 := sum_le r fun x hx => h x (List.mem_cons_of_mem _ hx)
    have h2 := h c (by simp)
    rw [List.sum_cons, List.length_cons, Nat.add_mul, Nat.one_mul]
    omega
theorem list_max : ∀ l : List Nat, l ≠ [] → ∃ M ∈ l, ∀ y ∈ l, y ≤ M
  | [], h => absurd rfl h
  | [a], _ => ⟨a, by simp, fun y hy => by rw [List.mem_singleton.mp hy]; exact Nat.le_refl _⟩
  | a :: b :: r, _ => by
    obtain ⟨M, hM, hg⟩ := list_max (b :: r) (by simp)
    by_cases q : a ≤ M
    · exact ⟨M, List.mem_cons_of_mem _ hM, fun y hy => by
        rcases List.mem_cons.mp hy with rfl | hy
        · exact q
        · exact hg y hy⟩
    · exact ⟨a, by simp, fun y hy => by
        rcases List.mem_cons.mp hy with rfl | hy
        · exact Nat.le_refl _
        · have := hg y hy
          omega⟩
theorem drawn_good {least many : Nat} {cs : List Nat} (D : Drawn least many 40 cs) (h2 : 2 ≤ least) (hm : many ≤ 9) : Good cs := by
  have hl := D.len
  refine ⟨fun z => by rw [z] at hl; simp at hl; omega, by omega, fun c hc => by have := D.two c hc; omega, D.asc.imp fun h => by omega, ?_, D.gcd⟩
  cases cs with
  | nil => simp at hl; omega
  | cons m r =>
    refine ⟨m, by simp, by have := D.two m (by simp); omega, fun c hc => ?_⟩
    rcases List.mem_cons.mp hc with rfl | hc
    · exact Nat.le_refl _
    · exact Nat.le_of_lt ((List.pairwise_cons.mp D.asc).1 c hc)
theorem last_of {m Mx : Nat} {rest W : List Nat} (R : Rests m (m :: rest) W) (two : ∀ c ∈ m :: rest, 2 ≤ c) (g : gcdL (m :: rest) = 1) (hM : ∀ c ∈ m :: rest, c ≤ Mx) : ∃ last, Last (m :: rest) last ∧ last ≤ m * Mx := by
  have m2 := two m (by simp)
  have hm : 0 < m := by omega
  have hW : W ≠ [] := fun z => by have := R.len; rw [z] at this; simp at this; omega
  obtain ⟨M, hMW, hg⟩ := list_max W hW
  have n1 : ¬ Pay (m :: rest) 1 := fun p => by
    rcases p.inv with z | ⟨d, hd, hl, _⟩
    · omega
    · have := two d hd
      omega
  have lt1 : 1 % m < W.length := by rw [R.len]; exact Nat.mod_lt _ hm
  have e1 : W[1 % m]? = some W[1 % m] := List.getElem?_eq_getElem lt1
  have h1 : ¬ W[1 % m] ≤ 1 := fun z => n1 ((R.pay 1 _ e1).mpr z)
  have h3 := R.mod _ _ e1
  have h4 := hg _ (List.getElem_mem lt1)
  have hge : m ≤ M := by
    apply Classical.byContradiction
    intro hn
    have a1 : 1 % m = 1 := Nat.mod_eq_of_lt (by omega)
    have a2 : W[1 % m] % m = W[1 % m] := Nat.mod_eq_of_lt (by omega)
    omega
  refine ⟨M - m, last_of_max R hm hMW hg hge, ?_⟩
  obtain ⟨x, hx, e⟩ := List.getElem_of_mem hMW
  have e2 : W[x]? = some M := by rw [List.getElem?_eq_getElem hx, e]
  obtain ⟨n, pn, en, ln⟩ := rch_all (cs := m :: rest) (M := Mx) hm g hM (x := x) (by rw [← R.len]; exact hx)
  have : M ≤ n := (R.pay n M (by rw [en]; exact e2)).mp pn
  have : (m - 1) * Mx ≤ m * Mx := Nat.mul_le_mul_right _ (by omega)
  omega
theorem mc_small {c : Nat} {f : Nat → Int} {B : Nat} (h : ∀ k, -(B : Int) ≤ f k ∧ f k ≤ (B : Int)) (k : Nat) : -((2 * B : Nat) : Int) ≤ mc c f k ∧ mc c f k ≤ ((2 * B : Nat) : Int) := by
  unfold mc sh
  have h1 := h k
  have h2 := h (k - c)
  split
  · omega
  · omega
theorem mcs_small : ∀ (cs : List Nat) {f : Nat → Int} {B : Nat}, (∀ k, -(B : Int) ≤ f k ∧ f k ≤ (B : Int)) → ∀ k, -((2 ^ cs.length * B : Nat) : Int) ≤ mcs cs f k ∧ mcs cs f k ≤ ((2 ^ cs.length * B : Nat) : Int)
  | [], f, B, h, k => by
    have := h k
    rw [List.length_nil, Nat.pow_zero, Nat.one_mul]
    exact this
  | c :: cs, f, B, h, k => by
    have := mcs_small cs (mc_small (c := c) h) k
    rw [List.length_cons, Nat.pow_succ, Nat.mul_assoc]
    exact this
theorem num_small {cs ds : List Nat} (hl : cs.length ≤ 9) (k : Nat) : -(2 ^ 64) < mcs cs (pf ds) k ∧ mcs cs (pf ds) k < 2 ^ 64 := by
  have h := mcs_small cs (f := pf ds) (B := 1) (fun k => by unfold pf; split <;> decide) k
  have h2 : 2 ^ cs.length ≤ 2 ^ 9 := Nat.pow_le_pow_right (by decide) hl
  have h3 : (2 : Nat) ^ 9 = 512 := by decide
  omega
section
variable {K : PySem.W.Frag} {σ : L2.St} {H H' : Hp} {ta tb te tx tl t1 t2 t3 : TE} {y z : V} {h c : Addr} {cells : List Int}
theorem q_parSys {C t : Addr} {cs : List Nat} {i j : Nat} {E : XK} {D : L2.Ends} {tz : TS} (G : Good cs) (ht : H t = some (.tup (nv cs))) (h : Ev te σ H (.ref t)) (hb : ∀ H2, Ex H H2 → Ev tb σ H2 y)
    (k : ∀ x m rest W H2, H x = none → (m :: rest).Perm cs → (m :: rest).Pairwise (· ≤ ·) → Rests m (m :: rest) W → Ex H H2 → SysAt C H2 x (m :: needM [m] rest) W → tz D ((σ.set i (some (.ref x))).set j (some y)) H2) :
    tSeq (tPar i j (tCons (tMake C (sp_System_init C) [] E (tCons te tNil)) (tCons tb tNil))) tz D σ H :=
  h H (Ex.refl H) _ fun H1 e1 x dx nx nd ne => ⟨x, t, dx, cs, rfl, upd_same, by rw [upd_ne (ne_of_none (e1 _ _ ht) nx), upd_ne (ne_of_none (e1 _ _ ht) nd)]; exact e1 _ _ ht, G, fun m rest W H' pm so R b sy => by
    have ex : Ex H H' := fun a o ha => b a o (ne_of_none (e1 _ _ ha) nx) (by rw [upd_ne (ne_of_none (e1 _ _ ha) nx), upd_ne (ne_of_none (e1 _ _ ha) nd)]; exact e1 _ _ ha)
    exact ⟨rfl, hb H' ex H' (Ex.refl H') _ fun H3 e3 => ⟨.ref x, y, rfl, k x m rest W H3 (fresh_back e1 nx) pm so R (ex.trans e3) (sy.ex e3)⟩⟩⟩
/-- a, b, c = three new lists, by a tuple -/
theorem q_tupLLL {i j l : Nat} {xs ys zs : List V} {D : L2.Ends} {tz : TS} (h1 : EvL t1 σ H xs) (h2 : EvL t2 σ H ys) (h3 : EvL t3 σ H zs)
    (k : ∀ p q r H1, H p = none → H q = none → H r = none → Ex H H1 → H1 p = some (.lst xs) → H1 q = some (.lst ys) → H1 r = some (.lst zs) → tz D (((σ.set i (some (.ref p))).set j (some (.ref q))).set l (some (.ref r))) H1) :
    tSeq (tAsg (tTup (tCons t1 (tCons t2 (tCons t3 tNil)))) (gTup K 3 (gCons (gName i) (gCons (gName j) (gCons (gName l) gNil))))) tz D σ H :=
  h1 H (Ex.refl H) _ fun p H1 np e1 hp => h2 H1 e1 _ fun q H2 nq e2 hq => h3 H2 (e1.trans e2) _ fun r H3 nr e3 hr => ⟨by show 3 ≤ sizeLine; decide, fun t nt =>
    ⟨t, [.ref p, .ref q, .ref r], rfl, .inl (.inl upd_same), rfl, .ref p, [.ref q, .ref r], rfl, .ref q, [.ref r], rfl, .ref r, [], rfl, rfl,
      k p q r _ np (fresh_back e1 nq) (fresh_back (e1.trans e2) nr) (((e1.trans e2).trans e3).trans (Ex.new nt)) (Ex.new nt _ _ (e3 _ _ (e2 _ _ hp))) (Ex.new nt _ _ (e3 _ _ hq)) (Ex.new nt _ _ hr)⟩⟩
theorem dp_ints (ns : List Int) : DpAll K H (ns.map V.int) (ns.map PyData.int) := by
  induction ns with
  | nil => exact .nil
  | cons n r ih => exact .cons (.int n) ih
theorem rv_neSame {p q : Addr} {ns : List Int} (h1 : SqL K H p (ns.map V.int)) (h2 : SqL K H q (ns.map V.int)) : RV (rNeD K) (.ref p) (.ref q) H (.bl false) := fun H1 e Q k =>
  ⟨.list (ns.map PyData.int), .list (ns.map PyData.int), .lst (ex_l e h1) (dp_ints ns), .lst (ex_l e h2) (dp_ints ns), PySem.W.ke_shaped_ints ns, PySem.W.ke_shaped_ints ns, by
    rw [SeqAt.eqv_refl _ (SeqAt.canLay_of_shaped (PySem.W.ke_shaped_ints ns))]
    exact k H1 (Ex.refl H1)⟩
theorem andD {P : Hp → Prop} {Q : VK} (ha : ∀ k : VK, (∀ H1, P H1 → k (.bl true) H1) → ta σ H k) (hb : ∀ H1, P H1 → tb σ H1 Q) : tAndV ta tb σ H Q := ha _ fun H1 p => ⟨true, rfl, by rw [if_pos rfl]; exact hb H1 p⟩
theorem chi_far {C x : Addr} {most : Nat} {E E2 : XK} {kk : VK} (h2 : σ[2]? = some (some (.ref x))) (h6 : σ[6]? = some (some (.int (most : Nat)))) (h0 : σ[0]? = some (some (.ref h))) (hm : ∀ H, Ev tb σ H (.int ((100000 : Nat) : Int))) (hh : HandC H h c cells)
    (k : ∀ (r : Nat) H1, r < 100000 → Bt h H H1 → HandC H1 h c cells → (sp_chi C) [.ref x, .int ((most : Int) + (r : Int))] H1 (fun v H2 => rEq v (.int 0) H2 kk) E) :
    tOp rEq (tCall (sp_chi C) [] E (tCons (tVar 2) (tCons (tOp (rI0 fun i j => .int (i + j)) (tVar 6) (tCall sp__law_draw [] E2 (tCons (tVar 0) (tCons tb tNil)))) tNil))) (tC (.int 0)) σ H kk :=
  ⟨_, h2, _, h6, ed_draw (many := 100000) h0 hm (by decide) (by decide) H hh _ fun v H1 wv b hh1 => by
    obtain ⟨r, rfl, hr⟩ := wv
    exact ⟨(most : Int), (r : Int), rfl, rfl, k r H1 hr b hh1⟩⟩
theorem SyAt.bt {C x : Addr} {m : Nat} {tl W : List Nat} (s : SyAt C H x m tl W) (a : HandC H h c cells) (b : Bt h H H') : SyAt C H' x m tl W := by
  obtain ⟨⟨dx, b', c', a', h1, h2, h3⟩, R, p⟩ := s
  obtain ⟨⟨_, _, _, _, e⟩, _⟩ := a
  exact ⟨⟨dx, b', c', a', b _ _ (fun z => by rw [z, e] at h1; cases h1) h1, b _ _ (fun z => by rw [z, e] at h2; cases h2) h2, b _ _ (fun z => by rw [z, e] at h3; cases h3) h3⟩, R, p⟩
theorem HandC.tup {a : Addr} {xs : List V} (s : HandC H h c cells) (b : Bt h H H') (ha : H a = some (.tup xs)) : H' a = some (.tup xs) := by
  obtain ⟨⟨_, _, _, _, e⟩, _⟩ := s
  exact b _ _ (fun z => by rw [z, e] at ha; cases ha) ha
end
section
variable {P : Program} {w : World} {K : PySem.W.Frag} {mg : Str → Option Value} {base : Heap}
def sp__law_is_right : Sp := fun vs H Q _ => ∃ (h c t : Addr) (cells : List Int) (least many : Nat) (cs : List Nat), vs = [.ref h, .ref t] ∧ HandC H h c cells ∧ H t = some (.tup (nv cs)) ∧ Drawn least many 40 cs ∧ 2 ≤ least ∧ many ≤ 9 ∧
  ∀ H', Bt h H H' → HandC H' h c cells → Q (.bl true) H'
theorem ok_law_is_right (T : Top K mg) : FnOk P w K mg base CX0 7 T.a__law_is_right T.fd__law_is_right ["hand", "coins"] sp__law_is_right := by
  refine T.F__law_is_right.ok sc_law_is_right (fun vs H Q E h => ?_) (fun cdv A outer s H vs Q E hr h => ?_)
  · obtain ⟨h, c, t, cells, least, many, cs, rfl, _⟩ := h
    rfl
  · obtain ⟨h, c, t, cells, least, many, cs, rfl, hh, ht, D, hl2, hm9, k⟩ := h
    have nd := sc_law_is_right.nd
    refine ⟨_, (pss_cons (ps_par (i := 2) (j := 3) rfl nd rfl rfl (by decide) rfl rfl (pa_cons (pe_make T.m_System (ok_System_init T) (hr.mono (by decide)) (by rfl) T.g_System T.b_System_init .nil pass0 (pa_cons (pv 1) pa_nil)) (pa_cons (pe_op op_add (pe_op op_mul (pe_ix ix_tup (pv 1) pe_int (fun _ _ => rfl)) (pe_ix ix_tup (pv 1) (pe_un un_neg pe_int) (fun _ _ => rfl))) (pe_callB (cr_sumT rfl) (by rfl) T.z_sum (by decide +kernel) (pa_cons (pv 1) pa_nil))) pa_nil)) (by rfl)) (pss_cons (ps_set (i := 4) nd rfl (Or.inr rfl) (pe_call (ok_law_paid T) (hr.mono (by decide)) (by rfl) T.g__law_paid T.F__law_paid.kp T.b__law_paid .nil pass0 (pa_cons (pv 1) (pa_cons (pv 3) pa_nil)))) (pss_cons (ps_set (i := 5) nd rfl (Or.inl rfl) (pe_callB (cr_max rfl) (by rfl) T.z_max (by decide +kernel) (pa_cons (pe_lc (own := [("number", 11)]) (by rfl) nd (pi_range1 rfl T.z_range (pa_cons (pe_op op_add (pv 3) pe_int) pa_nil)) (blkOk_by (own := [("number", 11)]) (N := n_law_is_right) (sc := defScope s_law_is_right) (by decide +kernel)) (fun _ _ _ _ _ => (pg_name (i := 11) nd rfl (Or.inl rfl))) (fun _ _ _ _ _ => pts_one (pt_not (pt_val (pe_ix (show IxR _ (rIxL K) from ix_list) (pv 4) (pv 11) (fun _ _ => rfl))))) (fun _ _ _ _ _ => (pv 11))) pa_nil))) (pss_cons (ps_set (i := 6) nd rfl (Or.inl rfl) (pe_op op_add (pe_op op_add (pv 5) (pe_callB (cr_sumT rfl) (by rfl) T.z_sum (by decide +kernel) (pa_cons (pv 1) pa_nil))) pe_int)) (pss_cons (ps_if (pt_cmpR op_gt (pv 6) pe_int (nomark _)) (pss_one (ps_ret pe_bl)) pss_nil) (pss_cons (ps_asg (pe_tup (pa_cons (pe_call (ok_law_paid T) (hr.mono (by decide)) (by rfl) T.g__law_paid T.F__law_paid.kp T.b__law_paid .nil pass0 (pa_cons (pv 1) (pa_cons (pv 6) pa_nil))) (pa_cons (pe_call (ok_law_ways T) (hr.mono (by decide)) (by rfl) T.g__law_ways T.F__law_ways.kp T.b__law_ways .nil pass0 (pa_cons (pv 1) (pa_cons (pv 6) pa_nil))) (pa_cons (pe_call (ok_law_lots T) (hr.mono (by decide)) (by rfl) T.g__law_lots T.F__law_lots.kp T.b__law_lots .nil pass0 (pa_cons (pv 1) (pa_cons (pv 6) pa_nil))) pa_nil)))) (pg_tup rfl (pgs_cons (pg_name (i := 4) nd rfl (Or.inr rfl)) (pgs_cons (pg_name (i := 7) nd rfl (Or.inl rfl)) (pgs_cons (pg_name (i := 8) nd rfl (Or.inl rfl)) pgs_nil))))) (pss_cons (ps_set (i := 9) nd rfl (Or.inl rfl) (pe_call (ok_numerator T) (hr.mono (by decide)) (by rfl) T.g_numerator T.F_numerator.kp T.b_numerator .nil pass0 (pa_cons (pv 2) pa_nil))) (pss_cons (ps_if (PW.pt (pw_or (pt_cmpR (op_neD hr.units) (pe_callTy call_list_of (by rfl) T.z_list (by decide +kernel) (pa_cons (pe_call (ok_ways_list T) (hr.mono (by decide)) (by rfl) T.g_ways_list T.F_ways_list.kp T.b_ways_list .nil pass0 (pa_cons (pv 2) (pa_cons (pv 6) pa_nil))) pa_nil)) (pv 7) (nomark _)) (pw_or1 (pt_cmpR op_ne (pe_callB call_len_seq (by rfl) T.z_len PySem.boot_len (pa_cons (pv 9) pa_nil)) (pe_op op_add (pe_op op_add (pv 5) (pe_callB (cr_sumT rfl) (by rfl) T.z_sum (by decide +kernel) (pa_cons (pv 1) pa_nil))) pe_int) (nomark _))))) (pss_one (ps_ret pe_bl)) pss_nil) (pss_cons (ps_set (i := 10) nd rfl (Or.inl rfl) (pe_call (ok_order_mark T) (hr.mono (by decide)) (by rfl) T.g_order_mark T.F_order_mark.kp T.b_order_mark .nil pass0 (pa_cons (pv 2) (pa_cons (pv 6) pa_nil)))) (pss_cons (ps_for PassesOwn.never rfl (pi_range1 rfl T.z_range (pa_cons (pe_op op_add (pv 6) pe_int) pa_nil)) (pg_name (i := 11) nd rfl (Or.inl rfl)) (pss_one (ps_if (pt_cmpR op_ne (pe_call (ok_law_times T) (hr.mono (by decide)) (by rfl) T.g__law_times T.F__law_times.kp T.b__law_times .nil pass0 (pa_cons (pv 9) (pa_cons (pv 7) (pa_cons (pv 11) pa_nil)))) (pe_callTy call_int1 (by rfl) T.z_int (by decide +kernel) (pa_cons (pe_ix ix_list (pv 4) (pv 11) (fun _ _ => rfl)) pa_nil)) (nomark _)) (pss_one (ps_ret pe_bl)) pss_nil))) (pss_cons (ps_for PassesOwn.never rfl (pi_range1 rfl T.z_range (pa_cons pe_int pa_nil)) (pg_name (i := 12) nd rfl (Or.inl rfl)) (pss_cons (ps_set (i := 11) nd rfl (Or.inl rfl) (pe_call (ok_law_draw T) (hr.mono (by decide)) (by rfl) T.g__law_draw T.F__law_draw.kp T.b__law_draw .nil pass0 (pa_cons (pv 0) (pa_cons (pe_op op_add (pv 6) pe_int) pa_nil)))) (pss_cons (ps_if (pt_cmpR op_ne (pe_call (ok_law_times T) (hr.mono (by decide)) (by rfl) T.g__law_times T.F__law_times.kp T.b__law_times .nil pass0 (pa_cons (pv 9) (pa_cons (pv 10) (pa_cons (pv 11) pa_nil)))) (pe_ix ix_list (pv 8) (pv 11) (fun _ _ => rfl)) (nomark _)) (pss_one (ps_ret pe_bl)) pss_nil) (pss_cons (ps_set (i := 13) nd rfl (Or.inl rfl) (pe_ifExp (pt_cmpR op_lt (pv 11) (pe_callB call_len_seq (by rfl) T.z_len PySem.boot_len (pa_cons (pv 9) pa_nil)) (nomark _)) (pe_ix ix_tup (pv 9) (pv 11) (fun _ _ => rfl)) pe_int)) (pss_one (ps_if (PW.pt (pw_or (pt_cmpR op_ne (pe_call (ok_chi T) (hr.mono (by decide)) (by rfl) T.g_chi T.F_chi.kp T.b_chi .nil pass0 (pa_cons (pv 2) (pa_cons (pv 11) pa_nil))) (pv 13) (nomark _)) (pw_or1 (pt_cmpR op_ne (pe_call (ok_ways T) (hr.mono (by decide)) (by rfl) T.g_ways T.F_ways.kp T.b_ways .nil pass0 (pa_cons (pv 2) (pa_cons (pv 11) pa_nil))) (pe_ix ix_list (pv 7) (pv 11) (fun _ _ => rfl)) (nomark _))))) (pss_one (ps_ret pe_bl)) pss_nil)))))) (pss_one (ps_ret (pe_and (pe_cmpR op_eq (pe_callB (cr_sumT rfl) (by rfl) T.z_sum (by decide +kernel) (pa_cons (pv 9) pa_nil)) pe_int (nomark _)) (pe_and (pe_cmpR op_eq (pe_call (ok_chi T) (hr.mono (by decide)) (by rfl) T.g_chi T.F_chi.kp T.b_chi .nil pass0 (pa_cons (pv 2) (pa_cons (pe_op op_add (pv 6) (pe_call (ok_law_draw T) (hr.mono (by decide)) (by rfl) T.g__law_draw T.F__law_draw.kp T.b__law_draw .nil pass0 (pa_cons (pv 0) (pa_cons (pe_op op_pow pe_int pe_int) pa_nil)))) pa_nil))) pe_int (nomark _)) (pe_one (pe_cmpR op_eq (pe_call (ok_chi T) (hr.mono (by decide)) (by rfl) T.g_chi T.F_chi.kp T.b_chi .nil pass0 (pa_cons (pv 2) (pa_cons (pe_op op_sub (pe_op op_sub pe_int (pv 11)) pe_int) pa_nil))) pe_int (nomark _)))))))))))))))))), ?_⟩
    have G := drawn_good D hl2 hm9
    obtain ⟨m, rest, rfl⟩ := sorted_cons G.ne
    have hne : m :: rest ≠ [] := by simp
    generalize hMx : (m :: rest).getLast hne = Mx
    have hge : ∀ c ∈ m :: rest, c ≤ Mx := fun c hc => hMx ▸ last_ge _ hne D.asc c hc
    have hMm : Mx ∈ m :: rest := hMx ▸ List.getLast_mem hne
    have hMx40 := (D.two Mx hMm).2
    have hm40 := D.two m (by simp)
    have hmul : m * Mx ≤ 40 * 40 := Nat.mul_le_mul hm40.2 hMx40
    have hlen := D.len
    have hsum : (m :: rest).sum ≤ 360 := by
      have h1 := sum_le (B := 40) (m :: rest) fun c hc => (D.two c hc).2
      have h2 : (m :: rest).length * 40 ≤ 9 * 40 := Nat.mul_le_mul_right _ (by omega)
      omega
    have hlast : atI (nv (m :: rest)) (-1) = some (.int (Mx : Int)) := by
      unfold atI
      rw [nv_len, List.length_cons]
      have : ixN (rest.length + 1) (-1) = some rest.length := by
        unfold ixN
        simp
        omega
      rw [this]
      show (nv (m :: rest))[rest.length]? = _
      have e : (m :: rest)[rest.length]? = some Mx := by
        rw [← hMx, ← List.getLast?_eq_some_getLast hne, List.getLast?_eq_getElem?]
        rfl
      unfold nv
      rw [List.getElem?_map, e]
      rfl
    have pos : ∀ c ∈ m :: rest, 0 < c := fun c hc => by have := D.two c hc; omega
    have htI : ∀ {H2 : Hp}, Ex H H2 → SqT K H2 t (((m :: rest).map fun (c : Nat) => (c : Int)).map V.int) := fun e => by rw [← nv_ints]; exact st_of (e _ _ ht)
    have ewide : ((m : Int) * (Mx : Int)) + ((m :: rest).map fun (c : Nat) => (c : Int)).sum = ((m * Mx + (m :: rest).sum : Nat) : Int) := by rw [cast_sum, Int.natCast_add, Int.natCast_mul]
    generalize hwide : m * Mx + (m :: rest).sum = wide at ewide
    refine q_parSys (y := .int (wide : Int)) G ht (ev_var rfl) (fun H2 e2 => ev_is (ev_op (ev_op (ev_ixT (K := K) (j := 0) (ev_var rfl) (st_of (e2 _ _ ht)) ev_c rfl) (ev_op (ev_var rfl) (ev_un ev_c ru_neg) (rv_ixT (K := K) (st_of (e2 _ _ ht)) hlast)) (rv_mul (.inl ⟨by omega, by omega⟩))) (ev_sumT (K := K) (ev_var rfl) (htI e2)) rv_I0) (congrArg V.int ewide)) fun x m' rest' W H1 nx pm so R e1 sy0 => ?_
    -- the coins are sorted and all needed
    have so0 : (m :: rest).Pairwise (· ≤ ·) := D.asc.imp fun h => by omega
    have ecs : m' :: rest' = m :: rest := List.Perm.eq_of_pairwise (fun a b _ _ h1 h2 => Nat.le_antisymm h1 h2) so so0 pm
    obtain ⟨rfl, rfl⟩ := List.cons.inj ecs
    have hneed : needM [m'] rest' = rest' := needM_all rest' [m'] fun a c b e => D.need (m' :: a) c b (by rw [e]; rfl)
    rw [hneed] at sy0
    have sy : SyAt T.a_System H1 x m' rest' W := ⟨sy0, R, pos⟩
    obtain ⟨last, hL, hlw⟩ := last_of R (fun c hc => (D.two c hc).1) G.gcd hge
    have lw : last ≤ wide := by omega
    have w40 : wide ≤ 40000 := by omega
    -- flags, last
    refine q_asgL (el_call (ea_cons (ev_var rfl) (ea_cons (ev_var rfl) ea_nil)) (sl_law_paid (K := K) (.inr (st_of (e1 _ _ ht))) pos (by omega) w40)) fun fl H2 nfl e2 hfl => ?_
    have e02 := e1.trans e2
    have gi : given (wide + 1) (fun n => !pb (m' :: rest') n) (fun n => V.int (n : Int)) = (((List.range (wide + 1)).filter fun n => !pb (m' :: rest') n).map fun (n : Nat) => (n : Int)).map V.int := by unfold given; rw [List.map_map]; rfl
    refine q_asg (v := .int (last : Int)) (ev_maxN (K := K) (el_is (el_lcR1 (n := ((wide + 1 : Nat) : Int)) (fun n => !pb (m' :: rest') n) (fun n => V.int (n : Int)) (ea_cons (ev_op (ev_var rfl) ev_c rv_I0) ea_nil) ⟨by omega, by omega⟩ (fun v => rfl) (fun j H5 e5 hj => ?_) (fun j H5 e5 hj _ => ev_var rfl)) gi) ?_ fun y hy => ?_) fun H3 e3 => ?_
    · exact et_not (et_B (ev_ixL (K := K) (j := j) (ev_var rfl) (sq_of (e5 _ _ hfl)) (ev_var rfl) (bv_get (by omega))))
    · refine List.mem_map.mpr ⟨last, List.mem_filter.mpr ⟨List.mem_range.mpr (by omega), ?_⟩, rfl⟩
      rw [pb_not.mpr hL.gap]
      rfl
    · obtain ⟨n, hn, rfl⟩ := List.mem_map.mp hy
      obtain ⟨_, hn⟩ := List.mem_filter.mp hn
      apply Classical.byContradiction
      intro hgt
      rw [pb_iff.mpr (hL.safe n (by omega))] at hn
      cases hn
    have e03 := e02.trans e3
    -- most
    have emost : ((last : Int) + ((m' :: rest').map fun (c : Nat) => (c : Int)).sum) + 20 = ((last + (m' :: rest').sum + 20 : Nat) : Int) := by rw [cast_sum]; omega
    generalize hmost : last + (m' :: rest').sum + 20 = most at emost
    refine q_asg (v := .int (most : Int)) (ev_is (ev_op (ev_op (ev_var rfl) (ev_sumT (K := K) (ev_var rfl) (htI e03)) rv_I0) ev_c rv_I0) (congrArg V.int emost)) fun H4 e4 => ?_
    have e04 := e03.trans e4
    refine q_when (b := decide ((1900 : Int) < (most : Int))) (et_test (ev_op (ev_var rfl) ev_c rv_I0)) (fun _ H5 e5 => s_ret ev_c fun H6 e6 => k H6 (.of ((e04.trans e5).trans e6)) (hh.ex ((e04.trans e5).trans e6))) fun hb H5 e5 => ?_
    have hb := of_decide_eq_false hb
    have m19 : most ≤ 1900 := by omega
    have e05 := e04.trans e5
    have c50 : ∀ c ∈ m' :: rest', c ≤ 50000 := fun c hc => by have := (D.two c hc).2; omega
    have ht5 := e05 _ _ ht
    -- flags, own, lots
    refine q_tupLLL (K := K) (el_call (ea_cons (ev_var rfl) (ea_cons (ev_var rfl) ea_nil)) (sl_law_paid (K := K) (.inr (st_of ht5)) pos (by omega) (by omega)))
      (el_call (ea_cons (ev_var rfl) (ea_cons (ev_var rfl) ea_nil)) (sl_small_ways (K := K) (st_of ht5) (by omega) fun c hc => ⟨pos c hc, c50 c hc⟩))
      (el_call (ea_cons (ev_var rfl) (ea_cons (ev_var rfl) ea_nil)) (fun Ha ea Q q E => ⟨t, m' :: rest', most, rfl, st_of (ea _ _ ht5), by omega, fun c hc => ⟨pos c hc, c50 c hc⟩, q⟩)) fun pf_ po pl H6 npf npo npl e6 hpf hpo hpl => ?_
    have e06 := e05.trans e6
    have sy6 : SyAt T.a_System H6 x m' rest' W := (((sy.ex e2).ex e3).ex ((e4.trans e5).trans e6))
    -- row
    refine q_asgU (eu_call (ea_cons (ev_var rfl) ea_nil) (su_numerator sy6 hL (by omega))) fun pr H7 npr e7 hpr => ?_
    have sy7 := sy6.ex e7
    have e07 := e06.trans e7
    have hpo7 := e7 _ _ hpo
    have hpf7 := e7 _ _ hpf
    have hpl7 := e7 _ _ hpl
    have eown : iv (ics (m' :: rest') dl) (most + 1) = ((List.range (most + 1)).map (ics (m' :: rest') dl)).map V.int := iv_ints _ _
    have elen : (((iv (mcs (m' :: rest') (pf (m' :: rest'))) (last + (m' :: rest').sum + 1)).length : Nat) : Int) = ((last : Int) + ((m' :: rest').map fun (c : Nat) => (c : Int)).sum) + 1 := by rw [iv_len, cast_sum]; omega
    refine q_when (b := false) (et_is (et_or (a := false) (b := false) (et_test (ev_opL1 (el_listOfN (K := K) (el_call (ea_cons (ev_var rfl) (ea_cons (ev_var rfl) ea_nil)) (sl_ways_list sy7 c50 (by omega)))) (fun Ha ea => ev_var rfl) fun p Ha hp ea => by
        rw [eown] at hp hpo7
        exact rv_neSame (K := K) (sq_of hp) (sq_of (ea _ _ hpo7)))) fun _ => et_is (et_test (ev_op (ev_lenS (K := K) (ev_var rfl) (.inr (st_of hpr))) (ev_op (ev_op (ev_var rfl) (ev_sumT (K := K) (ev_var rfl) (htI e07)) rv_I0) ev_c rv_I0) (rv_ne rfl))) (by rw [elen]; simp)) rfl) (fun z => by cases z) fun _ H8 e8 => ?_
    -- marks
    have sy8 := sy7.ex e8
    refine q_asgU (eu_call (ea_cons (ev_var rfl) (ea_cons (ev_var rfl) ea_nil)) (su_order_mark sy8 (by omega))) fun pm_ H9 npm e9 hpm => ?_
    have e79 := e8.trans e9
    have e09 := (e07.trans e8).trans e9
    have sy9 := sy8.ex e9
    have hh9 := hh.ex e09
    obtain ⟨E1, E2⟩ := ends_num (c := m') (cs := rest') hL pos
    have hrz : ∀ j, last + (m' :: rest').sum + 1 ≤ j → mcs (m' :: rest') (pf (m' :: rest')) j = 0 := fun j hj => E1 j (by omega)
    have hrs : ∀ j, -(2 ^ 64) < mcs (m' :: rest') (pf (m' :: rest')) j ∧ mcs (m' :: rest') (pf (m' :: rest')) j < 2 ^ 64 := fun j => num_small (by omega) j
    have hMk := mk_marks (m' :: rest') most
    -- what stands, beside the hand
    have poh : po ≠ h := fun z => by rw [z] at npo; exact absurd npo (by obtain ⟨⟨_, _, _, _, e⟩, _⟩ := hh.ex e05; rw [e]; simp)
    have plh : pl ≠ h := fun z => by rw [z] at npl; exact absurd npl (by obtain ⟨⟨_, _, _, _, e⟩, _⟩ := hh.ex e05; rw [e]; simp)
    have hpo9 := e79 _ _ hpo7
    have hpl9 := e79 _ _ hpl7
    have hpr9 := e79 _ _ hpr
    have hpf9 := e79 _ _ hpf7
    -- all numbers
    refine q_forR1 (n := ((most + 1 : Nat) : Int)) (ea_cons (ev_op (ev_var rfl) ev_c rv_I0) ea_nil) ⟨by omega, by omega⟩
      (fun i σ' H' => ∃ y, σ' = [some (.ref h), some (.ref t), some (.ref x), some (.int (wide : Int)), some (.ref pf_), some (.int (last : Int)), some (.int (most : Int)), some (.ref po), some (.ref pl), some (.ref pr), some (.ref pm_), y, none, none] ∧ (0 < i → ∃ n : Nat, n ≤ most ∧ y = some (.int (n : Int))) ∧ Ex H9 H')
      (fun Ha ea => ⟨none, rfl, fun z => by omega, ea⟩) (fun i σ' H' hi hp => ?_) (fun σ' H' hp => ?_)
    · obtain ⟨y, rfl, _, e⟩ := hp
      have ev := num_ways (m' :: rest') (m' :: rest') pos i
      have ef : (if pb (m' :: rest') i then (1 : Int) else 0) = pf (m' :: rest') i := by unfold pf; rfl
      refine s_when (b := false) (et_is (et_test (ev_op (ev_call (ea_cons (ev_var rfl) (ea_cons (ev_var rfl) (ea_cons (ev_var rfl) ea_nil))) (sv_law_times (K := K) (n := i) (st_of (e _ _ hpr9)) (.inl (sq_of (e _ _ hpo9))) (by omega) (by omega) (by omega) hrz hrs)) (ev_intB (ev_ixL (K := K) (j := i) (ev_var rfl) (sq_of (e _ _ hpf9)) (ev_var rfl) (bv_get (by omega)))) (rv_ne rfl))) (by rw [ev, ef]; simp)) (fun z => by cases z) fun _ Ha ea => ⟨_, rfl, fun _ => ⟨i, by omega, rfl⟩, e.trans ea⟩
    · obtain ⟨y, rfl, hy, e⟩ := hp
      obtain ⟨n0, hn0, rfl⟩ := hy (by omega)
      -- 40 draws
      refine q_forR1 (n := 40) (ea_cons ev_c ea_nil) ⟨by omega, by omega⟩
        (fun i σ' H' => ∃ (n : Nat) (a b : Option V), n ≤ most ∧ σ' = [some (.ref h), some (.ref t), some (.ref x), some (.int (wide : Int)), some (.ref pf_), some (.int (last : Int)), some (.int (most : Int)), some (.ref po), some (.ref pl), some (.ref pr), some (.ref pm_), some (.int (n : Int)), a, b] ∧ Bt h H9 H' ∧ HandC H' h c cells)
        (fun Ha ea => ⟨n0, none, none, hn0, rfl, .of (e.trans ea), hh9.ex (e.trans ea)⟩) (fun i σ' H' hi hp => ?_) (fun σ' H' hp => ?_)
      · obtain ⟨n, a, b, hn, rfl, b0, hh0⟩ := hp
        refine q_asgCall (ea_cons (ev_var rfl) (ea_cons (ev_op (ev_var rfl) ev_c rv_I0) ea_nil)) fun Ha ea => ⟨h, c, cells, most + 1, rfl, hh0.ex ea, by omega, by omega, fun r Hb hr bb hhb => ?_⟩
        have b9 : Bt h H9 Hb := (b0.ex ea).trans bb
        have syb := sy9.bt hh9 b9
        have hprb := hh9.tup b9 hpr9
        have hpmb := hh9.tup b9 hpm
        have hpob := b9 _ _ poh hpo9
        have hplb := b9 _ _ plh hpl9
        have em := num_marks (cs := m' :: rest') hMk (n := r) (by omega)
        refine q_when (b := false) (et_is (et_test (ev_op (ev_call (ea_cons (ev_var rfl) (ea_cons (ev_var rfl) (ea_cons (ev_var rfl) ea_nil))) (sv_law_times (K := K) (n := r) (st_of hprb) (.inr (st_of hpmb)) (by omega) (by omega) (by omega) hrz hrs)) (ev_ixL (K := K) (j := r) (ev_var rfl) (sq_of hplb) (ev_var rfl) (iv_get (by omega))) (rv_ne rfl))) (by rw [em]; simp)) (fun z => by cases z) fun _ Hc ec => ?_
        -- due
        have hprc := ec _ _ hprb
        refine q_asg (v := .int (mcs (m' :: rest') (pf (m' :: rest')) r)) (ev_if (b := decide ((r : Int) < ((iv (mcs (m' :: rest') (pf (m' :: rest'))) (last + (m' :: rest').sum + 1)).length : Int))) (et_test (ev_op (ev_var rfl) (ev_lenS (K := K) (ev_var rfl) (.inr (st_of hprc))) rv_I0)) (fun hb => ?_) (fun hb => ?_)) fun Hd ed => ?_
        · have hb := of_decide_eq_true hb
          rw [iv_len] at hb
          exact ev_ixT (K := K) (j := r) (ev_var rfl) (st_of hprc) (ev_var rfl) (iv_get (by omega))
        · have hb := of_decide_eq_false hb
          rw [iv_len] at hb
          exact ev_is ev_c (congrArg V.int (hrz r (by omega)).symm)
        · have ebd := ec.trans ed
          have ec1 : chiV (m' :: rest') (r : Int) = mcs (m' :: rest') (pf (m' :: rest')) r := by unfold chiV; rw [if_pos (by omega), Int.toNat_natCast]
          refine s_when (b := false) (et_is (et_or (a := false) (b := false) (et_is (et_test (ev_op (ev_call (ea_cons (ev_var rfl) (ea_cons (ev_var rfl) ea_nil)) (sv_chi (syb.ex ebd) (by omega) (by omega) (by omega))) (ev_var rfl) (rv_ne rfl))) (by rw [ec1]; simp)) fun _ => et_is (et_test (ev_op (ev_call (ea_cons (ev_var rfl) (ea_cons (ev_var rfl) ea_nil)) (sv_ways_of (syb.ex ebd) c50 (by omega))) (ev_ixL (K := K) (j := r) (ev_var rfl) (sq_of (ebd _ _ hpob)) (ev_var rfl) (iv_get (by omega))) (rv_ne rfl))) (by simp)) rfl) (fun z => by cases z) fun _ He ee => ⟨r, _, _, by omega, rfl, b9.ex (ebd.trans ee), hhb.ex (ebd.trans ee)⟩
      · obtain ⟨n, a, b, hn, rfl, b0, hh0⟩ := hp
        have hprb := hh9.tup b0 hpr9
        have syb := sy9.bt hh9 b0
        have rsum : ((List.range (last + (m' :: rest').sum + 1)).map (mcs (m' :: rest') (pf (m' :: rest')))).sum = 0 := by
          rw [iv_sum]
          cases rest' with
          | nil => simp at hlen; omega
          | cons d r => exact sum_num hL pos (by omega)
        have z1 : decide (V.int ((List.range (last + (m' :: rest').sum + 1)).map (mcs (m' :: rest') (pf (m' :: rest')))).sum = V.int 0) = true := by rw [rsum]; rfl
        have fin : ∀ Hf, Bt h H' Hf → HandC Hf h c cells → Q (.bl true) Hf := fun Hf bf hhf => k Hf (Bt.ex1 e09 (b0.trans bf)) hhf
        show tAndV _ _ _ H' Q
        refine andD (P := fun Hf => Ex H' Hf) (fun kk q => (ev_is (ev_op (ev_sumT (K := K) (ev_var rfl) (by rw [← iv_ints]; exact st_of hprb)) ev_c (rv_eq rfl)) (congrArg V.bl z1) : Ev _ _ H' (.bl true)) H' (Ex.refl H') kk q) fun Ha ea => ?_
        refine andD (P := fun Hf => Bt h H' Hf ∧ HandC Hf h c cells) (fun kk q => ?_) fun Hb pb_ => ?_
        · -- chi beyond
          refine chi_far (C := T.a_System) (x := x) (h := h) (c := c) (cells := cells) (most := most) (by rfl) (by rfl) (by rfl) (fun Hx => ev_is (ev_op ev_c ev_c (rv_I ⟨by decide, by decide, by decide⟩)) (congrArg V.int (by decide))) (hh0.ex ea) fun r Hd hr bd hhd => ?_
          have syd : SyAt T.a_System Hd x m' rest' W := (syb.ex ea).bt (hh0.ex ea) bd
          have ec1 : chiV (m' :: rest') ((most : Int) + (r : Int)) = 0 := by
            unfold chiV
            rw [if_pos (by omega)]
            exact hrz _ (by omega)
          refine (sv_chi syd (by omega) (n := (most : Int) + (r : Int)) (by omega) (by omega)) Hd (Ex.refl Hd) _ (fun He ee => ?_) _
          rw [ec1]
          exact ⟨rfl, q He ⟨(Bt.ex1 ea bd).ex ee, hhd.ex ee⟩⟩
        · obtain ⟨bf, hhf⟩ := pb_
          have syf := syb.bt hh0 bf
          have ec1 : chiV (m' :: rest') (((0 : Int) - (n : Int)) - 1) = 0 := by
            unfold chiV
            rw [if_neg (by omega)]
          exact (ev_is (ev_op (ev_call (ea_cons (ev_var rfl) (ea_cons (ev_op (ev_op ev_c (ev_var rfl) rv_I0) ev_c rv_I0) ea_nil)) (sv_chi syf (by omega) (by omega) (by omega))) ev_c (rv_eq rfl)) (by rw [ec1]; rfl) : Ev _ _ Hb (.bl true)) Hb (Ex.refl Hb) _ fun Hg eg => fin Hg (bf.ex eg) (hhf.ex eg)
theorem call_right {σ : L2.St} {H : Hp} {h c : Addr} {cells : List Int} {least many size : Nat} {E E' : XK} {Q : VK} (hσ : σ[1]? = some (some (.ref h))) (hh : HandC H h c cells) (h2 : 2 ≤ least) (hlm : least ≤ many) (hm : many ≤ 9) (hs2 : 2 ≤ size) (hsl : 2 * least ≤ size) (hs : size ≤ 40)
    (k : ∀ H', HandC H' h c cells → Q (.bl true) H') :
    tCall sp__law_is_right [] E (tCons (tVar 1) (tCons (tCall sp__law_coins [] E' (tCons (tVar 1) (tCons (tC (.int (least : Nat))) (tCons (tC (.int (many : Nat))) (tCons (tC (.int (size : Nat))) tNil))))) tNil)) σ H Q :=
  ⟨_, hσ, _, hσ, h, c, cells, least, many, size, rfl, hh, h2, hlm, by omega, hs2, hsl, by omega, fun cs t H' D b hh' ht => ⟨h, c, t, cells, least, many, cs, rfl, hh', ht, ⟨D.asc, fun x hx => by have := D.two x hx; omega, D.len, D.gcd, D.need⟩, h2, hm, fun H'' _ hh'' => k H'' hh''⟩⟩
theorem q_notCall {te : TE} {tu tz : TS} {D : L2.Ends} {σ : L2.St} {H : Hp} {P : Hp → Prop} (h : ∀ Q : VK, (∀ H', P H' → Q (.bl true) H') → te σ H Q) (k : ∀ H', P H' → tz D σ H') : tSeq (tIfS (tNot (tB te)) tu tNext) tz D σ H :=
  h _ fun H' p => ⟨true, rfl, by
    show (if (!true) = true then _ else _)
    rw [if_neg (by decide)]
    exact k H' p⟩
def sp_law (K : PySem.W.Frag) : Sp := fun vs H Q _ => ∃ (a : Addr) (ns : List Int), vs = [.ref a] ∧ SqL K H a (ns.map V.int) ∧ ns.length ≤ 63 ∧ ∀ H', Q (.bl true) H'
theorem ok_law (T : Top K mg) : FnOk P w K mg base CX0 8 T.a_law T.fd_law ["script"] (sp_law K) := by
  refine T.F_law.ok sc_law (fun vs H Q E h => ?_) (fun cdv A outer s H vs Q E hr h => ?_)
  · obtain ⟨a, ns, rfl, _⟩ := h
    rfl
  · obtain ⟨a, ns, rfl, ha, hl, k⟩ := h
    have nd := sc_law.nd
    refine ⟨_, (pss_cons (ps_set (i := 1) nd rfl (Or.inl rfl) (pe_call (ok_law_hand T) (hr.mono (by decide)) (by rfl) T.g__law_hand T.F__law_hand.kp T.b__law_hand .nil pass0 (pa_cons (pv 0) pa_nil))) (pss_cons (ps_if (pt_not (pt_val (pe_call (ok_law_is_right T) (hr.mono (by decide)) (by rfl) T.g__law_is_right T.F__law_is_right.kp T.b__law_is_right .nil pass0 (pa_cons (pv 1) (pa_cons (pe_call (ok_law_coins T) (hr.mono (by decide)) (by rfl) T.g__law_coins T.F__law_coins.kp T.b__law_coins .nil pass0 (pa_cons (pv 1) (pa_cons pe_int (pa_cons pe_int (pa_cons pe_int pa_nil))))) pa_nil))))) (pss_one (ps_ret pe_bl)) pss_nil) (pss_one (ps_ret (pe_call (ok_law_is_right T) (hr.mono (by decide)) (by rfl) T.g__law_is_right T.F__law_is_right.kp T.b__law_is_right .nil pass0 (pa_cons (pv 1) (pa_cons (pe_call (ok_law_coins T) (hr.mono (by decide)) (by rfl) T.g__law_coins T.F__law_coins.kp T.b__law_coins .nil pass0 (pa_cons (pv 1) (pa_cons pe_int (pa_cons pe_int (pa_cons pe_int pa_nil))))) pa_nil))))))), ?_⟩
    refine q_asgCall (ea_cons (ev_var rfl) ea_nil) fun H1 e1 => ⟨a, ns, rfl, ex_l e1 ha, hl, fun h c cells H2 nh e2 hh => ?_⟩
    refine q_notCall (P := fun H' => HandC H' h c cells) (fun Q q => call_right (by rfl) hh (by decide) (by decide) (by decide) (by decide) (by decide) (by decide) q) fun H3 hh3 => ?_
    exact call_right (h := h) (c := c) (cells := cells) (by rfl) hh3 (by decide) (by decide) (by decide) (by decide) (by decide) (by decide) fun H4 _ => k H4
end
end Pd

/-! What the top leaves, the head. Printed by end_k22.py. -/
namespace Pd
open PySem PySem.Spec PyProof.Rows L2
theorem kit_self (K : PySem.W.Frag) (C : Addr) : PySem.W.kitOne K (.ref C) (.ref C) = some true := by
  unfold PySem.W.kitOne
  rw [if_pos (by simp)]
theorem all_mk {l : PySem.W.OpenLaw} {w : World} {K : PySem.W.Frag} {h : Heap} {mg : Str → Option Value} {fa : Addr} (X : K.In h) (G : h.Ns mainGlobals mg) (hfa : mg "law" = some (.ref fa))
    {f_is_integer f_is_within f_common f_common_of f_round_up f_built f_check_coins f_System_init f_check_system f_check_sum f_pays_of f_greatest_of f_poly_of f_product f_numerator f_over_line f_trimmed f_chi f_order_mark f_small_ways f_ways_of f_ways f_ways_list f__law_hand f__law_draw f__law_common f__law_paid f__law_coins f__law_ways f__law_lots f__law_times f__law_is_right f_law : Addr}
    {od_is_integer an_is_integer od_is_within an_is_within od_common an_common od_common_of an_common_of od_round_up an_round_up od_built an_built od_check_coins an_check_coins od_System_init an_System_init od_check_system an_check_system od_check_sum an_check_sum od_pays_of an_pays_of od_greatest_of an_greatest_of od_poly_of an_poly_of od_product an_product od_numerator an_numerator od_over_line an_over_line od_trimmed an_trimmed od_chi an_chi od_order_mark an_order_mark od_small_ways an_small_ways od_ways_of an_ways_of od_ways an_ways od_ways_list an_ways_list od__law_hand an__law_hand od__law_draw an__law_draw od__law_common an__law_common od__law_paid an__law_paid od__law_coins an__law_coins od__law_ways an__law_ways od__law_lots an__law_lots od__law_times an__law_times od__law_is_right an__law_is_right od_law an_law : Option Addr}
    {sl_is_integer sl_is_within sl_common sl_common_of sl_round_up sl_built sl_check_coins sl_System_init sl_check_system sl_check_sum sl_pays_of sl_greatest_of sl_poly_of sl_product sl_numerator sl_over_line sl_trimmed sl_chi sl_order_mark sl_small_ways sl_ways_of sl_ways sl_ways_list sl__law_hand sl__law_draw sl__law_common sl__law_paid sl__law_coins sl__law_ways sl__law_lots sl__law_times sl__law_is_right sl_law : Array (Option Value)}
    {oc_is_integer kV_is_integer dc_is_integer pm_is_integer cd_is_integer ct_is_integer oc_is_within kV_is_within dc_is_within pm_is_within cd_is_within ct_is_within oc_common kV_common dc_common pm_common cd_common ct_common oc_common_of kV_common_of dc_common_of pm_common_of cd_common_of ct_common_of oc_round_up kV_round_up dc_round_up pm_round_up cd_round_up ct_round_up oc_built kV_built dc_built pm_built cd_built ct_built oc_check_coins kV_check_coins dc_check_coins pm_check_coins cd_check_coins ct_check_coins oc_System_init kV_System_init dc_System_init pm_System_init cd_System_init ct_System_init oc_check_system kV_check_system dc_check_system pm_check_system cd_check_system ct_check_system oc_check_sum kV_check_sum dc_check_sum pm_check_sum cd_check_sum ct_check_sum oc_pays_of kV_pays_of dc_pays_of pm_pays_of cd_pays_of ct_pays_of oc_greatest_of kV_greatest_of dc_greatest_of pm_greatest_of cd_greatest_of ct_greatest_of oc_poly_of kV_poly_of dc_poly_of pm_poly_of cd_poly_of ct_poly_of oc_product kV_product dc_product pm_product cd_product ct_product oc_numerator kV_numerator dc_numerator pm_numerator cd_numerator ct_numerator oc_over_line kV_over_line dc_over_line pm_over_line cd_over_line ct_over_line oc_trimmed kV_trimmed dc_trimmed pm_trimmed cd_trimmed ct_trimmed oc_chi kV_chi dc_chi pm_chi cd_chi ct_chi oc_order_mark kV_order_mark dc_order_mark pm_order_mark cd_order_mark ct_order_mark oc_small_ways kV_small_ways dc_small_ways pm_small_ways cd_small_ways ct_small_ways oc_ways_of kV_ways_of dc_ways_of pm_ways_of cd_ways_of ct_ways_of oc_ways kV_ways dc_ways pm_ways cd_ways ct_ways oc_ways_list kV_ways_list dc_ways_list pm_ways_list cd_ways_list ct_ways_list oc__law_hand kV__law_hand dc__law_hand pm__law_hand cd__law_hand ct__law_hand oc__law_draw kV__law_draw dc__law_draw pm__law_draw cd__law_draw ct__law_draw oc__law_common kV__law_common dc__law_common pm__law_common cd__law_common ct__law_common oc__law_paid kV__law_paid dc__law_paid pm__law_paid cd__law_paid ct__law_paid oc__law_coins kV__law_coins dc__law_coins pm__law_coins cd__law_coins ct__law_coins oc__law_ways kV__law_ways dc__law_ways pm__law_ways cd__law_ways ct__law_ways oc__law_lots kV__law_lots dc__law_lots pm__law_lots cd__law_lots ct__law_lots oc__law_times kV__law_times dc__law_times pm__law_times cd__law_times ct__law_times oc__law_is_right kV__law_is_right dc__law_is_right pm__law_is_right cd__law_is_right ct__law_is_right oc_law kV_law dc_law pm_law cd_law ct_law : Value}
    {C_System : Addr} {t_MOST_COIN t_MOST_LEAST t_MOST_COINS t_MOST_GREAT t_MOST_SMALL : Tok}
    (aC_System : PySem.W.nsIn K mainGlobals "System" = some (some (.ref C_System)))
    (a_is_integer : PySem.W.nsIn K mainGlobals "is_integer" = some (some (.ref f_is_integer)))
    (l_is_integer : K.lookup f_is_integer = some ⟨oc_is_integer, od_is_integer, .func (PySem.W.fnOf "is_integer" "is_integer" (defArgs s_is_integer) (defBody s_is_integer) (defScope s_is_integer) .none kV_is_integer dc_is_integer pm_is_integer an_is_integer cd_is_integer ct_is_integer), sl_is_integer⟩)
    (c_is_integer : PySem.W.codeIn K cd_is_integer "is_integer" = true)
    (k_is_integer : PySem.W.keepIn K (.ref f_is_integer) = true)
    (a_is_within : PySem.W.nsIn K mainGlobals "is_within" = some (some (.ref f_is_within)))
    (l_is_within : K.lookup f_is_within = some ⟨oc_is_within, od_is_within, .func (PySem.W.fnOf "is_within" "is_within" (defArgs s_is_within) (defBody s_is_within) (defScope s_is_within) .none kV_is_within dc_is_within pm_is_within an_is_within cd_is_within ct_is_within), sl_is_within⟩)
    (c_is_within : PySem.W.codeIn K cd_is_within "is_within" = true)
    (k_is_within : PySem.W.keepIn K (.ref f_is_within) = true)
    (a_common : PySem.W.nsIn K mainGlobals "common" = some (some (.ref f_common)))
    (l_common : K.lookup f_common = some ⟨oc_common, od_common, .func (PySem.W.fnOf "common" "common" (defArgs s_common) (defBody s_common) (defScope s_common) .none kV_common dc_common pm_common an_common cd_common ct_common), sl_common⟩)
    (c_common : PySem.W.codeIn K cd_common "common" = true)
    (k_common : PySem.W.keepIn K (.ref f_common) = true)
    (a_common_of : PySem.W.nsIn K mainGlobals "common_of" = some (some (.ref f_common_of)))
    (l_common_of : K.lookup f_common_of = some ⟨oc_common_of, od_common_of, .func (PySem.W.fnOf "common_of" "common_of" (defArgs s_common_of) (defBody s_common_of) (defScope s_common_of) .none kV_common_of dc_common_of pm_common_of an_common_of cd_common_of ct_common_of), sl_common_of⟩)
    (c_common_of : PySem.W.codeIn K cd_common_of "common_of" = true)
    (k_common_of : PySem.W.keepIn K (.ref f_common_of) = true)
    (a_round_up : PySem.W.nsIn K mainGlobals "round_up" = some (some (.ref f_round_up)))
    (l_round_up : K.lookup f_round_up = some ⟨oc_round_up, od_round_up, .func (PySem.W.fnOf "round_up" "round_up" (defArgs s_round_up) (defBody s_round_up) (defScope s_round_up) .none kV_round_up dc_round_up pm_round_up an_round_up cd_round_up ct_round_up), sl_round_up⟩)
    (c_round_up : PySem.W.codeIn K cd_round_up "round_up" = true)
    (k_round_up : PySem.W.keepIn K (.ref f_round_up) = true)
    (a_built : PySem.W.nsIn K mainGlobals "built" = some (some (.ref f_built)))
    (l_built : K.lookup f_built = some ⟨oc_built, od_built, .func (PySem.W.fnOf "built" "built" (defArgs s_built) (defBody s_built) (defScope s_built) .none kV_built dc_built pm_built an_built cd_built ct_built), sl_built⟩)
    (c_built : PySem.W.codeIn K cd_built "built" = true)
    (k_built : PySem.W.keepIn K (.ref f_built) = true)
    (a_check_coins : PySem.W.nsIn K mainGlobals "check_coins" = some (some (.ref f_check_coins)))
    (l_check_coins : K.lookup f_check_coins = some ⟨oc_check_coins, od_check_coins, .func (PySem.W.fnOf "check_coins" "check_coins" (defArgs s_check_coins) (defBody s_check_coins) (defScope s_check_coins) .none kV_check_coins dc_check_coins pm_check_coins an_check_coins cd_check_coins ct_check_coins), sl_check_coins⟩)
    (c_check_coins : PySem.W.codeIn K cd_check_coins "check_coins" = true)
    (k_check_coins : PySem.W.keepIn K (.ref f_check_coins) = true)
    (a_System_init : PySem.W.findIn K (.ref C_System) "__init__" = some (some (.ref f_System_init)))
    (i_System_init : PySem.W.isFn K (.ref f_System_init) = true)
    (l_System_init : K.lookup f_System_init = some ⟨oc_System_init, od_System_init, .func (PySem.W.fnOf "__init__" "System.__init__" (defArgs s_System_init) (defBody s_System_init) (defScope s_System_init) .none kV_System_init dc_System_init pm_System_init an_System_init cd_System_init ct_System_init), sl_System_init⟩)
    (c_System_init : PySem.W.codeIn K cd_System_init "System.__init__" = true)
    (k_System_init : PySem.W.keepIn K (.ref f_System_init) = true)
    (a_check_system : PySem.W.nsIn K mainGlobals "check_system" = some (some (.ref f_check_system)))
    (l_check_system : K.lookup f_check_system = some ⟨oc_check_system, od_check_system, .func (PySem.W.fnOf "check_system" "check_system" (defArgs s_check_system) (defBody s_check_system) (defScope s_check_system) .none kV_check_system dc_check_system pm_check_system an_check_system cd_check_system ct_check_system), sl_check_system⟩)
    (c_check_system : PySem.W.codeIn K cd_check_system "check_system" = true)
    (k_check_system : PySem.W.keepIn K (.ref f_check_system) = true)
    (a_check_sum : PySem.W.nsIn K mainGlobals "check_sum" = some (some (.ref f_check_sum)))
    (l_check_sum : K.lookup f_check_sum = some ⟨oc_check_sum, od_check_sum, .func (PySem.W.fnOf "check_sum" "check_sum" (defArgs s_check_sum) (defBody s_check_sum) (defScope s_check_sum) .none kV_check_sum dc_check_sum pm_check_sum an_check_sum cd_check_sum ct_check_sum), sl_check_sum⟩)
    (c_check_sum : PySem.W.codeIn K cd_check_sum "check_sum" = true)
    (k_check_sum : PySem.W.keepIn K (.ref f_check_sum) = true)
    (a_pays_of : PySem.W.nsIn K mainGlobals "pays_of" = some (some (.ref f_pays_of)))
    (l_pays_of : K.lookup f_pays_of = some ⟨oc_pays_of, od_pays_of, .func (PySem.W.fnOf "pays_of" "pays_of" (defArgs s_pays_of) (defBody s_pays_of) (defScope s_pays_of) .none kV_pays_of dc_pays_of pm_pays_of an_pays_of cd_pays_of ct_pays_of), sl_pays_of⟩)
    (c_pays_of : PySem.W.codeIn K cd_pays_of "pays_of" = true)
    (k_pays_of : PySem.W.keepIn K (.ref f_pays_of) = true)
    (a_greatest_of : PySem.W.nsIn K mainGlobals "greatest_of" = some (some (.ref f_greatest_of)))
    (l_greatest_of : K.lookup f_greatest_of = some ⟨oc_greatest_of, od_greatest_of, .func (PySem.W.fnOf "greatest_of" "greatest_of" (defArgs s_greatest_of) (defBody s_greatest_of) (defScope s_greatest_of) .none kV_greatest_of dc_greatest_of pm_greatest_of an_greatest_of cd_greatest_of ct_greatest_of), sl_greatest_of⟩)
    (c_greatest_of : PySem.W.codeIn K cd_greatest_of "greatest_of" = true)
    (k_greatest_of : PySem.W.keepIn K (.ref f_greatest_of) = true)
    (a_poly_of : PySem.W.nsIn K mainGlobals "poly_of" = some (some (.ref f_poly_of)))
    (l_poly_of : K.lookup f_poly_of = some ⟨oc_poly_of, od_poly_of, .func (PySem.W.fnOf "poly_of" "poly_of" (defArgs s_poly_of) (defBody s_poly_of) (defScope s_poly_of) .none kV_poly_of dc_poly_of pm_poly_of an_poly_of cd_poly_of ct_poly_of), sl_poly_of⟩)
    (c_poly_of : PySem.W.codeIn K cd_poly_of "poly_of" = true)
    (k_poly_of : PySem.W.keepIn K (.ref f_poly_of) = true)
    (a_product : PySem.W.nsIn K mainGlobals "product" = some (some (.ref f_product)))
    (l_product : K.lookup f_product = some ⟨oc_product, od_product, .func (PySem.W.fnOf "product" "product" (defArgs s_product) (defBody s_product) (defScope s_product) .none kV_product dc_product pm_product an_product cd_product ct_product), sl_product⟩)
    (c_product : PySem.W.codeIn K cd_product "product" = true)
    (k_product : PySem.W.keepIn K (.ref f_product) = true)
    (a_numerator : PySem.W.nsIn K mainGlobals "numerator" = some (some (.ref f_numerator)))
    (l_numerator : K.lookup f_numerator = some ⟨oc_numerator, od_numerator, .func (PySem.W.fnOf "numerator" "numerator" (defArgs s_numerator) (defBody s_numerator) (defScope s_numerator) .none kV_numerator dc_numerator pm_numerator an_numerator cd_numerator ct_numerator), sl_numerator⟩)
    (c_numerator : PySem.W.codeIn K cd_numerator "numerator" = true)
    (k_numerator : PySem.W.keepIn K (.ref f_numerator) = true)
    (a_over_line : PySem.W.nsIn K mainGlobals "over_line" = some (some (.ref f_over_line)))
    (l_over_line : K.lookup f_over_line = some ⟨oc_over_line, od_over_line, .func (PySem.W.fnOf "over_line" "over_line" (defArgs s_over_line) (defBody s_over_line) (defScope s_over_line) .none kV_over_line dc_over_line pm_over_line an_over_line cd_over_line ct_over_line), sl_over_line⟩)
    (c_over_line : PySem.W.codeIn K cd_over_line "over_line" = true)
    (k_over_line : PySem.W.keepIn K (.ref f_over_line) = true)
    (a_trimmed : PySem.W.nsIn K mainGlobals "trimmed" = some (some (.ref f_trimmed)))
    (l_trimmed : K.lookup f_trimmed = some ⟨oc_trimmed, od_trimmed, .func (PySem.W.fnOf "trimmed" "trimmed" (defArgs s_trimmed) (defBody s_trimmed) (defScope s_trimmed) .none kV_trimmed dc_trimmed pm_trimmed an_trimmed cd_trimmed ct_trimmed), sl_trimmed⟩)
    (c_trimmed : PySem.W.codeIn K cd_trimmed "trimmed" = true)
    (k_trimmed : PySem.W.keepIn K (.ref f_trimmed) = true)
    (a_chi : PySem.W.nsIn K mainGlobals "chi" = some (some (.ref f_chi)))
    (l_chi : K.lookup f_chi = some ⟨oc_chi, od_chi, .func (PySem.W.fnOf "chi" "chi" (defArgs s_chi) (defBody s_chi) (defScope s_chi) .none kV_chi dc_chi pm_chi an_chi cd_chi ct_chi), sl_chi⟩)
    (c_chi : PySem.W.codeIn K cd_chi "chi" = true)
    (k_chi : PySem.W.keepIn K (.ref f_chi) = true)
    (a_order_mark : PySem.W.nsIn K mainGlobals "order_mark" = some (some (.ref f_order_mark)))
    (l_order_mark : K.lookup f_order_mark = some ⟨oc_order_mark, od_order_mark, .func (PySem.W.fnOf "order_mark" "order_mark" (defArgs s_order_mark) (defBody s_order_mark) (defScope s_order_mark) .none kV_order_mark dc_order_mark pm_order_mark an_order_mark cd_order_mark ct_order_mark), sl_order_mark⟩)
    (c_order_mark : PySem.W.codeIn K cd_order_mark "order_mark" = true)
    (k_order_mark : PySem.W.keepIn K (.ref f_order_mark) = true)
    (a_small_ways : PySem.W.nsIn K mainGlobals "small_ways" = some (some (.ref f_small_ways)))
    (l_small_ways : K.lookup f_small_ways = some ⟨oc_small_ways, od_small_ways, .func (PySem.W.fnOf "small_ways" "small_ways" (defArgs s_small_ways) (defBody s_small_ways) (defScope s_small_ways) .none kV_small_ways dc_small_ways pm_small_ways an_small_ways cd_small_ways ct_small_ways), sl_small_ways⟩)
    (c_small_ways : PySem.W.codeIn K cd_small_ways "small_ways" = true)
    (k_small_ways : PySem.W.keepIn K (.ref f_small_ways) = true)
    (a_ways_of : PySem.W.nsIn K mainGlobals "ways_of" = some (some (.ref f_ways_of)))
    (l_ways_of : K.lookup f_ways_of = some ⟨oc_ways_of, od_ways_of, .func (PySem.W.fnOf "ways_of" "ways_of" (defArgs s_ways_of) (defBody s_ways_of) (defScope s_ways_of) .none kV_ways_of dc_ways_of pm_ways_of an_ways_of cd_ways_of ct_ways_of), sl_ways_of⟩)
    (c_ways_of : PySem.W.codeIn K cd_ways_of "ways_of" = true)
    (k_ways_of : PySem.W.keepIn K (.ref f_ways_of) = true)
    (a_ways : PySem.W.nsIn K mainGlobals "ways" = some (some (.ref f_ways)))
    (l_ways : K.lookup f_ways = some ⟨oc_ways, od_ways, .func (PySem.W.fnOf "ways" "ways" (defArgs s_ways) (defBody s_ways) (defScope s_ways) .none kV_ways dc_ways pm_ways an_ways cd_ways ct_ways), sl_ways⟩)
    (c_ways : PySem.W.codeIn K cd_ways "ways" = true)
    (k_ways : PySem.W.keepIn K (.ref f_ways) = true)
    (a_ways_list : PySem.W.nsIn K mainGlobals "ways_list" = some (some (.ref f_ways_list)))
    (l_ways_list : K.lookup f_ways_list = some ⟨oc_ways_list, od_ways_list, .func (PySem.W.fnOf "ways_list" "ways_list" (defArgs s_ways_list) (defBody s_ways_list) (defScope s_ways_list) .none kV_ways_list dc_ways_list pm_ways_list an_ways_list cd_ways_list ct_ways_list), sl_ways_list⟩)
    (c_ways_list : PySem.W.codeIn K cd_ways_list "ways_list" = true)
    (k_ways_list : PySem.W.keepIn K (.ref f_ways_list) = true)
    (a__law_hand : PySem.W.nsIn K mainGlobals "_law_hand" = some (some (.ref f__law_hand)))
    (l__law_hand : K.lookup f__law_hand = some ⟨oc__law_hand, od__law_hand, .func (PySem.W.fnOf "_law_hand" "_law_hand" (defArgs s_law_hand) (defBody s_law_hand) (defScope s_law_hand) .none kV__law_hand dc__law_hand pm__law_hand an__law_hand cd__law_hand ct__law_hand), sl__law_hand⟩)
    (c__law_hand : PySem.W.codeIn K cd__law_hand "_law_hand" = true)
    (k__law_hand : PySem.W.keepIn K (.ref f__law_hand) = true)
    (a__law_draw : PySem.W.nsIn K mainGlobals "_law_draw" = some (some (.ref f__law_draw)))
    (l__law_draw : K.lookup f__law_draw = some ⟨oc__law_draw, od__law_draw, .func (PySem.W.fnOf "_law_draw" "_law_draw" (defArgs s_law_draw) (defBody s_law_draw) (defScope s_law_draw) .none kV__law_draw dc__law_draw pm__law_draw an__law_draw cd__law_draw ct__law_draw), sl__law_draw⟩)
    (c__law_draw : PySem.W.codeIn K cd__law_draw "_law_draw" = true)
    (k__law_draw : PySem.W.keepIn K (.ref f__law_draw) = true)
    (a__law_common : PySem.W.nsIn K mainGlobals "_law_common" = some (some (.ref f__law_common)))
    (l__law_common : K.lookup f__law_common = some ⟨oc__law_common, od__law_common, .func (PySem.W.fnOf "_law_common" "_law_common" (defArgs s_law_common) (defBody s_law_common) (defScope s_law_common) .none kV__law_common dc__law_common pm__law_common an__law_common cd__law_common ct__law_common), sl__law_common⟩)
    (c__law_common : PySem.W.codeIn K cd__law_common "_law_common" = true)
    (k__law_common : PySem.W.keepIn K (.ref f__law_common) = true)
    (a__law_paid : PySem.W.nsIn K mainGlobals "_law_paid" = some (some (.ref f__law_paid)))
    (l__law_paid : K.lookup f__law_paid = some ⟨oc__law_paid, od__law_paid, .func (PySem.W.fnOf "_law_paid" "_law_paid" (defArgs s_law_paid) (defBody s_law_paid) (defScope s_law_paid) .none kV__law_paid dc__law_paid pm__law_paid an__law_paid cd__law_paid ct__law_paid), sl__law_paid⟩)
    (c__law_paid : PySem.W.codeIn K cd__law_paid "_law_paid" = true)
    (k__law_paid : PySem.W.keepIn K (.ref f__law_paid) = true)
    (a__law_coins : PySem.W.nsIn K mainGlobals "_law_coins" = some (some (.ref f__law_coins)))
    (l__law_coins : K.lookup f__law_coins = some ⟨oc__law_coins, od__law_coins, .func (PySem.W.fnOf "_law_coins" "_law_coins" (defArgs s_law_coins) (defBody s_law_coins) (defScope s_law_coins) .none kV__law_coins dc__law_coins pm__law_coins an__law_coins cd__law_coins ct__law_coins), sl__law_coins⟩)
    (c__law_coins : PySem.W.codeIn K cd__law_coins "_law_coins" = true)
    (k__law_coins : PySem.W.keepIn K (.ref f__law_coins) = true)
    (a__law_ways : PySem.W.nsIn K mainGlobals "_law_ways" = some (some (.ref f__law_ways)))
    (l__law_ways : K.lookup f__law_ways = some ⟨oc__law_ways, od__law_ways, .func (PySem.W.fnOf "_law_ways" "_law_ways" (defArgs s_law_ways) (defBody s_law_ways) (defScope s_law_ways) .none kV__law_ways dc__law_ways pm__law_ways an__law_ways cd__law_ways ct__law_ways), sl__law_ways⟩)
    (c__law_ways : PySem.W.codeIn K cd__law_ways "_law_ways" = true)
    (k__law_ways : PySem.W.keepIn K (.ref f__law_ways) = true)
    (a__law_lots : PySem.W.nsIn K mainGlobals "_law_lots" = some (some (.ref f__law_lots)))
    (l__law_lots : K.lookup f__law_lots = some ⟨oc__law_lots, od__law_lots, .func (PySem.W.fnOf "_law_lots" "_law_lots" (defArgs s_law_lots) (defBody s_law_lots) (defScope s_law_lots) .none kV__law_lots dc__law_lots pm__law_lots an__law_lots cd__law_lots ct__law_lots), sl__law_lots⟩)
    (c__law_lots : PySem.W.codeIn K cd__law_lots "_law_lots" = true)
    (k__law_lots : PySem.W.keepIn K (.ref f__law_lots) = true)
    (a__law_times : PySem.W.nsIn K mainGlobals "_law_times" = some (some (.ref f__law_times)))
    (l__law_times : K.lookup f__law_times = some ⟨oc__law_times, od__law_times, .func (PySem.W.fnOf "_law_times" "_law_times" (defArgs s_law_times) (defBody s_law_times) (defScope s_law_times) .none kV__law_times dc__law_times pm__law_times an__law_times cd__law_times ct__law_times), sl__law_times⟩)
    (c__law_times : PySem.W.codeIn K cd__law_times "_law_times" = true)
    (k__law_times : PySem.W.keepIn K (.ref f__law_times) = true)
    (a__law_is_right : PySem.W.nsIn K mainGlobals "_law_is_right" = some (some (.ref f__law_is_right)))
    (l__law_is_right : K.lookup f__law_is_right = some ⟨oc__law_is_right, od__law_is_right, .func (PySem.W.fnOf "_law_is_right" "_law_is_right" (defArgs s_law_is_right) (defBody s_law_is_right) (defScope s_law_is_right) .none kV__law_is_right dc__law_is_right pm__law_is_right an__law_is_right cd__law_is_right ct__law_is_right), sl__law_is_right⟩)
    (c__law_is_right : PySem.W.codeIn K cd__law_is_right "_law_is_right" = true)
    (k__law_is_right : PySem.W.keepIn K (.ref f__law_is_right) = true)
    (a_law : PySem.W.nsIn K mainGlobals "law" = some (some (.ref f_law)))
    (l_law : K.lookup f_law = some ⟨oc_law, od_law, .func (PySem.W.fnOf "law" "law" (defArgs s_law) (defBody s_law) (defScope s_law) .none kV_law dc_law pm_law an_law cd_law ct_law), sl_law⟩)
    (c_law : PySem.W.codeIn K cd_law "law" = true)
    (k_law : PySem.W.keepIn K (.ref f_law) = true)
    (pg_System : PySem.W.plainGet K C_System Str.empty = true)
    (hd_System : PySem.W.hasDictIn K C_System = true)
    (po_System : PySem.W.plainOver K C_System = true)
    (sa_System : PySem.W.findIn K (.ref C_System) "__setattr__" = some (some (.builtin "object.__setattr__")))
    (mk_System : PySem.W.makesIn K C_System = true)
    (kc_System : PySem.W.keepIn K (.ref C_System) = true)
    (ha_System : PySem.W.findIn K (.ref C_System) "__class__" = some (some (.builtin "object.__class__")))
    (hn_System : PySem.W.specialIn K (.builtin "object.__class__") "__get__" = some (some (.builtin "getset_descriptor.__get__")))
    (ht_System : PySem.W.takesIn K (.builtin "object.__class__") = some true)
    (hm_System : PySem.W.mroIn K C_System (.type "object") = some true)
    (n_System_coins : PySem.W.findIn K (.ref C_System) "coins" = some none)
    (n_System_needed_coins : PySem.W.findIn K (.ref C_System) "needed_coins" = some none)
    (n_System_rests : PySem.W.findIn K (.ref C_System) "rests" = some none)
    (z_isinstance : PySem.W.nsIn K mainGlobals "isinstance" = some none)
    (z_int : PySem.W.nsIn K mainGlobals "int" = some none)
    (z_bool : PySem.W.nsIn K mainGlobals "bool" = some none)
    (z_tuple : PySem.W.nsIn K mainGlobals "tuple" = some none)
    (z_abs : PySem.W.nsIn K mainGlobals "abs" = some none)
    (z_range : PySem.W.nsIn K mainGlobals "range" = some none)
    (z_len : PySem.W.nsIn K mainGlobals "len" = some none)
    (z_enumerate : PySem.W.nsIn K mainGlobals "enumerate" = some none)
    (z_min : PySem.W.nsIn K mainGlobals "min" = some none)
    (z_max : PySem.W.nsIn K mainGlobals "max" = some none)
    (z_sum : PySem.W.nsIn K mainGlobals "sum" = some none)
    (z_sorted : PySem.W.nsIn K mainGlobals "sorted" = some none)
    (z_list : PySem.W.nsIn K mainGlobals "list" = some none)
    (z_any : PySem.W.nsIn K mainGlobals "any" = some none)
    (z_dict : PySem.W.nsIn K mainGlobals "dict" = some none)
    (q_MOST_COIN : PySem.W.nsIn K mainGlobals "MOST_COIN" = some (some (.int 1000000 t_MOST_COIN)))
    (q_MOST_LEAST : PySem.W.nsIn K mainGlobals "MOST_LEAST" = some (some (.int 2000 t_MOST_LEAST)))
    (q_MOST_COINS : PySem.W.nsIn K mainGlobals "MOST_COINS" = some (some (.int 700 t_MOST_COINS)))
    (q_MOST_GREAT : PySem.W.nsIn K mainGlobals "MOST_GREAT" = some (some (.int 2000 t_MOST_GREAT)))
    (q_MOST_SMALL : PySem.W.nsIn K mainGlobals "MOST_SMALL" = some (some (.int 100000 t_MOST_SMALL)))
    : ∃ fd : FuncData, (∀ (s : Shared) (v : Value), BindsTo s fd ⟨[v], []⟩ [("script", v)]) ∧ ∀ base : Heap, K.In base → base.Ns mainGlobals mg → FnOk l.prog w K mg base CX0 8 fa fd ["script"] (sp_law K) := by
  have e := hfa.symm.trans (PySem.W.mg_of X G a_law)
  cases e
  have F_is_integer := fun_mk (st := s_is_integer) l_is_integer c_is_integer k_is_integer
  have b_is_integer := F_is_integer.binds (ps := ["thing"]) fun _ _ _ _ _ _ us hl => match us, hl with | [_], _ => rfl
  have F_is_within := fun_mk (st := s_is_within) l_is_within c_is_within k_is_within
  have b_is_within := F_is_within.binds (ps := ["thing", "low", "high"]) fun _ _ _ _ _ _ us hl => match us, hl with | [_, _, _], _ => rfl
  have F_common := fun_mk (st := s_common) l_common c_common k_common
  have b_common := F_common.binds (ps := ["one", "other"]) fun _ _ _ _ _ _ us hl => match us, hl with | [_, _], _ => rfl
  have F_common_of := fun_mk (st := s_common_of) l_common_of c_common_of k_common_of
  have b_common_of := F_common_of.binds (ps := ["some"]) fun _ _ _ _ _ _ us hl => match us, hl with | [_], _ => rfl
  have F_round_up := fun_mk (st := s_round_up) l_round_up c_round_up k_round_up
  have b_round_up := F_round_up.binds (ps := ["found", "coin", "step", "modulus"]) fun _ _ _ _ _ _ us hl => match us, hl with | [_, _, _, _], _ => rfl
  have F_built := fun_mk (st := s_built) l_built c_built k_built
  have b_built := F_built.binds (ps := ["coins"]) fun _ _ _ _ _ _ us hl => match us, hl with | [_], _ => rfl
  have F_check_coins := fun_mk (st := s_check_coins) l_check_coins c_check_coins k_check_coins
  have b_check_coins := F_check_coins.binds (ps := ["coins"]) fun _ _ _ _ _ _ us hl => match us, hl with | [_], _ => rfl
  have F_System_init := fun_mk (st := s_System_init) l_System_init c_System_init k_System_init
  have b_System_init := F_System_init.binds (ps := ["self", "coins"]) fun _ _ _ _ _ _ us hl => match us, hl with | [_, _], _ => rfl
  have F_check_system := fun_mk (st := s_check_system) l_check_system c_check_system k_check_system
  have b_check_system := F_check_system.binds (ps := ["system"]) fun _ _ _ _ _ _ us hl => match us, hl with | [_], _ => rfl
  have F_check_sum := fun_mk (st := s_check_sum) l_check_sum c_check_sum k_check_sum
  have b_check_sum := F_check_sum.binds (ps := ["system", "number"]) fun _ _ _ _ _ _ us hl => match us, hl with | [_, _], _ => rfl
  have F_pays_of := fun_mk (st := s_pays_of) l_pays_of c_pays_of k_pays_of
  have b_pays_of := F_pays_of.binds (ps := ["system", "number"]) fun _ _ _ _ _ _ us hl => match us, hl with | [_, _], _ => rfl
  have F_greatest_of := fun_mk (st := s_greatest_of) l_greatest_of c_greatest_of k_greatest_of
  have b_greatest_of := F_greatest_of.binds (ps := ["system"]) fun _ _ _ _ _ _ us hl => match us, hl with | [_], _ => rfl
  have F_poly_of := fun_mk (st := s_poly_of) l_poly_of c_poly_of k_poly_of
  have b_poly_of := F_poly_of.binds (ps := ["system"]) fun _ _ _ _ _ _ us hl => match us, hl with | [_], _ => rfl
  have F_product := fun_mk (st := s_product) l_product c_product k_product
  have b_product := F_product.binds (ps := ["one", "other"]) fun _ _ _ _ _ _ us hl => match us, hl with | [_, _], _ => rfl
  have F_numerator := fun_mk (st := s_numerator) l_numerator c_numerator k_numerator
  have b_numerator := F_numerator.binds (ps := ["system"]) fun _ _ _ _ _ _ us hl => match us, hl with | [_], _ => rfl
  have F_over_line := fun_mk (st := s_over_line) l_over_line c_over_line k_over_line
  have b_over_line := F_over_line.binds (ps := ["row", "coin"]) fun _ _ _ _ _ _ us hl => match us, hl with | [_, _], _ => rfl
  have F_trimmed := fun_mk (st := s_trimmed) l_trimmed c_trimmed k_trimmed
  have b_trimmed := F_trimmed.binds (ps := ["row"]) fun _ _ _ _ _ _ us hl => match us, hl with | [_], _ => rfl
  have F_chi := fun_mk (st := s_chi) l_chi c_chi k_chi
  have b_chi := F_chi.binds (ps := ["system", "number"]) fun _ _ _ _ _ _ us hl => match us, hl with | [_, _], _ => rfl
  have F_order_mark := fun_mk (st := s_order_mark) l_order_mark c_order_mark k_order_mark
  have b_order_mark := F_order_mark.binds (ps := ["system", "most"]) fun _ _ _ _ _ _ us hl => match us, hl with | [_, _], _ => rfl
  have F_small_ways := fun_mk (st := s_small_ways) l_small_ways c_small_ways k_small_ways
  have b_small_ways := F_small_ways.binds (ps := ["coins", "most"]) fun _ _ _ _ _ _ us hl => match us, hl with | [_, _], _ => rfl
  have F_ways_of := fun_mk (st := s_ways_of) l_ways_of c_ways_of k_ways_of
  have b_ways_of := F_ways_of.binds (ps := ["system", "number"]) fun _ _ _ _ _ _ us hl => match us, hl with | [_, _], _ => rfl
  have F_ways := fun_mk (st := s_ways) l_ways c_ways k_ways
  have b_ways := F_ways.binds (ps := ["system", "number"]) fun _ _ _ _ _ _ us hl => match us, hl with | [_, _], _ => rfl
  have F_ways_list := fun_mk (st := s_ways_list) l_ways_list c_ways_list k_ways_list
  have b_ways_list := F_ways_list.binds (ps := ["system", "most"]) fun _ _ _ _ _ _ us hl => match us, hl with | [_, _], _ => rfl
  have F__law_hand := fun_mk (st := s_law_hand) l__law_hand c__law_hand k__law_hand
  have b__law_hand := F__law_hand.binds (ps := ["script"]) fun _ _ _ _ _ _ us hl => match us, hl with | [_], _ => rfl
  have F__law_draw := fun_mk (st := s_law_draw) l__law_draw c__law_draw k__law_draw
  have b__law_draw := F__law_draw.binds (ps := ["hand", "many"]) fun _ _ _ _ _ _ us hl => match us, hl with | [_, _], _ => rfl
  have F__law_common := fun_mk (st := s_law_common) l__law_common c__law_common k__law_common
  have b__law_common := F__law_common.binds (ps := ["one", "other"]) fun _ _ _ _ _ _ us hl => match us, hl with | [_, _], _ => rfl
  have F__law_paid := fun_mk (st := s_law_paid) l__law_paid c__law_paid k__law_paid
  have b__law_paid := F__law_paid.binds (ps := ["coins", "upto"]) fun _ _ _ _ _ _ us hl => match us, hl with | [_, _], _ => rfl
  have F__law_coins := fun_mk (st := s_law_coins) l__law_coins c__law_coins k__law_coins
  have b__law_coins := F__law_coins.binds (ps := ["hand", "least", "many", "size"]) fun _ _ _ _ _ _ us hl => match us, hl with | [_, _, _, _], _ => rfl
  have F__law_ways := fun_mk (st := s_law_ways) l__law_ways c__law_ways k__law_ways
  have b__law_ways := F__law_ways.binds (ps := ["coins", "most"]) fun _ _ _ _ _ _ us hl => match us, hl with | [_, _], _ => rfl
  have F__law_lots := fun_mk (st := s_law_lots) l__law_lots c__law_lots k__law_lots
  have b__law_lots := F__law_lots.binds (ps := ["coins", "most"]) fun _ _ _ _ _ _ us hl => match us, hl with | [_, _], _ => rfl
  have F__law_times := fun_mk (st := s_law_times) l__law_times c__law_times k__law_times
  have b__law_times := F__law_times.binds (ps := ["one", "other", "number"]) fun _ _ _ _ _ _ us hl => match us, hl with | [_, _, _], _ => rfl
  have F__law_is_right := fun_mk (st := s_law_is_right) l__law_is_right c__law_is_right k__law_is_right
  have b__law_is_right := F__law_is_right.binds (ps := ["hand", "coins"]) fun _ _ _ _ _ _ us hl => match us, hl with | [_, _], _ => rfl
  have F_law := fun_mk (st := s_law) l_law c_law k_law
  have b_law := F_law.binds (ps := ["script"]) fun _ _ _ _ _ _ us hl => match us, hl with | [_], _ => rfl
  let T : Top K mg := {
    a_is_integer := f_is_integer
    fd_is_integer := _
    F_is_integer := F_is_integer
    g_is_integer := PySem.W.mg_of X G a_is_integer
    b_is_integer := b_is_integer
    a_is_within := f_is_within
    fd_is_within := _
    F_is_within := F_is_within
    g_is_within := PySem.W.mg_of X G a_is_within
    b_is_within := b_is_within
    a_common := f_common
    fd_common := _
    F_common := F_common
    g_common := PySem.W.mg_of X G a_common
    b_common := b_common
    a_common_of := f_common_of
    fd_common_of := _
    F_common_of := F_common_of
    g_common_of := PySem.W.mg_of X G a_common_of
    b_common_of := b_common_of
    a_round_up := f_round_up
    fd_round_up := _
    F_round_up := F_round_up
    g_round_up := PySem.W.mg_of X G a_round_up
    b_round_up := b_round_up
    a_built := f_built
    fd_built := _
    F_built := F_built
    g_built := PySem.W.mg_of X G a_built
    b_built := b_built
    a_check_coins := f_check_coins
    fd_check_coins := _
    F_check_coins := F_check_coins
    g_check_coins := PySem.W.mg_of X G a_check_coins
    b_check_coins := b_check_coins
    a_System_init := f_System_init
    fd_System_init := _
    F_System_init := F_System_init
    b_System_init := b_System_init
    a_check_system := f_check_system
    fd_check_system := _
    F_check_system := F_check_system
    g_check_system := PySem.W.mg_of X G a_check_system
    b_check_system := b_check_system
    a_check_sum := f_check_sum
    fd_check_sum := _
    F_check_sum := F_check_sum
    g_check_sum := PySem.W.mg_of X G a_check_sum
    b_check_sum := b_check_sum
    a_pays_of := f_pays_of
    fd_pays_of := _
    F_pays_of := F_pays_of
    g_pays_of := PySem.W.mg_of X G a_pays_of
    b_pays_of := b_pays_of
    a_greatest_of := f_greatest_of
    fd_greatest_of := _
    F_greatest_of := F_greatest_of
    g_greatest_of := PySem.W.mg_of X G a_greatest_of
    b_greatest_of := b_greatest_of
    a_poly_of := f_poly_of
    fd_poly_of := _
    F_poly_of := F_poly_of
    g_poly_of := PySem.W.mg_of X G a_poly_of
    b_poly_of := b_poly_of
    a_product := f_product
    fd_product := _
    F_product := F_product
    g_product := PySem.W.mg_of X G a_product
    b_product := b_product
    a_numerator := f_numerator
    fd_numerator := _
    F_numerator := F_numerator
    g_numerator := PySem.W.mg_of X G a_numerator
    b_numerator := b_numerator
    a_over_line := f_over_line
    fd_over_line := _
    F_over_line := F_over_line
    g_over_line := PySem.W.mg_of X G a_over_line
    b_over_line := b_over_line
    a_trimmed := f_trimmed
    fd_trimmed := _
    F_trimmed := F_trimmed
    g_trimmed := PySem.W.mg_of X G a_trimmed
    b_trimmed := b_trimmed
    a_chi := f_chi
    fd_chi := _
    F_chi := F_chi
    g_chi := PySem.W.mg_of X G a_chi
    b_chi := b_chi
    a_order_mark := f_order_mark
    fd_order_mark := _
    F_order_mark := F_order_mark
    g_order_mark := PySem.W.mg_of X G a_order_mark
    b_order_mark := b_order_mark
    a_small_ways := f_small_ways
    fd_small_ways := _
    F_small_ways := F_small_ways
    g_small_ways := PySem.W.mg_of X G a_small_ways
    b_small_ways := b_small_ways
    a_ways_of := f_ways_of
    fd_ways_of := _
    F_ways_of := F_ways_of
    g_ways_of := PySem.W.mg_of X G a_ways_of
    b_ways_of := b_ways_of
    a_ways := f_ways
    fd_ways := _
    F_ways := F_ways
    g_ways := PySem.W.mg_of X G a_ways
    b_ways := b_ways
    a_ways_list := f_ways_list
    fd_ways_list := _
    F_ways_list := F_ways_list
    g_ways_list := PySem.W.mg_of X G a_ways_list
    b_ways_list := b_ways_list
    a__law_hand := f__law_hand
    fd__law_hand := _
    F__law_hand := F__law_hand
    g__law_hand := PySem.W.mg_of X G a__law_hand
    b__law_hand := b__law_hand
    a__law_draw := f__law_draw
    fd__law_draw := _
    F__law_draw := F__law_draw
    g__law_draw := PySem.W.mg_of X G a__law_draw
    b__law_draw := b__law_draw
    a__law_common := f__law_common
    fd__law_common := _
    F__law_common := F__law_common
    g__law_common := PySem.W.mg_of X G a__law_common
    b__law_common := b__law_common
    a__law_paid := f__law_paid
    fd__law_paid := _
    F__law_paid := F__law_paid
    g__law_paid := PySem.W.mg_of X G a__law_paid
    b__law_paid := b__law_paid
    a__law_coins := f__law_coins
    fd__law_coins := _
    F__law_coins := F__law_coins
    g__law_coins := PySem.W.mg_of X G a__law_coins
    b__law_coins := b__law_coins
    a__law_ways := f__law_ways
    fd__law_ways := _
    F__law_ways := F__law_ways
    g__law_ways := PySem.W.mg_of X G a__law_ways
    b__law_ways := b__law_ways
    a__law_lots := f__law_lots
    fd__law_lots := _
    F__law_lots := F__law_lots
    g__law_lots := PySem.W.mg_of X G a__law_lots
    b__law_lots := b__law_lots
    a__law_times := f__law_times
    fd__law_times := _
    F__law_times := F__law_times
    g__law_times := PySem.W.mg_of X G a__law_times
    b__law_times := b__law_times
    a__law_is_right := f__law_is_right
    fd__law_is_right := _
    F__law_is_right := F__law_is_right
    g__law_is_right := PySem.W.mg_of X G a__law_is_right
    b__law_is_right := b__law_is_right
    a_law := fa
    fd_law := _
    F_law := F_law
    g_law := PySem.W.mg_of X G a_law
    b_law := b_law
    a_System := C_System
    g_System := PySem.W.mg_of X G aC_System
    m_System := ⟨mk_System, a_System_init, i_System_init, kc_System⟩
    i_System := ⟨⟨pg_System, hd_System, po_System, sa_System⟩, ha_System, hn_System, ht_System, hm_System, kit_self _ _⟩
    n_System_coins := n_System_coins
    n_System_needed_coins := n_System_needed_coins
    n_System_rests := n_System_rests
    z_isinstance := PySem.W.mg_none_of X G z_isinstance
    z_int := PySem.W.mg_none_of X G z_int
    z_bool := PySem.W.mg_none_of X G z_bool
    z_tuple := PySem.W.mg_none_of X G z_tuple
    z_abs := PySem.W.mg_none_of X G z_abs
    z_range := PySem.W.mg_none_of X G z_range
    z_len := PySem.W.mg_none_of X G z_len
    z_enumerate := PySem.W.mg_none_of X G z_enumerate
    z_min := PySem.W.mg_none_of X G z_min
    z_max := PySem.W.mg_none_of X G z_max
    z_sum := PySem.W.mg_none_of X G z_sum
    z_sorted := PySem.W.mg_none_of X G z_sorted
    z_list := PySem.W.mg_none_of X G z_list
    z_any := PySem.W.mg_none_of X G z_any
    z_dict := PySem.W.mg_none_of X G z_dict
    t_MOST_COIN := t_MOST_COIN
    c_MOST_COIN := PySem.W.mg_of X G q_MOST_COIN
    t_MOST_LEAST := t_MOST_LEAST
    c_MOST_LEAST := PySem.W.mg_of X G q_MOST_LEAST
    t_MOST_COINS := t_MOST_COINS
    c_MOST_COINS := PySem.W.mg_of X G q_MOST_COINS
    t_MOST_GREAT := t_MOST_GREAT
    c_MOST_GREAT := PySem.W.mg_of X G q_MOST_GREAT
    t_MOST_SMALL := t_MOST_SMALL
    c_MOST_SMALL := PySem.W.mg_of X G q_MOST_SMALL
  }
  exact ⟨_, fun s v => .of_eq rfl, fun base _ _ => ok_law T⟩
theorem walk {l : PySem.W.OpenLaw} {q : Program} {loose : List Str} {XP : (Str → Option Value) → Heap → Prop} {YP : World → Heap → Prop} {d : DefRec} {K : Params → PySem.W.Frag} (hn : l.most = some 63) (hdf : d.params.defaults = [])
    (hY : ∀ (w : World) (h : Heap), YP w h → (K w.params).In h)
    (F : ∀ (w : World) (mg : Str → Option Value) (fa : Addr) (h : Heap), (K w.params).In h → h.Ns mainGlobals mg → mg d.name = some (.ref fa) →
      ∃ fd : FuncData, (∀ (s : Shared) (u : Value), BindsTo s fd ⟨[u], []⟩ [("script", u)]) ∧ ∀ base : Heap, (K w.params).In base → base.Ns mainGlobals mg → FnOk l.prog w (K w.params) mg base CX0 8 fa fd ["script"] (sp_law (K w.params))) :
    PySem.W.WalkO q loose XP YP l.row.toRowW d [] (fun f vs => PySem.call f vs) :=
  L2.walk_of (n := 63) (k := 8) (x := "script") (CX := fun _ => CX0) (sp := fun w => sp_law (K w.params)) hn (by decide) hdf ⟨rfl, by decide, by decide⟩ hY F (fun _ _ a ns hl _ hS => ⟨a, ns, rfl, hS, hl, fun _ => rfl⟩) fun _ _ _ _ _ z => z
end Pd

open PySem PySem.W PyProof.Rows in
set_option maxRecDepth 100000 in
set_option maxHeartbeats 0 in
theorem PySem.Challenge.cw_paidornot_k22_whole_numerators_and_ways_holds : PySem.Challenge.rw_paidornot_k22_whole_numerators_and_ways.Holds := by
  w_on; o_law; k_head; (case hw => w_witness2)
  k_fill
  refine Pd.walk (l := PySem.Challenge.rw_paidornot_k22_whole_numerators_and_ways) rfl rfl (fun w h Y => PySem.W.kIn_of Y) ?F
  case F =>
    intro w mg fa h KX G hmg
    refine' Pd.all_mk KX G hmg ?aC_System ?a_is_integer ?l_is_integer ?c_is_integer ?k_is_integer ?a_is_within ?l_is_within ?c_is_within ?k_is_within ?a_common ?l_common ?c_common ?k_common ?a_common_of ?l_common_of ?c_common_of ?k_common_of ?a_round_up ?l_round_up ?c_round_up ?k_round_up ?a_built ?l_built ?c_built ?k_built ?a_check_coins ?l_check_coins ?c_check_coins ?k_check_coins ?a_System_init ?i_System_init ?l_System_init ?c_System_init ?k_System_init ?a_check_system ?l_check_system ?c_check_system ?k_check_system ?a_check_sum ?l_check_sum ?c_check_sum ?k_check_sum ?a_pays_of ?l_pays_of ?c_pays_of ?k_pays_of ?a_greatest_of ?l_greatest_of ?c_greatest_of ?k_greatest_of ?a_poly_of ?l_poly_of ?c_poly_of ?k_poly_of ?a_product ?l_product ?c_product ?k_product ?a_numerator ?l_numerator ?c_numerator ?k_numerator ?a_over_line ?l_over_line ?c_over_line ?k_over_line ?a_trimmed ?l_trimmed ?c_trimmed ?k_trimmed ?a_chi ?l_chi ?c_chi ?k_chi ?a_order_mark ?l_order_mark ?c_order_mark ?k_order_mark ?a_small_ways ?l_small_ways ?c_small_ways ?k_small_ways ?a_ways_of ?l_ways_of ?c_ways_of ?k_ways_of ?a_ways ?l_ways ?c_ways ?k_ways ?a_ways_list ?l_ways_list ?c_ways_list ?k_ways_list ?a__law_hand ?l__law_hand ?c__law_hand ?k__law_hand ?a__law_draw ?l__law_draw ?c__law_draw ?k__law_draw ?a__law_common ?l__law_common ?c__law_common ?k__law_common ?a__law_paid ?l__law_paid ?c__law_paid ?k__law_paid ?a__law_coins ?l__law_coins ?c__law_coins ?k__law_coins ?a__law_ways ?l__law_ways ?c__law_ways ?k__law_ways ?a__law_lots ?l__law_lots ?c__law_lots ?k__law_lots ?a__law_times ?l__law_times ?c__law_times ?k__law_times ?a__law_is_right ?l__law_is_right ?c__law_is_right ?k__law_is_right ?a_law ?l_law ?c_law ?k_law ?pg_System ?hd_System ?po_System ?sa_System ?mk_System ?kc_System ?ha_System ?hn_System ?ht_System ?hm_System ?n_System_coins ?n_System_needed_coins ?n_System_rests ?z_isinstance ?z_int ?z_bool ?z_tuple ?z_abs ?z_range ?z_len ?z_enumerate ?z_min ?z_max ?z_sum ?z_sorted ?z_list ?z_any ?z_dict ?q_MOST_COIN ?q_MOST_LEAST ?q_MOST_COINS ?q_MOST_GREAT ?q_MOST_SMALL
    (case aC_System => k_is)
    (case a_is_integer => k_is)
    (case l_is_integer => k_is)
    (case c_is_integer => k_is)
    (case k_is_integer => k_is)
    (case a_is_within => k_is)
    (case l_is_within => k_is)
    (case c_is_within => k_is)
    (case k_is_within => k_is)
    (case a_common => k_is)
    (case l_common => k_is)
    (case c_common => k_is)
    (case k_common => k_is)
    (case a_common_of => k_is)
    (case l_common_of => k_is)
    (case c_common_of => k_is)
    (case k_common_of => k_is)
    (case a_round_up => k_is)
    (case l_round_up => k_is)
    (case c_round_up => k_is)
    (case k_round_up => k_is)
    (case a_built => k_is)
    (case l_built => k_is)
    (case c_built => k_is)
    (case k_built => k_is)
    (case a_check_coins => k_is)
    (case l_check_coins => k_is)
    (case c_check_coins => k_is)
    (case k_check_coins => k_is)
    (case a_System_init => k_is)
    (case i_System_init => k_is)
    (case l_System_init => k_is)
    (case c_System_init => k_is)
    (case k_System_init => k_is)
    (case a_check_system => k_is)
    (case l_check_system => k_is)
    (case c_check_system => k_is)
    (case k_check_system => k_is)
    (case a_check_sum => k_is)
    (case l_check_sum => k_is)
    (case c_check_sum => k_is)
    (case k_check_sum => k_is)
    (case a_pays_of => k_is)
    (case l_pays_of => k_is)
    (case c_pays_of => k_is)
    (case k_pays_of => k_is)
    (case a_greatest_of => k_is)
    (case l_greatest_of => k_is)
    (case c_greatest_of => k_is)
    (case k_greatest_of => k_is)
    (case a_poly_of => k_is)
    (case l_poly_of => k_is)
    (case c_poly_of => k_is)
    (case k_poly_of => k_is)
    (case a_product => k_is)
    (case l_product => k_is)
    (case c_product => k_is)
    (case k_product => k_is)
    (case a_numerator => k_is)
    (case l_numerator => k_is)
    (case c_numerator => k_is)
    (case k_numerator => k_is)
    (case a_over_line => k_is)
    (case l_over_line => k_is)
    (case c_over_line => k_is)
    (case k_over_line => k_is)
    (case a_trimmed => k_is)
    (case l_trimmed => k_is)
    (case c_trimmed => k_is)
    (case k_trimmed => k_is)
    (case a_chi => k_is)
    (case l_chi => k_is)
    (case c_chi => k_is)
    (case k_chi => k_is)
    (case a_order_mark => k_is)
    (case l_order_mark => k_is)
    (case c_order_mark => k_is)
    (case k_order_mark => k_is)
    (case a_small_ways => k_is)
    (case l_small_ways => k_is)
    (case c_small_ways => k_is)
    (case k_small_ways => k_is)
    (case a_ways_of => k_is)
    (case l_ways_of => k_is)
    (case c_ways_of => k_is)
    (case k_ways_of => k_is)
    (case a_ways => k_is)
    (case l_ways => k_is)
    (case c_ways => k_is)
    (case k_ways => k_is)
    (case a_ways_list => k_is)
    (case l_ways_list => k_is)
    (case c_ways_list => k_is)
    (case k_ways_list => k_is)
    (case a__law_hand => k_is)
    (case l__law_hand => k_is)
    (case c__law_hand => k_is)
    (case k__law_hand => k_is)
    (case a__law_draw => k_is)
    (case l__law_draw => k_is)
    (case c__law_draw => k_is)
    (case k__law_draw => k_is)
    (case a__law_common => k_is)
    (case l__law_common => k_is)
    (case c__law_common => k_is)
    (case k__law_common => k_is)
    (case a__law_paid => k_is)
    (case l__law_paid => k_is)
    (case c__law_paid => k_is)
    (case k__law_paid => k_is)
    (case a__law_coins => k_is)
    (case l__law_coins => k_is)
    (case c__law_coins => k_is)
    (case k__law_coins => k_is)
    (case a__law_ways => k_is)
    (case l__law_ways => k_is)
    (case c__law_ways => k_is)
    (case k__law_ways => k_is)
    (case a__law_lots => k_is)
    (case l__law_lots => k_is)
    (case c__law_lots => k_is)
    (case k__law_lots => k_is)
    (case a__law_times => k_is)
    (case l__law_times => k_is)
    (case c__law_times => k_is)
    (case k__law_times => k_is)
    (case a__law_is_right => k_is)
    (case l__law_is_right => k_is)
    (case c__law_is_right => k_is)
    (case k__law_is_right => k_is)
    (case a_law => k_is)
    (case l_law => k_is)
    (case c_law => k_is)
    (case k_law => k_is)
    (case pg_System => k_is)
    (case hd_System => k_is)
    (case po_System => k_is)
    (case sa_System => k_is)
    (case mk_System => k_is)
    (case kc_System => k_is)
    (case ha_System => k_is)
    (case hn_System => k_is)
    (case ht_System => k_is)
    (case hm_System => k_is)
    (case n_System_coins => k_is)
    (case n_System_needed_coins => k_is)
    (case n_System_rests => k_is)
    (case z_isinstance => k_is)
    (case z_int => k_is)
    (case z_bool => k_is)
    (case z_tuple => k_is)
    (case z_abs => k_is)
    (case z_range => k_is)
    (case z_len => k_is)
    (case z_enumerate => k_is)
    (case z_min => k_is)
    (case z_max => k_is)
    (case z_sum => k_is)
    (case z_sorted => k_is)
    (case z_list => k_is)
    (case z_any => k_is)
    (case z_dict => k_is)
    (case q_MOST_COIN => k_is)
    (case q_MOST_LEAST => k_is)
    (case q_MOST_COINS => k_is)
    (case q_MOST_GREAT => k_is)
    (case q_MOST_SMALL => k_is)
