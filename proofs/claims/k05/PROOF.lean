import PyProof.Rows.All
import Wide.All
import OpenK.AllK
import Wide.FinOn
import HandS.ForMost
import HandS.Evl
import HandS.SortInts
import HandS.Zip
import HandS.TupAny
import HandS.Conv
import HandS.More
import HandS.Wide
import HandS.Flow
import KE.KTupSum
import KE.GoesEnum
import HandS.Walk
import HandS.IsInst
import HandS.Codes
import PySem.Challenge.RW_paidornot_k05_whole_rules_by_one_rest_ar
import HandS.Style
import HandS.Steps
import HandS.SetBool
import HandS.Strs
import HandS.OwnEq
set_option Elab.async false
set_option linter.all false
set_option maxRecDepth 100000
set_option maxHeartbeats 4000000
/-! Sums that coins pay; tables by rests; the round through the rests. -/
namespace Pd
inductive Pay (cs : List Nat) : Nat → Prop
  | zero : Pay cs 0
  | add {c n : Nat} : c ∈ cs → Pay cs n → Pay cs (n + c)
theorem Pay.sum {cs : List Nat} {a b : Nat} (ha : Pay cs a) (hb : Pay cs b) : Pay cs (a + b) := by
  induction hb with
  | zero => exact ha
  | @add c n hc _ ih => rw [← Nat.add_assoc]; exact .add hc ih
theorem Pay.one {cs : List Nat} {c : Nat} (h : c ∈ cs) : Pay cs c := by
  have := Pay.add h (Pay.zero (cs := cs)); rwa [Nat.zero_add] at this
theorem Pay.times {cs : List Nat} {a : Nat} (h : Pay cs a) : ∀ k : Nat, Pay cs (k * a)
  | 0 => by rw [Nat.zero_mul]; exact .zero
  | k + 1 => by rw [Nat.add_mul, Nat.one_mul]; exact (Pay.times h k).sum h
theorem Pay.gen {cs ds : List Nat} (h : ∀ c ∈ cs, Pay ds c) {n : Nat} (p : Pay cs n) : Pay ds n := by
  induction p with
  | zero => exact .zero
  | add hc _ ih => exact ih.sum (h _ hc)
theorem Pay.mono {cs ds : List Nat} (h : ∀ c ∈ cs, c ∈ ds) {n : Nat} (p : Pay cs n) : Pay ds n := p.gen fun c hc => .one (h c hc)
theorem Pay.split {cs : List Nat} {c n : Nat} (p : Pay (cs ++ [c]) n) : ∃ a k, Pay cs a ∧ n = a + k * c := by
  induction p with
  | zero => exact ⟨0, 0, .zero, by simp⟩
  | @add d n hd _ ih =>
    obtain ⟨a, k, ha, rfl⟩ := ih
    rcases List.mem_append.mp hd with hd | hd
    · exact ⟨a + d, k, .add hd ha, by omega⟩
    · obtain rfl := List.mem_singleton.mp hd
      exact ⟨a, k + 1, ha, by rw [Nat.add_mul]; omega⟩
theorem Pay.inv {cs : List Nat} {n : Nat} (p : Pay cs n) : n = 0 ∨ ∃ c ∈ cs, c ≤ n ∧ Pay cs (n - c) := by
  cases p with
  | zero => exact .inl rfl
  | @add c m hc hm => exact .inr ⟨c, hc, by omega, by rwa [Nat.add_sub_cancel]⟩
theorem Pay.step {cs : List Nat} {n c : Nat} (hc : c ∈ cs) (hl : c ≤ n) (p : Pay cs (n - c)) : Pay cs n := by
  have := Pay.add hc p; rwa [Nat.sub_add_cancel hl] at this
/-- payable, as a truth -/
noncomputable def pb (cs : List Nat) (n : Nat) : Bool := @decide (Pay cs n) (Classical.propDecidable _)
theorem pb_iff {cs : List Nat} {n : Nat} : pb cs n = true ↔ Pay cs n := by unfold pb; exact @decide_eq_true_iff _ (Classical.propDecidable _)
theorem pb_not {cs : List Nat} {n : Nat} : pb cs n = false ↔ ¬ Pay cs n := by unfold pb; exact @decide_eq_false_iff_not _ (Classical.propDecidable _)
theorem pb_zero (cs : List Nat) : pb cs 0 = true := pb_iff.mpr .zero
theorem pb_step {cs : List Nat} {n : Nat} (hn : 0 < n) : pb cs n = cs.any fun c => decide (c ≤ n) && pb cs (n - c) := by
  rw [Bool.eq_iff_iff, pb_iff, List.any_eq_true]
  constructor
  · intro p
    rcases p.inv with h | ⟨c, hc, hl, q⟩
    · omega
    · exact ⟨c, hc, by rw [Bool.and_eq_true]; exact ⟨decide_eq_true hl, pb_iff.mpr q⟩⟩
  · rintro ⟨c, hc, h⟩
    rw [Bool.and_eq_true] at h
    exact .step hc (of_decide_eq_true h.1) (pb_iff.mp h.2)

/-! ### residues -/
theorem bez_set {m : Nat} {S : Nat → Prop} (hm : 0 < m) (h0 : ∀ a b, S a → S b → S (a + b)) (hr : ∀ a b, a % m = b % m → S a → S b) (hz : S 0) : ∀ a b, S a → S b → S (Nat.gcd a b) := by
  have hk : ∀ a k, S a → S (k * a) := fun a k ha => by
    induction k with
    | zero => rw [Nat.zero_mul]; exact hz
    | succ k ih => rw [Nat.add_mul, Nat.one_mul]; exact h0 _ _ ih ha
  intro a b
  induction a, b using Nat.gcd.induction with
  | H0 b => intro _ hb; rwa [Nat.gcd_zero_left]
  | H1 a b ha ih =>
    intro sa sb
    rw [Nat.gcd_rec]
    refine ih (hr (b + (m - 1) * (b / a) * a) _ ?_ (h0 _ _ sb (by have := hk a ((m - 1) * (b / a)) sa; exact this))) sa
    have e : b = b % a + (b / a) * a := by have := Nat.mod_add_div b a; rw [Nat.mul_comm a] at this; omega
    have e2 : b + (m - 1) * (b / a) * a = b % a + m * ((b / a) * a) := by
      have h3 : (m - 1) * (b / a) * a + (b / a) * a = m * ((b / a) * a) := by
        rw [Nat.mul_assoc, ← Nat.succ_mul, Nat.succ_eq_add_one, Nat.sub_add_cancel hm]
      omega
    rw [e2, Nat.add_mul_mod_self_left]
theorem bez (s : Nat) {m : Nat} (hm : 0 < m) : ∃ u, (u * s) % m = Nat.gcd s m % m := by
  refine bez_set (m := m) (S := fun a => ∃ u, (u * s) % m = a % m) hm ?_ ?_ ⟨0, by rw [Nat.zero_mul]⟩ s m ⟨1, by rw [Nat.one_mul]⟩ ⟨0, by rw [Nat.zero_mul, Nat.mod_self, Nat.zero_mod]⟩
  · rintro a b ⟨u, hu⟩ ⟨v, hv⟩
    exact ⟨u + v, by rw [Nat.add_mul, Nat.add_mod, hu, hv, ← Nat.add_mod]⟩
  · rintro a b h ⟨u, hu⟩
    exact ⟨u, by rw [hu, h]⟩
/-- the round from a start comes to each rest of its kind -/
theorem cover {s m st y : Nat} (hm : 0 < m) (hy : y < m) (h : y % Nat.gcd s m = st) : ∃ i, i < m / Nat.gcd s m ∧ (st + i * s) % m = y := by
  have hg : 0 < Nat.gcd s m := Nat.gcd_pos_of_pos_right s hm
  obtain ⟨u, hu⟩ := bez s hm
  have hL : 0 < m / Nat.gcd s m := Nat.div_pos (Nat.le_of_dvd hm (Nat.gcd_dvd_right s m)) hg
  have hLs : (m / Nat.gcd s m * s) % m = 0 := by
    obtain ⟨k, hk⟩ := Nat.gcd_dvd_left s m
    obtain ⟨l, hl⟩ := Nat.gcd_dvd_right s m
    have e1 : m / Nat.gcd s m = l := Nat.div_eq_of_eq_mul_right hg hl
    have e2 : l * s = m * k := by
      conv => lhs; rw [hk]
      conv => rhs; rw [hl]
      rw [← Nat.mul_assoc, Nat.mul_comm l]
    rw [e1, e2, Nat.mul_mod_right]
  refine ⟨(u * (y / Nat.gcd s m)) % (m / Nat.gcd s m), Nat.mod_lt _ hL, ?_⟩
  have key : ∀ i, ((i % (m / Nat.gcd s m)) * s) % m = (i * s) % m := fun i => by
    conv => rhs; rw [← Nat.mod_add_div i (m / Nat.gcd s m), Nat.add_mul, Nat.add_mod]
    have : (m / Nat.gcd s m * (i / (m / Nat.gcd s m)) * s) % m = 0 := by
      rw [Nat.mul_right_comm, Nat.mul_mod, hLs, Nat.zero_mul, Nat.zero_mod]
    rw [this, Nat.add_zero, Nat.mod_mod]
  rw [Nat.add_mod, key, ← Nat.add_mod]
  have e3 : (u * (y / Nat.gcd s m) * s) % m = (y / Nat.gcd s m * Nat.gcd s m) % m := by
    rw [Nat.mul_right_comm, Nat.mul_mod, hu, ← Nat.mul_mod, Nat.mul_comm]
  rw [Nat.add_mod, e3, ← Nat.add_mod]
  have e4 : st + y / Nat.gcd s m * Nat.gcd s m = y := by
    rw [← h]; have := Nat.mod_add_div y (Nat.gcd s m); rw [Nat.mul_comm] at this; exact this
  rw [e4, Nat.mod_eq_of_lt hy]
theorem round_mul {s m : Nat} (hm : 0 < m) (i : Nat) : ((i % (m / Nat.gcd s m)) * s) % m = (i * s) % m := by
  have hg : 0 < Nat.gcd s m := Nat.gcd_pos_of_pos_right s hm
  have hLs : (m / Nat.gcd s m * s) % m = 0 := by
    obtain ⟨k, hk⟩ := Nat.gcd_dvd_left s m
    obtain ⟨l, hl⟩ := Nat.gcd_dvd_right s m
    have e1 : m / Nat.gcd s m = l := Nat.div_eq_of_eq_mul_right hg hl
    have e2 : l * s = m * k := by
      conv => lhs; rw [hk]
      conv => rhs; rw [hl]
      rw [← Nat.mul_assoc, Nat.mul_comm l]
    rw [e1, e2, Nat.mul_mod_right]
  conv => rhs; rw [← Nat.mod_add_div i (m / Nat.gcd s m), Nat.add_mul, Nat.add_mod]
  have : (m / Nat.gcd s m * (i / (m / Nat.gcd s m)) * s) % m = 0 := by
    rw [Nat.mul_right_comm, Nat.mul_mod, hLs, Nat.zero_mul, Nat.zero_mod]
  rw [this, Nat.add_zero, Nat.mod_mod]

/-! ### tables -/
abbrev Tb := List (Option Nat)
def At (T : Tb) (x v : Nat) : Prop := T[x]? = some (some v)
theorem At.lt {T : Tb} {x v : Nat} (h : At T x v) : x < T.length := (List.getElem?_eq_some_iff.mp h).1
theorem At.inj {T : Tb} {x v w : Nat} (h : At T x v) (h' : At T x w) : v = w := by
  unfold At at h h'; rw [h] at h'; exact Option.some.inj (Option.some.inj h')
structure Tab (m : Nat) (cs : List Nat) (T : Tb) : Prop where
  len : T.length = m
  sound : ∀ x v, At T x v → v % m = x ∧ Pay cs v
  full : ∀ n, Pay cs n → ∃ v, At T (n % m) v ∧ v ≤ n
structure Ru (m s c : Nat) (T T' : Tb) : Prop where
  len : T'.length = m
  up : ∀ y v k, At T y v → ∃ v', At T' ((y + k * s) % m) v' ∧ v' ≤ v + k * c
  dn : ∀ x v', At T' x v' → ∃ y k v, At T y v ∧ v' = v + k * c ∧ (y + k * s) % m = x
theorem mod_add_mul_mod (a k c m : Nat) : (a % m + k * (c % m)) % m = (a + k * c) % m := by
  rw [Nat.add_mod, Nat.mod_mod, Nat.mul_mod, Nat.mod_mod, ← Nat.mul_mod, ← Nat.add_mod]
theorem Tab.add {m c : Nat} {cs : List Nat} {T T' : Tb} (h : Tab m cs T) (r : Ru m (c % m) c T T') : Tab m (cs ++ [c]) T' := by
  refine ⟨r.len, fun x v' hx => ?_, fun n p => ?_⟩
  · obtain ⟨y, k, v, hy, rfl, e⟩ := r.dn x v' hx
    obtain ⟨e1, p⟩ := h.sound y v hy
    refine ⟨?_, (p.mono fun d hd => List.mem_append_left _ hd).sum ((Pay.one (by simp)).times k)⟩
    rw [← e, ← e1, mod_add_mul_mod]
  · obtain ⟨a, k, ha, rfl⟩ := p.split
    obtain ⟨v, hv, hl⟩ := h.full a ha
    obtain ⟨v', hv', hl'⟩ := r.up _ v k hv
    rw [mod_add_mul_mod] at hv'
    exact ⟨v', hv', by omega⟩
theorem same_rest {m a b : Nat} (h : a % m = b % m) (hl : a ≤ b) : ∃ j, b = a + j * m := by
  refine ⟨b / m - a / m, ?_⟩
  have e1 := Nat.mod_add_div a m
  have e2 := Nat.mod_add_div b m
  have hd : a / m ≤ b / m := Nat.div_le_div_right hl
  have : (b / m - a / m) * m + m * (a / m) = m * (b / m) := by
    rw [Nat.mul_comm m (a / m), ← Nat.add_mul, Nat.sub_add_cancel hd, Nat.mul_comm]
  omega
theorem Tab.paid {m c v : Nat} {cs : List Nat} {T : Tb} (h : Tab m cs T) (hm : m ∈ cs) (hv : At T (c % m) v) (hl : v ≤ c) : Pay cs c := by
  obtain ⟨e, p⟩ := h.sound _ v hv
  obtain ⟨j, hj⟩ := same_rest e hl
  rw [hj]
  exact p.sum ((Pay.one hm).times j)
theorem Tab.pays {m n : Nat} {cs : List Nat} {T : Tb} (h : Tab m cs T) (hm : m ∈ cs) : Pay cs n ↔ ∃ v, At T (n % m) v ∧ v ≤ n :=
  ⟨h.full n, fun ⟨_, hv, hl⟩ => h.paid hm hv hl⟩
theorem Tab.skip {m c v : Nat} {cs : List Nat} {T : Tb} (h : Tab m cs T) (hm : m ∈ cs) (hv : At T (c % m) v) (hl : v ≤ c) : Tab m (cs ++ [c]) T := by
  have hc := h.paid hm hv hl
  have g : ∀ n, Pay (cs ++ [c]) n → Pay cs n := fun n p => p.gen fun d hd => by
    rcases List.mem_append.mp hd with hd | hd
    · exact .one hd
    · obtain rfl := List.mem_singleton.mp hd; exact hc
  exact ⟨h.len, fun x v hx => ⟨(h.sound x v hx).1, (h.sound x v hx).2.mono fun d hd => List.mem_append_left _ hd⟩, fun n p => h.full n (g n p)⟩
theorem tab_first {m : Nat} (hm : 0 < m) : Tab m [m] (some 0 :: List.replicate (m - 1) none) := by
  refine ⟨by simp; omega, fun x v hx => ?_, fun n p => ?_⟩
  · cases x with
    | zero =>
      have e : v = 0 := by unfold At at hx; simp at hx; exact hx.symm
      subst e
      exact ⟨Nat.zero_mod m, .zero⟩
    | succ x =>
      unfold At at hx
      rw [List.getElem?_cons_succ, List.getElem?_replicate] at hx
      split at hx <;> simp at hx
  · have e : n % m = 0 := by
      induction p with
      | zero => exact Nat.zero_mod m
      | @add c n hc _ ih =>
        obtain rfl := List.mem_singleton.mp hc
        rw [Nat.add_mod_right, ih]
    refine ⟨0, ?_, Nat.zero_le n⟩
    rw [e]
    rfl

/-! ### one edge -/
def relax (T : Tb) (h t c : Nat) : Tb := match T[h]?, T[t]? with
  | some (some v), some (some w) => if v + c < w then T.set t (some (v + c)) else T
  | some (some v), some none => T.set t (some (v + c))
  | _, _ => T
theorem relax_len (T : Tb) (h t c : Nat) : (relax T h t c).length = T.length := by
  unfold relax
  split
  · split <;> simp
  · simp
  · rfl
theorem at_set {T : Tb} {t x v w : Nat} (h : At (T.set t (some w)) x v) : (x = t ∧ v = w) ∨ (x ≠ t ∧ At T x v) := by
  unfold At at h ⊢
  rw [List.getElem?_set] at h
  split at h
  · rename_i e
    split at h
    · exact .inl ⟨e.symm, (Option.some.inj (Option.some.inj h)).symm⟩
    · cases h
  · rename_i e
    exact .inr ⟨fun z => e z.symm, h⟩
theorem at_set_same {T : Tb} {t w : Nat} (h : t < T.length) : At (T.set t (some w)) t w := by
  unfold At; rw [List.getElem?_set_self h]
theorem at_set_ne {T : Tb} {t x v w : Nat} (hx : x ≠ t) (h : At T x v) : At (T.set t (some w)) x v := by
  unfold At at h ⊢; rw [List.getElem?_set_ne (fun e => hx e.symm)]; exact h
theorem relax_le {T : Tb} {h t c y v : Nat} (a : At T y v) : ∃ v', At (relax T h t c) y v' ∧ v' ≤ v := by
  unfold relax
  split
  · rename_i u w e1 e2
    split
    · rename_i hlt
      by_cases hy : y = t
      · subst hy
        have : v = w := At.inj a e2
        exact ⟨_, at_set_same a.lt, by omega⟩
      · exact ⟨v, at_set_ne hy a, Nat.le_refl _⟩
    · exact ⟨v, a, Nat.le_refl _⟩
  · rename_i u e1 e2
    by_cases hy : y = t
    · subst hy
      unfold At at a; rw [a] at e2; simp at e2
    · exact ⟨v, at_set_ne hy a, Nat.le_refl _⟩
  · exact ⟨v, a, Nat.le_refl _⟩
theorem relax_edge {T : Tb} {h t c v : Nat} (a : At T h v) (ht : t < T.length) : ∃ v', At (relax T h t c) t v' ∧ v' ≤ v + c := by
  unfold At at a
  unfold relax
  rw [a]
  cases e : T[t]? with
  | none => rw [List.getElem?_eq_none_iff] at e; omega
  | some o =>
    cases o with
    | none => exact ⟨_, at_set_same ht, Nat.le_refl _⟩
    | some w =>
      show ∃ v', At (if v + c < w then T.set t (some (v + c)) else T) t v' ∧ v' ≤ v + c
      split
      · exact ⟨_, at_set_same ht, Nat.le_refl _⟩
      · exact ⟨w, e, by omega⟩
theorem relax_dn {T : Tb} {h t c x v' : Nat} (a : At (relax T h t c) x v') : At T x v' ∨ (x = t ∧ ∃ v, At T h v ∧ v' = v + c) := by
  unfold relax at a
  split at a
  · rename_i u w e1 e2
    split at a
    · rcases at_set a with ⟨hx, hv⟩ | ⟨_, a⟩
      · exact .inr ⟨hx, u, e1, hv⟩
      · exact .inl a
    · exact .inl a
  · rename_i u e1 e2
    rcases at_set a with ⟨hx, hv⟩ | ⟨_, a⟩
    · exact .inr ⟨hx, u, e1, hv⟩
    · exact .inl a
  · exact .inl a
/-- so many turns from a start -/
def turns (T : Tb) (st s c m : Nat) : Nat → Tb
  | 0 => T
  | n + 1 => relax (turns T st s c m n) ((st + n * s) % m) ((st + (n + 1) * s) % m) c
structure InT (T0 T : Tb) (st s c m n : Nat) : Prop where
  len : T.length = m
  le : ∀ y v, At T0 y v → ∃ v', At T y v' ∧ v' ≤ v
  dn : ∀ x v', At T x v' → ∃ y k v, At T0 y v ∧ v' = v + k * c ∧ (y + k * s) % m = x
  fw : ∀ i j, i ≤ j → j ≤ n → ∀ v, At T0 ((st + i * s) % m) v → ∃ v', At T ((st + j * s) % m) v' ∧ v' ≤ v + (j - i) * c
theorem inT {T0 : Tb} {st s c m : Nat} (hm : 0 < m) (hl : T0.length = m) : ∀ n, InT T0 (turns T0 st s c m n) st s c m n
  | 0 => ⟨hl, fun y v a => ⟨v, a, Nat.le_refl _⟩, fun x v' a => ⟨x, 0, v', a, by simp, by rw [Nat.zero_mul, Nat.add_zero, Nat.mod_eq_of_lt (hl ▸ a.lt)]⟩, fun i j h1 h2 v a => by
      have hj : j = 0 := by omega
      have hi : i = 0 := by omega
      subst hj; subst hi
      exact ⟨v, a, by simp⟩⟩
  | n + 1 => by
    have ih := inT (T0 := T0) (st := st) (s := s) (c := c) hm hl n
    have hle : ∀ y v, At T0 y v → ∃ v', At (turns T0 st s c m (n + 1)) y v' ∧ v' ≤ v := fun y v a => by
      obtain ⟨v1, a1, h1⟩ := ih.le y v a
      obtain ⟨v2, a2, h2⟩ := relax_le (h := (st + n * s) % m) (t := (st + (n + 1) * s) % m) (c := c) a1
      exact ⟨v2, a2, by omega⟩
    refine ⟨by show (relax _ _ _ _).length = m; rw [relax_len]; exact ih.len, hle, fun x v' a => ?_, fun i j h1 h2 v a => ?_⟩
    · rcases relax_dn a with a | ⟨hx, w, a, hw⟩
      · exact ih.dn x v' a
      · obtain ⟨y, k, v, hy, e1, e2⟩ := ih.dn _ w a
        refine ⟨y, k + 1, v, hy, by rw [hw, e1, Nat.add_mul]; omega, ?_⟩
        rw [hx, Nat.add_mul, Nat.one_mul, ← Nat.add_assoc, Nat.add_mod, e2, ← Nat.add_mod, Nat.add_mul, Nat.one_mul, Nat.add_assoc]
    · by_cases hj : j ≤ n
      · obtain ⟨v1, a1, l1⟩ := ih.fw i j h1 hj v a
        obtain ⟨v2, a2, l2⟩ := relax_le (h := (st + n * s) % m) (t := (st + (n + 1) * s) % m) (c := c) a1
        exact ⟨v2, a2, by omega⟩
      · have ej : j = n + 1 := by omega
        subst ej
        by_cases hi : i = n + 1
        · subst hi
          obtain ⟨v1, a1, l1⟩ := hle _ v a
          exact ⟨v1, a1, by omega⟩
        · obtain ⟨v1, a1, l1⟩ := ih.fw i n (by omega) (Nat.le_refl n) v a
          obtain ⟨v2, a2, l2⟩ := relax_edge (c := c) a1 (t := (st + (n + 1) * s) % m) (by rw [ih.len]; exact Nat.mod_lt _ hm)
          refine ⟨v2, a2, ?_⟩
          have : (n + 1 - i) * c = (n - i) * c + c := by
            rw [show n + 1 - i = (n - i) + 1 by omega, Nat.add_mul, Nat.one_mul]
          omega
/-- all rounds: starts 0, 1, .. -/
def rounds (T : Tb) (s c m : Nat) : Nat → Tb
  | 0 => T
  | n + 1 => turns (rounds T s c m n) n s c m (2 * (m / Nat.gcd s m))
structure OutT (T0 T : Tb) (s c m n : Nat) : Prop where
  len : T.length = m
  le : ∀ y v, At T0 y v → ∃ v', At T y v' ∧ v' ≤ v
  dn : ∀ x v', At T x v' → ∃ y k v, At T0 y v ∧ v' = v + k * c ∧ (y + k * s) % m = x
  up : ∀ y v k, y % Nat.gcd s m < n → At T0 y v → ∃ v', At T ((y + k * s) % m) v' ∧ v' ≤ v + k * c
theorem outT {T0 : Tb} {s c m : Nat} (hm : 0 < m) (hl : T0.length = m) : ∀ n, OutT T0 (rounds T0 s c m n) s c m n
  | 0 => ⟨hl, fun y v a => ⟨v, a, Nat.le_refl _⟩, fun x v' a => ⟨x, 0, v', a, by simp, by rw [Nat.zero_mul, Nat.add_zero, Nat.mod_eq_of_lt (hl ▸ a.lt)]⟩, fun y v k h => by omega⟩
  | n + 1 => by
    have ih := outT (T0 := T0) (s := s) (c := c) hm hl n
    have it := inT (st := n) (s := s) (c := c) hm ih.len (2 * (m / Nat.gcd s m))
    have hg : 0 < Nat.gcd s m := Nat.gcd_pos_of_pos_right s hm
    have hL : 0 < m / Nat.gcd s m := Nat.div_pos (Nat.le_of_dvd hm (Nat.gcd_dvd_right s m)) hg
    refine ⟨it.len, fun y v a => ?_, fun x v' a => ?_, fun y v k h a => ?_⟩
    · obtain ⟨v1, a1, l1⟩ := ih.le y v a
      obtain ⟨v2, a2, l2⟩ := it.le y v1 a1
      exact ⟨v2, a2, by omega⟩
    · obtain ⟨y, k, v, hy, e1, e2⟩ := it.dn x v' a
      obtain ⟨y', k', v0, hy', e1', e2'⟩ := ih.dn y v hy
      refine ⟨y', k' + k, v0, hy', by rw [e1, e1', Nat.add_mul]; omega, ?_⟩
      rw [Nat.add_mul, ← Nat.add_assoc, Nat.add_mod, e2', ← e2]
      have hy2 : y < m := by rw [← e2']; exact Nat.mod_lt _ hm
      rw [Nat.add_mod_mod]
    · by_cases hlt : y % Nat.gcd s m < n
      · obtain ⟨v1, a1, l1⟩ := ih.up y v k hlt a
        obtain ⟨v2, a2, l2⟩ := it.le _ v1 a1
        exact ⟨v2, a2, by omega⟩
      · have hy : y < m := hl ▸ a.lt
        obtain ⟨i, hi, ei⟩ := cover (s := s) (st := n) hm hy (by omega)
        obtain ⟨v1, a1, l1⟩ := ih.le y v a
        rw [← ei] at a1
        have hk : k % (m / Nat.gcd s m) < m / Nat.gcd s m := Nat.mod_lt _ hL
        obtain ⟨v2, a2, l2⟩ := it.fw i (i + k % (m / Nat.gcd s m)) (by omega) (by omega) v1 a1
        refine ⟨v2, ?_, ?_⟩
        · have e : (y + k * s) % m = (n + (i + k % (m / Nat.gcd s m)) * s) % m := by
            rw [Nat.add_mul, ← Nat.add_assoc, Nat.add_mod (n + i * s), ei, round_mul hm, Nat.add_mod_mod]
          rw [e]
          exact a2
        · have h1 : i + k % (m / Nat.gcd s m) - i = k % (m / Nat.gcd s m) := by omega
          rw [h1] at l2
          have h2 : k % (m / Nat.gcd s m) * c ≤ k * c := Nat.mul_le_mul_right c (Nat.mod_le _ _)
          omega
theorem rounds_ru {T : Tb} {s c m : Nat} (hm : 0 < m) (hl : T.length = m) : Ru m s c T (rounds T s c m (Nat.gcd s m)) := by
  have o := outT (T0 := T) (s := s) (c := c) hm hl (Nat.gcd s m)
  exact ⟨o.len, fun y v k a => o.up y v k (Nat.mod_lt _ (Nat.gcd_pos_of_pos_right s hm)) a, o.dn⟩
end Pd

/-! The coins one by one; all rests; how great the items are. -/
namespace Pd
/-- of the rest of a row those that the ones ahead do not pay -/
noncomputable def needM : List Nat → List Nat → List Nat
  | _, [] => []
  | pre, c :: r => if pb pre c = true then needM (pre ++ [c]) r else c :: needM (pre ++ [c]) r
def bstep (m : Nat) (s : List Nat × Tb) (c : Nat) : List Nat × Tb := match s.2[c % m]? with
  | some (some v) => if c < v then (s.1 ++ [c], rounds s.2 (c % m) c m (Nat.gcd (c % m) m)) else s
  | some none => (s.1 ++ [c], rounds s.2 (c % m) c m (Nat.gcd (c % m) m))
  | none => s
theorem bsteps {m : Nat} (hm : 0 < m) : ∀ (rest pre nd : List Nat) (T : Tb), Tab m pre T → m ∈ pre →
    ∃ T', rest.foldl (bstep m) (nd, T) = (nd ++ needM pre rest, T') ∧ Tab m (pre ++ rest) T'
  | [], pre, nd, T, h, _ => ⟨T, by simp [needM], by simpa using h⟩
  | c :: r, pre, nd, T, h, hp => by
    have hc : c % m < T.length := by rw [h.len]; exact Nat.mod_lt _ hm
    have go : ∀ T1 nd1, bstep m (nd, T) c = (nd1, T1) → Tab m (pre ++ [c]) T1 → nd ++ needM pre (c :: r) = nd1 ++ needM (pre ++ [c]) r →
        ∃ T', (c :: r).foldl (bstep m) (nd, T) = (nd ++ needM pre (c :: r), T') ∧ Tab m (pre ++ (c :: r)) T' := fun T1 nd1 e h1 e2 => by
      obtain ⟨T', e3, h3⟩ := bsteps hm r (pre ++ [c]) nd1 T1 h1 (List.mem_append_left _ hp)
      refine ⟨T', by rw [List.foldl_cons, e, e3, e2], ?_⟩
      rwa [List.append_assoc, List.singleton_append] at h3
    cases e : T[c % m]? with
    | none => rw [List.getElem?_eq_none_iff] at e; omega
    | some o =>
      cases o with
      | none =>
        have hb : pb pre c = false := pb_not.mpr fun p => by
          obtain ⟨v, hv, _⟩ := h.full c p
          unfold At at hv; rw [hv] at e; cases e
        refine go _ _ (show bstep m (nd, T) c = (nd ++ [c], rounds T (c % m) c m (Nat.gcd (c % m) m)) by unfold bstep; rw [e]) (h.add (rounds_ru hm h.len)) ?_
        show nd ++ (if pb pre c = true then _ else c :: _) = _
        rw [hb, if_neg Bool.false_ne_true, List.append_assoc, List.singleton_append]
      | some v =>
        by_cases hv : c < v
        · have hb : pb pre c = false := pb_not.mpr fun p => by
            obtain ⟨v', hv', hl⟩ := h.full c p
            have := At.inj hv' e
            omega
          refine go _ _ (show bstep m (nd, T) c = (nd ++ [c], rounds T (c % m) c m (Nat.gcd (c % m) m)) by unfold bstep; rw [e]; exact if_pos hv) (h.add (rounds_ru hm h.len)) ?_
          show nd ++ (if pb pre c = true then _ else c :: _) = _
          rw [hb, if_neg Bool.false_ne_true, List.append_assoc, List.singleton_append]
        · have hb : pb pre c = true := pb_iff.mpr (h.paid hp e (by omega))
          refine go T nd (show bstep m (nd, T) c = (nd, T) by unfold bstep; rw [e]; exact if_neg hv) (h.skip hp e (by omega)) ?_
          show nd ++ (if pb pre c = true then _ else c :: _) = _
          rw [if_pos hb]
theorem built_spec {m : Nat} (hm : 0 < m) (rest : List Nat) : ∃ T, rest.foldl (bstep m) ([m], some 0 :: List.replicate (m - 1) none) = (m :: needM [m] rest, T) ∧ Tab m (m :: rest) T := by
  obtain ⟨T, e, h⟩ := bsteps hm rest [m] [m] _ (tab_first hm) (by simp)
  exact ⟨T, e, h⟩
theorem needM_all : ∀ (rest pre : List Nat), (∀ a c b, rest = a ++ c :: b → ¬ Pay (pre ++ a) c) → needM pre rest = rest
  | [], _, _ => rfl
  | c :: r, pre, h => by
    have h0 : pb pre c = false := pb_not.mpr (by have := h [] c r rfl; rwa [List.append_nil] at this)
    unfold needM
    rw [h0, if_neg Bool.false_ne_true, needM_all r (pre ++ [c]) fun a d b e => by
      have := h (c :: a) d b (by rw [e]; rfl)
      rwa [List.append_assoc, List.singleton_append]]

/-! ### all rests -/
def gcdL (cs : List Nat) : Nat := cs.foldl Nat.gcd 0
theorem residue_all {m : Nat} {cs : List Nat} (hm : 0 < m) (hc : gcdL cs = 1) (r : Nat) : ∃ n, Pay cs n ∧ n % m = r % m := by
  let S : Nat → Prop := fun a => ∃ n, Pay cs n ∧ n % m = a % m
  have hg : ∀ a b, S a → S b → S (Nat.gcd a b) := bez_set hm (fun a b ⟨x, p, e⟩ ⟨y, q, f⟩ => ⟨x + y, p.sum q, by rw [Nat.add_mod, e, f, ← Nat.add_mod]⟩) (fun a b h ⟨x, p, e⟩ => ⟨x, p, by rw [e, h]⟩) ⟨0, .zero, rfl⟩
  have hf : ∀ (l : List Nat) (a : Nat), (∀ c ∈ l, c ∈ cs) → S a → S (l.foldl Nat.gcd a) := fun l => by
    induction l with
    | nil => intro a _ h; exact h
    | cons c l ih =>
      intro a hs h
      exact ih _ (fun d hd => hs d (List.mem_cons_of_mem _ hd)) (hg a c h ⟨c, .one (hs c (by simp)), rfl⟩)
  have h1 : S 1 := by
    have := hf cs 0 (fun _ h => h) ⟨0, .zero, rfl⟩
    rwa [show cs.foldl Nat.gcd 0 = 1 from hc] at this
  obtain ⟨n, p, e⟩ := h1
  exact ⟨r * n, p.times r, by rw [Nat.mul_mod, e, ← Nat.mul_mod, Nat.mul_one]⟩
theorem countP_lt {α : Type} {p q : α → Bool} : ∀ {l : List α}, (∀ x ∈ l, p x = true → q x = true) → (∃ x ∈ l, q x = true ∧ p x = false) → l.countP p + 1 ≤ l.countP q
  | [], _, ⟨x, hx, _⟩ => by cases hx
  | a :: l, h, ⟨x, hx, hq, hp⟩ => by
    have mono : ∀ {l : List α}, (∀ x ∈ l, p x = true → q x = true) → l.countP p ≤ l.countP q := fun {l} => by
      induction l with
      | nil => intro _; simp
      | cons b l ih =>
        intro h
        have := ih fun x hx => h x (List.mem_cons_of_mem _ hx)
        rw [List.countP_cons, List.countP_cons]
        have hb := h b (by simp)
        cases hpb : p b <;> cases hqb : q b <;> simp_all <;> omega
    rw [List.countP_cons, List.countP_cons]
    rcases List.mem_cons.mp hx with rfl | hx
    · have := mono fun y hy => h y (List.mem_cons_of_mem _ hy)
      rw [hq, hp]
      simp
      omega
    · have ih := countP_lt (fun y hy => h y (List.mem_cons_of_mem _ hy)) ⟨x, hx, hq, hp⟩
      have ha := h a (by simp)
      cases hpa : p a <;> cases hqa : q a <;> simp_all <;> omega
def Rch (cs : List Nat) (m M j x : Nat) : Prop := ∃ n, Pay cs n ∧ n % m = x ∧ n ≤ j * M
noncomputable def rchB (cs : List Nat) (m M j x : Nat) : Bool := @decide (Rch cs m M j x) (Classical.propDecidable _)
theorem rchB_iff {cs : List Nat} {m M j x : Nat} : rchB cs m M j x = true ↔ Rch cs m M j x := by unfold rchB; exact @decide_eq_true_iff _ (Classical.propDecidable _)
theorem Rch.mono {cs : List Nat} {m M j x : Nat} (h : Rch cs m M j x) : Rch cs m M (j + 1) x := by
  obtain ⟨n, p, e, l⟩ := h
  exact ⟨n, p, e, by rw [Nat.add_mul]; omega⟩
theorem rch_grow {cs : List Nat} {m M j : Nat} (hm : 0 < m) (hc : gcdL cs = 1) (hM : ∀ c ∈ cs, c ≤ M) (h : ∃ x, x < m ∧ ¬ Rch cs m M j x) : ∃ x, x < m ∧ Rch cs m M (j + 1) x ∧ ¬ Rch cs m M j x := by
  apply Classical.byContradiction
  intro hn
  obtain ⟨x, hx, hr⟩ := h
  have all : ∀ n, Pay cs n → Rch cs m M j (n % m) := fun n p => by
    induction p with
    | zero => exact ⟨0, .zero, rfl, Nat.zero_le _⟩
    | @add c n hcs p ih =>
      apply Classical.byContradiction
      intro hz
      obtain ⟨k, q, e, l⟩ := ih
      refine hn ⟨(n + c) % m, Nat.mod_lt _ hm, ⟨k + c, .add hcs q, by rw [Nat.add_mod, e, ← Nat.add_mod], ?_⟩, hz⟩
      rw [Nat.add_mul, Nat.one_mul]
      have := hM c hcs
      omega
  obtain ⟨n, p, e⟩ := residue_all hm hc x
  have := all n p
  rw [e, Nat.mod_eq_of_lt hx] at this
  exact hr this
theorem rch_count {cs : List Nat} {m M : Nat} (hm : 0 < m) (hc : gcdL cs = 1) (hM : ∀ c ∈ cs, c ≤ M) : ∀ j, (∀ x, x < m → Rch cs m M j x) ∨ j + 1 ≤ (List.range m).countP (rchB cs m M j)
  | 0 => by
    refine .inr (List.countP_pos_iff.mpr ⟨0, List.mem_range.mpr hm, rchB_iff.mpr ⟨0, .zero, Nat.zero_mod m, Nat.zero_le _⟩⟩)
  | j + 1 => by
    rcases rch_count (M := M) hm hc hM j with h | h
    · exact .inl fun x hx => (h x hx).mono
    · by_cases ha : ∃ x, x < m ∧ ¬ Rch cs m M j x
      · obtain ⟨x, hx, h1, h2⟩ := rch_grow hm hc hM ha
        refine .inr (Nat.le_trans (Nat.succ_le_succ h) (countP_lt (fun y _ hy => rchB_iff.mpr (rchB_iff.mp hy).mono) ⟨x, List.mem_range.mpr hx, rchB_iff.mpr h1, ?_⟩))
        cases hb : rchB cs m M j x with
        | false => rfl
        | true => exact absurd (rchB_iff.mp hb) h2
      · refine .inl fun x hx => Rch.mono ?_
        apply Classical.byContradiction
        intro hz
        exact ha ⟨x, hx, hz⟩
/-- the least sum of each rest is at most so many greatest coins as there are rests but one -/
theorem rch_all {cs : List Nat} {m M : Nat} (hm : 0 < m) (hc : gcdL cs = 1) (hM : ∀ c ∈ cs, c ≤ M) {x : Nat} (hx : x < m) : Rch cs m M (m - 1) x := by
  rcases rch_count (M := M) hm hc hM (m - 1) with h | h
  · exact h x hx
  · rw [Nat.sub_add_cancel hm] at h
    have e : (List.range m).countP (rchB cs m M (m - 1)) = (List.range m).length := by
      have := List.countP_le_length (p := rchB cs m M (m - 1)) (l := List.range m)
      rw [List.length_range] at this ⊢
      omega
    exact rchB_iff.mp (List.countP_eq_length.mp e x (List.mem_range.mpr hx))

/-! ### a whole table -/
/-- what the table of a system tells: rests by the least coin -/
structure Rests (m : Nat) (cs : List Nat) (W : List Nat) : Prop where
  len : W.length = m
  mod : ∀ (x w : Nat), W[x]? = some w → w % m = x
  pay : ∀ (n w : Nat), W[n % m]? = some w → (Pay cs n ↔ w ≤ n)
  top : ∀ (x w M : Nat), W[x]? = some w → (∀ c ∈ cs, c ≤ M) → w ≤ (m - 1) * M
theorem Tab.whole {m : Nat} {cs : List Nat} {T : Tb} (h : Tab m cs T) (hm : 0 < m) (hp : m ∈ cs) (hc : gcdL cs = 1) : ∃ W : List Nat, T = W.map some ∧ Rests m cs W := by
  have hall : ∀ x, x < m → ∃ v, At T x v := fun x hx => by
    obtain ⟨n, p, e⟩ := residue_all hm hc x
    obtain ⟨v, hv, _⟩ := h.full n p
    rw [e, Nat.mod_eq_of_lt hx] at hv
    exact ⟨v, hv⟩
  have hT : T = (T.map fun o => o.getD 0).map some := by
    apply List.ext_getElem?
    intro i
    rw [List.getElem?_map, List.getElem?_map]
    by_cases hi : i < m
    · obtain ⟨v, hv⟩ := hall i hi
      unfold At at hv
      rw [hv]
      rfl
    · rw [List.getElem?_eq_none (by rw [h.len]; omega)]
      rfl
  have hw : ∀ x w, (T.map fun o => o.getD 0)[x]? = some w → At T x w := fun x w e => by
    unfold At
    conv => lhs; rw [hT]
    rw [List.getElem?_map, e]
    rfl
  refine ⟨_, hT, by rw [List.length_map]; exact h.len, fun x w e => (h.sound x w (hw x w e)).1, fun n w e => ?_, fun x w M e hM => ?_⟩
  · rw [h.pays hp]
    constructor
    · rintro ⟨v, hv, hl⟩
      have := At.inj hv (hw _ w e)
      omega
    · intro hl
      exact ⟨w, hw _ w e, hl⟩
  · have a := hw x w e
    obtain ⟨n, p, e2, l⟩ := rch_all hm hc hM (h.len ▸ a.lt)
    obtain ⟨v, hv, hl⟩ := h.full n p
    rw [e2] at hv
    have := At.inj hv a
    omega
end Pd

/-! Rows of integers as series: sums, convolution, (1 - x to a coin). -/
namespace Pd
def sumN (f : Nat → Int) : Nat → Int
  | 0 => 0
  | n + 1 => sumN f n + f n
theorem sumN_congr {f g : Nat → Int} : ∀ n, (∀ k, k < n → f k = g k) → sumN f n = sumN g n
  | 0, _ => rfl
  | n + 1, h => by show sumN f n + f n = sumN g n + g n; rw [sumN_congr n fun k hk => h k (by omega), h n (by omega)]
theorem sumN_zero {f : Nat → Int} (n : Nat) (h : ∀ k, k < n → f k = 0) : sumN f n = 0 := by
  induction n with
  | zero => rfl
  | succ n ih => show sumN f n + f n = 0; rw [ih fun k hk => h k (by omega), h n (by omega)]; rfl
theorem sumN_sub (f g : Nat → Int) : ∀ n, sumN (fun k => f k - g k) n = sumN f n - sumN g n
  | 0 => rfl
  | n + 1 => by show sumN _ n + (f n - g n) = (sumN f n + f n) - (sumN g n + g n); rw [sumN_sub f g n]; omega
theorem sumN_add (f g : Nat → Int) : ∀ n, sumN (fun k => f k + g k) n = sumN f n + sumN g n
  | 0 => rfl
  | n + 1 => by show sumN _ n + (f n + g n) = (sumN f n + f n) + (sumN g n + g n); rw [sumN_add f g n]; omega
/-- a sum in two parts -/
theorem sumN_split (f : Nat → Int) (a : Nat) : ∀ b, sumN f (a + b) = sumN f a + sumN (fun k => f (a + k)) b
  | 0 => by show sumN f a = sumN f a + 0; omega
  | b + 1 => by show sumN f (a + b) + f (a + b) = sumN f a + (sumN _ b + f (a + b)); rw [sumN_split f a b]; omega
theorem sumN_one {f : Nat → Int} {n j : Nat} (hj : j < n) (h : ∀ k, k < n → k ≠ j → f k = 0) : sumN f n = f j := by
  induction n with
  | zero => omega
  | succ n ih =>
    show sumN f n + f n = f j
    by_cases e : j = n
    · subst e
      rw [sumN_zero j fun k hk => h k (by omega) (by omega)]
      omega
    · rw [ih (by omega) fun k hk hne => h k (by omega) hne, h n (by omega) (by omega)]
      omega
/-- backwards -/
theorem sumN_rev (f : Nat → Int) : ∀ n, sumN f n = sumN (fun k => f (n - 1 - k)) n
  | 0 => rfl
  | n + 1 => by
    have h1 : sumN (fun k => f (n + 1 - 1 - k)) (1 + n) = sumN (fun k => f (n + 1 - 1 - k)) 1 + sumN (fun k => f (n + 1 - 1 - (1 + k))) n := sumN_split _ 1 n
    rw [Nat.add_comm 1 n] at h1
    rw [h1]
    show sumN f n + f n = (0 + f (n + 1 - 1 - 0)) + _
    rw [sumN_rev f n, sumN_congr (g := fun k => f (n + 1 - 1 - (1 + k))) n fun k hk => by show f (n - 1 - k) = f (n + 1 - 1 - (1 + k)); congr 1; omega]
    show _ + f n = 0 + f (n + 1 - 1 - 0) + _
    rw [show n + 1 - 1 - 0 = n by omega]
    omega

def conv (f g : Nat → Int) (n : Nat) : Int := sumN (fun k => f k * g (n - k)) (n + 1)
/-- moved by c places -/
def sh (c : Nat) (f : Nat → Int) (n : Nat) : Int := if c ≤ n then f (n - c) else 0
/-- times (1 - x to c) -/
def mc (c : Nat) (f : Nat → Int) (n : Nat) : Int := f n - sh c f n
def dl (n : Nat) : Int := if n = 0 then 1 else 0
theorem conv_congr {f f' g g' : Nat → Int} {n : Nat} (h1 : ∀ k, k ≤ n → f k = f' k) (h2 : ∀ k, k ≤ n → g k = g' k) : conv f g n = conv f' g' n :=
  sumN_congr _ fun k hk => by rw [h1 k (by omega), h2 (n - k) (by omega)]
theorem conv_sh_left (c : Nat) (f g : Nat → Int) (n : Nat) : conv (sh c f) g n = sh c (conv f g) n := by
  unfold conv
  by_cases h : c ≤ n
  · rw [show n + 1 = c + (n - c + 1) by omega, sumN_split, sumN_zero c fun k hk => by unfold sh; rw [if_neg (by omega)]; omega]
    unfold sh
    rw [if_pos h, Int.zero_add]
    refine sumN_congr _ fun k hk => ?_
    rw [if_pos (by omega), show c + k - c = k by omega, show n - (c + k) = n - c - k by omega]
  · rw [sumN_zero (n + 1) fun k hk => by unfold sh; rw [if_neg (by omega)]; omega]
    unfold sh
    rw [if_neg h]
theorem conv_sh_right (c : Nat) (f g : Nat → Int) (n : Nat) : conv f (sh c g) n = sh c (conv f g) n := by
  unfold conv
  by_cases h : c ≤ n
  · rw [show n + 1 = (n - c + 1) + c by omega, sumN_split, sumN_zero (f := fun k => f (n - c + 1 + k) * sh c g (n - (n - c + 1 + k))) c fun k hk => by unfold sh; rw [if_neg (by omega)]; omega]
    unfold sh
    rw [if_pos h, Int.add_zero]
    refine sumN_congr _ fun k hk => ?_
    rw [if_pos (by omega), show n - k - c = n - c - k by omega]
  · rw [sumN_zero (n + 1) fun k hk => by unfold sh; rw [if_neg (by omega)]; omega]
    unfold sh
    rw [if_neg h]
theorem conv_mc_left (c : Nat) (f g : Nat → Int) (n : Nat) : conv (mc c f) g n = mc c (conv f g) n := by
  show sumN (fun k => (f k - sh c f k) * g (n - k)) (n + 1) = conv f g n - sh c (conv f g) n
  rw [← conv_sh_left]
  unfold conv
  rw [← sumN_sub]
  exact sumN_congr _ fun k _ => by rw [Int.sub_mul]
theorem conv_mc_right (c : Nat) (f g : Nat → Int) (n : Nat) : conv f (mc c g) n = mc c (conv f g) n := by
  show sumN (fun k => f k * (g (n - k) - sh c g (n - k))) (n + 1) = conv f g n - sh c (conv f g) n
  rw [← conv_sh_right]
  unfold conv
  rw [← sumN_sub]
  exact sumN_congr _ fun k _ => by rw [Int.mul_sub]
theorem conv_dl_right (f : Nat → Int) (n : Nat) : conv f dl n = f n := by
  unfold conv
  rw [sumN_one (j := n) (by omega) fun k hk hne => by show f k * (if n - k = 0 then 1 else 0) = 0; rw [if_neg (by omega), Int.mul_zero]]
  show f n * (if n - n = 0 then 1 else 0) = f n
  rw [if_pos (by omega), Int.mul_one]
theorem conv_comm (f g : Nat → Int) (n : Nat) : conv f g n = conv g f n := by
  unfold conv
  rw [sumN_rev]
  refine sumN_congr _ fun k hk => ?_
  show f (n + 1 - 1 - k) * g (n - (n + 1 - 1 - k)) = g k * f (n - k)
  rw [show n + 1 - 1 - k = n - k by omega, show n - (n - k) = k by omega, Int.mul_comm]
theorem mc_congr {f g : Nat → Int} {c n : Nat} (h : ∀ k, k ≤ n → f k = g k) : mc c f n = mc c g n := by
  unfold mc sh
  rw [h n (Nat.le_refl n)]
  split
  · rw [h (n - c) (by omega)]
  · rfl
theorem mc_comm (c d : Nat) (f : Nat → Int) (n : Nat) : mc c (mc d f) n = mc d (mc c f) n := by
  show (f n - (if d ≤ n then f (n - d) else 0)) - (if c ≤ n then (f (n - c) - (if d ≤ n - c then f (n - c - d) else 0)) else 0) =
    (f n - (if c ≤ n then f (n - c) else 0)) - (if d ≤ n then (f (n - d) - (if c ≤ n - d then f (n - d - c) else 0)) else 0)
  by_cases h1 : c ≤ n <;> by_cases h2 : d ≤ n <;> by_cases h3 : c + d ≤ n
  · rw [if_pos h1, if_pos h2, if_pos h1, if_pos h2, if_pos (show d ≤ n - c by omega), if_pos (show c ≤ n - d by omega), show n - c - d = n - d - c by omega]; omega
  · rw [if_pos h1, if_pos h2, if_pos h1, if_pos h2, if_neg (show ¬ d ≤ n - c by omega), if_neg (show ¬ c ≤ n - d by omega)]; omega
  · omega
  · rw [if_pos h1, if_neg h2, if_pos h1, if_neg h2, if_neg (show ¬ d ≤ n - c by omega)]; omega
  · omega
  · rw [if_neg h1, if_pos h2, if_neg h1, if_pos h2, if_neg (show ¬ c ≤ n - d by omega)]; omega
  · omega
  · rw [if_neg h1, if_neg h2, if_neg h1, if_neg h2]
/-- times all (1 - x to a coin) -/
def mcs : List Nat → (Nat → Int) → Nat → Int
  | [], f => f
  | c :: cs, f => mcs cs (mc c f)
theorem mcs_congr : ∀ (cs : List Nat) {f g : Nat → Int} {n : Nat}, (∀ k, k ≤ n → f k = g k) → mcs cs f n = mcs cs g n
  | [], _, _, n, h => h n (Nat.le_refl n)
  | c :: cs, _, _, _, h => mcs_congr cs fun k hk => mc_congr fun j hj => h j (by omega)
theorem conv_mcs_left (g : Nat → Int) : ∀ (cs : List Nat) (f : Nat → Int) (n : Nat), conv (mcs cs f) g n = mcs cs (conv f g) n
  | [], _, _ => rfl
  | c :: cs, f, n => by
    show conv (mcs cs (mc c f)) g n = mcs cs (mc c (conv f g)) n
    rw [conv_mcs_left g cs]
    exact mcs_congr cs fun k _ => conv_mc_left c f g k
theorem conv_mcs_right (f : Nat → Int) : ∀ (cs : List Nat) (g : Nat → Int) (n : Nat), conv f (mcs cs g) n = mcs cs (conv f g) n
  | [], _, _ => rfl
  | c :: cs, g, n => by
    show conv f (mcs cs (mc c g)) n = mcs cs (mc c (conv f g)) n
    rw [conv_mcs_right f cs]
    exact mcs_congr cs fun k _ => conv_mc_right c f g k
theorem mcs_mc (c : Nat) : ∀ (cs : List Nat) (f : Nat → Int) (n : Nat), mcs cs (mc c f) n = mc c (mcs cs f) n
  | [], _, _ => rfl
  | d :: cs, f, n => by
    show mcs cs (mc d (mc c f)) n = mc c (mcs cs (mc d f)) n
    rw [← mcs_mc c cs (mc d f)]
    exact mcs_congr cs fun k _ => mc_comm d c f k
theorem mcs_append (cs ds : List Nat) (f : Nat → Int) : mcs (cs ++ ds) f = mcs ds (mcs cs f) := by
  induction cs generalizing f with
  | nil => rfl
  | cons c cs ih => exact ih (mc c f)
/-- the inverse of times (1 - x to c) -/
def icF (c : Nat) (f : Nat → Int) : Nat → Nat → Int
  | 0, n => f n
  | d + 1, n => f n + (if c ≤ n then icF c f d (n - c) else 0)
def ic (c : Nat) (f : Nat → Int) (n : Nat) : Int := icF c f n n
theorem icF_more {c : Nat} (hc : 0 < c) (f : Nat → Int) : ∀ (d n : Nat), n ≤ d → icF c f (d + 1) n = icF c f d n
  | 0, n, h => by
    show f n + (if c ≤ n then icF c f 0 (n - c) else 0) = f n
    rw [if_neg (by omega)]; omega
  | d + 1, n, h => by
    show f n + (if c ≤ n then icF c f (d + 1) (n - c) else 0) = f n + (if c ≤ n then icF c f d (n - c) else 0)
    split
    · rw [icF_more hc f d (n - c) (by omega)]
    · rfl
theorem icF_any {c : Nat} (hc : 0 < c) (f : Nat → Int) (n : Nat) : ∀ d, n ≤ d → icF c f d n = icF c f n n := fun d h => by
  obtain ⟨k, rfl⟩ : ∃ k, d = n + k := ⟨d - n, by omega⟩
  clear h
  induction k with
  | zero => rfl
  | succ k ih => rw [← Nat.add_assoc, icF_more hc f (n + k) n (by omega), ih]
theorem ic_eq {c : Nat} (hc : 0 < c) (f : Nat → Int) (n : Nat) : ic c f n = f n + (if c ≤ n then ic c f (n - c) else 0) := by
  unfold ic
  rw [← icF_more hc f n n (Nat.le_refl n)]
  show f n + (if c ≤ n then icF c f n (n - c) else 0) = _
  split
  · rw [icF_any hc f (n - c) n (by omega)]
  · rfl
theorem mc_ic {c : Nat} (hc : 0 < c) (f : Nat → Int) (n : Nat) : mc c (ic c f) n = f n := by
  unfold mc sh
  rw [ic_eq hc f n]
  omega
def ics : List Nat → (Nat → Int) → Nat → Int
  | [], f => f
  | c :: cs, f => ics cs (ic c f)
theorem mcs_ics : ∀ (cs : List Nat), (∀ c ∈ cs, 0 < c) → ∀ (f : Nat → Int) (n : Nat), mcs cs (ics cs f) n = f n
  | [], _, _, _ => rfl
  | c :: cs, h, f, n => by
    show mcs cs (mc c (ics cs (ic c f))) n = f n
    rw [mcs_mc]
    rw [mc_congr (g := ic c f) fun k _ => mcs_ics cs (fun d hd => h d (List.mem_cons_of_mem _ hd)) (ic c f) k]
    exact mc_ic (h c (by simp)) f n
/-- the payable sums -/
noncomputable def pf (cs : List Nat) (n : Nat) : Int := if pb cs n = true then 1 else 0
/-- the numerator times the ways come to the payable sums -/
theorem num_ways (cs ds : List Nat) (h : ∀ c ∈ cs, 0 < c) (n : Nat) : conv (mcs cs (pf ds)) (ics cs dl) n = pf ds n := by
  rw [conv_mcs_left, ← conv_mcs_right]
  rw [conv_congr (f' := pf ds) (g' := dl) (fun k _ => rfl) fun k _ => mcs_ics cs h dl k]
  exact conv_dl_right _ _
/-- the marks of order: what they are -/
structure Marks (ds : List Nat) (most : Nat) (M : Nat → Int) : Prop where
  gap : ∀ n, n ≤ most → ¬ Pay ds n → M n = 0
  first : M 0 = 1
  paid : ∀ n, n ≤ most → 0 < n → Pay ds n → M n = - sumN (fun k => if pb ds (n - k) = true then M k else 0) n
theorem marks_conv {ds : List Nat} {most : Nat} {M : Nat → Int} (h : Marks ds most M) {n : Nat} (hn : n ≤ most) : conv (pf ds) M n = dl n := by
  rw [conv_comm]
  by_cases h0 : n = 0
  · subst h0
    show 0 + M 0 * pf ds 0 = 1
    unfold pf
    rw [h.first, if_pos (pb_zero ds)]
    rfl
  · have e : dl n = 0 := if_neg h0
    rw [e]
    by_cases p : Pay ds n
    · show sumN (fun k => M k * pf ds (n - k)) n + M n * pf ds (n - n) = 0
      rw [Nat.sub_self, h.paid n hn (by omega) p]
      rw [sumN_congr (f := fun k => M k * pf ds (n - k)) (g := fun k => if pb ds (n - k) = true then M k else 0) n fun k hk => by
        unfold pf
        show M k * (if pb ds (n - k) = true then 1 else 0) = if pb ds (n - k) = true then M k else 0
        split
        · rw [Int.mul_one]
        · rw [Int.mul_zero]]
      unfold pf
      rw [if_pos (pb_zero ds)]
      omega
    · refine sumN_zero _ fun k hk => ?_
      by_cases q : Pay ds k
      · have : pb ds (n - k) = false := pb_not.mpr fun r => p (by have := q.sum r; rwa [show k + (n - k) = n by omega] at this)
        unfold pf
        rw [this, if_neg Bool.false_ne_true, Int.mul_zero]
      · rw [h.gap k (by omega) q, Int.zero_mul]
theorem num_marks {cs ds : List Nat} {most : Nat} {M : Nat → Int} (h : Marks ds most M) {n : Nat} (hn : n ≤ most) : conv (mcs cs (pf ds)) M n = mcs cs dl n := by
  rw [conv_mcs_left]
  exact mcs_congr cs fun k hk => marks_conv h (by omega)

/-! ### where they end -/
/-- nothing beyond a place -/
def EndsAt (f : Nat → Int) (t : Nat) : Prop := ∀ n, t < n → f n = 0
theorem ends_mc {f : Nat → Int} {t c : Nat} (h : EndsAt f t) : EndsAt (mc c f) (t + c) := fun n hn => by
  unfold mc sh
  rw [h n (by omega)]
  split
  · rw [h (n - c) (by omega)]; rfl
  · rfl
theorem top_mc {f : Nat → Int} {t c : Nat} (h : EndsAt f t) (hc : 0 < c) : mc c f (t + c) = - f t := by
  unfold mc sh
  rw [h (t + c) (by omega), if_pos (by omega), show t + c - c = t by omega]
  omega
theorem ends_mcs : ∀ (cs : List Nat) {f : Nat → Int} {t : Nat}, EndsAt f t → (∀ c ∈ cs, 0 < c) → EndsAt (mcs cs f) (t + cs.sum) ∧ (f t ≠ 0 → mcs cs f (t + cs.sum) ≠ 0)
  | [], f, t, h, _ => ⟨by show EndsAt f (t + 0); rw [Nat.add_zero]; exact h, fun hne => by show f (t + 0) ≠ 0; rw [Nat.add_zero]; exact hne⟩
  | c :: cs, f, t, h, hp => by
    obtain ⟨h1, h2⟩ := ends_mcs cs (ends_mc (c := c) h) fun d hd => hp d (List.mem_cons_of_mem _ hd)
    have e : t + (c :: cs).sum = t + c + cs.sum := by rw [List.sum_cons]; omega
    rw [e]
    exact ⟨h1, fun hne => h2 (by rw [top_mc h (hp c (by simp))]; omega)⟩
/-- 1 less x times the payable sums: nothing beyond the first safe sum, where it is 1 -/
structure Last (cs : List Nat) (last : Nat) : Prop where
  gap : ¬ Pay cs last
  safe : ∀ n, last < n → Pay cs n
theorem pf_paid {cs : List Nat} {n : Nat} (h : Pay cs n) : pf cs n = 1 := by unfold pf; rw [if_pos (pb_iff.mpr h)]
theorem pf_gap {cs : List Nat} {n : Nat} (h : ¬ Pay cs n) : pf cs n = 0 := by unfold pf; rw [pb_not.mpr h, if_neg Bool.false_ne_true]
theorem ends_first {ds : List Nat} {last c : Nat} (h : Last ds last) (hc : 0 < c) : EndsAt (mc c (pf ds)) (last + c) ∧ mc c (pf ds) (last + c) = 1 := by
  constructor
  · intro n hn
    unfold mc sh
    rw [pf_paid (h.safe n (by omega)), if_pos (by omega), pf_paid (h.safe (n - c) (by omega))]
    rfl
  · unfold mc sh
    rw [pf_paid (h.safe _ (by omega)), if_pos (by omega), show last + c - c = last by omega, pf_gap h.gap]
    rfl
theorem ends_num {c : Nat} {cs ds : List Nat} {last : Nat} (h : Last ds last) (hp : ∀ d ∈ c :: cs, 0 < d) : EndsAt (mcs (c :: cs) (pf ds)) (last + (c :: cs).sum) ∧ mcs (c :: cs) (pf ds) (last + (c :: cs).sum) ≠ 0 := by
  obtain ⟨h1, h2⟩ := ends_first h (hp c (by simp))
  obtain ⟨h3, h4⟩ := ends_mcs cs h1 fun d hd => hp d (List.mem_cons_of_mem _ hd)
  have e : last + (c :: cs).sum = last + c + cs.sum := by rw [List.sum_cons]; omega
  rw [e]
  exact ⟨h3, h4 (by rw [h2]; decide)⟩
theorem sumN_more {f : Nat → Int} {t a b : Nat} (h : EndsAt f t) (ha : t < a) (hb : a ≤ b) : sumN f b = sumN f a := by
  obtain ⟨k, rfl⟩ : ∃ k, b = a + k := ⟨b - a, by omega⟩
  rw [sumN_split, sumN_zero k fun j _ => h (a + j) (by omega), Int.add_zero]
/-- the sum of a row times (1 - x to c) is 0 -/
theorem sum_mc {f : Nat → Int} {t c n : Nat} (h : EndsAt f t) (hn : t + c < n) : sumN (mc c f) n = 0 := by
  show sumN (fun k => f k - sh c f k) n = 0
  rw [sumN_sub]
  have e : sumN (sh c f) n = sumN f (n - c) := by
    rw [show n = c + (n - c) by omega, sumN_split, sumN_zero c fun k hk => by unfold sh; rw [if_neg (by omega)], Int.zero_add, show c + (n - c) - c = n - c by omega]
    refine sumN_congr _ fun k hk => ?_
    show sh c f (c + k) = f k
    unfold sh
    rw [if_pos (by omega), show c + k - c = k by omega]
  rw [e, sumN_more h (show t < n - c by omega) (show n - c ≤ n by omega)]
  omega
theorem sum_num {c d : Nat} {cs ds : List Nat} {last n : Nat} (h : Last ds last) (hp : ∀ x ∈ c :: d :: cs, 0 < x) (hn : last + (c :: d :: cs).sum < n) : sumN (mcs (c :: d :: cs) (pf ds)) n = 0 := by
  have e : ∀ k, mcs (c :: d :: cs) (pf ds) k = mc d (mcs (c :: cs) (pf ds)) k := fun k => by
    show mcs cs (mc d (mc c (pf ds))) k = mc d (mcs cs (mc c (pf ds))) k
    exact mcs_mc d cs _ k
  rw [sumN_congr n fun k _ => e k]
  obtain ⟨h1, _⟩ := ends_num (c := c) (cs := cs) h fun x hx => hp x (by
    rcases List.mem_cons.mp hx with rfl | hx
    · simp
    · exact List.mem_cons_of_mem _ (List.mem_cons_of_mem _ hx))
  refine sum_mc h1 ?_
  rw [List.sum_cons, List.sum_cons] at hn
  rw [List.sum_cons]
  omega
end Pd
namespace Pd
/-! ### products of rows -/
def prodF (f : Nat → Int) (a : Nat) (g : Nat → Int) (b n : Nat) : Int := sumN (fun i => if i ≤ n ∧ n - i < b then f i * g (n - i) else 0) a
theorem prod_conv {f g : Nat → Int} {a b n : Nat} (hf : ∀ k, a ≤ k → f k = 0) (hg : ∀ k, b ≤ k → g k = 0) : prodF f a g b n = conv f g n := by
  have e : ∀ i, (if i ≤ n ∧ n - i < b then f i * g (n - i) else 0) = if i ≤ n then f i * g (n - i) else 0 := fun i => by
    by_cases h : i ≤ n
    · rw [if_pos h]
      by_cases h2 : n - i < b
      · rw [if_pos ⟨h, h2⟩]
      · rw [if_neg (fun z => h2 z.2), hg (n - i) (by omega), Int.mul_zero]
    · rw [if_neg h, if_neg (fun z => h z.1)]
  unfold prodF conv
  rw [sumN_congr a fun k _ => e k]
  have big : ∀ c, n + 1 ≤ c → sumN (fun i => if i ≤ n then f i * g (n - i) else 0) c = sumN (fun k => f k * g (n - k)) (n + 1) := fun c hc => by
    obtain ⟨d, rfl⟩ : ∃ d, c = (n + 1) + d := ⟨c - (n + 1), by omega⟩
    rw [sumN_split, sumN_zero d fun k _ => by rw [if_neg (by omega)], Int.add_zero]
    exact sumN_congr _ fun k hk => by rw [if_pos (by omega)]
  by_cases h : n + 1 ≤ a
  · exact big a h
  · have s : sumN (fun i => if i ≤ n then f i * g (n - i) else 0) (n + 1) = sumN (fun i => if i ≤ n then f i * g (n - i) else 0) a := by
      obtain ⟨d, hd⟩ : ∃ d, n + 1 = a + d := ⟨n + 1 - a, by omega⟩
      rw [hd, sumN_split, sumN_zero d fun k _ => by
        show (if a + k ≤ n then f (a + k) * g (n - (a + k)) else 0) = 0
        split
        · rw [hf (a + k) (by omega), Int.zero_mul]
        · rfl, Int.add_zero]
    rw [← s]
    exact big (n + 1) (Nat.le_refl _)
/-- 1 less x to c, as a row -/
def gcF (c n : Nat) : Int := if n = 0 then 1 else if n = c then -1 else 0
theorem conv_gc {c : Nat} (hc : 0 < c) (f : Nat → Int) (n : Nat) : conv f (gcF c) n = mc c f n := by
  rw [← conv_dl_right (mc c f), conv_mc_left, ← conv_mc_right]
  refine conv_congr (fun k _ => rfl) fun k _ => ?_
  unfold gcF mc sh dl
  by_cases h0 : k = 0
  · rw [if_pos h0, if_pos h0, if_neg (by omega)]; rfl
  · rw [if_neg h0, if_neg h0]
    by_cases h1 : k = c
    · rw [if_pos h1, if_pos (by omega), if_pos (by omega)]; rfl
    · rw [if_neg h1]
      by_cases h2 : c ≤ k
      · rw [if_pos h2, if_neg (by omega)]; rfl
      · rw [if_neg h2]; rfl
/-- so many ones -/
def onF (c n : Nat) : Int := if n < c then 1 else 0
theorem conv_on (c : Nat) (f : Nat → Int) (n : Nat) : conv (mc 1 f) (onF c) n = mc c f n := by
  rw [conv_mc_left, ← conv_mc_right, ← conv_dl_right (mc c f), conv_mc_left, ← conv_mc_right]
  refine conv_congr (fun k _ => rfl) fun k _ => ?_
  unfold mc sh onF dl
  by_cases h0 : k = 0
  · subst h0
    by_cases hc : 0 < c
    · rw [if_pos hc, if_neg (by omega), if_pos rfl, if_neg (by omega)]
    · rw [if_neg hc, if_neg (by omega), if_pos rfl, if_pos (by omega), if_pos (by omega)]; rfl
  · rw [if_pos (show 1 ≤ k by omega), if_neg h0]
    by_cases h1 : k < c
    · rw [if_pos h1, if_pos (show k - 1 < c by omega), if_neg (show ¬ c ≤ k by omega)]; rfl
    · rw [if_neg h1, if_pos (show c ≤ k by omega)]
      by_cases h2 : k = c
      · rw [if_pos (show k - 1 < c by omega), if_pos (show k - c = 0 by omega)]
      · rw [if_neg (show ¬ k - 1 < c by omega), if_neg (show ¬ k - c = 0 by omega)]
/-- the lots of coins by their signs -/
def lotsF : List Nat → List (Nat × Int)
  | [] => [(0, 1)]
  | c :: cs => lotsF cs ++ (lotsF cs).map fun p => (p.1 + c, -p.2)
def lotSum (l : List (Nat × Int)) (f : Nat → Int) (n : Nat) : Int := (l.map fun p => p.2 * sh p.1 f n).sum
theorem lotSum_app (a b : List (Nat × Int)) (f : Nat → Int) (n : Nat) : lotSum (a ++ b) f n = lotSum a f n + lotSum b f n := by
  unfold lotSum
  rw [List.map_append, List.sum_append]
theorem sh_sh (a b : Nat) (f : Nat → Int) (n : Nat) : sh (a + b) f n = sh b (sh a f) n := by
  show (if a + b ≤ n then f (n - (a + b)) else 0) = if b ≤ n then (if a ≤ n - b then f (n - b - a) else 0) else 0
  by_cases h : b ≤ n
  · rw [if_pos h]
    by_cases h2 : a ≤ n - b
    · rw [if_pos h2, if_pos (by omega), show n - (a + b) = n - b - a by omega]
    · rw [if_neg h2, if_neg (by omega)]
  · rw [if_neg h, if_neg (by omega)]
theorem lotSum_shift (c : Nat) (f : Nat → Int) (n : Nat) : ∀ l : List (Nat × Int), lotSum (l.map fun p => (p.1 + c, -p.2)) f n = - sh c (lotSum l f) n
  | [] => by unfold lotSum sh; simp
  | p :: l => by
    have ih := lotSum_shift c f n l
    have e : ∀ (q : Nat × Int) (r : List (Nat × Int)) (k : Nat), lotSum (q :: r) f k = q.2 * sh q.1 f k + lotSum r f k := fun q r k => by unfold lotSum; rw [List.map_cons, List.sum_cons]
    rw [List.map_cons, e, ih, sh_sh]
    unfold sh
    by_cases h : c ≤ n
    · rw [if_pos h, if_pos h, if_pos h, e]
      show -p.2 * sh p.1 f (n - c) + -lotSum l f (n - c) = -(p.2 * sh p.1 f (n - c) + lotSum l f (n - c))
      rw [Int.neg_mul]
      omega
    · rw [if_neg h, if_neg h, if_neg h]
      simp
theorem lots_mcs : ∀ (cs : List Nat) (f : Nat → Int) (n : Nat), lotSum (lotsF cs) f n = mcs cs f n
  | [], f, n => by
    show (1 * sh 0 f n) + 0 = f n
    unfold sh
    rw [if_pos (Nat.zero_le n), Nat.sub_zero, Int.one_mul, Int.add_zero]
  | c :: cs, f, n => by
    show lotSum (lotsF cs ++ (lotsF cs).map fun p => (p.1 + c, -p.2)) f n = mcs cs (mc c f) n
    rw [lotSum_app, lotSum_shift, mcs_mc]
    unfold mc
    rw [lots_mcs cs f n]
    have e : sh c (lotSum (lotsF cs) f) n = sh c (mcs cs f) n := by
      unfold sh
      split
      · exact lots_mcs cs f (n - c)
      · rfl
    rw [e]
    omega
/-- the row's other order: coins added at the end -/
theorem mcs_snoc (cs : List Nat) (c : Nat) (f : Nat → Int) : mcs (cs ++ [c]) f = mc c (mcs cs f) := mcs_append cs [c] f
/-! ### the greatest item and the greatest gap -/
theorem rests_last {m last : Nat} {cs W : List Nat} (R : Rests m cs W) (hm : 0 < m) (h : Last cs last) : last + m ∈ W ∧ ∀ y ∈ W, y ≤ last + m := by
  have up : ∀ y ∈ W, y ≤ last + m := fun y hy => by
    obtain ⟨x, hx, e⟩ := List.getElem_of_mem hy
    have e2 : W[x]? = some y := by rw [List.getElem?_eq_getElem hx, e]
    have ym := R.mod x y e2
    apply Classical.byContradiction
    intro hn
    have hyx : W[(y - m) % m]? = some y := by
      rw [← Nat.add_mod_right (y - m) m, Nat.sub_add_cancel (by omega), ym]; exact e2
    have := (R.pay (y - m) y hyx).mp (h.safe _ (by omega))
    omega
  refine ⟨?_, up⟩
  have hx : last % m < W.length := by rw [R.len]; exact Nat.mod_lt _ hm
  have e : W[last % m]? = some W[last % m] := List.getElem?_eq_getElem hx
  have hw : last < W[last % m] := by
    apply Classical.byContradiction
    intro hn
    exact h.gap ((R.pay last _ e).mpr (by omega))
  have h2 := up _ (List.getElem_mem hx)
  have h3 := R.mod _ _ e
  have h4 : W[last % m] = last + m := by
    have d : (W[last % m] - last) % m = 0 := by
      have := Nat.sub_mod_eq_zero_of_mod_eq (m := W[last % m]) (n := last) (k := m) h3
      exact this
    have d2 : m ∣ (W[last % m] - last) := Nat.dvd_of_mod_eq_zero d
    have := Nat.le_of_dvd (by omega) d2
    omega
  rw [← h4]
  exact List.getElem_mem hx
theorem last_of_max {m M : Nat} {cs W : List Nat} (R : Rests m cs W) (hm : 0 < m) (hM : M ∈ W) (hg : ∀ y ∈ W, y ≤ M) (hge : m ≤ M) : Last cs (M - m) := by
  constructor
  · intro p
    obtain ⟨x, hx, e⟩ := List.getElem_of_mem hM
    have e2 : W[x]? = some M := by rw [List.getElem?_eq_getElem hx, e]
    have hyx : W[(M - m) % m]? = some M := by
      rw [← Nat.add_mod_right (M - m) m, Nat.sub_add_cancel hge, R.mod x M e2]; exact e2
    have := (R.pay (M - m) M hyx).mp p
    omega
  · intro n hn
    have hx : n % m < W.length := by rw [R.len]; exact Nat.mod_lt _ hm
    have e : W[n % m]? = some W[n % m] := List.getElem?_eq_getElem hx
    refine (R.pay n _ e).mpr ?_
    have h1 := hg _ (List.getElem_mem hx)
    have h3 := R.mod _ _ e
    apply Classical.byContradiction
    intro hlt
    have d : (W[n % m] - n) % m = 0 := Nat.sub_mod_eq_zero_of_mod_eq h3
    have := Nat.le_of_dvd (by omega) (Nat.dvd_of_mod_eq_zero d)
    omega
end Pd

/-! Rules of my own beside the hand layer's: what cannot be reached; sum, max, min, sorted, enumerate of a tuple. -/
namespace Pd
open PySem PySem.Spec PyProof.Rows L2
theorem ps_dead {X : Cx} {st : Stmt} : PS X st (fun _ _ _ => False) := ⟨fun _ _ _ _ _ _ h => h.elim⟩
theorem pss_dead {X : Cx} {st : List Stmt} : PSs X st (fun _ _ _ => False) := ⟨fun _ _ _ _ _ _ h => h.elim⟩
theorem pe_dead {X : Cx} {e : Expr} : PE X e (fun _ _ _ => False) := ⟨fun _ _ _ _ _ _ h => h.elim⟩

/-! ### max, min of a tuple of ints, at the library's level -/
section
variable {prog : Program} {w : World} {A : Around} {E : Value → Shared → Prop} {s : Shared} {l : Addr} {its : List Value} {ns : List Int} {Q : Value → Shared → Prop}
theorem tup_iter {xs : Array (Int × Tok)} {R : Value → Shared → Prop} (hl : s.heap.IsTuple l (intItems xs))
    (h : l ≠ s.heap.objs.size → ∀ s₂ : Shared, s₂ = { s with heap := s.heap.push { cls := .type "tuple_iterator", data := .fields #[.ref l, .int 0 0] } } →
      s₂.heap.IsTupleIter s.heap.objs.size l 0 → s₂.heap.IsTuple l (intItems xs) → (∀ b ∈ [s.heap.objs.size, l], b < s₂.heap.objs.size) → R (.ref s.heap.objs.size) s₂) :
    wpAny (model prog w) A (pyIter (.ref l)) R E s := by
  have lt : l < s.heap.objs.size := by
    obtain ⟨_, e, _⟩ := id hl
    exact Heap.lt_size e
  have up : (s.heap.push { cls := .type "tuple_iterator", data := .fields #[.ref l, .int 0 0] }).objs.size = s.heap.objs.size + 1 := Heap.size_push ..
  refine wpAny_pyIter_tuple hl (h (Nat.ne_of_lt lt) _ rfl ⟨_, Heap.get?_push_size _ rfl, rfl, rfl⟩ (hl.at fun o e => Heap.get?_push_of_some _ e) fun b hb => ?_)
  show b < (s.heap.push _).objs.size
  rw [up]
  have hb' : b = s.heap.objs.size ∨ b = l := by simpa using hb
  rcases hb' with e | e
  · rw [e]
    exact Nat.lt_succ_self _
  · rw [e]
    exact Nat.lt_succ_of_lt lt
theorem tup_kept {h' : Heap} (hk : ∀ b o, b ∉ [s.heap.objs.size] → (s.heap.push { cls := .type "tuple_iterator", data := .fields #[.ref l, .int 0 0] }).get? b = some o → h'.get? b = some o) :
    ∀ b o, s.heap.get? b = some o → h'.get? b = some o := fun b o e =>
  hk b o (fun z => absurd (Heap.lt_size e) (by rw [List.mem_singleton.mp z]; exact Nat.lt_irrefl _)) (Heap.get?_push_of_some _ e)
theorem max_tupI (hh : A.handled = none) (hl : s.heap.IsTuple l its.toArray) (hi : IntsAre its ns) (hne : 0 < ns.length)
    (h : ∀ h' tk M t', (∀ b o, s.heap.get? b = some o → h'.get? b = some o) → M ∈ ns → (∀ a, a ∈ ns → a ≤ M) → Q (.int M t') { s with heap := h', toks := tk }) : wpAny (model prog w) A (call (.builtin "max") [.ref l]) Q E s := by
  obtain ⟨xs, e⟩ := hi.allInts.items
  obtain rfl : (xs.toList.map (·.1)) = ns := by
    rw [← nums_intItems, ← e]
    exact hi.numsOf
  rw [e] at hl
  have hsz : 0 < xs.size := by simpa using hne
  refine call_max_walk (tup_iter hl fun hne2 s₂ e2 st st2 hfp => ?_)
  subst e2
  refine ⟨_, _, _, _, _, _, _, rfl, Walks.tuple (A := A.in1) hh _ l hne2 (intItems xs), ⟨st, st2⟩, hfp, by simpa [intItems] using hsz, CmpOf.ints_gt (numAt xs) (fun _ _ => intItems_at), fun v h' tk hP hk => ?_⟩
  have hv : (intItems xs)[argBest (fun i j => decide (numAt xs i > numAt xs j)) (xs.size - 1)]? = some v := by simpa [intItems] using hP
  obtain ⟨t, rfl⟩ := intItems_at hv
  obtain ⟨b1, b2⟩ := argBest_gt (numAt xs) (xs.size - 1)
  refine h h' tk _ t (tup_kept hk) ?_ fun a ha => ?_
  · rw [numAt_eq]
    exact PySem.getD_mem (by rw [List.length_map, Array.length_toList]; omega)
  · obtain ⟨j, hj, rfl⟩ := mem_getD ha
    rw [List.length_map, Array.length_toList] at hj
    rw [← numAt_eq]
    exact b2 j (by omega)
theorem min_tupI (hh : A.handled = none) (hl : s.heap.IsTuple l its.toArray) (hi : IntsAre its ns) (hne : 0 < ns.length)
    (h : ∀ h' tk M t', (∀ b o, s.heap.get? b = some o → h'.get? b = some o) → M ∈ ns → (∀ a, a ∈ ns → M ≤ a) → Q (.int M t') { s with heap := h', toks := tk }) : wpAny (model prog w) A (call (.builtin "min") [.ref l]) Q E s := by
  obtain ⟨xs, e⟩ := hi.allInts.items
  obtain rfl : (xs.toList.map (·.1)) = ns := by
    rw [← nums_intItems, ← e]
    exact hi.numsOf
  rw [e] at hl
  have hsz : 0 < xs.size := by simpa using hne
  refine call_min_walk (tup_iter hl fun hne2 s₂ e2 st st2 hfp => ?_)
  subst e2
  refine ⟨_, _, _, _, _, _, _, rfl, Walks.tuple (A := A.in1) hh _ l hne2 (intItems xs), ⟨st, st2⟩, hfp, by simpa [intItems] using hsz, CmpOf.ints_lt (numAt xs) (fun _ _ => intItems_at), fun v h' tk hP hk => ?_⟩
  have hv : (intItems xs)[argBest (fun i j => decide (numAt xs i < numAt xs j)) (xs.size - 1)]? = some v := by simpa [intItems] using hP
  obtain ⟨t, rfl⟩ := intItems_at hv
  obtain ⟨b1, b2⟩ := argBest_lt (numAt xs) (xs.size - 1)
  refine h h' tk _ t (tup_kept hk) ?_ fun a ha => ?_
  · rw [numAt_eq]
    exact PySem.getD_mem (by rw [List.length_map, Array.length_toList]; omega)
  · obtain ⟨j, hj, rfl⟩ := mem_getD ha
    rw [List.length_map, Array.length_toList] at hj
    rw [← numAt_eq]
    exact b2 j (by omega)
theorem sum_tupI (hh : A.handled = none) (hl : s.heap.IsTuple l its.toArray) (hi : IntsAre its ns)
    (h : ∀ h' tk t', (∀ b o, s.heap.get? b = some o → h'.get? b = some o) → Q (.int ns.sum t') { s with heap := h', toks := tk }) : wpAny (model prog w) A (call (.builtin "sum") [.ref l]) Q E s := by
  obtain ⟨xs, e⟩ := hi.allInts.items
  have hn : (xs.toList.map (·.1)) = ns := by
    rw [← nums_intItems, ← e]
    exact hi.numsOf
  rw [e] at hl
  refine PySem.W.ktm_sumG hh hl fun h' tk t' hk => ?_
  have q := h h' tk t' hk
  rw [preSum_eq, List.take_of_length_le (by simp), hn]
  exact q
end

/-! ### the calls by values -/
section
variable {X : Cx}
def rSumT (K : PySem.W.Frag) : List V → Hp → VK → Prop := fun vs H Q => ∃ (a : Addr) (ns : List Int), vs = [V.ref a] ∧ SqT K H a (ns.map V.int) ∧ Q (.int ns.sum) H
def rMaxT (K : PySem.W.Frag) : List V → Hp → VK → Prop := fun vs H Q => ∃ (a : Addr) (ns : List Int), vs = [V.ref a] ∧ SqT K H a (ns.map V.int) ∧ 0 < ns.length ∧ ∀ m, m ∈ ns → (∀ y, y ∈ ns → y ≤ m) → Q (.int m) H
def rMinT (K : PySem.W.Frag) : List V → Hp → VK → Prop := fun vs H Q => ∃ (a : Addr) (ns : List Int), vs = [V.ref a] ∧ SqT K H a (ns.map V.int) ∧ 0 < ns.length ∧ ∀ m, m ∈ ns → (∀ y, y ∈ ns → m ≤ y) → Q (.int m) H
theorem cr_sumT (hc : X.calm = true) : CallR X (.builtin "sum") (rSumT X.K) := by
  intro pins s σ H vs us Q I r h
  obtain ⟨a, ns, rfl, hs, q⟩ := h
  obtain ⟨its, rv, p, _⟩ := I.tuple hs
  rw [Vals.ref1 r]
  exact sum_tupI (I.ok.hd hc) p rv.ints fun h' tk t' hk => ⟨.int _, H, I.kept hk, ⟨_, rfl⟩, q⟩
theorem cr_maxT (hc : X.calm = true) : CallR X (.builtin "max") (rMaxT X.K) := by
  intro pins s σ H vs us Q I r h
  obtain ⟨a, ns, rfl, hs, hne, q⟩ := h
  obtain ⟨its, rv, p, _⟩ := I.tuple hs
  rw [Vals.ref1 r]
  exact max_tupI (I.ok.hd hc) p rv.ints hne fun h' tk m t' hk h1 h2 => ⟨.int _, H, I.kept hk, ⟨_, rfl⟩, q m h1 h2⟩
theorem cr_minT (hc : X.calm = true) : CallR X (.builtin "min") (rMinT X.K) := by
  intro pins s σ H vs us Q I r h
  obtain ⟨a, ns, rfl, hs, hne, q⟩ := h
  obtain ⟨its, rv, p, _⟩ := I.tuple hs
  rw [Vals.ref1 r]
  exact min_tupI (I.ok.hd hc) p rv.ints hne fun h' tk m t' hk h1 h2 => ⟨.int _, H, I.kept hk, ⟨_, rfl⟩, q m h1 h2⟩
end
end Pd

/-! sorted of a tuple of ints, of any length; enumerate of a tuple. -/
namespace Pd
open PySem PySem.Spec PyProof.Rows L2
section
variable {prog : Program} {w : World} {A : Around} {E : Value → Shared → Prop} {s : Shared}
theorem sorted_tupO {l : Addr} {vs : List Value} {ltv : Value → Value → Bool} {Q : Value → Shared → Prop} (O : SrtO.Swo ltv) (hl : s.heap.IsTuple l vs.toArray) (hz : vs.length ≤ sizeLine)
    (hS : 2 ≤ vs.length → ∀ (h₁ : Heap) (a : Addr), SrtO.SortableO prog w A.in1.in1 { s with heap := h₁ } a vs ltv)
    (h : ∀ (out : List Value) (h1 h2 : Heap) (ep : Nat), SrtO.Srtd ltv out → SrtO.Stb ltv out vs → (∀ b o, s.heap.get? b = some o → h1.get? b = some o) → (∀ b o, h1.get? b = some o → h2.get? b = some o) →
      h2.get? h1.objs.size = some (seqObj "list" out.toArray ep) → Q (.ref h1.objs.size) { s with heap := h2 }) :
    wpAny (model prog w) A (call (.builtin "sorted") [.ref l]) Q E s := by
  obtain ⟨o, ho, hc, n, hd⟩ := id hl
  refine Calls.call_function_entry kind_sorted plain_sorted entry_sorted (args_sorted1 _) ?_
  unfold Builtin.«sorted»
  refine wpAny_bind (m := checkCount "sorted" 1 1 _) (wpAny_pure ?_)
  refine wpAny_bind (wpAny_collect_seq (A := A.in1) l (.inr rfl) ho hc hd (fun h1 k1 => ?_) (by rw [List.size_toArray]; exact hz))
  refine wpAny_bind (wpAny_newList ?_ hz)
  have at1 : (h1.push (seqObj "list" vs.toArray 0)).get? h1.objs.size = some (seqObj "list" vs.toArray 0) := Heap.get?_push_size _ rfl
  refine wpAny_bind (wpAny_holding (wpAny_call_entry slot_list_sort ⟨_, at1, rfl⟩ entry_list_sort (SrtO.list_sort_ord O at1 hz (fun h2 => hS h2 _ _) fun out hs hb => ⟨_, rfl, ?_⟩) (args_list_sort _)))
  obtain ⟨ep, at2⟩ := sortedHeap_at (out := out.toArray) at1
  refine wpAny_pure ⟨_, rfl, h out h1 _ ep hs hb k1 (fun b u e => ?_) at2⟩
  have lt := Heap.lt_size e
  rw [sortedHeap_old (Nat.ne_of_lt lt) (by rw [Heap.size_push]; exact Nat.lt_succ_of_lt lt)]
  exact Heap.get?_push_of_some _ e
end
section
variable {X : Cx}
def rSortedT (K : PySem.W.Frag) : List V → Hp → VK → Prop := fun vs H Q => ∃ (a : Addr) (ns : List Int), vs = [V.ref a] ∧ SqT K H a (ns.map V.int) ∧
  ∀ (ns' : List Int) (p : Addr), ns'.Perm ns → ns'.Pairwise (· ≤ ·) → H p = none → Q (.ref p) (upd H p (.lst (ns'.map V.int)))
theorem cr_sortedT' : CallR X (.builtin "sorted") (rSortedT X.K) := by
  intro pins s σ H vs us Q I r h
  obtain ⟨a, ns, rfl, hs, q⟩ := h
  obtain ⟨its, rv, pl, hz⟩ := I.tuple hs
  rw [Vals.ref1 r]
  have hi := rv.ints
  refine sorted_tupO SrtO.swo_int pl (by rw [← rv.length]; exact hz) (fun h2 _ _ => SrtO.ints_sortable hi h2) fun out h1 h2 ep o1 o2 k1 k2 at2 => ?_
  obtain ⟨e1, e2, e3⟩ := SrtO.ints_out hi o1 o2
  have hlen : ((out.map SrtO.iv).map V.int).length ≤ sizeLine := by
    rw [List.length_map, e2.length_eq]
    rw [List.length_map] at hz
    exact hz
  have I1 : Inv X pins σ H { s with heap := h1 } := I.kept (t' := s.toks) k1
  exact ⟨.ref _, upd H h1.objs.size (.lst ((out.map SrtO.iv).map V.int)), I1.laid (t' := s.toks) k2 (Nat.le_refl _) ⟨hlen, out, ep, vals_of_ints e1, at2⟩, rfl, q _ _ e2 e3 (I1.hok.fresh (Nat.le_refl _))⟩
end

/-! ### enumerate of a tuple -/
section
variable {prog : Program} {w : World} {A : Around} {E : Value → Shared → Prop} {s : Shared}
theorem enum_new1 {v : Value} {o : Obj} {F : Heap → Prop} (B : Begins v o F) :
    Meets (Builtin.«enumerate.__new__» ⟨[.type "enumerate", v], []⟩) (fun _ R s => F s.heap ∧
      R (.ok (.ret (.ref (s.heap.push o).objs.size))) { s with heap := (s.heap.push o).push { cls := .type "enumerate", data := .fields #[.none, .bool false, .ref s.heap.objs.size, rawInt 0, .none, .none] } }) :=
  .of_wp fun prog w A R s h => by
    obtain ⟨hp, g, d, tk, os⟩ := s
    obtain ⟨hF, hR⟩ := h
    have sub := sub_enumerate
    have go : ∀ {A' : Around} {E : Value → Shared → Prop} {Q : Value → Shared → Prop}, Q (.ref hp.objs.size) ⟨hp.push o, g, d, tk, os⟩ → wpAny (model prog w) A' (pyIter v) Q E ⟨hp, g, d, tk, os⟩ :=
      fun q => B.iter prog w _ _ ⟨hp, g, d, tk, os⟩ _ hF q
    wp_walk using go
    refine wpAny_stack_any fun st => wpAny_pure ?_
    split
    · rename_i c _ _ _ _ _
      cases (c == Value.type "enumerate") <;> (wp_walk using go; exact ⟨_, rfl, hR⟩)
    · wp_walk using go
      exact ⟨_, rfl, hR⟩
theorem call_enum1 {v : Value} {o : Obj} {Fh : Heap → Prop} {Q : Value → Shared → Prop} (B : Begins v o Fh) (hF : Fh s.heap)
    (h : ∀ h' : Heap, IsEnum h' (s.heap.objs.size + 1) s.heap.objs.size 0 .none → h'.get? s.heap.objs.size = some o →
      (∀ b u, s.heap.get? b = some u → h'.get? b = some u) → Q (.ref (s.heap.objs.size + 1)) { s with heap := h' }) :
    wpAny (model prog w) A (call (.type "enumerate") [v]) Q E s := by
  refine callType_new F.called_enumerate (by decide) (F.typeCall_enumerate_1 _) (F.newCall_enumerate_1 _) (fun obj => F.args_object_init_2 obj _) F.entry_enumerate_new (enum_new1 B) ⟨hF, ?_⟩
  have up : (s.heap.push o).objs.size = s.heap.objs.size + 1 := Heap.size_push ..
  show _ ∧ _
  rw [up]
  have he : IsEnum ((s.heap.push o).push { cls := .type "enumerate", data := .fields #[.none, .bool false, .ref s.heap.objs.size, rawInt 0, .none, .none] }) (s.heap.objs.size + 1) s.heap.objs.size 0 .none := by
    have q := Heap.get?_push_size (s.heap.push o) (o := { cls := .type "enumerate", data := .fields #[.none, .bool false, .ref s.heap.objs.size, rawInt 0, .none, .none] }) rfl
    rw [up] at q
    exact q
  exact ⟨⟨_, he, rfl⟩, h _ he (Heap.get?_push_of_some _ (Heap.get?_push_size _ B.free)) fun b u x => Heap.get?_push_of_some _ (Heap.get?_push_of_some _ x)⟩
end
/-- the tuple at a, place by place, in new pairs -/
def IteT (K : PySem.W.Frag) (a : Addr) : It :=
  ⟨fun i H => ∃ (xs : List V) (x : V), SqT K H a xs ∧ xs[i]? = some x,
    fun i H v H' => ∃ T x, v = .ref T ∧ H T = none ∧ H' = upd H T (.tup [.int (i : Nat), x]) ∧ ∀ xs, SqT K H a xs → xs[i]? = some x,
    fun i H => ∃ xs : List V, SqT K H a xs ∧ xs.length ≤ i⟩
theorem turn_enumT {P : Program} {w : World} {K : PySem.W.Frag} {elts : List Expr} {kk : Nat} {tpos : Pos} (a e it : Addr) :
    Turn P w K (.Tuple elts kk tpos) (IteT K a) [e, it] e (fun i h => (∃ old, IsEnum h e it ((i : Nat) : Int) old) ∧ h.IsTupleIter it a i ∧ e ≠ it ∧ a ≠ it ∧ a ≠ e) where
  mem := by simp
  obj := fun i h st b hb => by
    obtain ⟨⟨old, he⟩, hit, _⟩ := st
    obtain ⟨o, ho, hc, hd⟩ := hit
    have cs : b = e ∨ b = it := by simpa using hb
    rcases cs with z | z
    · rw [z]
      exact ⟨_, he, fun v q => nomatch q⟩
    · rw [z]
      exact ⟨o, ho, fun v q => by rw [hd] at q; cases q⟩
  keep := fun i h h' st k => by
    obtain ⟨⟨old, he⟩, hi, ne⟩ := st
    exact ⟨⟨old, k e (by simp) _ he⟩, hi.at fun o q => k it (by simp) o q, ne⟩
  item := by
    intro X hP hw hK hc i pins s σ H E I hf st hg
    subst hP hw hK
    obtain ⟨⟨old, he⟩, hit, ne, nai, nae⟩ := st
    obtain ⟨xs, x, hq, hx⟩ := hg
    obtain ⟨its, rv, p, hz⟩ := I.tuple hq
    obtain ⟨u, hu, ru⟩ := rv.get hx
    have lte : e < s.heap.objs.size := Heap.lt_size he
    have lti : it < s.heap.objs.size := by
      obtain ⟨_, q, _⟩ := id hit
      exact Heap.lt_size q
    have hil : i < its.toArray.size := by
      rw [List.size_toArray]
      exact (List.getElem?_eq_some_iff.mp hu).1
    refine wpAny_pyNext_enum_itemD (Draws.tuple (A := X.A.in1) (I.ok.hd hc) it a nai its.toArray) he ⟨hit, p⟩ hil ne (by simp [ne, nae.symm]) fun y h' tk hy ho hit' hT hsz hk => ?_
    obtain rfl : y = u := by
      have q : its.toArray[i]? = some u := by simpa using hu
      rw [q] at hy
      exact (Option.some.inj hy).symm
    refine ⟨_, rfl, wpAny_letOwnedTupleGo_enum (s := { s with heap := h', toks := tk + 1 }) ho fun h'' he' sb => ?_⟩
    have hT2 : h''.get? s.heap.objs.size = some { cls := .type "tuple", data := .seq #[.int i tk, y] } := (sb.2 _ (Nat.ne_of_gt lte)).trans hT
    have new : ObjOk X.prog X.w (upd H s.heap.objs.size (.tup [.int (i : Nat), x])) h'' s.heap.objs.size (.tup [.int (i : Nat), x]) :=
      ⟨by show 2 ≤ sizeLine; decide, [.int i tk, y], .cons ⟨_, rfl⟩ (.cons ru .nil), ⟨_, hT2, rfl, _, rfl⟩⟩
    have I1 : Inv X pins σ (upd H s.heap.objs.size (.tup [.int (i : Nat), x])) { s with heap := h'', toks := tk + 1 } :=
      I.turnedNew (ch := [e, it]) (fun b ob hb q => (sb.2 b (fun z => hb (by simp [z]))).trans (hk b ob (fun z => hb (by simp [z])) (fun z => hb (by simp [z])) q)) hf (Nat.le_refl _) new
    refine ⟨.ref s.heap.objs.size, _, I1, rfl, ⟨_, x, rfl, I.hok.fresh (Nat.le_refl _), rfl, fun ys hy => by rw [I.tuple_inj hy hq]; exact hx⟩, ⟨⟨y, ?_⟩, hit'.1.at fun o q => (sb.2 it (Ne.symm ne)).trans q, ne, nai, nae⟩, fun b hb => ?_⟩
    · rw [show ((i + 1 : Nat) : Int) = (i : Int) + 1 by omega]
      exact he'
    · have ltb : b < s.heap.objs.size := by
        have cs : b = e ∨ b = it := by simpa using hb
        rcases cs with z | z <;> (rw [z]; assumption)
      rw [upd_ne (Nat.ne_of_lt ltb)]
      exact (hf b hb).1
  done := by
    intro X hP hw hK hc i pins s σ H E I hf st hg
    subst hP hw hK
    obtain ⟨⟨old, he⟩, hit, ne, nai, nae⟩ := st
    obtain ⟨xs, hq, hx⟩ := hg
    obtain ⟨its, rv, p, hz⟩ := I.tuple hq
    obtain ⟨f0, f1, f2, f3, f4, f5⟩ := hf it (by simp)
    have hn : its.toArray.size ≤ i := by
      rw [List.size_toArray, ← rv.length]
      exact hx
    have T : s.TypeIs (.ref e) "enumerate" := ⟨_, he, rfl⟩
    unfold pyNext
    refine wpAny_bind (wpAny_attempt (wpAny_callSpecial?_slot (name := Str.ofString "__next__") T F.slot_enumerate_next (wpAny_call_entry F.slot_enumerate_next T F.entry_enumerate_next ?_ (F.args_enumerate_next_1 _))))
    show wpAny _ _ (field (.ref e) 2 >>= _) _ _ _
    refine wpAny_bind (wpAny_field he rfl (x := .ref it) rfl ?_)
    refine wpAny_bind (RZ.nextOf_tuple_end (A := X.A.in1) (I.ok.hd hc) hit p (Array.getElem?_eq_none hn) fun h' x ext hx' => ?_)
    obtain ⟨o, ho, hcl⟩ := hx'
    refine wpAny_bind (wpAny_isInstance (T := "StopIteration") (b := true) ⟨o, ho, hcl⟩ isSubtype_stop ?_)
    exact wpAny_pure ⟨rfl, I.turned (t' := s.toks) (fun b o hb q => ext b o hb q) f0 f1 f3 f4 f5⟩
  self := fun A i s Q E st h => by
    obtain ⟨⟨old, he⟩, _⟩ := st
    exact wpAny_pyIter_enum he h
def iEnumT (K : PySem.W.Frag) (ta : TA) : TI := fun σ H R => ta σ H fun vs H1 => ∃ a xs, vs = [.ref a] ∧ SqT K H1 a xs ∧ R (IteT K a) H1
theorem pi_enumT {X : Cx} {e : Expr} {ta : TA} {p pos tpos : Pos} {elts : List Expr} {kk : Nat} (hg : Gl X "enumerate") (hm : X.mg "enumerate" = none) (ha : PA X [e] ta) (hs : starEach [e] X.env = [(false, eval e X.env)] := by rfl) :
    PI X (.Tuple elts kk tpos) (.Call (.Name "enumerate" p) [e] [] pos) (iEnumT X.K ta) := by
  refine ⟨fun pins s σ H R I h => ?_⟩
  refine Call_ (ld_blt I hg hm boot_enumerate (PyProof.Rows.callWith_type1 (thn (ha.run pos pins s σ H _ I h) fun us s1 ⟨vs, H1, I1, r1, q1⟩ => ?_) hs rfl))
  obtain ⟨a, xs, ex, hq, q⟩ := q1
  subst ex
  rw [show us = [Value.ref a] from Vals.ref1 r1]
  obtain ⟨its, rv, pl, hz⟩ := I1.tuple hq
  have lta : a < s1.heap.objs.size := by
    obtain ⟨_, e, _⟩ := id pl
    exact Heap.lt_size e
  refine call_enum1 (begins_tuple a its.toArray) pl fun h' he hit hk => wpAny_pyIter_enum he ?_
  have I2 : Inv X pins σ H1 { s1 with heap := h' } := I1.kept (t' := s1.toks) hk
  refine ⟨s1.heap.objs.size + 1, [s1.heap.objs.size + 1, s1.heap.objs.size], _, _, H1, rfl, I2, turn_enumT a (s1.heap.objs.size + 1) s1.heap.objs.size, ⟨⟨.none, he⟩, ⟨_, hit, rfl, rfl⟩, Nat.succ_ne_self _, Nat.ne_of_lt lta, Nat.ne_of_lt (Nat.lt_succ_of_lt lta)⟩, fun b hb => ?_, q⟩
  have cs : b = s1.heap.objs.size + 1 ∨ b = s1.heap.objs.size := by simpa using hb
  have le : s1.heap.objs.size ≤ b := by
    rcases cs with z | z <;> rw [z]
    · exact Nat.le_add_right _ _
    · exact Nat.le_refl _
  exact I1.fpOk le (I1.hok.fresh le)
theorem walk_enumT {K : PySem.W.Frag} {a : Addr} {xs : List V} : Walk (IteT K a) xs.length (fun H => SqT K H a xs) (YPair (fun i => some (.int (i : Nat))) (fun i => xs[i]?)) := by
  refine ⟨fun i _ hi q => ⟨xs, xs[i], q, by simp [hi]⟩, fun _ q => ⟨xs, q, Nat.le_refl _⟩, fun i H v H' _ q y => ?_⟩
  obtain ⟨T, x, y1, y2, y3, y4⟩ := y
  exact ⟨T, .int (i : Nat), x, y1, y2, y3, rfl, y4 xs q⟩
end Pd

/-! The text of the row by places; what the top leaves. Printed by top_k22.py. -/
namespace Pd
open PySem PySem.Spec PyProof.Rows L2
def topS (i : Nat) : Stmt := PySem.Challenge.pw_paidornot_k05_whole_rules_by_one_rest_ar.main.body.getD i (.Pass ⟨0, 0, 0, 0⟩)
abbrev s_is_integer : Stmt := topS 1
abbrev n_is_integer : List Str := ["thing"]
theorem sc_is_integer : FnScope n_is_integer ["thing"] (defScope s_is_integer) := ⟨rfl, rfl, rfl, by decide +kernel, rfl, by decide +kernel, by decide +kernel⟩
abbrev s_is_within : Stmt := topS 2
abbrev n_is_within : List Str := ["thing", "low", "high"]
theorem sc_is_within : FnScope n_is_within ["thing", "low", "high"] (defScope s_is_within) := ⟨rfl, rfl, rfl, by decide +kernel, rfl, by decide +kernel, by decide +kernel⟩
abbrev s_is_tuple_of : Stmt := topS 3
abbrev n_is_tuple_of : List Str := ["thing", "many"]
theorem sc_is_tuple_of : FnScope n_is_tuple_of ["thing", "many"] (defScope s_is_tuple_of) := ⟨rfl, rfl, rfl, by decide +kernel, rfl, by decide +kernel, by decide +kernel⟩
abbrev s_common : Stmt := topS 4
abbrev n_common : List Str := ["one", "other"]
theorem sc_common : FnScope n_common ["one", "other"] (defScope s_common) := ⟨rfl, rfl, rfl, by decide +kernel, rfl, by decide +kernel, by decide +kernel⟩
abbrev s_common_of : Stmt := topS 5
abbrev n_common_of : List Str := ["some", "found", "item"]
theorem sc_common_of : FnScope n_common_of ["some"] (defScope s_common_of) := ⟨rfl, rfl, rfl, by decide +kernel, rfl, by decide +kernel, by decide +kernel⟩
abbrev s_frac : Stmt := topS 6
abbrev n_frac : List Str := ["top", "bottom", "divisor"]
theorem sc_frac : FnScope n_frac ["top", "bottom"] (defScope s_frac) := ⟨rfl, rfl, rfl, by decide +kernel, rfl, by decide +kernel, by decide +kernel⟩
abbrev s_is_fraction : Stmt := topS 7
abbrev n_is_fraction : List Str := ["thing"]
theorem sc_is_fraction : FnScope n_is_fraction ["thing"] (defScope s_is_fraction) := ⟨rfl, rfl, rfl, by decide +kernel, rfl, by decide +kernel, by decide +kernel⟩
abbrev s_round_up : Stmt := topS 19
abbrev n_round_up : List Str := ["found", "coin", "step", "modulus", "rounds", "start", "here", "turn", "there"]
theorem sc_round_up : FnScope n_round_up ["found", "coin", "step", "modulus"] (defScope s_round_up) := ⟨rfl, rfl, rfl, by decide +kernel, rfl, by decide +kernel, by decide +kernel⟩
abbrev s_built : Stmt := topS 20
abbrev n_built : List Str := ["coins", "modulus", "needed_ones", "table", "coin", "held"]
theorem sc_built : FnScope n_built ["coins"] (defScope s_built) := ⟨rfl, rfl, rfl, by decide +kernel, rfl, by decide +kernel, by decide +kernel⟩
abbrev s_check_coins : Stmt := topS 21
abbrev n_check_coins : List Str := ["coins", "at", "coin"]
theorem sc_check_coins : FnScope n_check_coins ["coins"] (defScope s_check_coins) := ⟨rfl, rfl, rfl, by decide +kernel, rfl, by decide +kernel, by decide +kernel⟩
abbrev s_System_init : Stmt := inClass (topS 22) 0
abbrev n_System_init : List Str := ["self", "coins", "needed_ones", "table"]
theorem sc_System_init : FnScope n_System_init ["self", "coins"] (defScope s_System_init) := ⟨rfl, rfl, rfl, by decide +kernel, rfl, by decide +kernel, by decide +kernel⟩
abbrev s_System_eq : Stmt := inClass (topS 22) 1
abbrev n_System_eq : List Str := ["self", "other"]
theorem sc_System_eq : FnScope n_System_eq ["self", "other"] (defScope s_System_eq) := ⟨rfl, rfl, rfl, by decide +kernel, rfl, by decide +kernel, by decide +kernel⟩
abbrev s_check_system : Stmt := topS 23
abbrev n_check_system : List Str := ["system"]
theorem sc_check_system : FnScope n_check_system ["system"] (defScope s_check_system) := ⟨rfl, rfl, rfl, by decide +kernel, rfl, by decide +kernel, by decide +kernel⟩
abbrev s_check_sum : Stmt := topS 24
abbrev n_check_sum : List Str := ["system", "number"]
theorem sc_check_sum : FnScope n_check_sum ["system", "number"] (defScope s_check_sum) := ⟨rfl, rfl, rfl, by decide +kernel, rfl, by decide +kernel, by decide +kernel⟩
abbrev s_pays_of : Stmt := topS 25
abbrev n_pays_of : List Str := ["system", "number"]
theorem sc_pays_of : FnScope n_pays_of ["system", "number"] (defScope s_pays_of) := ⟨rfl, rfl, rfl, by decide +kernel, rfl, by decide +kernel, by decide +kernel⟩
abbrev s_pays : Stmt := topS 26
abbrev n_pays : List Str := ["system", "number"]
theorem sc_pays : FnScope n_pays ["system", "number"] (defScope s_pays) := ⟨rfl, rfl, rfl, by decide +kernel, rfl, by decide +kernel, by decide +kernel⟩
abbrev s_gaps_number_of : Stmt := topS 28
abbrev n_gaps_number_of : List Str := ["system", "many", "item"]
theorem sc_gaps_number_of : FnScope n_gaps_number_of ["system"] (defScope s_gaps_number_of) := ⟨rfl, rfl, rfl, by decide +kernel, rfl, by decide +kernel, by decide +kernel⟩
abbrev s_gaps_number : Stmt := topS 29
abbrev n_gaps_number : List Str := ["system"]
theorem sc_gaps_number : FnScope n_gaps_number ["system"] (defScope s_gaps_number) := ⟨rfl, rfl, rfl, by decide +kernel, rfl, by decide +kernel, by decide +kernel⟩
abbrev s_least_coins : Stmt := topS 31
abbrev n_least_coins : List Str := ["coins", "paid", "found", "coin", "number"]
theorem sc_least_coins : FnScope n_least_coins ["coins"] (defScope s_least_coins) := ⟨rfl, rfl, rfl, by decide +kernel, rfl, by decide +kernel, by decide +kernel⟩
abbrev s_check_rule : Stmt := topS 35
abbrev n_check_rule : List Str := ["factor", "modulus", "share"]
theorem sc_check_rule : FnScope n_check_rule ["factor", "modulus", "share"] (defScope s_check_rule) := ⟨rfl, rfl, rfl, by decide +kernel, rfl, by decide +kernel, by decide +kernel⟩
abbrev s_rule_holds : Stmt := topS 36
abbrev n_rule_holds : List Str := ["factor", "modulus", "share", "number"]
theorem sc_rule_holds : FnScope n_rule_holds ["factor", "modulus", "share", "number"] (defScope s_rule_holds) := ⟨rfl, rfl, rfl, by decide +kernel, rfl, by decide +kernel, by decide +kernel⟩
abbrev s_rule_system : Stmt := topS 37
abbrev n_rule_system : List Str := ["factor", "modulus", "share", "paid", "gone", "last", "small", "first", "number"]
theorem sc_rule_system : FnScope n_rule_system ["factor", "modulus", "share"] (defScope s_rule_system) := ⟨rfl, rfl, rfl, by decide +kernel, rfl, by decide +kernel, by decide +kernel⟩
abbrev s_rule_gaps : Stmt := topS 38
abbrev n_rule_gaps : List Str := ["factor", "modulus", "rest"]
theorem sc_rule_gaps : FnScope n_rule_gaps ["factor", "modulus"] (defScope s_rule_gaps) := ⟨rfl, rfl, rfl, by decide +kernel, rfl, by decide +kernel, by decide +kernel⟩
abbrev s_least_kept : Stmt := topS 39
abbrev n_least_kept : List Str := ["factor", "modulus", "share", "number"]
theorem sc_least_kept : FnScope n_least_kept ["factor", "modulus", "share"] (defScope s_least_kept) := ⟨rfl, rfl, rfl, by decide +kernel, rfl, by decide +kernel, by decide +kernel⟩
abbrev s_same_rule : Stmt := topS 40
abbrev n_same_rule : List Str := ["one", "other", "modulus", "number"]
theorem sc_same_rule : FnScope n_same_rule ["one", "other", "modulus"] (defScope s_same_rule) := ⟨rfl, rfl, rfl, by decide +kernel, rfl, by decide +kernel, by decide +kernel⟩
abbrev s_twin_factor : Stmt := topS 41
abbrev n_twin_factor : List Str := ["factor", "modulus"]
theorem sc_twin_factor : FnScope n_twin_factor ["factor", "modulus"] (defScope s_twin_factor) := ⟨rfl, rfl, rfl, by decide +kernel, rfl, by decide +kernel, by decide +kernel⟩
abbrev s_check_span : Stmt := topS 45
abbrev n_check_span : List Str := ["low", "high", "thing"]
theorem sc_check_span : FnScope n_check_span ["low", "high"] (defScope s_check_span) := ⟨rfl, rfl, rfl, by decide +kernel, rfl, by decide +kernel, by decide +kernel⟩
abbrev s_in_span : Stmt := topS 46
abbrev n_in_span : List Str := ["low", "high", "number", "least"]
theorem sc_in_span : FnScope n_in_span ["low", "high", "number"] (defScope s_in_span) := ⟨rfl, rfl, rfl, by decide +kernel, rfl, by decide +kernel, by decide +kernel⟩
abbrev s_span_pays : Stmt := topS 47
abbrev n_span_pays : List Str := ["low", "high", "number"]
theorem sc_span_pays : FnScope n_span_pays ["low", "high", "number"] (defScope s_span_pays) := ⟨rfl, rfl, rfl, by decide +kernel, rfl, by decide +kernel, by decide +kernel⟩
abbrev s_span_system_of : Stmt := topS 48
abbrev n_span_system_of : List Str := ["low", "high", "gap", "last", "small", "top", "first", "kept", "number"]
theorem sc_span_system_of : FnScope n_span_system_of ["low", "high"] (defScope s_span_system_of) := ⟨rfl, rfl, rfl, by decide +kernel, rfl, by decide +kernel, by decide +kernel⟩
abbrev s_span_system : Stmt := topS 49
abbrev n_span_system : List Str := ["low", "high"]
theorem sc_span_system : FnScope n_span_system ["low", "high"] (defScope s_span_system) := ⟨rfl, rfl, rfl, by decide +kernel, rfl, by decide +kernel, by decide +kernel⟩
abbrev s_chain_of : Stmt := topS 50
abbrev n_chain_of : List Str := ["low", "high", "found", "here"]
theorem sc_chain_of : FnScope n_chain_of ["low", "high"] (defScope s_chain_of) := ⟨rfl, rfl, rfl, by decide +kernel, rfl, by decide +kernel, by decide +kernel⟩
abbrev s_next_in_chain : Stmt := topS 51
abbrev n_next_in_chain : List Str := ["here", "high", "top", "bottom", "step", "over", "often"]
theorem sc_next_in_chain : FnScope n_next_in_chain ["here", "high"] (defScope s_next_in_chain) := ⟨rfl, rfl, rfl, by decide +kernel, rfl, by decide +kernel, by decide +kernel⟩
abbrev s_left_neighbour : Stmt := topS 52
abbrev n_left_neighbour : List Str := ["here", "bottom"]
theorem sc_left_neighbour : FnScope n_left_neighbour ["here"] (defScope s_left_neighbour) := ⟨rfl, rfl, rfl, by decide +kernel, rfl, by decide +kernel, by decide +kernel⟩
abbrev s_across : Stmt := topS 53
abbrev n_across : List Str := ["one", "other"]
theorem sc_across : FnScope n_across ["one", "other"] (defScope s_across) := ⟨rfl, rfl, rfl, by decide +kernel, rfl, by decide +kernel, by decide +kernel⟩
abbrev s_chain_coins : Stmt := topS 54
abbrev n_chain_coins : List Str := ["low", "high", "one"]
theorem sc_chain_coins : FnScope n_chain_coins ["low", "high"] (defScope s_chain_coins) := ⟨rfl, rfl, rfl, by decide +kernel, rfl, by decide +kernel, by decide +kernel⟩
abbrev s_law_hand : Stmt := topS 56
abbrev n_law_hand : List Str := ["script", "cells", "cell"]
theorem sc_law_hand : FnScope n_law_hand ["script"] (defScope s_law_hand) := ⟨rfl, rfl, rfl, by decide +kernel, rfl, by decide +kernel, by decide +kernel⟩
abbrev s_law_draw : Stmt := topS 57
abbrev n_law_draw : List Str := ["hand", "many", "cell", "digit", "number"]
theorem sc_law_draw : FnScope n_law_draw ["hand", "many"] (defScope s_law_draw) := ⟨rfl, rfl, rfl, by decide +kernel, rfl, by decide +kernel, by decide +kernel⟩
abbrev s_law_some : Stmt := topS 58
abbrev n_law_some : List Str := ["hand", "things"]
theorem sc_law_some : FnScope n_law_some ["hand", "things"] (defScope s_law_some) := ⟨rfl, rfl, rfl, by decide +kernel, rfl, by decide +kernel, by decide +kernel⟩
abbrev s_law_divisor : Stmt := topS 59
abbrev n_law_divisor : List Str := ["one", "other"]
theorem sc_law_divisor : FnScope n_law_divisor ["one", "other"] (defScope s_law_divisor) := ⟨rfl, rfl, rfl, by decide +kernel, rfl, by decide +kernel, by decide +kernel⟩
abbrev s_law_fraction : Stmt := topS 60
abbrev n_law_fraction : List Str := ["top", "bottom", "shared"]
theorem sc_law_fraction : FnScope n_law_fraction ["top", "bottom"] (defScope s_law_fraction) := ⟨rfl, rfl, rfl, by decide +kernel, rfl, by decide +kernel, by decide +kernel⟩
abbrev s_law_keeps : Stmt := topS 61
abbrev n_law_keeps : List Str := ["factor", "modulus", "share", "number"]
theorem sc_law_keeps : FnScope n_law_keeps ["factor", "modulus", "share", "number"] (defScope s_law_keeps) := ⟨rfl, rfl, rfl, by decide +kernel, rfl, by decide +kernel, by decide +kernel⟩
abbrev s_law_is_in_span : Stmt := topS 62
abbrev n_law_is_in_span : List Str := ["low", "high", "number", "below", "above"]
theorem sc_law_is_in_span : FnScope n_law_is_in_span ["low", "high", "number"] (defScope s_law_is_in_span) := ⟨rfl, rfl, rfl, by decide +kernel, rfl, by decide +kernel, by decide +kernel⟩
abbrev s_law_is_right : Stmt := topS 63
abbrev n_law_is_right : List Str := ["hand", "factor", "modulus", "share", "low", "high", "system", "paid", "coins", "held", "needed", "coin", "is_paid", "turn", "number", "due", "often", "many", "twin", "other"]
theorem sc_law_is_right : FnScope n_law_is_right ["hand", "factor", "modulus", "share"] (defScope s_law_is_right) := ⟨rfl, rfl, rfl, by decide +kernel, rfl, by decide +kernel, by decide +kernel⟩
abbrev s_law : Stmt := topS 64
abbrev n_law : List Str := ["script", "hand", "turn", "modulus", "factor", "share"]
theorem sc_law : FnScope n_law ["script"] (defScope s_law) := ⟨rfl, rfl, rfl, by decide +kernel, rfl, by decide +kernel, by decide +kernel⟩
structure Top (K : PySem.W.Frag) (mg : Str → Option Value) where
  a_is_integer : Addr
  fd_is_integer : FuncData
  F_is_integer : Fun K "is_integer" "is_integer" s_is_integer a_is_integer fd_is_integer
  g_is_integer : mg "is_integer" = some (.ref a_is_integer)
  b_is_integer : Binds K fd_is_integer ["thing"] []
  a_is_within : Addr
  fd_is_within : FuncData
  F_is_within : Fun K "is_within" "is_within" s_is_within a_is_within fd_is_within
  g_is_within : mg "is_within" = some (.ref a_is_within)
  b_is_within : Binds K fd_is_within ["thing", "low", "high"] []
  a_is_tuple_of : Addr
  fd_is_tuple_of : FuncData
  F_is_tuple_of : Fun K "is_tuple_of" "is_tuple_of" s_is_tuple_of a_is_tuple_of fd_is_tuple_of
  g_is_tuple_of : mg "is_tuple_of" = some (.ref a_is_tuple_of)
  b_is_tuple_of : Binds K fd_is_tuple_of ["thing", "many"] []
  a_common : Addr
  fd_common : FuncData
  F_common : Fun K "common" "common" s_common a_common fd_common
  g_common : mg "common" = some (.ref a_common)
  b_common : Binds K fd_common ["one", "other"] []
  a_common_of : Addr
  fd_common_of : FuncData
  F_common_of : Fun K "common_of" "common_of" s_common_of a_common_of fd_common_of
  g_common_of : mg "common_of" = some (.ref a_common_of)
  b_common_of : Binds K fd_common_of ["some"] []
  a_frac : Addr
  fd_frac : FuncData
  F_frac : Fun K "frac" "frac" s_frac a_frac fd_frac
  g_frac : mg "frac" = some (.ref a_frac)
  b_frac : Binds K fd_frac ["top", "bottom"] []
  a_is_fraction : Addr
  fd_is_fraction : FuncData
  F_is_fraction : Fun K "is_fraction" "is_fraction" s_is_fraction a_is_fraction fd_is_fraction
  g_is_fraction : mg "is_fraction" = some (.ref a_is_fraction)
  b_is_fraction : Binds K fd_is_fraction ["thing"] []
  a_round_up : Addr
  fd_round_up : FuncData
  F_round_up : Fun K "round_up" "round_up" s_round_up a_round_up fd_round_up
  g_round_up : mg "round_up" = some (.ref a_round_up)
  b_round_up : Binds K fd_round_up ["found", "coin", "step", "modulus"] []
  a_built : Addr
  fd_built : FuncData
  F_built : Fun K "built" "built" s_built a_built fd_built
  g_built : mg "built" = some (.ref a_built)
  b_built : Binds K fd_built ["coins"] []
  a_check_coins : Addr
  fd_check_coins : FuncData
  F_check_coins : Fun K "check_coins" "check_coins" s_check_coins a_check_coins fd_check_coins
  g_check_coins : mg "check_coins" = some (.ref a_check_coins)
  b_check_coins : Binds K fd_check_coins ["coins"] []
  a_System_init : Addr
  fd_System_init : FuncData
  F_System_init : Fun K "__init__" "System.__init__" s_System_init a_System_init fd_System_init
  b_System_init : Binds K fd_System_init ["self", "coins"] []
  a_System_eq : Addr
  fd_System_eq : FuncData
  F_System_eq : Fun K "__eq__" "System.__eq__" s_System_eq a_System_eq fd_System_eq
  b_System_eq : Binds K fd_System_eq ["self", "other"] []
  a_check_system : Addr
  fd_check_system : FuncData
  F_check_system : Fun K "check_system" "check_system" s_check_system a_check_system fd_check_system
  g_check_system : mg "check_system" = some (.ref a_check_system)
  b_check_system : Binds K fd_check_system ["system"] []
  a_check_sum : Addr
  fd_check_sum : FuncData
  F_check_sum : Fun K "check_sum" "check_sum" s_check_sum a_check_sum fd_check_sum
  g_check_sum : mg "check_sum" = some (.ref a_check_sum)
  b_check_sum : Binds K fd_check_sum ["system", "number"] []
  a_pays_of : Addr
  fd_pays_of : FuncData
  F_pays_of : Fun K "pays_of" "pays_of" s_pays_of a_pays_of fd_pays_of
  g_pays_of : mg "pays_of" = some (.ref a_pays_of)
  b_pays_of : Binds K fd_pays_of ["system", "number"] []
  a_pays : Addr
  fd_pays : FuncData
  F_pays : Fun K "pays" "pays" s_pays a_pays fd_pays
  g_pays : mg "pays" = some (.ref a_pays)
  b_pays : Binds K fd_pays ["system", "number"] []
  a_gaps_number_of : Addr
  fd_gaps_number_of : FuncData
  F_gaps_number_of : Fun K "gaps_number_of" "gaps_number_of" s_gaps_number_of a_gaps_number_of fd_gaps_number_of
  g_gaps_number_of : mg "gaps_number_of" = some (.ref a_gaps_number_of)
  b_gaps_number_of : Binds K fd_gaps_number_of ["system"] []
  a_gaps_number : Addr
  fd_gaps_number : FuncData
  F_gaps_number : Fun K "gaps_number" "gaps_number" s_gaps_number a_gaps_number fd_gaps_number
  g_gaps_number : mg "gaps_number" = some (.ref a_gaps_number)
  b_gaps_number : Binds K fd_gaps_number ["system"] []
  a_least_coins : Addr
  fd_least_coins : FuncData
  F_least_coins : Fun K "least_coins" "least_coins" s_least_coins a_least_coins fd_least_coins
  g_least_coins : mg "least_coins" = some (.ref a_least_coins)
  b_least_coins : Binds K fd_least_coins ["coins"] []
  a_check_rule : Addr
  fd_check_rule : FuncData
  F_check_rule : Fun K "check_rule" "check_rule" s_check_rule a_check_rule fd_check_rule
  g_check_rule : mg "check_rule" = some (.ref a_check_rule)
  b_check_rule : Binds K fd_check_rule ["factor", "modulus", "share"] []
  a_rule_holds : Addr
  fd_rule_holds : FuncData
  F_rule_holds : Fun K "rule_holds" "rule_holds" s_rule_holds a_rule_holds fd_rule_holds
  g_rule_holds : mg "rule_holds" = some (.ref a_rule_holds)
  b_rule_holds : Binds K fd_rule_holds ["factor", "modulus", "share", "number"] []
  a_rule_system : Addr
  fd_rule_system : FuncData
  F_rule_system : Fun K "rule_system" "rule_system" s_rule_system a_rule_system fd_rule_system
  g_rule_system : mg "rule_system" = some (.ref a_rule_system)
  b_rule_system : Binds K fd_rule_system ["factor", "modulus", "share"] []
  a_rule_gaps : Addr
  fd_rule_gaps : FuncData
  F_rule_gaps : Fun K "rule_gaps" "rule_gaps" s_rule_gaps a_rule_gaps fd_rule_gaps
  g_rule_gaps : mg "rule_gaps" = some (.ref a_rule_gaps)
  b_rule_gaps : Binds K fd_rule_gaps ["factor", "modulus"] []
  a_least_kept : Addr
  fd_least_kept : FuncData
  F_least_kept : Fun K "least_kept" "least_kept" s_least_kept a_least_kept fd_least_kept
  g_least_kept : mg "least_kept" = some (.ref a_least_kept)
  b_least_kept : Binds K fd_least_kept ["factor", "modulus", "share"] []
  a_same_rule : Addr
  fd_same_rule : FuncData
  F_same_rule : Fun K "same_rule" "same_rule" s_same_rule a_same_rule fd_same_rule
  g_same_rule : mg "same_rule" = some (.ref a_same_rule)
  b_same_rule : Binds K fd_same_rule ["one", "other", "modulus"] []
  a_twin_factor : Addr
  fd_twin_factor : FuncData
  F_twin_factor : Fun K "twin_factor" "twin_factor" s_twin_factor a_twin_factor fd_twin_factor
  g_twin_factor : mg "twin_factor" = some (.ref a_twin_factor)
  b_twin_factor : Binds K fd_twin_factor ["factor", "modulus"] []
  a_check_span : Addr
  fd_check_span : FuncData
  F_check_span : Fun K "check_span" "check_span" s_check_span a_check_span fd_check_span
  g_check_span : mg "check_span" = some (.ref a_check_span)
  b_check_span : Binds K fd_check_span ["low", "high"] []
  a_in_span : Addr
  fd_in_span : FuncData
  F_in_span : Fun K "in_span" "in_span" s_in_span a_in_span fd_in_span
  g_in_span : mg "in_span" = some (.ref a_in_span)
  b_in_span : Binds K fd_in_span ["low", "high", "number"] []
  a_span_pays : Addr
  fd_span_pays : FuncData
  F_span_pays : Fun K "span_pays" "span_pays" s_span_pays a_span_pays fd_span_pays
  g_span_pays : mg "span_pays" = some (.ref a_span_pays)
  b_span_pays : Binds K fd_span_pays ["low", "high", "number"] []
  a_span_system_of : Addr
  fd_span_system_of : FuncData
  F_span_system_of : Fun K "span_system_of" "span_system_of" s_span_system_of a_span_system_of fd_span_system_of
  g_span_system_of : mg "span_system_of" = some (.ref a_span_system_of)
  b_span_system_of : Binds K fd_span_system_of ["low", "high"] []
  a_span_system : Addr
  fd_span_system : FuncData
  F_span_system : Fun K "span_system" "span_system" s_span_system a_span_system fd_span_system
  g_span_system : mg "span_system" = some (.ref a_span_system)
  b_span_system : Binds K fd_span_system ["low", "high"] []
  a_chain_of : Addr
  fd_chain_of : FuncData
  F_chain_of : Fun K "chain_of" "chain_of" s_chain_of a_chain_of fd_chain_of
  g_chain_of : mg "chain_of" = some (.ref a_chain_of)
  b_chain_of : Binds K fd_chain_of ["low", "high"] []
  a_next_in_chain : Addr
  fd_next_in_chain : FuncData
  F_next_in_chain : Fun K "next_in_chain" "next_in_chain" s_next_in_chain a_next_in_chain fd_next_in_chain
  g_next_in_chain : mg "next_in_chain" = some (.ref a_next_in_chain)
  b_next_in_chain : Binds K fd_next_in_chain ["here", "high"] []
  a_left_neighbour : Addr
  fd_left_neighbour : FuncData
  F_left_neighbour : Fun K "left_neighbour" "left_neighbour" s_left_neighbour a_left_neighbour fd_left_neighbour
  g_left_neighbour : mg "left_neighbour" = some (.ref a_left_neighbour)
  b_left_neighbour : Binds K fd_left_neighbour ["here"] []
  a_across : Addr
  fd_across : FuncData
  F_across : Fun K "across" "across" s_across a_across fd_across
  g_across : mg "across" = some (.ref a_across)
  b_across : Binds K fd_across ["one", "other"] []
  a_chain_coins : Addr
  fd_chain_coins : FuncData
  F_chain_coins : Fun K "chain_coins" "chain_coins" s_chain_coins a_chain_coins fd_chain_coins
  g_chain_coins : mg "chain_coins" = some (.ref a_chain_coins)
  b_chain_coins : Binds K fd_chain_coins ["low", "high"] []
  a__law_hand : Addr
  fd__law_hand : FuncData
  F__law_hand : Fun K "_law_hand" "_law_hand" s_law_hand a__law_hand fd__law_hand
  g__law_hand : mg "_law_hand" = some (.ref a__law_hand)
  b__law_hand : Binds K fd__law_hand ["script"] []
  a__law_draw : Addr
  fd__law_draw : FuncData
  F__law_draw : Fun K "_law_draw" "_law_draw" s_law_draw a__law_draw fd__law_draw
  g__law_draw : mg "_law_draw" = some (.ref a__law_draw)
  b__law_draw : Binds K fd__law_draw ["hand", "many"] []
  a__law_some : Addr
  fd__law_some : FuncData
  F__law_some : Fun K "_law_some" "_law_some" s_law_some a__law_some fd__law_some
  g__law_some : mg "_law_some" = some (.ref a__law_some)
  b__law_some : Binds K fd__law_some ["hand", "things"] []
  a__law_divisor : Addr
  fd__law_divisor : FuncData
  F__law_divisor : Fun K "_law_divisor" "_law_divisor" s_law_divisor a__law_divisor fd__law_divisor
  g__law_divisor : mg "_law_divisor" = some (.ref a__law_divisor)
  b__law_divisor : Binds K fd__law_divisor ["one", "other"] []
  a__law_fraction : Addr
  fd__law_fraction : FuncData
  F__law_fraction : Fun K "_law_fraction" "_law_fraction" s_law_fraction a__law_fraction fd__law_fraction
  g__law_fraction : mg "_law_fraction" = some (.ref a__law_fraction)
  b__law_fraction : Binds K fd__law_fraction ["top", "bottom"] []
  a__law_keeps : Addr
  fd__law_keeps : FuncData
  F__law_keeps : Fun K "_law_keeps" "_law_keeps" s_law_keeps a__law_keeps fd__law_keeps
  g__law_keeps : mg "_law_keeps" = some (.ref a__law_keeps)
  b__law_keeps : Binds K fd__law_keeps ["factor", "modulus", "share", "number"] []
  a__law_is_in_span : Addr
  fd__law_is_in_span : FuncData
  F__law_is_in_span : Fun K "_law_is_in_span" "_law_is_in_span" s_law_is_in_span a__law_is_in_span fd__law_is_in_span
  g__law_is_in_span : mg "_law_is_in_span" = some (.ref a__law_is_in_span)
  b__law_is_in_span : Binds K fd__law_is_in_span ["low", "high", "number"] []
  a__law_is_right : Addr
  fd__law_is_right : FuncData
  F__law_is_right : Fun K "_law_is_right" "_law_is_right" s_law_is_right a__law_is_right fd__law_is_right
  g__law_is_right : mg "_law_is_right" = some (.ref a__law_is_right)
  b__law_is_right : Binds K fd__law_is_right ["hand", "factor", "modulus", "share"] []
  a_law : Addr
  fd_law : FuncData
  F_law : Fun K "law" "law" s_law a_law fd_law
  g_law : mg "law" = some (.ref a_law)
  b_law : Binds K fd_law ["script"] []
  a_System : Addr
  g_System : mg "System" = some (.ref a_System)
  m_System : Mk K a_System a_System_init
  i_System : C8.InsC K a_System
  eq_System : PySem.W.findIn K (.ref a_System) "__eq__" = some (some (.ref a_System_eq))
  ne_System : PySem.W.findIn K (.ref a_System) "__ne__" = some (some (.builtin "object.__ne__"))
  fn_System_eq : PySem.W.isFn K (.ref a_System_eq) = true
  n_System_coins : NoAttr K a_System "coins"
  n_System_needed_coins : NoAttr K a_System "needed_coins"
  n_System_rests : NoAttr K a_System "rests"
  z_isinstance : mg "isinstance" = none
  z_int : mg "int" = none
  z_bool : mg "bool" = none
  z_tuple : mg "tuple" = none
  z_abs : mg "abs" = none
  z_range : mg "range" = none
  z_len : mg "len" = none
  z_enumerate : mg "enumerate" = none
  z_min : mg "min" = none
  z_max : mg "max" = none
  z_sum : mg "sum" = none
  z_sorted : mg "sorted" = none
  z_list : mg "list" = none
  z_dict : mg "dict" = none
  z_all : mg "all" = none
  z_any : mg "any" = none
  t_MOST_COIN : Tok
  c_MOST_COIN : mg "MOST_COIN" = some (.int 1000000 t_MOST_COIN)
  t_MOST_LEAST : Tok
  c_MOST_LEAST : mg "MOST_LEAST" = some (.int 2000 t_MOST_LEAST)
  t_MOST_COINS : Tok
  c_MOST_COINS : mg "MOST_COINS" = some (.int 700 t_MOST_COINS)
  t_MOST_MODULUS : Tok
  c_MOST_MODULUS : mg "MOST_MODULUS" = some (.int 600 t_MOST_MODULUS)
  t_MOST_SIZE : Tok
  c_MOST_SIZE : mg "MOST_SIZE" = some (.int 1000000000000000000000000000000 t_MOST_SIZE)
  t_MOST_PART : Tok
  c_MOST_PART : mg "MOST_PART" = some (.int 2000 t_MOST_PART)
  t_MOST_GREAT : Tok
  c_MOST_GREAT : mg "MOST_GREAT" = some (.int 2000 t_MOST_GREAT)
end Pd

/-! Readings of my own over Evl: ints, lists in place, what else is kept. -/
namespace Pd
open PySem PySem.Spec PyProof.Rows L2 Evl
section
variable {X : Cx}
def rGetL (K : PySem.W.Frag) : V → V → Hp → VK → Prop := fun o i H Q => ∃ p xs j v, o = .ref p ∧ i = .int ((j : Nat) : Int) ∧ SqL K H p xs ∧ xs[j]? = some v ∧ Q v H
theorem get_list : PGet X (rGetL X.K) := by
  intro pins s σ H o i ov iv Q I ro ri h
  obtain ⟨p, xs, j, v, rfl, rfl, hq, hv, q⟩ := h
  cases ro
  obtain ⟨t, rfl⟩ := ri
  obtain ⟨its, r, pl, hz⟩ := I.list hq
  obtain ⟨u, eu, ru⟩ := r.get hv
  have lt : j < xs.length := (List.getElem?_eq_some_iff.mp hv).1
  have line := line63
  exact wpAny_getItem_list pl.isList (by omega) (by omega) (by simpa using eu) ⟨v, H, I, ru, q⟩
end

/-! ### all that was tracked but one place -/
def Bt (l : Addr) (H H' : Hp) : Prop := ∀ a o, a ≠ l → H a = some o → H' a = some o
theorem Bt.refl (l : Addr) (H : Hp) : Bt l H H := fun _ _ _ h => h
theorem Bt.ex {l : Addr} {H H1 H2 : Hp} (b : Bt l H H1) (e : Ex H1 H2) : Bt l H H2 := fun a o n h => e a o (b a o n h)
theorem Bt.of {l : Addr} {H H1 : Hp} (e : Ex H H1) : Bt l H H1 := fun a o _ h => e a o h
theorem Bt.trans {l : Addr} {H H1 H2 : Hp} (b : Bt l H H1) (c : Bt l H1 H2) : Bt l H H2 := fun a o n h => c a o n (b a o n h)
theorem Bt.up {l : Addr} {H H1 : Hp} {o : HO} (b : Bt l H H1) : Bt l H (upd H1 l o) := fun a u n h => by rw [upd_ne n]; exact b a u n h
/-- the place is new: then all is kept -/
theorem Bt.new {l : Addr} {H H1 : Hp} (b : Bt l H H1) (n : H l = none) : Ex H H1 := fun a o h => b a o (ne_of_none h n) h
theorem ex_up {H H' : Hp} {l : Addr} {o : HO} (e : Ex H H') (n : H l = none) : Ex H (upd H' l o) := e.mut n

section
variable {K : PySem.W.Frag} {σ : L2.St} {H H' : Hp} {ta tb te tx : TE} {t u : TT} {x y z v : V} {r : R2}
theorem rv_mul {i j : Int} (hc : CMul i j) : RV (rI CMul fun i j => .int (i * j)) (.int i) (.int j) H (.int (i * j)) := rv_I hc
theorem rv_isN {x : V} : RV rIsN x .non H (.bl (decide (x = .non))) := fun H1 _ _ q => ⟨rfl, q H1 (Ex.refl H1)⟩
theorem rv_notN {x : V} : RV rNotN x .non H (.bl (!decide (x = .non))) := fun H1 _ _ q => ⟨rfl, q H1 (Ex.refl H1)⟩
/-- isinstance of an int -/
theorem rc_isi {x c : V} {t u : Value} {b : Bool} (k : ClsV c u) (ty : ∀ H1, Ex H H1 → TyX K H1 x t) (e : PySem.W.kitOne K t u = some b) : RC (rIsi K) [x, c] H (.bl b) := fun H1 e1 Q q => ⟨x, c, t, u, b, rfl, k, ty H1 e1, e, q H1 (Ex.refl H1)⟩
theorem ty_int {H : Hp} {i : Int} : TyX K H (.int i) (.type "int") := .base (.int i)
theorem ty_tup {H : Hp} {a : Addr} {xs : List V} (h : H a = some (.tup xs)) : TyX K H (.ref a) (.type "tuple") := .base (.tup h)
/-- a new list is a pair's place: tSeq by hand -/
theorem SpV.mono {sp : Sp} {vs : List V} {z : V} (h : SpV sp vs H z) (e : Ex H H') : SpV sp vs H' z := fun H1 e1 => h H1 (e.trans e1)
/-- one argument is a new list -/
theorem ev_callL1 {sp : Sp} {E : XK} {xs : List V} (h : EvL te σ H xs) (hs : ∀ p H1, Ex H H1 → H1 p = some (.lst xs) → SpV sp [.ref p] H1 z) : Ev (tCall sp [] E (tCons te tNil)) σ H z := fun H1 e Q q =>
  h H1 e _ fun p H2 _ e2 hp => hs p H2 (e.trans e2) hp H2 (Ex.refl H2) Q (fun H3 e3 => q H3 (e2.trans e3)) E
/-- a, b = x, y -/
theorem q_par {i j : Nat} {tA : TA} {D : Ends} {tz : TS} (h : EvA tA σ H [x, y]) (k : ∀ H1, Ex H H1 → tz D ((σ.set i (some x)).set j (some y)) H1) : tSeq (tPar i j tA) tz D σ H := h H (Ex.refl H) _ fun H1 e => ⟨x, y, rfl, k H1 e⟩
theorem s_par {i j : Nat} {tA : TA} {D : Ends} (h : EvA tA σ H [x, y]) (k : ∀ H1, Ex H H1 → D.nx ((σ.set i (some x)).set j (some y)) H1) : tPar i j tA D σ H := h H (Ex.refl H) _ fun H1 e => ⟨x, y, rfl, k H1 e⟩
theorem ev_abs {i : Int} (ha : Ev ta σ H (.int i)) : Ev (tCB (fun xs H Q => ∃ i, xs = [.int i] ∧ Q (.int (if i < 0 then -i else i)) H) (tCons ta tNil)) σ H (.int (if i < 0 then -i else i)) := fun H1 e Q q =>
  ha H1 e _ fun H2 e2 => ⟨i, rfl, q H2 e2⟩
end
end Pd

/-! The small defs: is_integer, is_within, common, common_of. -/
namespace Pd
open PySem PySem.Spec PyProof.Rows L2 Evl
section
variable {P : Program} {w : World} {K : PySem.W.Frag} {mg : Str → Option Value} {base : Heap}
def sp_is_integer : Sp := fun vs H Q _ => ∃ i : Int, vs = [.int i] ∧ RetV (.bl true) H Q
theorem sv_is_integer {H : Hp} (i : Int) : SpV sp_is_integer [.int i] H (.bl true) := fun H1 e Q q E => ⟨i, rfl, q⟩
theorem ok_is_integer (T : Top K mg) : FnOk P w K mg base CX0 1 T.a_is_integer T.fd_is_integer ["thing"] sp_is_integer := by
  refine T.F_is_integer.ok sc_is_integer (fun vs H Q E h => ?_) (fun cdv A outer s H vs Q E hr h => ?_)
  · obtain ⟨i, rfl, _⟩ := h
    rfl
  · obtain ⟨i, rfl, k⟩ := h
    have nd := sc_is_integer.nd
    refine ⟨_, (pss_one (ps_ret (pe_and (pe_callB call_isi (by rfl) T.z_isinstance (by decide +kernel) (pa_cons (pv 0) (pa_cons (pe_bltn (v := .ty "int") (u := .type "int") (by rfl) T.z_int (by decide +kernel) rfl) pa_nil))) (pe_one (pe_not (pe_callB call_isi (by rfl) T.z_isinstance (by decide +kernel) (pa_cons (pv 0) (pa_cons (pe_bltn (v := .ty "bool") (u := .type "bool") (by rfl) T.z_bool (by decide +kernel) rfl) pa_nil)))))))), ?_⟩
    refine s_ret (v := .bl true) (ev_is (ev_andV (a := true) (b := true) ?_ fun _ => ?_) rfl) fun H1 e1 => k H1 e1
    · exact ev_cb (ea_cons (ev_var rfl) (ea_cons ev_c ea_nil)) (rc_isi (.ty "int") (fun _ _ => ty_int) (kit_ty (by decide +kernel)))
    · exact ev_is (ev_notV (a := false) (ev_cb (ea_cons (ev_var rfl) (ea_cons ev_c ea_nil)) (rc_isi (.ty "bool") (fun _ _ => ty_int) (kit_ty (by decide +kernel))))) rfl
def sp_is_within : Sp := fun vs H Q _ => ∃ i lo hi : Int, vs = [.int i, .int lo, .int hi] ∧ RetV (.bl (decide (lo ≤ i) && decide (i ≤ hi))) H Q
theorem sv_is_within {H : Hp} (i lo hi : Int) : SpV sp_is_within [.int i, .int lo, .int hi] H (.bl (decide (lo ≤ i) && decide (i ≤ hi))) := fun H1 e Q q E => ⟨i, lo, hi, rfl, q⟩
/-- a chain of two comparisons of ints -/
theorem ev_chain {K : PySem.W.Frag} {σ : L2.St} {H : Hp} {ta tb tc : TE} {r r' : R2} {x y z : V} {a b : Bool} (h1 : Ev ta σ H x) (h2 : Ev tb σ H y) (h3 : Ev tc σ H z) (hr : RV r x y H (.bl a)) (hr' : RV r' y z H (.bl b)) :
    Ev (tChain r r' ta tb tc) σ H (.bl (a && b)) := fun H1 e1 Q q =>
  h1 H1 e1 _ fun H2 e2 => h2 H2 (e1.trans e2) _ fun H3 e3 => hr H3 ((e1.trans e2).trans e3) _ fun H4 e4 => ⟨a, rfl, by
    cases a with
    | true =>
      show tc σ H4 _
      exact h3 H4 (((e1.trans e2).trans e3).trans e4) _ fun H5 e5 => hr' H5 ((((e1.trans e2).trans e3).trans e4).trans e5) Q fun H6 e6 => q H6 ((((e2.trans e3).trans e4).trans e5).trans e6)
    | false =>
      show Q (.bl false) H4
      exact q H4 ((e2.trans e3).trans e4)⟩
theorem ok_is_within (T : Top K mg) : FnOk P w K mg base CX0 2 T.a_is_within T.fd_is_within ["thing", "low", "high"] sp_is_within := by
  refine T.F_is_within.ok sc_is_within (fun vs H Q E h => ?_) (fun cdv A outer s H vs Q E hr h => ?_)
  · obtain ⟨i, lo, hi, rfl, _⟩ := h
    rfl
  · obtain ⟨i, lo, hi, rfl, k⟩ := h
    have nd := sc_is_within.nd
    refine ⟨_, (pss_one (ps_ret (pe_and (pe_call (ok_is_integer T) (hr.mono (by decide)) (by rfl) T.g_is_integer T.F_is_integer.kp T.b_is_integer .nil pass0 (pa_cons (pv 0) pa_nil)) (pe_one (pe_chain op_le op_le (pv 1) (pv 0) (pv 2)))))), ?_⟩
    refine s_ret (v := .bl (decide (lo ≤ i) && decide (i ≤ hi))) (ev_is (ev_andV (a := true) (b := decide (lo ≤ i) && decide (i ≤ hi)) ?_ fun _ => ?_) (by simp)) fun H1 e1 => k H1 e1
    · exact ev_call (ea_cons (ev_var rfl) ea_nil) (sv_is_integer i)
    · exact ev_chain (K := K) (ev_var rfl) (ev_var rfl) (ev_var rfl) rv_I0 rv_I0
/-! ### common, common_of -/
def sp_common : Sp := fun vs H Q _ => ∃ a b : Nat, vs = [.int a, .int b] ∧ RetV (.int (Nat.gcd a b : Nat)) H Q
theorem sv_common {H : Hp} (a b : Nat) : SpV sp_common [.int a, .int b] H (.int (Nat.gcd a b : Nat)) := fun H1 e Q q E => ⟨a, b, rfl, q⟩
theorem ok_common (T : Top K mg) : FnOk P w K mg base CX0 1 T.a_common T.fd_common ["one", "other"] sp_common := by
  refine T.F_common.ok sc_common (fun vs H Q E h => ?_) (fun cdv A outer s H vs Q E hr h => ?_)
  · obtain ⟨a, b, rfl, _⟩ := h
    rfl
  · obtain ⟨a, b, rfl, k⟩ := h
    have nd := sc_common.nd
    refine ⟨_, (pss_cons (ps_par (i := 0) (j := 1) rfl nd rfl rfl (by decide) rfl rfl (pa_cons (pe_callB call_abs (by rfl) T.z_abs (by decide +kernel) (pa_cons (pv 0) pa_nil)) (pa_cons (pe_callB call_abs (by rfl) T.z_abs (by decide +kernel) (pa_cons (pv 1) pa_nil)) pa_nil)) (by rfl)) (pss_cons (ps_while PassesOwn.never (pt_cmpR op_gt (pv 1) pe_int (nomark _)) (pss_one (ps_par (i := 0) (j := 1) rfl nd rfl rfl (by decide) rfl rfl (pa_cons (pv 1) (pa_cons (pe_op op_mod (pv 0) (pv 1)) pa_nil)) (by rfl)))) (pss_one (ps_ret (pv 0))))), ?_⟩
    have nn : ∀ n : Nat, V.int (if (n : Int) < 0 then -(n : Int) else (n : Int)) = V.int (n : Int) := fun n => by rw [if_neg (by omega)]
    refine q_par (ea_cons (ev_is (ev_abs (ev_var rfl)) (nn a)) (ea_cons (ev_is (ev_abs (ev_var rfl)) (nn b)) ea_nil)) fun H1 e1 => ?_
    refine q_while (fun m σ H' => ∃ x y : Nat, σ = [some (.int x), some (.int y)] ∧ Nat.gcd x y = Nat.gcd a b ∧ y = m ∧ Ex H H') b ⟨a, b, rfl, rfl, rfl, e1⟩ fun m σ' H' hw => ?_
    obtain ⟨x, y, rfl, hg, rfl, e2⟩ := hw
    refine ⟨decide ((0 : Int) < (y : Int)), et_test (ev_op (ev_var rfl) ev_c rv_I0), fun hb H3 e3 => ?_, fun hb H3 e3 => ?_⟩
    · have hy : (0 : Int) < (y : Int) := of_decide_eq_true hb
      refine ⟨fun σ H' => ∃ u v : Nat, σ = [some (.int u), some (.int v)] ∧ Nat.gcd u v = Nat.gcd a b ∧ v < y ∧ Ex H H', fun σ2 H2 ⟨u, v, h1, h2, h3, h4⟩ => ⟨v, h3, u, v, h1, h2, rfl, h4⟩, ?_⟩
      refine s_par (ea_cons (ev_var rfl) (ea_cons (ev_op (ev_var rfl) (ev_var rfl) (rv_I hy)) ea_nil)) fun H4 e4 => ⟨y, x % y, rfl, ?_, Nat.mod_lt _ (by omega), (e2.trans e3).trans e4⟩
      rw [Nat.gcd_comm, ← Nat.gcd_rec, Nat.gcd_comm]
      exact hg
    · have hy : ¬ (0 : Int) < (y : Int) := of_decide_eq_false hb
      obtain rfl : y = 0 := by omega
      rw [Nat.gcd_zero_right] at hg
      subst hg
      exact s_ret (ev_var rfl) fun H4 e4 => k H4 ((e2.trans e3).trans e4)
end
end Pd

/-! common_of, round_up. -/
namespace Pd
open PySem PySem.Spec PyProof.Rows L2 Evl
theorem PI.or {X : Cx} {tg it : Expr} {wi wj : TI} (h : PI X tg it wi) (h' : PI X tg it wj) : PI X tg it (fun σ H R => wi σ H R ∨ wj σ H R) := by
  refine ⟨fun pins s σ H R I q => ?_⟩
  rcases q with q | q
  · exact h.run pins s σ H R I q
  · exact h'.run pins s σ H R I q
def nv (cs : List Nat) : List V := cs.map fun (c : Nat) => V.int (c : Int)
theorem nv_len (cs : List Nat) : (nv cs).length = cs.length := List.length_map _
theorem nv_get {cs : List Nat} {i : Nat} {x : V} (h : (nv cs)[i]? = some x) : ∃ c, cs[i]? = some c ∧ x = .int (c : Int) := by
  unfold nv at h
  rw [List.getElem?_map] at h
  cases e : cs[i]? with
  | none => rw [e] at h; cases h
  | some c => rw [e] at h; exact ⟨c, rfl, (Option.some.inj h).symm⟩
theorem take_next {α : Type} {l : List α} {i : Nat} {x : α} (h : l[i]? = some x) : l.take (i + 1) = l.take i ++ [x] := by
  rw [List.take_add_one, h]
  rfl
theorem gcdL_next {cs : List Nat} {i c : Nat} (h : cs[i]? = some c) : gcdL (cs.take (i + 1)) = Nat.gcd (gcdL (cs.take i)) c := by
  unfold gcdL
  rw [take_next h, List.foldl_append]
  rfl
section
variable {P : Program} {w : World} {K : PySem.W.Frag} {mg : Str → Option Value} {base : Heap}
def sp_common_of (K : PySem.W.Frag) : Sp := fun vs H Q _ => ∃ (l : Addr) (cs : List Nat), vs = [.ref l] ∧ (SqL K H l (nv cs) ∨ SqT K H l (nv cs)) ∧ RetV (.int (gcdL cs : Nat)) H Q
theorem ok_common_of (T : Top K mg) : FnOk P w K mg base CX0 2 T.a_common_of T.fd_common_of ["some"] (sp_common_of K) := by
  refine T.F_common_of.ok sc_common_of (fun vs H Q E h => ?_) (fun cdv A outer s H vs Q E hr h => ?_)
  · obtain ⟨l, cs, rfl, _⟩ := h
    rfl
  · obtain ⟨l, cs, rfl, hl, k⟩ := h
    have nd := sc_common_of.nd
    refine ⟨_, (pss_cons (ps_set (i := 1) nd rfl (Or.inl rfl) pe_int) (pss_cons (ps_for PassesOwn.never rfl (PI.or (pi_list (pv 0)) (pi_tup (pv 0))) (pg_name (i := 2) nd rfl (Or.inl rfl)) (pss_one (ps_set (i := 1) nd rfl (Or.inl rfl) (pe_call (ok_common T) (hr.mono (by decide)) (by rfl) T.g_common T.F_common.kp T.b_common .nil pass0 (pa_cons (pv 1) (pa_cons (pv 2) pa_nil)))))) (pss_one (ps_ret (pv 1))))), ?_⟩
    refine q_asg ev_c fun H1 e1 => ?_
    have st : ∀ i x σ' H', (nv cs)[i]? = some x → (∃ y, σ' = [some (.ref l), some (.int (gcdL (cs.take i) : Nat)), y] ∧ Ex H H') →
        tAsg (tCall sp_common [] E0 (tCons (tVar 1) (tCons (tVar 2) tNil))) (gName 1) { nx := fun σ' H' => ∃ y, σ' = [some (.ref l), some (.int (gcdL (cs.take (i + 1)) : Nat)), y] ∧ Ex H H', rt := Q } (σ'.set 2 (some x)) H' := fun i x σ' H' hx ⟨y, h1, e⟩ => by
      obtain ⟨c, hc, rfl⟩ := nv_get hx
      subst h1
      refine s_asg (ev_call (ea_cons (ev_var rfl) (ea_cons (ev_var rfl) ea_nil)) (sv_common _ _)) fun H4 e4 => ⟨some (.int (c : Int)), ?_, e.trans e4⟩
      rw [gcdL_next hc]
      rfl
    have fin : ∀ σ' H', (∃ y, σ' = [some (.ref l), some (.int (gcdL (cs.take (nv cs).length) : Nat)), y] ∧ Ex H H') → tRet (tVar 1) { nx := fun _ H' => Q .non H', rt := Q } σ' H' := fun σ' H' ⟨y, h1, e⟩ => by
      subst h1
      rw [nv_len, List.take_length]
      exact s_ret (ev_var rfl) fun H4 e4 => k H4 (e.trans e4)
    rcases hl with hl | hl
    · exact Or.inl (q_forL (ev_var rfl) (ex_l e1 hl) (fun i σ' H' => ∃ y, σ' = [some (.ref l), some (.int (gcdL (cs.take i) : Nat)), y] ∧ Ex H H') (fun H2 e2 => ⟨none, rfl, e1.trans e2⟩) (fun i σ' H' _ ⟨_, _, e⟩ => ex_l e hl) (fun i x σ' H' hx p => st i x σ' H' hx p) fin)
    · exact Or.inr (q_forT (ev_var rfl) (ex_t e1 hl) (fun i σ' H' => ∃ y, σ' = [some (.ref l), some (.int (gcdL (cs.take i) : Nat)), y] ∧ Ex H H') (fun H2 e2 => ⟨none, rfl, e1.trans e2⟩) (fun i σ' H' _ ⟨_, _, e⟩ => ex_t e hl) (fun i x σ' H' hx p => st i x σ' H' hx p) fin)
theorem sv_common_of {H : Hp} {l : Addr} {cs : List Nat} (h : SqL K H l (nv cs) ∨ SqT K H l (nv cs)) : SpV (sp_common_of K) [.ref l] H (.int (gcdL cs : Nat)) := fun H1 e Q q E =>
  ⟨l, cs, rfl, h.imp (ex_l e) (ex_t e), q⟩
/-! ### round_up -/
def enc : Option Nat → V
  | none => .non
  | some v => .int (v : Int)
def sp_round_up : Sp := fun vs H Q _ => ∃ (l : Addr) (T : Tb) (c s m : Nat), vs = [.ref l, .int c, .int s, .int m] ∧ H l = some (.lst (T.map enc)) ∧ T.length = m ∧ 0 < m ∧ m ≤ 2000 ∧
  ∀ H', Bt l H H' → H' l = some (.lst ((rounds T s c m (Nat.gcd s m)).map enc)) → Q .non H'
theorem enc_get {T : Tb} {i : Nat} {o : Option Nat} (h : T[i]? = some o) : (T.map enc)[i]? = some (enc o) := by rw [List.getElem?_map, h]; rfl
theorem turns_len (T : Tb) (st s c m : Nat) : ∀ n, (turns T st s c m n).length = T.length
  | 0 => rfl
  | n + 1 => by show (relax _ _ _ _).length = _; rw [relax_len, turns_len T st s c m n]
theorem rounds_len (T : Tb) (s c m : Nat) : ∀ n, (rounds T s c m n).length = T.length
  | 0 => rfl
  | n + 1 => by show (turns _ _ _ _ _ _).length = _; rw [turns_len, rounds_len T s c m n]
theorem ok_round_up (T : Top K mg) : FnOk P w K mg base CX0 3 T.a_round_up T.fd_round_up ["found", "coin", "step", "modulus"] sp_round_up := by
  refine T.F_round_up.ok sc_round_up (fun vs H Q E h => ?_) (fun cdv A outer s H vs Q E hr h => ?_)
  · obtain ⟨l, T, c, s, m, rfl, _⟩ := h
    rfl
  · obtain ⟨l, T0, c, s, m, rfl, hl, hlen, hm, hm2, k⟩ := h
    have nd := sc_round_up.nd
    refine ⟨_, (pss_cons (ps_set (i := 4) nd rfl (Or.inl rfl) (pe_call (ok_common_of T) (hr.mono (by decide)) (by rfl) T.g_common_of T.F_common_of.kp T.b_common_of .nil pass0 (pa_cons (pe_lst (pa_cons (pv 2) (pa_cons (pv 3) pa_nil))) pa_nil))) (pss_one (ps_for PassesOwn.never rfl (pi_range1 rfl T.z_range (pa_cons (pv 4) pa_nil)) (pg_name (i := 5) nd rfl (Or.inl rfl)) (pss_cons (ps_set (i := 6) nd rfl (Or.inl rfl) (pv 5)) (pss_one (ps_for PassesOwn.never rfl (pi_range1 rfl T.z_range (pa_cons (pe_op op_mul pe_int (pe_op op_fdiv (pv 3) (pv 4))) pa_nil)) (pg_name (i := 7) nd rfl (Or.inl rfl)) (pss_cons (ps_set (i := 8) nd rfl (Or.inl rfl) (pe_op op_mod (pe_op op_add (pv 6) (pv 2)) (pv 3))) (pss_cons (ps_if (PW.pt (pw_and (pt_cmpR op_notN1 (pe_ix ix_list (pv 0) (pv 6) (fun _ _ => rfl)) pe_non (nomark _)) (pw_and1 (PW.pt (pw_or (pt_cmpR op_isN1 (pe_ix ix_list (pv 0) (pv 8) (fun _ _ => rfl)) pe_non (nomark _)) (pw_or1 (pt_cmpR op_lt (pe_op op_add (pe_ix ix_list (pv 0) (pv 6) (fun _ _ => rfl)) (pv 1)) (pe_ix ix_list (pv 0) (pv 8) (fun _ _ => rfl)) (nomark _)))))))) (pss_one (ps_asg (pe_op op_add (pe_ix ix_list (pv 0) (pv 6) (fun _ _ => rfl)) (pv 1)) (pg_sub (pv 0) (pv 8) set_list))) pss_nil) (pss_one (ps_set (i := 6) nd rfl (Or.inl rfl) (pv 8))))))))))), ?_⟩
    have hg : 0 < Nat.gcd s m := Nat.gcd_pos_of_pos_right s hm
    have hgm : Nat.gcd s m ≤ m := Nat.le_of_dvd hm (Nat.gcd_dvd_right s m)
    have eg : gcdL [s, m] = Nat.gcd s m := by show Nat.gcd (Nat.gcd 0 s) m = _; rw [Nat.gcd_zero_left]
    refine q_asg (ev_callL1 (xs := nv [s, m]) (el_lst (ea_cons (ev_var rfl) (ea_cons (ev_var rfl) ea_nil)) (by show 2 ≤ 100000; decide)) fun p H1 e1 hp => sv_common_of (.inl (sq_of hp))) fun H1 e1 => ?_
    rw [eg]
    refine s_forR1 (ea_cons (ev_var rfl) ea_nil) ⟨by omega, by omega⟩
      (fun i σ' H' => ∃ a b d e, σ' = [some (.ref l), some (.int c), some (.int s), some (.int m), some (.int (Nat.gcd s m : Nat)), a, b, d, e] ∧ Bt l H H' ∧ H' l = some (.lst ((rounds T0 s c m i).map enc)))
      (fun H2 e2 => ⟨none, none, none, none, rfl, .of (e1.trans e2), e2 l _ (e1 l _ hl)⟩) (fun i σ' H' hi hp => ?_) (fun σ' H' hp => ?_)
    · obtain ⟨a, b, d, e, rfl, b1, hl1⟩ := hp
      refine q_asg (ev_var rfl) fun H2 e2 => ?_
      have hn : ((2 : Int) * ((m : Int) / (Nat.gcd s m : Nat))) = ((2 * (m / Nat.gcd s m) : Nat) : Int) := by omega
      have hq : m / Nat.gcd s m ≤ m := Nat.div_le_self _ _
      refine s_forR1 (ea_cons (ev_is (ev_op ev_c (ev_op (ev_var rfl) (ev_var rfl) (rv_I ⟨by omega, by omega⟩)) (rv_mul (.inl ⟨by decide, by decide⟩))) (congrArg V.int hn)) ea_nil) ⟨by omega, by omega⟩
        (fun j σ' H' => ∃ d e, σ' = [some (.ref l), some (.int c), some (.int s), some (.int m), some (.int (Nat.gcd s m : Nat)), some (.int (i : Int)), some (.int ((i + j * s) % m : Nat)), d, e] ∧ Bt l H H' ∧ H' l = some (.lst ((turns (rounds T0 s c m i) i s c m j).map enc)))
        (fun H3 e3 => ⟨d, e, ?_, (b1.ex e2).ex e3, e3 l _ (e2 l _ hl1)⟩) (fun j σ' H' hj hp => ?_) (fun σ' H' hp => ?_)
      · rw [Nat.zero_mul, Nat.add_zero, Nat.mod_eq_of_lt (by omega)]
        rfl
      · obtain ⟨d, e, rfl, b2, hl2⟩ := hp
        have hth : ((((i + j * s) % m : Nat) : Int) + (s : Int)) % (m : Int) = ((i + (j + 1) * s) % m : Nat) := by
          rw [Nat.add_mul, Nat.one_mul, ← Nat.add_assoc, ← Nat.mod_add_mod (i + j * s)]
          rfl
        refine q_asg (ev_is (ev_op (ev_op (ev_var rfl) (ev_var rfl) rv_I0) (ev_var rfl) (rv_I (by omega))) (congrArg V.int hth)) fun H3 e3 => ?_
        have hL : (turns (rounds T0 s c m i) i s c m j).length = m := by rw [turns_len, rounds_len, hlen]
        generalize hTT : turns (rounds T0 s c m i) i s c m j = TT at hl2 hL
        have hh : (i + j * s) % m < TT.length := by rw [hL]; exact Nat.mod_lt _ hm
        have ht : (i + (j + 1) * s) % m < TT.length := by rw [hL]; exact Nat.mod_lt _ hm
        have hl3 : H3 l = some (.lst (TT.map enc)) := e3 l _ hl2
        have nxt : ∀ H4, Bt l H H4 → H4 l = some (.lst ((relax TT ((i + j * s) % m) ((i + (j + 1) * s) % m) c).map enc)) →
            tAsg (tVar 8) (gName 6) { nx := fun σ' H' => ∃ d e, σ' = [some (.ref l), some (.int c), some (.int s), some (.int m), some (.int (Nat.gcd s m : Nat)), some (.int (i : Int)), some (.int ((i + (j + 1) * s) % m : Nat)), d, e] ∧ Bt l H H' ∧ H' l = some (.lst ((turns (rounds T0 s c m i) i s c m (j + 1)).map enc)), rt := Q, ct := fun σ' H' => ∃ d e, σ' = [some (.ref l), some (.int c), some (.int s), some (.int m), some (.int (Nat.gcd s m : Nat)), some (.int (i : Int)), some (.int ((i + (j + 1) * s) % m : Nat)), d, e] ∧ Bt l H H' ∧ H' l = some (.lst ((turns (rounds T0 s c m i) i s c m (j + 1)).map enc)), bk := fun σ' H' => ∃ a b d e, σ' = [some (.ref l), some (.int c), some (.int s), some (.int m), some (.int (Nat.gcd s m : Nat)), a, b, d, e] ∧ Bt l H H' ∧ H' l = some (.lst ((rounds T0 s c m (i + 1)).map enc)) }
              [some (.ref l), some (.int c), some (.int s), some (.int m), some (.int (Nat.gcd s m : Nat)), some (.int (i : Int)), some (.int ((i + j * s) % m : Nat)), some (.int (j : Int)), some (.int ((i + (j + 1) * s) % m : Nat))] H4 := fun H4 b4 h4 => by
          refine s_asg (ev_var rfl) fun H5 e5 => ⟨_, _, rfl, b4.ex e5, ?_⟩
          show H5 l = some (.lst ((relax (turns (rounds T0 s c m i) i s c m j) _ _ c).map enc))
          rw [hTT]
          exact e5 l _ h4
        obtain ⟨o1, ho1⟩ : ∃ o, TT[(i + j * s) % m]? = some o := ⟨_, List.getElem?_eq_getElem hh⟩
        obtain ⟨o2, ho2⟩ : ∃ o, TT[(i + (j + 1) * s) % m]? = some o := ⟨_, List.getElem?_eq_getElem ht⟩
        have ix1 : ∀ {H4 : Hp} {σ4 : L2.St} {tx : TE}, H4 l = some (.lst (TT.map enc)) → σ4[0]? = some (some (.ref l)) → Ev tx σ4 H4 (.int ((i + j * s) % m : Nat)) → Ev (tOp (rIxL K) (tVar 0) tx) σ4 H4 (enc o1) := fun h4 h5 h6 =>
          ev_op (ev_var h5) h6 (rv_ixL (sq_of h4) (atI_nat (enc_get ho1)))
        have ix2 : ∀ {H4 : Hp} {σ4 : L2.St} {tx : TE}, H4 l = some (.lst (TT.map enc)) → σ4[0]? = some (some (.ref l)) → Ev tx σ4 H4 (.int ((i + (j + 1) * s) % m : Nat)) → Ev (tOp (rIxL K) (tVar 0) tx) σ4 H4 (enc o2) := fun h4 h5 h6 =>
          ev_op (ev_var h5) h6 (rv_ixL (sq_of h4) (atI_nat (enc_get ho2)))
        cases o1 with
        | none =>
          refine q_when (b := false) (et_is (et_and (a := false) (b := false) (et_is (et_test (ev_op (ix1 hl3 rfl (ev_var rfl)) ev_c rv_notN)) (by rfl)) fun z => by cases z) rfl) (fun z => by cases z) fun _ H4 e4 => ?_
          refine nxt H4 ((b2.ex e3).ex e4) ?_
          have er : relax TT ((i + j * s) % m) ((i + (j + 1) * s) % m) c = TT := by unfold relax; rw [ho1]
          rw [er]
          exact e4 l _ hl3
        | some v =>
          have setk : ∀ H4, Ex H3 H4 → relax TT ((i + j * s) % m) ((i + (j + 1) * s) % m) c = TT.set ((i + (j + 1) * s) % m) (some (v + c)) → ∀ (D : L2.Ends), (∀ H5, Bt l H H5 → H5 l = some (.lst ((relax TT ((i + j * s) % m) ((i + (j + 1) * s) % m) c).map enc)) → D.nx [some (.ref l), some (.int c), some (.int s), some (.int m), some (.int (Nat.gcd s m : Nat)), some (.int (i : Int)), some (.int ((i + j * s) % m : Nat)), some (.int (j : Int)), some (.int ((i + (j + 1) * s) % m : Nat))] H5) →
              tAsg (tOp (rI0 fun i j => .int (i + j)) (tOp (rIxL K) (tVar 0) (tVar 6)) (tVar 1)) (gSub (tVar 0) (tVar 8) rSetL) D [some (.ref l), some (.int c), some (.int s), some (.int m), some (.int (Nat.gcd s m : Nat)), some (.int (i : Int)), some (.int ((i + j * s) % m : Nat)), some (.int (j : Int)), some (.int ((i + (j + 1) * s) % m : Nat))] H4 := fun H4 e4 er D hD => by
            have hl4 : H4 l = some (.lst (TT.map enc)) := e4 l _ hl3
            refine s_setL hl4 (ev_op (ix1 hl4 rfl (ev_var rfl)) (ev_var rfl) rv_I0) (ev_var rfl) (ev_var rfl) (by rw [List.length_map]; exact ht) fun H5 e5 => hD _ (((b2.ex e3).ex e4).ex e5).up ?_
            rw [upd_same, er, List.map_set]
            rfl
          cases o2 with
          | none =>
            refine q_when (b := true) (et_is (et_and (a := true) (b := true) (et_is (et_test (ev_op (ix1 hl3 rfl (ev_var rfl)) ev_c rv_notN)) (by rfl)) fun _ => et_is (et_or (a := true) (b := true) (et_is (et_test (ev_op (ix2 hl3 rfl (ev_var rfl)) ev_c rv_isN)) (by rfl)) fun z => by cases z) rfl) rfl) (fun _ H4 e4 => ?_) fun z => by cases z
            exact setk H4 e4 (by unfold relax; rw [ho1, ho2]) _ nxt
          | some u =>
            refine q_when (b := decide ((v : Int) + (c : Int) < (u : Int))) (et_is (et_and (a := true) (b := decide ((v : Int) + (c : Int) < (u : Int))) (et_is (et_test (ev_op (ix1 hl3 rfl (ev_var rfl)) ev_c rv_notN)) (by rfl)) fun _ => et_is (et_or (a := false) (b := decide ((v : Int) + (c : Int) < (u : Int))) (et_is (et_test (ev_op (ix2 hl3 rfl (ev_var rfl)) ev_c rv_isN)) (by rfl)) fun _ => et_test (ev_op (ev_op (ix1 hl3 rfl (ev_var rfl)) (ev_var rfl) rv_I0) (ix2 hl3 rfl (ev_var rfl)) rv_I0)) (by simp)) (by simp)) (fun z H4 e4 => ?_) fun z H4 e4 => ?_
            · have z' := of_decide_eq_true z
              exact setk H4 e4 (by unfold relax; rw [ho1, ho2]; exact if_pos (by omega)) _ nxt
            · have z' := of_decide_eq_false z
              refine nxt H4 ((b2.ex e3).ex e4) ?_
              have er : relax TT ((i + j * s) % m) ((i + (j + 1) * s) % m) c = TT := by unfold relax; rw [ho1, ho2]; exact if_neg (by omega)
              rw [er]
              exact e4 l _ hl3
      · obtain ⟨d, e, rfl, b2, hl2⟩ := hp
        refine ⟨_, _, _, _, rfl, b2, ?_⟩
        rw [hl2]
        rfl
    · obtain ⟨a, b, d, e, rfl, b1, hl1⟩ := hp
      exact k H' b1 hl1
end
end Pd

/-! More readings: new lists by + and *, tuples' slices, enumerate, max, min, sum. -/
namespace Pd
open PySem PySem.Spec PyProof.Rows L2 Evl
theorem inV_nv {c : Nat} {cs : List Nat} : inV (.int (c : Int)) (nv cs) = decide (c ∈ cs) := by
  unfold inV nv
  rw [List.any_map, Bool.eq_iff_iff, List.any_eq_true, decide_eq_true_iff]
  constructor
  · rintro ⟨d, hd, h⟩
    have e : ((d : Int) == (c : Int)) = true := h
    have e2 : (d : Int) = (c : Int) := eq_of_beq e
    have e3 : d = c := by omega
    exact e3 ▸ hd
  · intro h
    exact ⟨c, h, (by show ((c : Int) == (c : Int)) = true; exact beq_self_eq_true _)⟩
theorem nv_flat (cs : List Nat) : (nv cs).all flatV = true := by
  unfold nv
  rw [List.all_map, List.all_eq_true]
  intro c _
  rfl
theorem nv_ints (cs : List Nat) : nv cs = (cs.map fun (c : Nat) => (c : Int)).map V.int := by unfold nv; rw [List.map_map]; rfl
theorem cut_from (xs : List V) (n : Nat) : cutV xs (some (n : Int)) none = xs.drop n := by
  unfold cutV
  rw [HT.sIx_nat, HT.sIx_none]
  by_cases h : n ≤ xs.length
  · rw [Nat.min_eq_left h]
    exact List.take_of_length_le (by rw [List.length_drop] <;> omega)
  · rw [Nat.min_eq_right (by omega), List.drop_length, List.drop_eq_nil_of_le (by omega)]
    exact List.take_nil
theorem cut_to (xs : List V) (n : Nat) : cutV xs none (some (n : Int)) = xs.take n := by
  unfold cutV
  rw [HT.sIx_none, HT.sIx_nat]
  show List.take (min n xs.length - 0) (List.drop 0 xs) = xs.take n
  rw [List.drop_zero, Nat.sub_zero]
  by_cases h : n ≤ xs.length
  · rw [Nat.min_eq_left h]
  · rw [Nat.min_eq_right (by omega), List.take_length, List.take_of_length_le (by omega)]
section
variable {K : PySem.W.Frag} {σ : L2.St} {H H' : Hp} {ta tb te tx : TE} {t u : TT} {x y z v : V} {r : R2}
/-- a tuple, new or old -/
def EvS (K : PySem.W.Frag) (te : TE) (σ : L2.St) (H : Hp) (xs : List V) : Prop := ∀ H1, Ex H H1 → ∀ Q : VK, (∀ p H2, Ex H1 H2 → SqT K H2 p xs → Q (.ref p) H2) → te σ H1 Q
theorem EvS.of {a : Addr} {xs : List V} (h : Ev te σ H (.ref a)) (hx : SqT K H a xs) : EvS K te σ H xs := fun H1 e Q q => h H1 e Q fun H2 e2 => q a H2 e2 (ex_t (e.trans e2) hx)
theorem EvS.slTo {a : Addr} {xs : List V} {n : Nat} (h : Ev te σ H (.ref a)) (hx : SqT K H a xs) (hn : Ev tx σ H (.int (n : Int))) : EvS K (tSl (rSlA K) te tNoPart (tPart tx)) σ H (xs.take n) := fun H1 e Q q =>
  h H1 e _ fun H2 e2 => by
    show tx σ H2 _
    refine hn H2 (e.trans e2) _ fun H3 e3 => ⟨(n : Int), rfl, a, xs, rfl, ex_t ((e.trans e2).trans e3) hx, fun w => ?_, fun _ p hp => ?_⟩
    · have e4 : xs.take n = xs := by
        have w2 := w.2
        rw [HT.sIx_nat] at w2
        exact List.take_of_length_le (by omega)
      rw [e4] at q
      exact q a H3 (e2.trans e3) (ex_t ((e.trans e2).trans e3) hx)
    · rw [cut_to]
      exact q p _ ((e2.trans e3).trans (Ex.new hp)) (.inl (.inl upd_same))
theorem EvS.slFrom {a : Addr} {xs : List V} {n : Nat} (h : Ev te σ H (.ref a)) (hx : SqT K H a xs) (hn : Ev tx σ H (.int (n : Int))) : EvS K (tSl (rSlA K) te (tPart tx) tNoPart) σ H (xs.drop n) := fun H1 e Q q =>
  h H1 e _ fun H2 e2 => hn H2 (e.trans e2) _ fun H3 e3 => ⟨(n : Int), rfl, by
    refine ⟨a, xs, rfl, ex_t ((e.trans e2).trans e3) hx, fun w => ?_, fun _ p hp => ?_⟩
    · have e4 : xs.drop n = xs := by
        have w1 := w.1
        rw [HT.sIx_nat] at w1
        cases xs with
        | nil => simp
        | cons y ys =>
          have h0 : n = 0 := by rw [List.length_cons] at w1; omega
          rw [h0, List.drop_zero]
      rw [e4] at q
      exact q a H3 (e2.trans e3) (ex_t ((e.trans e2).trans e3) hx)
    · rw [cut_from]
      exact q p _ ((e2.trans e3).trans (Ex.new hp)) (.inl (.inl upd_same))⟩
theorem ev_inS {xs : List V} (ha : Ev ta σ H x) (hb : EvS K tb σ H xs) (hx : flatV x = true) (hf : xs.all flatV = true) : Ev (tOp (rIn K false) ta tb) σ H (.bl (inV x xs)) := fun H1 e Q q =>
  ha H1 e _ fun H2 e2 => hb H2 (e.trans e2) _ fun p H3 e3 hp => ⟨p, xs, rfl, .inr hp, hx, hf, q H3 (e2.trans e3)⟩
theorem ev_lenS {xs : List V} {a : Addr} (ha : Ev ta σ H (.ref a)) (h : SqL K H a xs ∨ SqT K H a xs) : Ev (tCB (rLenS K) (tCons ta tNil)) σ H (.int (xs.length : Int)) := fun H1 e Q q =>
  ha H1 e _ fun H2 e2 => ⟨a, xs, rfl, h.imp (ex_l (e.trans e2)) (ex_t (e.trans e2)), q H2 e2⟩
theorem ev_maxT {a : Addr} {ns : List Int} {m : Int} (ha : Ev ta σ H (.ref a)) (h : SqT K H a (ns.map V.int)) (hm : m ∈ ns) (hg : ∀ y ∈ ns, y ≤ m) : Ev (tCB (rMaxT K) (tCons ta tNil)) σ H (.int m) := fun H1 e Q q =>
  ha H1 e _ fun H2 e2 => ⟨a, ns, rfl, ex_t (e.trans e2) h, List.length_pos_of_mem hm, fun m' h1 h2 => by
    have e3 : m' = m := Int.le_antisymm (hg m' h1) (h2 m hm)
    rw [e3]
    exact q H2 e2⟩
theorem ev_minT {a : Addr} {ns : List Int} {m : Int} (ha : Ev ta σ H (.ref a)) (h : SqT K H a (ns.map V.int)) (hm : m ∈ ns) (hg : ∀ y ∈ ns, m ≤ y) : Ev (tCB (rMinT K) (tCons ta tNil)) σ H (.int m) := fun H1 e Q q =>
  ha H1 e _ fun H2 e2 => ⟨a, ns, rfl, ex_t (e.trans e2) h, List.length_pos_of_mem hm, fun m' h1 h2 => by
    have e3 : m' = m := Int.le_antisymm (h2 m hm) (hg m' h1)
    rw [e3]
    exact q H2 e2⟩
theorem ev_sumT {a : Addr} {ns : List Int} (ha : Ev ta σ H (.ref a)) (h : SqT K H a (ns.map V.int)) : Ev (tCB (rSumT K) (tCons ta tNil)) σ H (.int ns.sum) := fun H1 e Q q =>
  ha H1 e _ fun H2 e2 => ⟨a, ns, rfl, ex_t (e.trans e2) h, q H2 e2⟩
theorem ev_sumN {ns : List Int} (ha : EvL ta σ H (ns.map V.int)) : Ev (tCB (rSum K) (tCons ta tNil)) σ H (.int ns.sum) := fun H1 e Q q =>
  ha H1 e _ fun p H2 _ e2 hp => ⟨p, ns, rfl, sq_of hp, q H2 e2⟩
theorem ev_maxN {ns : List Int} {m : Int} (ha : EvL ta σ H (ns.map V.int)) (hm : m ∈ ns) (hg : ∀ y ∈ ns, y ≤ m) : Ev (tCB (rMax K) (tCons ta tNil)) σ H (.int m) := fun H1 e Q q =>
  ha H1 e _ fun p H2 _ e2 hp => ⟨p, ns, rfl, sq_of hp, List.length_pos_of_mem hm, fun m' h1 h2 => by
    have e3 : m' = m := Int.le_antisymm (hg m' h1) (h2 m hm)
    rw [e3]
    exact q H2 e2⟩
theorem el_cat {xs ys : List V} (ha : EvL ta σ H xs) (hb : EvL tb σ H ys) (hz : xs.length + ys.length ≤ 100000) : EvL (tOp rCat ta tb) σ H (xs ++ ys) := fun H1 e Q q =>
  ha H1 e _ fun p H2 np e2 hp => hb H2 (e.trans e2) _ fun p' H3 np' e3 hp' => ⟨p, p', xs, ys, rfl, rfl, e3 p _ hp, hp', sz_of hz, fun l hl => q l _ (fresh_back (e2.trans e3) hl) ((e2.trans e3).trans (Ex.new hl)) upd_same⟩
theorem el_rep {xs : List V} {k : Nat} (ha : EvL ta σ H xs) (hb : Ev tb σ H (.int (k : Int))) (hz : xs.length * k ≤ 100000) (hk : k ≤ 100000) : EvL (tOp rRep ta tb) σ H (List.replicate k xs).flatten := fun H1 e Q q =>
  ha H1 e _ fun p H2 np e2 hp => hb H2 (e.trans e2) _ fun H3 e3 => ⟨p, (k : Int), xs, rfl, rfl, e3 p _ hp, by omega, by omega, sz_of (by rw [Int.toNat_natCast]; exact hz), fun l hl => by
    rw [Int.toNat_natCast]
    exact q l _ (fresh_back (e2.trans e3) hl) ((e2.trans e3).trans (Ex.new hl)) upd_same⟩
theorem rep_flat (v : V) : ∀ k : Nat, (List.replicate k [v]).flatten = List.replicate k v
  | 0 => rfl
  | k + 1 => by rw [List.replicate_succ, List.flatten_cons, rep_flat v k]; rfl
theorem el_rep1 {v : V} {k : Nat} (ha : EvL ta σ H [v]) (hb : Ev tb σ H (.int (k : Int))) (hk : k ≤ 100000) : EvL (tOp rRep ta tb) σ H (List.replicate k v) := by
  have h := el_rep ha hb (by show 1 * k ≤ 100000; omega) hk
  rw [rep_flat] at h
  exact h
theorem el_is {xs ys : List V} (h : EvL te σ H xs) (e : xs = ys) : EvL te σ H ys := e ▸ h
/-- a, b = two new lists -/
theorem q_parLL {i j : Nat} {xs ys : List V} {D : L2.Ends} {tz : TS} (h1 : EvL ta σ H xs) (h2 : EvL tb σ H ys)
    (k : ∀ p q H1, H p = none → H q = none → p ≠ q → Ex H H1 → H1 p = some (.lst xs) → H1 q = some (.lst ys) → tz D ((σ.set i (some (.ref p))).set j (some (.ref q))) H1) : tSeq (tPar i j (tCons ta (tCons tb tNil))) tz D σ H :=
  h1 H (Ex.refl H) _ fun p H1 np e1 hp => h2 H1 e1 _ fun q H2 nq e2 hq => ⟨.ref p, .ref q, rfl, k p q H2 np (fresh_back e1 nq) (ne_of_none hp nq) (e1.trans e2) (e2 p _ hp) hq⟩
/-- a call of a def as a statement, by its promise -/
theorem s_dropCall {sp : Sp} {E : XK} {tA : TA} {vs : List V} {D : L2.Ends} (h : EvA tA σ H vs) (k : ∀ H1, Ex H H1 → sp (vs ++ []) H1 (fun _ H2 => D.nx σ H2) E) : tDrop (tCall sp [] E tA) D σ H := h H (Ex.refl H) _ fun H1 e1 => k H1 e1
theorem q_dropCall {sp : Sp} {E : XK} {tA : TA} {vs : List V} {D : L2.Ends} {tz : TS} (h : EvA tA σ H vs) (k : ∀ H1, Ex H H1 → sp (vs ++ []) H1 (fun _ H2 => tz D σ H2) E) : tSeq (tDrop (tCall sp [] E tA)) tz D σ H := h H (Ex.refl H) _ fun H1 e1 => k H1 e1
/-- x = a call of a def, by its promise -/
theorem s_asgCall {sp : Sp} {E : XK} {tA : TA} {vs : List V} {D : L2.Ends} {g : TG} (h : EvA tA σ H vs) (k : ∀ H1, Ex H H1 → sp (vs ++ []) H1 (fun v H2 => g v σ H2 D.nx) E) : tAsg (tCall sp [] E tA) g D σ H := h H (Ex.refl H) _ fun H1 e1 => k H1 e1
theorem q_asgCall {sp : Sp} {E : XK} {tA : TA} {vs : List V} {D : L2.Ends} {g : TG} {tz : TS} (h : EvA tA σ H vs) (k : ∀ H1, Ex H H1 → sp (vs ++ []) H1 (fun v H2 => g v σ H2 (tz D)) E) : tSeq (tAsg (tCall sp [] E tA) g) tz D σ H := h H (Ex.refl H) _ fun H1 e1 => k H1 e1
/-- for i, x in enumerate(a tuple) -/
theorem s_forEnumT {a : Addr} {xs : List V} {tA : TA} {i j : Nat} {tu : TS} {D : L2.Ends} (h : EvA tA σ H [.ref a]) (hx : SqT K H a xs) (Pv : Nat → L2.St → Hp → Prop) (h0 : ∀ H1, Ex H H1 → Pv 0 σ H1)
    (hG : ∀ n σ' H', n ≤ xs.length → Pv n σ' H' → SqT K H' a xs)
    (hs : ∀ n x σ' H' H2, xs[n]? = some x → Pv n σ' H' → Ex H' H2 → tu { D with nx := Pv (n + 1), ct := Pv (n + 1), bk := D.nx } ((σ'.set i (some (.int (n : Int)))).set j (some x)) H2) (hd : ∀ σ' H', Pv xs.length σ' H' → D.nx σ' H') :
    tFor (iEnumT K tA) (gTup K 2 (gCons (gName i) (gCons (gName j) gNil))) tu D σ H :=
  h H (Ex.refl H) _ fun H1 e1 => ⟨a, xs, rfl, ex_t e1 hx, for_it (walk_enumT (K := K) (a := a) (xs := xs)) Pv (h0 H1 e1) hG (fun n v σ' H' H2 hn p y => by
    obtain ⟨T, x1, x2, rfl, nT, rfl, f1, f2⟩ := y
    obtain rfl : V.int (n : Nat) = x1 := Option.some.inj f1
    exact ⟨T, [.int (n : Nat), x2], rfl, .inl (.inl upd_same), rfl, .int (n : Nat), [x2], rfl, x2, [], rfl, rfl, hs n x2 σ' H' _ f2 p (Ex.new nT)⟩) hd⟩
theorem q_forEnumT {a : Addr} {xs : List V} {tA : TA} {i j : Nat} {tu tz : TS} {D : L2.Ends} (h : EvA tA σ H [.ref a]) (hx : SqT K H a xs) (Pv : Nat → L2.St → Hp → Prop) (h0 : ∀ H1, Ex H H1 → Pv 0 σ H1)
    (hG : ∀ n σ' H', n ≤ xs.length → Pv n σ' H' → SqT K H' a xs)
    (hs : ∀ n x σ' H' H2, xs[n]? = some x → Pv n σ' H' → Ex H' H2 → tu { D with nx := Pv (n + 1), ct := Pv (n + 1), bk := tz D } ((σ'.set i (some (.int (n : Int)))).set j (some x)) H2) (hd : ∀ σ' H', Pv xs.length σ' H' → tz D σ' H') :
    tSeq (tFor (iEnumT K tA) (gTup K 2 (gCons (gName i) (gCons (gName j) gNil))) tu) tz D σ H := s_forEnumT (D := { D with nx := tz D }) h hx Pv h0 hG hs hd
/-- for i, x in enumerate(a list) -/
theorem s_forEnum {a : Addr} {xs : List V} {tA : TA} {i j : Nat} {tu : TS} {D : L2.Ends} (h : EvA tA σ H [.ref a]) (hx : SqL K H a xs) (Pv : Nat → L2.St → Hp → Prop) (h0 : ∀ H1, Ex H H1 → Pv 0 σ H1)
    (hG : ∀ n σ' H', n ≤ xs.length → Pv n σ' H' → SqL K H' a xs)
    (hs : ∀ n x σ' H' H2, xs[n]? = some x → Pv n σ' H' → Ex H' H2 → tu { D with nx := Pv (n + 1), ct := Pv (n + 1), bk := D.nx } ((σ'.set i (some (.int (n : Int)))).set j (some x)) H2) (hd : ∀ σ' H', Pv xs.length σ' H' → D.nx σ' H') :
    tFor (iEnum K tA) (gTup K 2 (gCons (gName i) (gCons (gName j) gNil))) tu D σ H :=
  h H (Ex.refl H) _ fun H1 e1 => ⟨a, xs, rfl, ex_l e1 hx, for_it (walk_enum (K := K) (a := a) (xs := xs)) Pv (h0 H1 e1) hG (fun n v σ' H' H2 hn p y => by
    obtain ⟨T, x1, x2, rfl, nT, rfl, f1, f2⟩ := y
    obtain rfl : V.int (n : Nat) = x1 := Option.some.inj f1
    exact ⟨T, [.int (n : Nat), x2], rfl, .inl (.inl upd_same), rfl, .int (n : Nat), [x2], rfl, x2, [], rfl, rfl, hs n x2 σ' H' _ f2 p (Ex.new nT)⟩) hd⟩
theorem q_forEnum {a : Addr} {xs : List V} {tA : TA} {i j : Nat} {tu tz : TS} {D : L2.Ends} (h : EvA tA σ H [.ref a]) (hx : SqL K H a xs) (Pv : Nat → L2.St → Hp → Prop) (h0 : ∀ H1, Ex H H1 → Pv 0 σ H1)
    (hG : ∀ n σ' H', n ≤ xs.length → Pv n σ' H' → SqL K H' a xs)
    (hs : ∀ n x σ' H' H2, xs[n]? = some x → Pv n σ' H' → Ex H' H2 → tu { D with nx := Pv (n + 1), ct := Pv (n + 1), bk := tz D } ((σ'.set i (some (.int (n : Int)))).set j (some x)) H2) (hd : ∀ σ' H', Pv xs.length σ' H' → tz D σ' H') :
    tSeq (tFor (iEnum K tA) (gTup K 2 (gCons (gName i) (gCons (gName j) gNil))) tu) tz D σ H := s_forEnum (D := { D with nx := tz D }) h hx Pv h0 hG hs hd
/-- tuple(a new list), list(..) -/
def rTupOf (K : PySem.W.Frag) : List V → Hp → VK → Prop := fun xs H Q => ∃ p ys, xs = [.ref p] ∧ ((SqL K H p ys ∧ ∀ l, H l = none → Q (.ref l) (upd H l (.tup ys))) ∨ (SqT K H p ys ∧ Q (.ref p) H))
theorem eu_tupOf {xs : List V} (ha : EvL ta σ H xs) : EvU (tCB (rTupOf K) (tCons ta tNil)) σ H xs := fun H1 e Q q =>
  ha H1 e _ fun p H2 np e2 hp => ⟨p, xs, rfl, .inl ⟨sq_of hp, fun l hl => q l _ (fresh_back e2 hl) (e2.trans (Ex.new hl)) upd_same⟩⟩
theorem eu_tupOfL {a : Addr} {xs : List V} (ha : Ev ta σ H (.ref a)) (hx : SqL K H a xs) : EvU (tCB (rTupOf K) (tCons ta tNil)) σ H xs := fun H1 e Q q =>
  ha H1 e _ fun H2 e2 => ⟨a, xs, rfl, .inl ⟨ex_l (e.trans e2) hx, fun l hl => q l _ (fresh_back e2 hl) (e2.trans (Ex.new hl)) upd_same⟩⟩
theorem el_listOfT {a : Addr} {xs : List V} (ha : Ev ta σ H (.ref a)) (hx : SqT K H a xs) : EvL (tCB (rListS K) (tCons ta tNil)) σ H xs := fun H1 e Q q =>
  ha H1 e _ fun H2 e2 => ⟨a, xs, rfl, .inr (ex_t (e.trans e2) hx), fun l hl => q l _ (fresh_back e2 hl) (e2.trans (Ex.new hl)) upd_same⟩
theorem el_listOfN {xs : List V} (ha : EvL ta σ H xs) : EvL (tCB (rListS K) (tCons ta tNil)) σ H xs := fun H1 e Q q =>
  ha H1 e _ fun p H2 np e2 hp => ⟨p, xs, rfl, .inl (sq_of hp), fun l hl => q l _ (fresh_back e2 hl) (e2.trans (Ex.new hl)) upd_same⟩
end
end Pd

/-! built, check_coins. -/
namespace Pd
open PySem PySem.Spec PyProof.Rows L2 Evl
theorem bstep_len {m : Nat} (s : List Nat × Tb) (c : Nat) : (bstep m s c).2.length = s.2.length := by
  unfold bstep
  split
  · split
    · exact rounds_len _ _ _ _ _
    · rfl
  · exact rounds_len _ _ _ _ _
  · rfl
theorem bsteps_len {m : Nat} : ∀ (cs : List Nat) (s : List Nat × Tb), (cs.foldl (bstep m) s).2.length = s.2.length
  | [], _ => rfl
  | c :: r, s => by rw [List.foldl_cons, bsteps_len r, bstep_len]
theorem bsteps_need {m : Nat} : ∀ (cs : List Nat) (s : List Nat × Tb), (cs.foldl (bstep m) s).1.length ≤ s.1.length + cs.length
  | [], _ => by simp
  | c :: r, s => by
    have h : (bstep m s c).1.length ≤ s.1.length + 1 := by
      unfold bstep
      split
      · split
        · simp
        · simp
      · simp
      · simp
    have := bsteps_need (m := m) r (bstep m s c)
    rw [List.foldl_cons, List.length_cons]
    omega
def bst0 (m : Nat) : List Nat × Tb := ([m], some 0 :: List.replicate (m - 1) none)
def bst (m : Nat) (rest : List Nat) (i : Nat) : List Nat × Tb := (rest.take i).foldl (bstep m) (bst0 m)
theorem bst_next {m i c : Nat} {rest : List Nat} (h : rest[i]? = some c) : bst m rest (i + 1) = bstep m (bst m rest i) c := by
  unfold bst
  rw [take_next h, List.foldl_append]
  rfl
theorem nv_app (a b : List Nat) : nv (a ++ b) = nv a ++ nv b := List.map_append
section
variable {P : Program} {w : World} {K : PySem.W.Frag} {mg : Str → Option Value} {base : Heap}
/-- built: a new tuple of two new lists -/
def sp_built (K : PySem.W.Frag) : Sp := fun vs H Q _ => ∃ (l : Addr) (m : Nat) (rest : List Nat), vs = [.ref l] ∧ SqL K H l (nv (m :: rest)) ∧ 0 < m ∧ m ≤ 2000 ∧ rest.length ≤ 1000 ∧
  ∀ (T : Tb) (t p q : Addr) (H' : Hp), Tab m (m :: rest) T → H p = none → H q = none → H t = none → Ex H H' → H' t = some (.tup [.ref p, .ref q]) → H' p = some (.lst (nv (m :: needM [m] rest))) → H' q = some (.lst (T.map enc)) → Q (.ref t) H'
theorem ok_built (T : Top K mg) : FnOk P w K mg base CX0 4 T.a_built T.fd_built ["coins"] (sp_built K) := by
  refine T.F_built.ok sc_built (fun vs H Q E h => ?_) (fun cdv A outer s H vs Q E hr h => ?_)
  · obtain ⟨l, m, rest, rfl, _⟩ := h
    rfl
  · obtain ⟨l, m, rest, rfl, hl, hm, hm2, hn, k⟩ := h
    have nd := sc_built.nd
    refine ⟨_, (pss_cons (ps_set (i := 1) nd rfl (Or.inl rfl) (pe_ix ix_list (pv 0) pe_int (fun _ _ => rfl))) (pss_cons (ps_par (i := 2) (j := 3) rfl nd rfl rfl (by decide) rfl rfl (pa_cons (pe_lst (pa_cons (pv 1) pa_nil)) (pa_cons (pe_op op_cat (pe_lst (pa_cons pe_int pa_nil)) (pe_op op_rep (pe_lst (pa_cons pe_non pa_nil)) (pe_op op_sub (pv 1) pe_int))) pa_nil)) (by rfl)) (pss_cons (ps_for PassesOwn.never rfl (pi_list (pe_slice sl_list (pv 0) (po_some pe_int) po_none)) (pg_name (i := 4) nd rfl (Or.inl rfl)) (pss_cons (ps_set (i := 5) nd rfl (Or.inl rfl) (pe_ix ix_list (pv 3) (pe_op op_mod (pv 4) (pv 1)) (fun _ _ => rfl))) (pss_one (ps_if (PW.pt (pw_or (pt_cmpR op_isN1 (pv 5) pe_non (nomark _)) (pw_or1 (pt_cmpR op_gt (pv 5) (pv 4) (nomark _))))) (pss_cons (ps_expr (pe_bm PySem.F.plainAttrs_list PySem.F.slot_list_append PySem.F.type_list_append mt_append (pv 2) (pa_cons (pv 4) pa_nil))) (pss_one (ps_expr (pe_call (ok_round_up T) (hr.mono (by decide)) (by rfl) T.g_round_up T.F_round_up.kp T.b_round_up .nil pass0 (pa_cons (pv 3) (pa_cons (pv 4) (pa_cons (pe_op op_mod (pv 4) (pv 1)) (pa_cons (pv 1) pa_nil)))))))) pss_nil)))) (pss_one (ps_ret (pe_tup (pa_cons (pv 2) (pa_cons (pv 3) pa_nil)))))))), ?_⟩
    refine q_asg (ev_op (ev_var rfl) ev_c (rv_ixL hl (atI_nat (j := 0) rfl))) fun H1 e1 => ?_
    have hm1 : ((m : Int) - 1) = ((m - 1 : Nat) : Int) := by omega
    refine q_parLL (el_lst (ea_cons (ev_var rfl) ea_nil) (by show 1 ≤ 100000; decide)) (el_cat (el_lst (ea_cons ev_c ea_nil) (by show 1 ≤ 100000; decide)) (el_rep1 (el_lst (ea_cons ev_c ea_nil) (by show 1 ≤ 100000; decide)) (ev_is (ev_op (ev_var rfl) ev_c rv_I0) (congrArg V.int hm1)) (by omega)) (by rw [List.length_replicate]; show 1 + (m - 1) ≤ 100000; omega)) fun p q H2 np nq npq e2 hp hq => ?_
    have np0 := fresh_back e1 np
    have nq0 := fresh_back e1 nq
    refine q_forNLn (xs := nv rest) (el_is (el_sl (ev_var rfl) (eo_some ev_c) eo_none (ex_l (e1.trans e2) hl)) (cut_from _ 1))
      (fun a i σ' H' => ∃ y z, σ' = [some (.ref l), some (.int m), some (.ref p), some (.ref q), y, z] ∧ Ex H H' ∧ a ≠ p ∧ a ≠ q ∧ H' a = some (.lst (nv rest)) ∧ H' p = some (.lst (nv (bst m rest i).1)) ∧ H' q = some (.lst ((bst m rest i).2.map enc)))
      (fun a H3 na e3 ha => ⟨none, none, rfl, (e1.trans e2).trans e3, (ne_of_none hp na).symm, (ne_of_none hq na).symm, ha, e3 p _ hp, ?_⟩) (fun a i σ' H' _ ⟨_, _, _, _, _, _, h, _⟩ => sq_of h) (fun a i x σ' H' hx hp' => ?_) (fun a σ' H' hp' => ?_)
    · rw [e3 q _ hq]
      show some (HO.lst (V.int 0 :: List.replicate (m - 1) V.non)) = some (HO.lst ((some 0 :: List.replicate (m - 1) none).map enc))
      rw [List.map_cons, List.map_replicate]
      rfl
    · obtain ⟨y, z, rfl, e3, nap, naq, ha, hp3, hq3⟩ := hp'
      obtain ⟨c, hc, rfl⟩ := nv_get hx
      have hL : (bst m rest i).2.length = m := by
        unfold bst
        rw [bsteps_len]
        show (some 0 :: List.replicate (m - 1) none).length = m
        rw [List.length_cons, List.length_replicate]
        omega
      have hcm : c % m < (bst m rest i).2.length := by rw [hL]; exact Nat.mod_lt _ hm
      obtain ⟨o, ho⟩ : ∃ o, (bst m rest i).2[c % m]? = some o := ⟨_, List.getElem?_eq_getElem hcm⟩
      have hmi : (c : Int) % (m : Int) = ((c % m : Nat) : Int) := rfl
      refine q_asg (ev_op (ev_var rfl) (ev_is (ev_op (ev_var rfl) (ev_var rfl) (rv_I (by omega))) (congrArg V.int hmi)) (rv_ixL (sq_of hq3) (atI_nat (enc_get ho)))) fun H4 e4 => ?_
      -- what the turn must come to
      have goal : ∀ (D : L2.Ends) (H5 : Hp), (∀ H6, (∃ y z, [some (V.ref l), some (V.int m), some (V.ref p), some (V.ref q), some (V.int c), some (enc o)] = [some (V.ref l), some (V.int m), some (V.ref p), some (V.ref q), y, z] ∧ Ex H H6 ∧ a ≠ p ∧ a ≠ q ∧ H6 a = some (.lst (nv rest)) ∧ H6 p = some (.lst (nv (bst m rest (i + 1)).1)) ∧ H6 q = some (.lst ((bst m rest (i + 1)).2.map enc))) → D.nx [some (V.ref l), some (V.int m), some (V.ref p), some (V.ref q), some (V.int c), some (enc o)] H6) →
          bstep m (bst m rest i) c = ((bst m rest i).1 ++ [c], rounds (bst m rest i).2 (c % m) c m (Nat.gcd (c % m) m)) → Ex H4 H5 →
          tSeq (tDrop (tBM K "list" rAppend (tVar 2) (tCons (tVar 4) tNil))) (tDrop (tCall sp_round_up [] E0 (tCons (tVar 3) (tCons (tVar 4) (tCons (tOp (rI (fun _ j => 0 < j) fun i j => .int (i % j)) (tVar 4) (tVar 1)) (tCons (tVar 1) tNil)))))) D [some (V.ref l), some (V.int m), some (V.ref p), some (V.ref q), some (V.int c), some (enc o)] H5 := fun D H5 hD eb e5 => by
        have hp5 : H5 p = some (.lst (nv (bst m rest i).1)) := e5 p _ (e4 p _ hp3)
        have hq5 : H5 q = some (.lst ((bst m rest i).2.map enc)) := e5 q _ (e4 q _ hq3)
        have ha5 : H5 a = some (.lst (nv rest)) := e5 a _ (e4 a _ ha)
        have hz : (nv (bst m rest i).1).length < 100000 := by
          rw [nv_len]
          have := bsteps_need (m := m) (rest.take i) (bst0 m)
          have h2 : (rest.take i).length ≤ rest.length := by rw [List.length_take]; omega
          unfold bst
          have h3 : (bst0 m).1.length = 1 := rfl
          omega
        refine q_app hp5 (ev_var rfl) (ev_var rfl) hz fun H6 e6 => ?_
        have hq6 : (upd H6 p (.lst (nv (bst m rest i).1 ++ [.int c]))) q = some (.lst ((bst m rest i).2.map enc)) := by
          rw [upd_ne npq.symm]
          exact e6 q _ hq5
        refine s_dropCall (ea_cons (ev_var rfl) (ea_cons (ev_var rfl) (ea_cons (ev_is (ev_op (ev_var rfl) (ev_var rfl) (rv_I (by omega))) (congrArg V.int hmi)) (ea_cons (ev_var rfl) ea_nil)))) fun H7 e7 => ?_
        refine ⟨q, (bst m rest i).2, c, c % m, m, rfl, e7 q _ hq6, hL, hm, hm2, fun H8 b8 h8 => hD H8 ⟨_, _, rfl, ?_, nap, naq, ?_, ?_, ?_⟩⟩
        · have e8 : Ex H (upd H6 p (.lst (nv (bst m rest i).1 ++ [.int c]))) := (((e3.trans e4).trans e5).trans e6).mut np0
          exact fun b u hb => b8 b u (ne_of_none hb nq0) (e7 b u (e8 b u hb))
        · refine b8 a _ naq (e7 a _ ?_)
          rw [upd_ne nap]
          exact e6 a _ ha5
        · rw [bst_next hc, eb, nv_app]
          exact b8 p _ npq (e7 p _ upd_same)
        · rw [bst_next hc, eb]
          exact h8
      cases o with
      | none =>
        refine s_when (b := true) (et_is (et_or (a := true) (b := true) (et_is (et_test (ev_op (ev_var rfl) ev_c rv_isN)) (by rfl)) fun z => by cases z) rfl) (fun _ H5 e5 => ?_) fun z => by cases z
        exact goal _ H5 (fun H6 h6 => h6) (by unfold bstep; rw [ho]) e5
      | some v =>
        refine s_when (b := decide ((c : Int) < (v : Int))) (et_is (et_or (a := false) (b := decide ((c : Int) < (v : Int))) (et_is (et_test (ev_op (ev_var rfl) ev_c rv_isN)) (by rfl)) fun _ => et_test (ev_op (x := .int (v : Int)) (y := .int (c : Int)) (ev_var rfl) (ev_var rfl) rv_I0)) (by simp)) (fun hb H5 e5 => ?_) fun hb H5 e5 => ?_
        · have hb' := of_decide_eq_true hb
          exact goal _ H5 (fun H6 h6 => h6) (by unfold bstep; rw [ho]; exact if_pos (by omega)) e5
        · have hb' := of_decide_eq_false hb
          have eb : bst m rest (i + 1) = bst m rest i := by rw [bst_next hc]; unfold bstep; rw [ho]; exact if_neg (by omega)
          refine ⟨_, _, rfl, (e3.trans e4).trans e5, nap, naq, e5 a _ (e4 a _ ha), ?_, ?_⟩
          · rw [eb]
            exact e5 p _ (e4 p _ hp3)
          · rw [eb]
            exact e5 q _ (e4 q _ hq3)
    · obtain ⟨y, z, rfl, e3, nap, naq, ha, hp3, hq3⟩ := hp'
      obtain ⟨TT, eT, hT⟩ := built_spec hm rest
      have eb : bst m rest (nv rest).length = (m :: needM [m] rest, TT) := by
        unfold bst
        rw [nv_len, List.take_length]
        exact eT
      rw [eb] at hp3 hq3
      refine s_retU (eu_tup (ea_cons (ev_var rfl) (ea_cons (ev_var rfl) ea_nil)) (by show 2 ≤ 100000; decide)) fun t H4 nt e4 ht => ?_
      exact k TT t p q H4 hT np0 nq0 (fresh_back e3 nt) (e3.trans e4) ht (e4 p _ hp3) (e4 q _ hq3)
end
end Pd

/-! sorted, stores to attributes, pairs. -/
namespace Pd
open PySem PySem.Spec PyProof.Rows L2 Evl
def srt (cs : List Nat) : List Nat := cs.mergeSort fun a b => decide (a ≤ b)
theorem srt_perm (cs : List Nat) : (srt cs).Perm cs := List.mergeSort_perm cs _
theorem srt_le (cs : List Nat) : (srt cs).Pairwise (· ≤ ·) := by
  have h := List.pairwise_mergeSort (le := fun a b : Nat => decide (a ≤ b)) (fun a b c h1 h2 => decide_eq_true (Nat.le_trans (of_decide_eq_true h1) (of_decide_eq_true h2))) (fun a b => by
    cases Nat.le_total a b with
    | inl q => simp [q]
    | inr q => simp [q]) cs
  exact h.imp fun q => of_decide_eq_true q
theorem srt_eq {cs : List Nat} (h : cs.Pairwise (· ≤ ·)) : srt cs = cs := List.Perm.eq_of_pairwise (fun a b _ _ h1 h2 => Nat.le_antisymm h1 h2) (srt_le cs) h (srt_perm cs)
theorem ints_sorted {cs : List Nat} {ns : List Int} (p : ns.Perm (cs.map fun (c : Nat) => (c : Int))) (s : ns.Pairwise (· ≤ ·)) : ns.map V.int = nv (srt cs) := by
  have h1 : ((srt cs).map fun (c : Nat) => (c : Int)).Pairwise (· ≤ ·) := List.pairwise_map.mpr ((srt_le cs).imp fun h => by omega)
  have h2 : ns = (srt cs).map fun (c : Nat) => (c : Int) := List.Perm.eq_of_pairwise (fun a b _ _ x y => Int.le_antisymm x y) s h1 (p.trans ((srt_perm cs).symm.map _))
  rw [h2, nv_ints]
section
variable {K : PySem.W.Frag} {σ : L2.St} {H H' : Hp} {ta tb te tx : TE} {x y z v : V}
theorem el_sortedT {a : Addr} {cs : List Nat} (ha : Ev ta σ H (.ref a)) (h : SqT K H a (nv cs)) : EvL (tCB (rSortedT K) (tCons ta tNil)) σ H (nv (srt cs)) := fun H1 e Q q =>
  ha H1 e _ fun H2 e2 => ⟨a, cs.map fun (c : Nat) => (c : Int), rfl, by rw [← nv_ints]; exact ex_t (e.trans e2) h, fun ns p hp hs np => by
    rw [ints_sorted hp hs]
    exact q p _ (fresh_back e2 np) (e2.trans (Ex.new np)) upd_same⟩
theorem el_sortedN {cs : List Nat} (ha : EvL ta σ H (nv cs)) : EvL (tCB (rSortedI K) (tCons ta tNil)) σ H (nv (srt cs)) := fun H1 e Q q =>
  ha H1 e _ fun a H2 na e2 h => ⟨a, cs.map fun (c : Nat) => (c : Int), rfl, by rw [← nv_ints]; exact sq_of h, fun ns p hp hs np => by
    rw [ints_sorted hp hs]
    exact q p _ (fresh_back e2 np) (e2.trans (Ex.new np)) upd_same⟩
/-- g = f(a new list) -/
theorem q_asgCallL {sp : Sp} {E : XK} {xs : List V} {D : L2.Ends} {g : TG} {tz : TS} (h : EvL te σ H xs) (k : ∀ p H1, H p = none → Ex H H1 → H1 p = some (.lst xs) → sp [.ref p] H1 (fun v H2 => g v σ H2 (tz D)) E) :
    tSeq (tAsg (tCall sp [] E (tCons te tNil)) g) tz D σ H := h H (Ex.refl H) _ k
theorem g_pair {i j : Nat} {a : Addr} {Q : L2.St → Hp → Prop} (h : H a = some (.tup [x, y])) (k : Q ((σ.set i (some x)).set j (some y)) H) : gTup K 2 (gCons (gName i) (gCons (gName j) gNil)) (.ref a) σ H Q :=
  ⟨a, [x, y], rfl, .inl (.inl h), rfl, x, [y], rfl, y, [], rfl, rfl, k⟩
theorem ev_fld {o C dx : Addr} {fs : List (Str × V)} {f : Str} (ho : Ev ta σ H (.ref o)) (h : H o = some (.ins C dx fs)) (c : Cls K C) (n : NoAttr K C f) (hv : fs.lookup f = some v) : Ev (tFld K ta f) σ H v := fun H1 e Q q =>
  ho H1 e _ fun H2 e2 => ⟨o, C, dx, fs, v, rfl, e2 _ _ (e _ _ h), c, n, hv, q H2 e2⟩
theorem s_fldU {o C dx : Addr} {fs : List (Str × V)} {f : Str} {xs : List V} {D : L2.Ends} (h : EvU te σ H xs) (ho : Ev ta σ H (.ref o)) (hi : H o = some (.ins C dx fs)) (c : Cls K C) (n : NoAttr K C f) (hz : fs.length < 1000)
    (k : ∀ p H1, H p = none → Ex H H1 → H1 p = some (.tup xs) → D.nx σ (upd H1 o (.ins C dx (putF f (.ref p) fs)))) : sFld K ta te f D σ H :=
  h H (Ex.refl H) _ fun p H1 np e1 hp => ho H1 e1 _ fun H2 e2 => ⟨o, C, dx, fs, rfl, e2 _ _ (e1 _ _ hi), c, n, hz, k p H2 np (e1.trans e2) (e2 _ _ hp)⟩
theorem q_fldU {o C dx : Addr} {fs : List (Str × V)} {f : Str} {xs : List V} {D : L2.Ends} {tz : TS} (h : EvU te σ H xs) (ho : Ev ta σ H (.ref o)) (hi : H o = some (.ins C dx fs)) (c : Cls K C) (n : NoAttr K C f) (hz : fs.length < 1000)
    (k : ∀ p H1, H p = none → Ex H H1 → H1 p = some (.tup xs) → tz D σ (upd H1 o (.ins C dx (putF f (.ref p) fs)))) : tSeq (sFld K ta te f) tz D σ H := s_fldU (D := { D with nx := tz D }) h ho hi c n hz k
end
end Pd

/-! check_coins, System. -/
namespace Pd
open PySem PySem.Spec PyProof.Rows L2 Evl
/-- coins that a system takes -/
structure Good (cs : List Nat) : Prop where
  ne : cs ≠ []
  len : cs.length ≤ 700
  rng : ∀ c ∈ cs, 1 ≤ c ∧ c ≤ 1000000
  nodup : cs.Nodup
  least : ∃ m ∈ cs, m ≤ 2000 ∧ ∀ c ∈ cs, m ≤ c
  gcd : gcdL cs = 1
theorem dvd_gcdF {d : Nat} : ∀ (cs : List Nat) (a : Nat), d ∣ cs.foldl Nat.gcd a ↔ d ∣ a ∧ ∀ c ∈ cs, d ∣ c
  | [], a => by simp
  | c :: r, a => by
    rw [List.foldl_cons, dvd_gcdF r, Nat.dvd_gcd_iff]
    simp only [List.mem_cons, forall_eq_or_imp]
    constructor
    · rintro ⟨⟨h1, h2⟩, h3⟩
      exact ⟨h1, h2, h3⟩
    · rintro ⟨h1, h2, h3⟩
      exact ⟨⟨h1, h2⟩, h3⟩
theorem gcdL_one {cs : List Nat} : gcdL cs = 1 ↔ ∀ d, (∀ c ∈ cs, d ∣ c) → d = 1 := by
  constructor
  · intro h d hd
    have : d ∣ gcdL cs := (dvd_gcdF cs 0).mpr ⟨Nat.dvd_zero d, hd⟩
    rw [h] at this
    exact Nat.dvd_one.mp this
  · intro h
    exact h _ ((dvd_gcdF cs 0).mp (Nat.dvd_refl _)).2
theorem gcdL_perm {cs ds : List Nat} (p : cs.Perm ds) (h : gcdL cs = 1) : gcdL ds = 1 := gcdL_one.mpr fun d hd => gcdL_one.mp h d fun c hc => hd c (p.mem_iff.mp hc)
theorem take_notMem {cs : List Nat} {n c : Nat} (nd : cs.Nodup) (h : cs[n]? = some c) : c ∉ cs.take n := by
  intro hm
  obtain ⟨lt, e⟩ := List.getElem?_eq_some_iff.mp h
  obtain ⟨i, hi, e2⟩ := List.mem_take_iff_getElem.mp hm
  have hin : i < n := by omega
  have hil : i < cs.length := by omega
  have := (List.getElem_inj (h₀ := hil) (h₁ := lt) nd).mp (by rw [e2, e])
  omega
section
variable {P : Program} {w : World} {K : PySem.W.Frag} {mg : Str → Option Value} {base : Heap}
def sp_check_coins : Sp := fun vs H Q _ => ∃ (t : Addr) (cs : List Nat), vs = [.ref t] ∧ H t = some (.tup (nv cs)) ∧ Good cs ∧ RetV .non H Q
theorem ok_check_coins (T : Top K mg) : FnOk P w K mg base CX0 4 T.a_check_coins T.fd_check_coins ["coins"] sp_check_coins := by
  refine T.F_check_coins.ok sc_check_coins (fun vs H Q E h => ?_) (fun cdv A outer s H vs Q E hr h => ?_)
  · obtain ⟨t, cs, rfl, _⟩ := h
    rfl
  · obtain ⟨t, cs, rfl, ht, G, k⟩ := h
    have nd := sc_check_coins.nd
    refine ⟨_, (pss_cons (ps_if (PW.pt (pw_or (pt_not (pt_val (pe_callB call_isi (by rfl) T.z_isinstance (by decide +kernel) (pa_cons (pv 0) (pa_cons (pe_bltn (v := .ty "tuple") (u := .type "tuple") (by rfl) T.z_tuple (by decide +kernel) rfl) pa_nil))))) (pw_or1 (pt_cmpR op_eq (pe_callB call_len_seq (by rfl) T.z_len PySem.boot_len (pa_cons (pv 0) pa_nil)) pe_int (nomark _))))) pss_dead pss_nil) (pss_cons (ps_for PassesOwn.never rfl (pi_enumT (by rfl) T.z_enumerate (pa_cons (pv 0) pa_nil)) (pg_tup rfl (pgs_cons (pg_name (i := 1) nd rfl (Or.inl rfl)) (pgs_cons (pg_name (i := 2) nd rfl (Or.inl rfl)) pgs_nil))) (pss_one (ps_if (PW.pt (pw_or (pt_cmpR op_ge (pv 1) (pe_glob (v := .int 700) rfl T.c_MOST_COINS ⟨_, rfl⟩) (nomark _)) (pw_or (pt_not (pt_val (pe_call (ok_is_within T) (hr.mono (by decide)) (by rfl) T.g_is_within T.F_is_within.kp T.b_is_within .nil pass0 (pa_cons (pv 2) (pa_cons pe_int (pa_cons (pe_glob (v := .int 1000000) rfl T.c_MOST_COIN ⟨_, rfl⟩) pa_nil)))))) (pw_or1 (pt_cmpR op_in_seq (pv 2) (pe_slice sl_tupA (pv 0) po_none (po_some (pv 1))) rfl))))) pss_dead pss_nil))) (pss_one (ps_if (PW.pt (pw_or (pt_cmpR op_gt (pe_callB (cr_minT rfl) (by rfl) T.z_min (by decide +kernel) (pa_cons (pv 0) pa_nil)) (pe_glob (v := .int 2000) rfl T.c_MOST_LEAST ⟨_, rfl⟩) (nomark _)) (pw_or1 (pt_cmpR op_ne (pe_call (ok_common_of T) (hr.mono (by decide)) (by rfl) T.g_common_of T.F_common_of.kp T.b_common_of .nil pass0 (pa_cons (pv 0) pa_nil)) pe_int (nomark _))))) pss_dead pss_nil)))), ?_⟩
    have hlen : ¬ ((nv cs).length : Int) = 0 := by
      rw [nv_len]
      have := List.length_pos_iff.mpr G.ne
      omega
    refine q_when (b := false) (et_is (et_or (a := false) (b := false) (et_is (et_not (a := true) (et_B (ev_cb (ea_cons (ev_var rfl) (ea_cons ev_c ea_nil)) (rc_isi (.ty "tuple") (fun H1 e1 => ty_tup (e1 _ _ ht)) (kit_ty (by decide +kernel)))))) rfl) fun _ => et_is (et_test (ev_op (ev_lenS (K := K) (ev_var rfl) (.inr (st_of ht))) ev_c (rv_eq rfl))) (decide_eq_false fun z => hlen (V.int.inj z))) rfl) (fun z => by cases z) fun _ H1 e1 => ?_
    refine q_forEnumT (K := K) (ea_cons (ev_var rfl) ea_nil) (st_of (e1 _ _ ht)) (fun n σ' H' => ∃ a b, σ' = [some (.ref t), a, b] ∧ Ex H H') (fun H2 e2 => ⟨none, none, rfl, e1.trans e2⟩) (fun n σ' H' _ ⟨_, _, _, e⟩ => st_of (e _ _ ht)) (fun n x σ' H' H2 hx hp e2 => ?_) (fun σ' H' hp => ?_)
    · obtain ⟨a, b, rfl, e⟩ := hp
      obtain ⟨c, hc, rfl⟩ := nv_get hx
      have hn : n < cs.length := (List.getElem?_eq_some_iff.mp hc).1
      have hmem : c ∈ cs := List.mem_of_getElem? hc
      obtain ⟨c1, c2⟩ := G.rng c hmem
      have g1 : decide ((700 : Int) ≤ (n : Int)) = false := decide_eq_false (by have := G.len; omega)
      have g2 : (decide ((1 : Int) ≤ (c : Int)) && decide ((c : Int) ≤ 1000000)) = true := by rw [decide_eq_true (by omega), decide_eq_true (by omega)]; rfl
      have g3 : inV (.int (c : Int)) ((nv cs).take n) = false := by
        have : (nv cs).take n = nv (cs.take n) := List.map_take.symm
        rw [this, inV_nv]
        exact decide_eq_false (take_notMem G.nodup hc)
      have ht2 : SqT K H2 t (nv cs) := st_of ((e.trans e2) _ _ ht)
      refine s_when (b := false) (et_is (et_or (a := false) (b := false) (et_is (et_test (ev_op (ev_var rfl) ev_c rv_I0)) g1) fun _ => et_or (a := false) (b := false) (et_is (et_not (a := true) (et_B (ev_is (ev_call (ea_cons (ev_var rfl) (ea_cons ev_c (ea_cons ev_c ea_nil))) (sv_is_within _ _ _)) (congrArg V.bl g2)))) rfl) fun _ => et_is (et_test (ev_inS (K := K) (ev_var rfl) (EvS.slTo (ev_var rfl) ht2 (ev_var rfl)) rfl ?_)) g3) rfl) (fun z => by cases z) fun _ H3 e3 => ⟨_, _, rfl, (e.trans e2).trans e3⟩
      rw [List.all_eq_true]
      intro y hy
      exact List.all_eq_true.mp (nv_flat cs) y (List.mem_of_mem_take hy)
    · obtain ⟨a, b, rfl, e⟩ := hp
      obtain ⟨m, hm, hm2, hml⟩ := G.least
      have htT : SqT K H' t ((cs.map fun (c : Nat) => (c : Int)).map V.int) := by rw [← nv_ints]; exact st_of (e _ _ ht)
      have g1 : decide ((2000 : Int) < (m : Int)) = false := decide_eq_false (by omega)
      have g2 : (!decide (V.int ((gcdL cs : Nat) : Int) = V.int 1)) = false := by rw [G.gcd]; rfl
      refine s_when (b := false) (et_is (et_or (a := false) (b := false) (et_is (et_test (ev_op (ev_minT (K := K) (m := (m : Int)) (ev_var rfl) htT (List.mem_map.mpr ⟨m, hm, rfl⟩) fun y hy => ?_) ev_c rv_I0)) g1) fun _ => et_is (et_test (ev_op (ev_call (ea_cons (ev_var rfl) ea_nil) (sv_common_of (K := K) (.inr (st_of (e _ _ ht))))) ev_c (rv_ne rfl))) g2) rfl) (fun z => by cases z) fun _ H3 e3 => k H3 (e.trans e3)
      obtain ⟨c, hc, rfl⟩ := List.mem_map.mp hy
      have := hml c hc
      omega
/-! ### System -/
theorem nc_ : ¬ (("needed_coins" : Str) = "coins") := by decide +kernel
theorem cn_ : ¬ (("coins" : Str) = "needed_coins") := by decide +kernel
theorem cr_ : ¬ (("coins" : Str) = "rests") := by decide +kernel
theorem nr_ : ¬ (("needed_coins" : Str) = "rests") := by decide +kernel
theorem putF_len (f : Str) (v : V) : ∀ fs : List (Str × V), (putF f v fs).length ≤ fs.length + 1
  | [] => Nat.le_refl _
  | (g, x) :: r => by
    show (if g = f then (g, v) :: r else (g, x) :: putF f v r).length ≤ r.length + 1 + 1
    split
    · rw [List.length_cons]; omega
    · rw [List.length_cons]; have := putF_len f v r; omega
def sysF (a b c : V) : List (Str × V) := putF "rests" c (putF "needed_coins" b (putF "coins" a []))
theorem sysF_need (a b c : V) : (sysF a b c).lookup ("needed_coins" : Str) = some b := by
  unfold sysF
  rw [lookup_putF, if_neg nr_, lookup_putF, if_pos rfl]
theorem sysF_rests (a b c : V) : (sysF a b c).lookup ("rests" : Str) = some c := by
  unfold sysF
  rw [lookup_putF, if_pos rfl]
theorem put1_coins (a : V) : (putF "coins" a []).lookup ("coins" : Str) = some a := by rw [lookup_putF, if_pos rfl]
/-- a system stands at x: its needed coins, its rests -/
def SysAt (C : Addr) (H : Hp) (x : Addr) (nd W : List Nat) : Prop := ∃ (dx b c : Addr) (a : V), H x = some (.ins C dx (sysF a (.ref b) (.ref c))) ∧ H b = some (.tup (nv nd)) ∧ H c = some (.tup (nv W))
theorem SysAt.ex {C x : Addr} {H H' : Hp} {nd W : List Nat} (h : SysAt C H x nd W) (e : Ex H H') : SysAt C H' x nd W := by
  obtain ⟨dx, b, c, a, h1, h2, h3⟩ := h
  exact ⟨dx, b, c, a, e _ _ h1, e _ _ h2, e _ _ h3⟩
def sp_System_init (C : Addr) : Sp := fun vs H Q _ => ∃ (x t dx : Addr) (cs : List Nat), vs = [.ref x, .ref t] ∧ H x = some (.ins C dx []) ∧ H t = some (.tup (nv cs)) ∧ Good cs ∧
  ∀ (m : Nat) (rest W : List Nat) (H' : Hp), (m :: rest).Perm cs → (m :: rest).Pairwise (· ≤ ·) → Rests m (m :: rest) W → Bt x H H' → SysAt C H' x (m :: needM [m] rest) W → Q .non H'
theorem sorted_cons {ns : List Nat} (h : ns ≠ []) : ∃ m rest, ns = m :: rest := by
  cases ns with
  | nil => exact absurd rfl h
  | cons m r => exact ⟨m, r, rfl⟩
theorem ok_System_init (T : Top K mg) : FnOk P w K mg base CX0 5 T.a_System_init T.fd_System_init ["self", "coins"] (sp_System_init T.a_System) := by
  refine T.F_System_init.ok sc_System_init (fun vs H Q E h => ?_) (fun cdv A outer s H vs Q E hr h => ?_)
  · obtain ⟨x, t, dx, cs, rfl, _⟩ := h
    rfl
  · obtain ⟨x, t, dx, cs, rfl, hx, ht, G, k⟩ := h
    have nd := sc_System_init.nd
    have cl : Cls K T.a_System := T.i_System.cl
    refine ⟨_, (pss_cons (ps_expr (pe_call (ok_check_coins T) (hr.mono (by decide)) (by rfl) T.g_check_coins T.F_check_coins.kp T.b_check_coins .nil pass0 (pa_cons (pv 1) pa_nil))) (pss_cons (ps_fld (pv 0) (pe_callTy call_tuple_of (by rfl) T.z_tuple (by decide +kernel) (pa_cons (pe_callB cr_sortedT' (by rfl) T.z_sorted (by decide +kernel) (pa_cons (pv 1) pa_nil)) pa_nil)) rfl) (pss_cons (ps_asg (pe_call (ok_built T) (hr.mono (by decide)) (by rfl) T.g_built T.F_built.kp T.b_built .nil pass0 (pa_cons (pe_callTy call_list_of (by rfl) T.z_list (by decide +kernel) (pa_cons (pe_fld (pv 0) rfl) pa_nil)) pa_nil)) (pg_tup rfl (pgs_cons (pg_name (i := 2) nd rfl (Or.inl rfl)) (pgs_cons (pg_name (i := 3) nd rfl (Or.inl rfl)) pgs_nil)))) (pss_cons (ps_fld (pv 0) (pe_callTy call_tuple_of (by rfl) T.z_tuple (by decide +kernel) (pa_cons (pv 2) pa_nil)) rfl) (pss_one (ps_fld (pv 0) (pe_callTy call_tuple_of (by rfl) T.z_tuple (by decide +kernel) (pa_cons (pv 3) pa_nil)) rfl)))))), ?_⟩
    have ntx : t ≠ x := ne_of ht hx (by intro z; cases z)
    refine q_dropCall (ea_cons (ev_var rfl) ea_nil) fun H1 e1 => ⟨t, cs, rfl, e1 _ _ ht, G, fun H2 e2 => ?_⟩
    -- self.coins = tuple(sorted(coins))
    have hx2 := e2 _ _ (e1 _ _ hx)
    have b2 : Ex H H2 := e1.trans e2
    refine q_fldU (eu_tupOf (K := K) (el_sortedT (ev_var rfl) (st_of (b2 _ _ ht)))) (ev_var rfl) hx2 cl T.n_System_coins (by show 0 < 1000; decide) fun p H3 np e3 hp => ?_
    have px : p ≠ x := (ne_of_none hx2 np).symm
    have hp4 : (upd H3 x (.ins T.a_System dx (putF "coins" (.ref p) []))) p = some (.tup (nv (srt cs))) := by rw [upd_ne px]; exact hp
    have b4 : Bt x H (upd H3 x (.ins T.a_System dx (putF "coins" (.ref p) []))) := (Bt.of (b2.trans e3)).up
    generalize hH4 : upd H3 x (.ins T.a_System dx (putF "coins" (.ref p) [])) = H4 at hp4 b4
    have hx4 : H4 x = some (.ins T.a_System dx (putF "coins" (.ref p) [])) := by rw [← hH4]; exact upd_same
    -- needed_ones, table = built(list(self.coins))
    have pm := srt_perm cs
    obtain ⟨m, rest, es⟩ := sorted_cons (ns := srt cs) (fun z => G.ne (by rw [z] at pm; exact List.nil_perm.mp pm))
    rw [es] at pm hp4
    have so : (m :: rest).Pairwise (· ≤ ·) := es ▸ srt_le cs
    have mm : m ∈ cs := pm.mem_iff.mp (by simp)
    have hm1 := (G.rng m mm).1
    have hm2 : m ≤ 2000 := by
      obtain ⟨a, ha, ha2, _⟩ := G.least
      rcases List.mem_cons.mp (pm.mem_iff.mpr ha) with rfl | h
      · exact ha2
      · exact Nat.le_trans ((List.pairwise_cons.mp so).1 a h) ha2
    have ln := pm.length_eq
    refine q_asgCallL (el_listOfT (K := K) (ev_fld (ev_var rfl) hx4 cl T.n_System_coins (put1_coins _)) (st_of hp4)) fun l H5 nl e5 hl => ?_
    refine ⟨l, m, rest, rfl, sq_of hl, hm1, hm2, by rw [List.length_cons] at ln; have := G.len; omega, fun TT t' p' q' H6 hT np' nq' nt' e6 ht' hp' hq' => ?_⟩
    refine g_pair ht' ?_
    have hx6 : H6 x = some (.ins T.a_System dx (putF "coins" (.ref p) [])) := e6 _ _ (e5 _ _ hx4)
    have b6 : Bt x H H6 := (b4.ex e5).ex e6
    obtain ⟨W, eW, R⟩ := hT.whole hm1 (by simp) (gcdL_perm pm.symm G.gcd)
    -- self.needed_coins = tuple(needed_ones)
    refine q_fldU (eu_tupOfL (K := K) (ev_var rfl) (sq_of hp')) (ev_var rfl) hx6 cl T.n_System_needed_coins (by show 1 < 1000; decide) fun u H7 nu e7 hu => ?_
    have ux : u ≠ x := (ne_of_none hx6 nu).symm
    have qx : q' ≠ x := ne_of hq' hx6 (by intro z; cases z)
    have b8 : Bt x H (upd H7 x (.ins T.a_System dx (putF "needed_coins" (.ref u) (putF "coins" (.ref p) [])))) := (b6.ex e7).up
    have hu8 : (upd H7 x (.ins T.a_System dx (putF "needed_coins" (.ref u) (putF "coins" (.ref p) [])))) u = some (.tup (nv (m :: needM [m] rest))) := by rw [upd_ne ux]; exact hu
    have hq8 : (upd H7 x (.ins T.a_System dx (putF "needed_coins" (.ref u) (putF "coins" (.ref p) [])))) q' = some (.lst (TT.map enc)) := by rw [upd_ne qx]; exact e7 _ _ hq'
    have hx8 : (upd H7 x (.ins T.a_System dx (putF "needed_coins" (.ref u) (putF "coins" (.ref p) [])))) x = some (.ins T.a_System dx (putF "needed_coins" (.ref u) (putF "coins" (.ref p) []))) := upd_same
    generalize upd H7 x (.ins T.a_System dx (putF "needed_coins" (.ref u) (putF "coins" (.ref p) []))) = H8 at b8 hu8 hq8 hx8
    -- self.rests = tuple(table)
    refine s_fldU (eu_tupOfL (K := K) (ev_var rfl) (sq_of hq8)) (ev_var rfl) hx8 cl T.n_System_rests (by have h1 := putF_len "needed_coins" (.ref u) (putF "coins" (.ref p) []); have h2 := putF_len "coins" (.ref p) []; rw [List.length_nil] at h2; omega) fun r H9 nr e9 hr9 => ?_
    have rx : r ≠ x := (ne_of_none hx8 nr).symm
    refine k m rest W _ pm so R ((b8.ex e9).up) ⟨dx, u, r, .ref p, upd_same, ?_, ?_⟩
    · rw [upd_ne ux]
      exact e9 _ _ hu8
    · rw [upd_ne rx, hr9, eW, List.map_map]
      rfl
end
end Pd

/-! Rows of ints by a function; walks over tuples new or old. -/
namespace Pd
open PySem PySem.Spec PyProof.Rows L2 Evl
/-- f 0, f 1, .. as values -/
def iv (f : Nat → Int) (n : Nat) : List V := (List.range n).map fun k => V.int (f k)
theorem iv_len (f : Nat → Int) (n : Nat) : (iv f n).length = n := by unfold iv; rw [List.length_map, List.length_range]
theorem iv_get {f : Nat → Int} {n k : Nat} (h : k < n) : (iv f n)[k]? = some (.int (f k)) := by
  unfold iv
  rw [List.getElem?_map, List.getElem?_range h]
  rfl
theorem iv_of {f : Nat → Int} {n k : Nat} {x : V} (h : (iv f n)[k]? = some x) : k < n ∧ x = .int (f k) := by
  have lt : k < n := by
    have := (List.getElem?_eq_some_iff.mp h).1
    rwa [iv_len] at this
  rw [iv_get lt] at h
  exact ⟨lt, (Option.some.inj h).symm⟩
theorem iv_succ (f : Nat → Int) (n : Nat) : iv f (n + 1) = iv f n ++ [.int (f n)] := by
  unfold iv
  rw [List.range_succ, List.map_append]
  rfl
theorem iv_congr {f g : Nat → Int} {n : Nat} (h : ∀ k, k < n → f k = g k) : iv f n = iv g n := by
  unfold iv
  refine List.map_congr_left fun k hk => ?_
  rw [h k (List.mem_range.mp hk)]
theorem iv_set {f g : Nat → Int} {n j : Nat} (hj : j < n) (h : ∀ k, k < n → k ≠ j → f k = g k) : (iv f n).set j (.int (g j)) = iv g n := by
  apply List.ext_getElem?
  intro k
  rw [List.getElem?_set]
  by_cases e : j = k
  · subst e
    rw [if_pos rfl, if_pos (by rw [iv_len]; exact hj), iv_get hj]
  · rw [if_neg e]
    by_cases hk : k < n
    · rw [iv_get hk, iv_get hk, h k hk (fun z => e z.symm)]
    · rw [List.getElem?_eq_none (by rw [iv_len]; omega), List.getElem?_eq_none (by rw [iv_len]; omega)]
theorem iv_rep (c : Int) (n : Nat) : List.replicate n (V.int c) = iv (fun _ => c) n := by
  unfold iv
  rw [List.map_const', List.length_range]
theorem iv_app (f g : Nat → Int) (a b : Nat) : iv f a ++ iv g b = iv (fun k => if k < a then f k else g (k - a)) (a + b) := by
  apply List.ext_getElem?
  intro k
  rw [List.getElem?_append]
  by_cases h : k < a
  · rw [if_pos (by rw [iv_len]; exact h), iv_get h, iv_get (by omega), if_pos h]
  · rw [if_neg (by rw [iv_len]; exact h), iv_len]
    by_cases h2 : k < a + b
    · rw [iv_get (by omega), iv_get h2, if_neg h]
    · rw [List.getElem?_eq_none (by rw [iv_len]; omega), List.getElem?_eq_none (by rw [iv_len]; omega)]
theorem iv_one (c : Int) : [V.int c] = iv (fun _ => c) 1 := rfl
theorem iv_sum (f : Nat → Int) : ∀ n, ((List.range n).map f).sum = sumN f n
  | 0 => rfl
  | n + 1 => by
    rw [List.range_succ, List.map_append, List.sum_append, iv_sum f n]
    show sumN f n + (f n + 0) = sumN f n + f n
    rw [Int.add_zero]
theorem iv_ints (f : Nat → Int) (n : Nat) : iv f n = ((List.range n).map f).map V.int := by unfold iv; rw [List.map_map]; rfl
/-- sums over what a comprehension gives -/
theorem given_ints {n : Nat} {f : Nat → Bool} {v : Nat → Int} : ∃ ns : List Int, given n f (fun k => V.int (v k)) = ns.map V.int ∧ ns.sum = sumN (fun k => if f k = true then v k else 0) n := by
  refine ⟨((List.range n).filter f).map v, by unfold given; rw [List.map_map]; rfl, ?_⟩
  induction n with
  | zero => rfl
  | succ n ih =>
    rw [List.range_succ, List.filter_append, List.map_append, List.sum_append, ih]
    show _ + ((List.filter f [n]).map v).sum = sumN _ n + (if f n = true then v n else 0)
    by_cases h : f n = true
    · rw [List.filter_cons_of_pos h, if_pos h]
      show _ + (v n + 0) = _
      rw [Int.add_zero]
    · rw [List.filter_cons_of_neg h, if_neg h]
      rfl
section
variable {K : PySem.W.Frag} {σ : L2.St} {H H' : Hp} {ta tb te tx tl : TE} {x y z v : V} {t u : TT} {r : R2}
/-- for x in a tuple, new or old -/
theorem s_forS {xs : List V} {j : Nat} {tu : TS} {D : L2.Ends} (h : EvS K tl σ H xs) (Pv : Nat → L2.St → Hp → Prop) (h0 : ∀ H1, Ex H H1 → Pv 0 σ H1) (hex : ∀ i σ' H', Pv i σ' H' → Ex H H')
    (hk : ∀ a H1, Ex H H1 → SqT K H1 a xs → ∀ i σ' H', Pv i σ' H' → SqT K H' a xs)
    (hs : ∀ i x σ' H', xs[i]? = some x → Pv i σ' H' → tu { D with nx := Pv (i + 1), ct := Pv (i + 1), bk := D.nx } (σ'.set j (some x)) H') (hd : ∀ σ' H', Pv xs.length σ' H' → D.nx σ' H') : tFor (iTup K tl) (gName j) tu D σ H :=
  h H (Ex.refl H) _ fun a H1 e hx => ⟨a, rfl, ⟨xs, hx⟩, for_tup Pv (h0 H1 e) (fun i σ' H' _ p => hk a H1 e hx i σ' H' p) hs hd⟩
/-- the same with a word that the tuple stands beside it -/
theorem s_forSx {xs : List V} {j : Nat} {tu : TS} {D : L2.Ends} (h : EvS K tl σ H xs) (Pv : Nat → L2.St → Hp → Prop) (h0 : ∀ H1, Ex H H1 → Pv 0 σ H1)
    (hs : ∀ (Z : Hp → Prop), (∀ H1 H2, Z H1 → Ex H1 H2 → Z H2) → ∀ i x σ' H', xs[i]? = some x → Pv i σ' H' → Z H' → tu { D with nx := fun σ2 H2 => Pv (i + 1) σ2 H2 ∧ Z H2, ct := fun σ2 H2 => Pv (i + 1) σ2 H2 ∧ Z H2, bk := D.nx } (σ'.set j (some x)) H')
    (hd : ∀ σ' H', Pv xs.length σ' H' → D.nx σ' H') : tFor (iTup K tl) (gName j) tu D σ H :=
  h H (Ex.refl H) _ fun a H1 e hx => ⟨a, rfl, ⟨xs, hx⟩, for_tup (fun i σ' H' => Pv i σ' H' ∧ SqT K H' a xs) ⟨h0 H1 e, hx⟩ (fun i σ' H' _ p => p.2) (fun i x σ' H' hi p => hs (fun H2 => SqT K H2 a xs) (fun _ _ q e2 => ex_t e2 q) i x σ' H' hi p.1 p.2) fun σ' H' p => hd σ' H' p.1⟩
theorem q_forSx {xs : List V} {j : Nat} {tu tz : TS} {D : L2.Ends} (h : EvS K tl σ H xs) (Pv : Nat → L2.St → Hp → Prop) (h0 : ∀ H1, Ex H H1 → Pv 0 σ H1)
    (hs : ∀ (Z : Hp → Prop), (∀ H1 H2, Z H1 → Ex H1 H2 → Z H2) → ∀ i x σ' H', xs[i]? = some x → Pv i σ' H' → Z H' → tu { D with nx := fun σ2 H2 => Pv (i + 1) σ2 H2 ∧ Z H2, ct := fun σ2 H2 => Pv (i + 1) σ2 H2 ∧ Z H2, bk := tz D } (σ'.set j (some x)) H')
    (hd : ∀ σ' H', Pv xs.length σ' H' → tz D σ' H') : tSeq (tFor (iTup K tl) (gName j) tu) tz D σ H := s_forSx (D := { D with nx := tz D }) h Pv h0 hs hd
/-- xs[i] += e -/
theorem s_augL {l : Addr} {xs : List V} {j : Nat} {a b : Int} {D : L2.Ends} (hl : H l = some (.lst xs)) (ho : Ev ta σ H (.ref l)) (hi : Ev tb σ H (.int (j : Int))) (hx : xs[j]? = some (.int a)) (he : Ev te σ H (.int b))
    (k : ∀ H1, Ex H H1 → D.nx σ (upd H1 l (.lst (xs.set j (.int (a + b)))))) : tAugS ta tb te (rGetL K) (ipI fun i j => i + j) rSetL D σ H :=
  ho H (Ex.refl H) _ fun H1 e1 => hi H1 e1 _ fun H2 e2 => ⟨l, xs, j, .int a, rfl, rfl, sq_of ((e1.trans e2) _ _ hl), hx, he H2 (e1.trans e2) _ fun H3 e3 => ⟨a, b, rfl, rfl, l, xs, (j : Int), j, rfl, rfl, ((e1.trans e2).trans e3) _ _ hl, ixN_nat (List.getElem?_eq_some_iff.mp hx).1, k H3 ((e1.trans e2).trans e3)⟩⟩
/-- list[int] at a place -/
theorem ev_ixL {a : Addr} {xs : List V} {j : Nat} (h : Ev ta σ H (.ref a)) (hx : SqL K H a xs) (hi : Ev tb σ H (.int (j : Int))) (hv : xs[j]? = some v) : Ev (tOp (rIxL K) ta tb) σ H v := ev_op h hi (rv_ixL hx (atI_nat hv))
theorem ev_ixT {a : Addr} {xs : List V} {j : Nat} (h : Ev ta σ H (.ref a)) (hx : SqT K H a xs) (hi : Ev tb σ H (.int (j : Int))) (hv : xs[j]? = some v) : Ev (tOp (rIxT K) ta tb) σ H v := ev_op h hi (rv_ixT hx (atI_nat hv))
theorem ev_intI {i : Int} (h : Ev ta σ H (.int i)) : Ev (tCB (fun xs H Q => (∃ i, xs = [.int i] ∧ Q (.int i) H) ∨ ∃ k, xs = [.bl k] ∧ Q (.int (if k then 1 else 0)) H) (tCons ta tNil)) σ H (.int i) := fun H1 e Q q => h H1 e _ fun H2 e2 => .inl ⟨i, rfl, q H2 e2⟩
theorem ev_intB {b : Bool} (h : Ev ta σ H (.bl b)) : Ev (tCB (fun xs H Q => (∃ i, xs = [.int i] ∧ Q (.int i) H) ∨ ∃ k, xs = [.bl k] ∧ Q (.int (if k then 1 else 0)) H) (tCons ta tNil)) σ H (.int (if b then 1 else 0)) := fun H1 e Q q => h H1 e _ fun H2 e2 => .inr ⟨b, rfl, q H2 e2⟩
end
end Pd

/-! check_system, check_sum, pays_of, greatest_of, poly_of, product, over_line, trimmed. -/
namespace Pd
open PySem PySem.Spec PyProof.Rows L2 Evl
/-- a system with least coin m, the others tl, and its rests -/
structure SyAt (C : Addr) (H : Hp) (x : Addr) (m : Nat) (tl W : List Nat) : Prop where
  at_ : SysAt C H x (m :: tl) W
  rests : Rests m (m :: tl) W
  pos : ∀ c ∈ m :: tl, 0 < c
theorem SyAt.ex {C x : Addr} {H H' : Hp} {m : Nat} {tl W : List Nat} (h : SyAt C H x m tl W) (e : Ex H H') : SyAt C H' x m tl W := ⟨h.at_.ex e, h.rests, h.pos⟩
theorem SyAt.hm {C x : Addr} {H : Hp} {m : Nat} {tl W : List Nat} (h : SyAt C H x m tl W) : 0 < m := h.pos m (by simp)
section
variable {K : PySem.W.Frag} {σ : L2.St} {H H' : Hp} {ta tb te tx : TE} {x y z v : V}
theorem rc_isC {a C dx : Addr} {fs : List (Str × V)} (h : H a = some (.ins C dx fs)) : RC (fun xs H Q => ∃ a dx fs, xs = [.ref a, .ref C] ∧ H a = some (.ins C dx fs) ∧ Q (.bl true) H) [.ref a, .ref C] H (.bl true) := fun H1 e Q q => ⟨a, dx, fs, rfl, e _ _ h, q H1 (Ex.refl _)⟩
theorem el_callL1 {sp : Sp} {E : XK} {xs zs : List V} (h : EvL te σ H xs) (hs : ∀ p H1, Ex H H1 → H1 p = some (.lst xs) → SpL sp [.ref p] H1 zs) : EvL (tCall sp [] E (tCons te tNil)) σ H zs := fun H1 e Q q =>
  h H1 e _ fun p H2 np e2 hp => hs p H2 (e.trans e2) hp H2 (Ex.refl H2) Q (fun p' H3 np' e3 h3 => q p' H3 (fresh_back e2 np') (e2.trans e3) h3) E
theorem el_callVL {sp : Sp} {E : XK} {xs zs : List V} (ha : Ev ta σ H x) (h : EvL te σ H xs) (hs : ∀ p H1, Ex H H1 → H1 p = some (.lst xs) → SpL sp [x, .ref p] H1 zs) : EvL (tCall sp [] E (tCons ta (tCons te tNil))) σ H zs := fun H1 e Q q =>
  ha H1 e _ fun H2 e2 => h H2 (e.trans e2) _ fun p H3 np e3 hp => hs p H3 ((e.trans e2).trans e3) hp H3 (Ex.refl H3) Q (fun p' H4 np' e4 h4 => q p' H4 (fresh_back (e2.trans e3) np') ((e2.trans e3).trans e4) h4) E
theorem el_callLV {sp : Sp} {E : XK} {xs zs : List V} (h : EvL te σ H xs) (ha : Ev ta σ H x) (hs : ∀ p H1, Ex H H1 → H1 p = some (.lst xs) → SpL sp [.ref p, x] H1 zs) : EvL (tCall sp [] E (tCons te (tCons ta tNil))) σ H zs := fun H1 e Q q =>
  h H1 e _ fun p H2 np e2 hp => ha H2 (e.trans e2) _ fun H3 e3 => hs p H3 ((e.trans e2).trans e3) (e3 _ _ hp) H3 (Ex.refl H3) Q (fun p' H4 np' e4 h4 => q p' H4 (fresh_back (e2.trans e3) np') ((e2.trans e3).trans e4) h4) E
def RetU (xs : List V) (H : Hp) (Q : VK) : Prop := ∀ p H2, H p = none → Ex H H2 → H2 p = some (.tup xs) → Q (.ref p) H2
theorem RetU.go {xs : List V} {Q : VK} (k : RetU xs H Q) (e : Ex H H') {p : Addr} {H2 : Hp} (hp : H' p = none) (e2 : Ex H' H2) (h : H2 p = some (.tup xs)) : Q (.ref p) H2 := k p H2 (fresh_back e hp) (e.trans e2) h
def SpU (sp : Sp) (vs : List V) (H : Hp) (xs : List V) : Prop := ∀ H1, Ex H H1 → ∀ Q : VK, (∀ p H2, H1 p = none → Ex H1 H2 → H2 p = some (.tup xs) → Q (.ref p) H2) → ∀ E : XK, sp vs H1 Q E
theorem eu_call {sp : Sp} {vs xs : List V} {E : XK} {ta : TA} (h : EvA ta σ H vs) (hs : SpU sp (vs ++ []) H xs) : EvU (tCall sp [] E ta) σ H xs := fun H1 e Q q =>
  h H1 e _ fun H2 e2 => hs H2 (e.trans e2) Q (fun p H3 np e3 h3 => q p H3 (fresh_back e2 np) (e2.trans e3) h3) E
end
section
variable {P : Program} {w : World} {K : PySem.W.Frag} {mg : Str → Option Value} {base : Heap}
def sp_check_system (C : Addr) : Sp := fun vs H Q _ => ∃ (x dx : Addr) (fs : List (Str × V)), vs = [.ref x] ∧ H x = some (.ins C dx fs) ∧ RetV .non H Q
theorem sv_check_system {C x : Addr} {H : Hp} {m : Nat} {tl W : List Nat} (h : SyAt C H x m tl W) : SpV (sp_check_system C) [.ref x] H .non := fun H1 e Q q E => by
  obtain ⟨dx, b, c, a, h1, _⟩ := h.at_
  exact ⟨x, dx, _, rfl, e _ _ h1, q⟩
theorem ok_check_system (T : Top K mg) : FnOk P w K mg base CX0 1 T.a_check_system T.fd_check_system ["system"] (sp_check_system T.a_System) := by
  refine T.F_check_system.ok sc_check_system (fun vs H Q E h => ?_) (fun cdv A outer s H vs Q E hr h => ?_)
  · obtain ⟨x, dx, fs, rfl, _⟩ := h
    rfl
  · obtain ⟨x, dx, fs, rfl, hx, k⟩ := h
    have nd := sc_check_system.nd
    refine ⟨_, (pss_one (ps_if (pt_not (pt_val (pe_callB (C8.call_isC T.i_System) (by rfl) T.z_isinstance (by decide +kernel) (pa_cons (pv 0) (pa_cons (pe_glob (v := .ref T.a_System) rfl T.g_System rfl) pa_nil))))) pss_dead pss_nil)), ?_⟩
    exact s_when (b := false) (et_is (et_not (a := true) (et_B (ev_cb (ea_cons (ev_var rfl) (ea_cons ev_c ea_nil)) (rc_isC hx)))) rfl) (fun z => by cases z) fun _ H1 e1 => k H1 e1
def sp_check_sum (C : Addr) : Sp := fun vs H Q _ => ∃ (x dx : Addr) (fs : List (Str × V)) (n : Int), vs = [.ref x, .int n] ∧ H x = some (.ins C dx fs) ∧ RetV .non H Q
theorem sv_check_sum {C x : Addr} {H : Hp} {m : Nat} {tl W : List Nat} (h : SyAt C H x m tl W) (n : Int) : SpV (sp_check_sum C) [.ref x, .int n] H .non := fun H1 e Q q E => by
  obtain ⟨dx, b, c, a, h1, _⟩ := h.at_
  exact ⟨x, dx, _, n, rfl, e _ _ h1, q⟩
theorem ok_check_sum (T : Top K mg) : FnOk P w K mg base CX0 2 T.a_check_sum T.fd_check_sum ["system", "number"] (sp_check_sum T.a_System) := by
  refine T.F_check_sum.ok sc_check_sum (fun vs H Q E h => ?_) (fun cdv A outer s H vs Q E hr h => ?_)
  · obtain ⟨x, dx, fs, n, rfl, _⟩ := h
    rfl
  · obtain ⟨x, dx, fs, n, rfl, hx, k⟩ := h
    have nd := sc_check_sum.nd
    refine ⟨_, (pss_cons (ps_expr (pe_call (ok_check_system T) (hr.mono (by decide)) (by rfl) T.g_check_system T.F_check_system.kp T.b_check_system .nil pass0 (pa_cons (pv 0) pa_nil))) (pss_one (ps_if (pt_not (pt_val (pe_call (ok_is_integer T) (hr.mono (by decide)) (by rfl) T.g_is_integer T.F_is_integer.kp T.b_is_integer .nil pass0 (pa_cons (pv 1) pa_nil)))) pss_dead pss_nil))), ?_⟩
    refine q_drop (v := .non) (ev_call (ea_cons (ev_var rfl) ea_nil) fun H1 e Q q E => ⟨x, dx, fs, rfl, e _ _ hx, q⟩) fun H1 e1 => ?_
    exact s_when (b := false) (et_is (et_not (a := true) (et_B (ev_call (ea_cons (ev_var rfl) ea_nil) (sv_is_integer n)))) rfl) (fun z => by cases z) fun _ H2 e2 => k H2 (e1.trans e2)
/-! ### pays_of -/
noncomputable def pbI (cs : List Nat) (n : Int) : Bool := decide (0 ≤ n) && pb cs n.toNat
def sp_pays_of (C : Addr) : Sp := fun vs H Q _ => ∃ (x : Addr) (n : Int) (m : Nat) (tl W : List Nat), vs = [.ref x, .int n] ∧ SyAt C H x m tl W ∧ RetV (.bl (pbI (m :: tl) n)) H Q
theorem sv_pays_of {C x : Addr} {H : Hp} {m : Nat} {tl W : List Nat} (h : SyAt C H x m tl W) (n : Int) : SpV (sp_pays_of C) [.ref x, .int n] H (.bl (pbI (m :: tl) n)) := fun H1 e Q q E => ⟨x, n, m, tl, W, rfl, h.ex e, q⟩
theorem ok_pays_of (T : Top K mg) : FnOk P w K mg base CX0 1 T.a_pays_of T.fd_pays_of ["system", "number"] (sp_pays_of T.a_System) := by
  refine T.F_pays_of.ok sc_pays_of (fun vs H Q E h => ?_) (fun cdv A outer s H vs Q E hr h => ?_)
  · obtain ⟨x, n, m, tl, W, rfl, _⟩ := h
    rfl
  · obtain ⟨x, n, m, tl, W, rfl, h, k⟩ := h
    have nd := sc_pays_of.nd
    have cl : Cls K T.a_System := T.i_System.cl
    have hm := h.hm
    have R := h.rests
    obtain ⟨dx, b, c, a, hx, hb, hc⟩ := h.at_
    refine ⟨_, (pss_one (ps_ret (pe_and (pe_cmpR op_ge (pv 1) pe_int (nomark _)) (pe_one (pe_cmpR op_le (pe_ix ix_tup (pe_fld (pv 0) rfl) (pe_op op_mod (pv 1) (pe_callB call_len_seq (by rfl) T.z_len PySem.boot_len (pa_cons (pe_fld (pv 0) rfl) pa_nil))) (fun _ _ => rfl)) (pv 1) (nomark _)))))), ?_⟩
    have lt : n.toNat % m < W.length := by rw [R.len]; exact Nat.mod_lt _ hm
    have hw : W[n.toNat % m]? = some W[n.toNat % m] := List.getElem?_eq_getElem lt
    have p := R.pay n.toNat _ hw
    refine s_ret (v := .bl (pbI (m :: tl) n)) (ev_is (ev_andV (a := decide (0 ≤ n)) (b := decide ((W[n.toNat % m] : Nat) ≤ n)) (ev_op (ev_var rfl) ev_c rv_I0) fun h0 => ?_) ?_) fun H1 e1 => k H1 e1
    · have h0 := of_decide_eq_true h0
      have e : n % ((nv W).length : Int) = ((n.toNat % m : Nat) : Int) := by
        rw [nv_len, R.len]
        have : n = (n.toNat : Int) := by omega
        rw [this]
        rfl
      refine ev_op (x := .int (W[n.toNat % m] : Nat)) (ev_ixT (K := K) (ev_fld (ev_var rfl) hx cl T.n_System_rests (sysF_rests _ _ _)) (st_of hc) (ev_is (ev_op (ev_var rfl) (ev_lenS (K := K) (ev_fld (ev_var rfl) hx cl T.n_System_rests (sysF_rests _ _ _)) (.inr (st_of hc))) (rv_I ?_)) (congrArg V.int e)) ?_) (ev_var rfl) rv_I0
      · rw [nv_len, R.len]
        omega
      · show (nv W)[n.toNat % m]? = _
        unfold nv
        rw [List.getElem?_map, hw]
        rfl
    · unfold pbI
      congr 1
      by_cases h0 : 0 ≤ n
      · rw [decide_eq_true h0, Bool.true_and, Bool.true_and]
        by_cases q : Pay (m :: tl) n.toNat
        · rw [pb_iff.mpr q]
          exact decide_eq_true (by have := p.mp q; omega)
        · rw [pb_not.mpr q]
          exact decide_eq_false (fun z => q (p.mpr (by omega)))
      · rw [decide_eq_false h0, Bool.false_and, Bool.false_and]
theorem pbI_nat (cs : List Nat) (n : Nat) : pbI cs (n : Int) = pb cs n := by
  unfold pbI
  rw [decide_eq_true (by omega), Bool.true_and, Int.toNat_natCast]
end
end Pd

/-! The law's own defs: hand, draw, common, paid, ways, lots, times. -/
namespace Pd
open PySem PySem.Spec PyProof.Rows L2 Evl
/-! ### readings -/
def rIxS2 (K : PySem.W.Frag) : R2 := fun x y H Q => rIxL K x y H Q ∨ rIxT K x y H Q
theorem ix_seq {X : Cx} : IxR X (rIxS2 X.K) := by
  intro value slice pins s σ H x y v u Q I r1 r2 h hs
  rcases h with h | h
  · exact ix_list value slice pins s σ H x y v u Q I r1 r2 h hs
  · exact ix_tup value slice pins s σ H x y v u Q I r1 r2 h hs
def bv (f : Nat → Bool) (n : Nat) : List V := (List.range n).map fun k => V.bl (f k)
theorem bv_len (f : Nat → Bool) (n : Nat) : (bv f n).length = n := by unfold bv; rw [List.length_map, List.length_range]
theorem bv_get {f : Nat → Bool} {n k : Nat} (h : k < n) : (bv f n)[k]? = some (.bl (f k)) := by
  unfold bv
  rw [List.getElem?_map, List.getElem?_range h]
  rfl
theorem bv_congr {f g : Nat → Bool} {n : Nat} (h : ∀ k, k < n → f k = g k) : bv f n = bv g n := by
  unfold bv
  refine List.map_congr_left fun k hk => ?_
  rw [h k (List.mem_range.mp hk)]
theorem bv_set {f g : Nat → Bool} {n j : Nat} (hj : j < n) (h : ∀ k, k < n → k ≠ j → f k = g k) : (bv f n).set j (.bl (g j)) = bv g n := by
  apply List.ext_getElem?
  intro k
  rw [List.getElem?_set]
  by_cases e : j = k
  · subst e
    rw [if_pos rfl, if_pos (by rw [bv_len]; exact hj), bv_get hj]
  · rw [if_neg e]
    by_cases hk : k < n
    · rw [bv_get hk, bv_get hk, h k hk (fun z => e z.symm)]
    · rw [List.getElem?_eq_none (by rw [bv_len]; omega), List.getElem?_eq_none (by rw [bv_len]; omega)]
theorem bv_start (cs : List Nat) (n : Nat) : [V.bl true] ++ List.replicate n (V.bl false) = bv (fun k => if k < 1 then pb cs k else false) (n + 1) := by
  apply List.ext_getElem?
  intro k
  cases k with
  | zero =>
    rw [bv_get (by omega), if_pos (by omega), pb_zero]
    rfl
  | succ k =>
    show (List.replicate n (V.bl false))[k]? = _
    rw [List.getElem?_replicate]
    by_cases h : k < n
    · rw [if_pos h, bv_get (by omega), if_neg (by omega)]
    · rw [if_neg h, List.getElem?_eq_none (by rw [bv_len]; omega)]
theorem list_range {α : Type} (d : α) : ∀ l : List α, (List.range l.length).map (fun j => l.getD j d) = l := fun l => by
  apply List.ext_getElem?
  intro k
  rw [List.getElem?_map]
  by_cases h : k < l.length
  · rw [List.getElem?_range h, List.getElem?_eq_getElem h]
    show some (l.getD k d) = _
    rw [List.getD_eq_getElem?_getD, List.getElem?_eq_getElem h]
    rfl
  · rw [List.getElem?_eq_none (by rw [List.length_range]; omega), List.getElem?_eq_none (by omega)]
    rfl
theorem given_all (n : Nat) (v : Nat → V) : given n (fun _ => true) v = (List.range n).map v := by
  unfold given
  rw [List.filter_eq_self.mpr (fun _ _ => rfl)]
theorem any_range {α : Type} (d : α) (g : α → Bool) (l : List α) : ((List.range l.length).map fun j => g (l.getD j d)).any id = l.any g := by
  rw [List.any_map]
  show (List.range l.length).any (g ∘ fun j => l.getD j d) = _
  rw [← List.any_map, list_range]
section
variable {K : PySem.W.Frag} {σ : L2.St} {H H' : Hp} {ta tb te tx tl : TE} {x y z v : V} {t u : TT} {g : TG}
theorem ev_ixS {a : Addr} {xs : List V} {j : Nat} (h : Ev ta σ H (.ref a)) (hx : SqL K H a xs ∨ SqT K H a xs) (hi : Ev tb σ H (.int (j : Int))) (hv : xs[j]? = some v) : Ev (tOp (rIxS2 K) ta tb) σ H v :=
  ev_op h hi fun H1 e Q q => hx.elim (fun hx => .inl (rv_ixL hx (atI_nat hv) H1 e Q q)) fun hx => .inr (rv_ixT hx (atI_nat hv) H1 e Q q)
theorem ev_anyN {bs : List Bool} (ha : EvL ta σ H (bs.map V.bl)) : Ev (tCB (rAny K) (tCons ta tNil)) σ H (.bl (bs.any id)) := fun H1 e Q q =>
  ha H1 e _ fun p H2 _ e2 hp => ⟨p, bs, rfl, sq_of hp, q H2 e2⟩
theorem el_lcT {a : Addr} {xs : List V} {j : Nat} {vs : List Nat} (f : Nat → Bool) (v : Nat → V) (h : Ev tl σ H (.ref a)) (hx : SqT K H a xs) (hz : xs.length ≤ 40000) (hw : ∀ x, wipe ((wipe σ vs).set j (some x)) vs = wipe σ vs)
    (ht : ∀ (i : Nat) (x : V) H1, Ex H H1 → xs[i]? = some x → EvT t ((wipe σ vs).set j (some x)) H1 (f i)) (he : ∀ (i : Nat) (x : V) H1, Ex H H1 → xs[i]? = some x → f i = true → Ev te ((wipe σ vs).set j (some x)) H1 (v i)) :
    EvL (tLc (iTup K tl) (gName j) t te vs) σ H (given xs.length f v) := fun H0 e Q q => h H0 e _ fun H1 e1 => ⟨a, rfl, ⟨xs, ex_t (e.trans e1) hx⟩, fun Dl hD =>
  lc_tup (xs := xs) (Cw H1 f v Dl) ⟨hD, Ex.new hD, upd_same⟩ (fun i H' _ p => ex_t ((e.trans e1).trans p.2.1) hx) (fun i x H' hi p => ⟨hw x, cw_turn p (by have := (List.getElem?_eq_some_iff.mp hi).1; omega) (ht i x H1 (e.trans e1) hi) (fun hf => he i x H1 (e.trans e1) hi hf)⟩)
    (fun H' p => q Dl H' (fresh_back e1 p.1) (e1.trans p.2.1) p.2.2)⟩
/-- over a list or a tuple -/
theorem el_lcS {a : Addr} {xs : List V} {j : Nat} {vs : List Nat} (f : Nat → Bool) (v : Nat → V) (h : Ev tl σ H (.ref a)) (hx : SqL K H a xs ∨ SqT K H a xs) (hz : xs.length ≤ 40000) (hw : ∀ x, wipe ((wipe σ vs).set j (some x)) vs = wipe σ vs)
    (ht : ∀ (i : Nat) (x : V) H1, Ex H H1 → xs[i]? = some x → EvT t ((wipe σ vs).set j (some x)) H1 (f i)) (he : ∀ (i : Nat) (x : V) H1, Ex H H1 → xs[i]? = some x → f i = true → Ev te ((wipe σ vs).set j (some x)) H1 (v i)) :
    EvL (tLc (fun σ H R => iList K tl σ H R ∨ iTup K tl σ H R) (gName j) t te vs) σ H (given xs.length f v) := fun H0 e Q q =>
  hx.elim (fun hx => .inl (el_lcL f v h hx hz hw ht he H0 e Q q)) fun hx => .inr (el_lcT f v h hx hz hw ht he H0 e Q q)
/-- over enumerate of a tuple, new or old -/
theorem el_lcEnumS {xs : List V} {i j : Nat} {vs : List Nat} (f : Nat → Bool) (v : Nat → V) (h : EvS K tl σ H xs) (hz : xs.length ≤ 40000)
    (hw : ∀ n x, wipe (((wipe σ vs).set i (some (.int ((n : Nat) : Int)))).set j (some x)) vs = wipe σ vs)
    (ht : ∀ (n : Nat) (x : V) H1, Ex H H1 → xs[n]? = some x → EvT t (((wipe σ vs).set i (some (.int (n : Int)))).set j (some x)) H1 (f n))
    (he : ∀ (n : Nat) (x : V) H1, Ex H H1 → xs[n]? = some x → f n = true → Ev te (((wipe σ vs).set i (some (.int (n : Int)))).set j (some x)) H1 (v n)) :
    EvL (tLc (iEnumT K (tCons tl tNil)) (gTup K 2 (gCons (gName i) (gCons (gName j) gNil))) t te vs) σ H (given xs.length f v) := fun H0 e Q q => h H0 e _ fun a H1 e1 hx => ⟨a, xs, rfl, hx, fun Dl hD =>
  lc_it (walk_enumT (K := K) (a := a) (xs := xs)) (Cw H1 f v Dl) ⟨hD, Ex.new hD, upd_same⟩ (fun i H' _ p => ex_t p.2.1 hx) (fun n v' H' H2 hn p y => by
    obtain ⟨T, x1, x2, rfl, nT, rfl, f1, f2⟩ := y
    obtain rfl : V.int (n : Nat) = x1 := Option.some.inj f1
    have ex : Ex H' (upd H' T (.tup [.int (n : Nat), x2])) := Ex.new nT
    exact ⟨T, [.int (n : Nat), x2], rfl, .inl (.inl upd_same), rfl, .int (n : Nat), [x2], rfl, x2, [], rfl, rfl, hw n x2, cw_turn ⟨p.1, p.2.1.trans ex, ex _ _ p.2.2⟩ (by omega) (ht n x2 H1 (e.trans e1) f2) (fun hf => he n x2 H1 (e.trans e1) f2 hf)⟩) (fun H' p => q Dl H' (fresh_back e1 p.1) (e1.trans p.2.1) p.2.2)⟩
theorem EvS.slToN {a : Addr} {xs : List V} {n : Nat} (h : Ev te σ H (.ref a)) (hx : SqT K H a xs) (hn : Ev tx σ H (.int (n : Int))) : EvS K (tSl (rSlA K) te tNoPart (tPart tx)) σ H (xs.take n) := EvS.slTo h hx hn
/-- for x in range(hi, lo, -1) -/
theorem s_forDown {tA : TA} {j : Nat} {hi lo : Int} {tu : TS} {D : L2.Ends} (h : EvA tA σ H [.int hi, .int lo, .int (-1)]) (hb : 0 ≤ hi ∧ hi ≤ 100000 ∧ -1 ≤ lo ∧ lo ≤ 100000) (Pv : Nat → L2.St → Hp → Prop) (h0 : ∀ H1, Ex H H1 → Pv 0 σ H1)
    (hs : ∀ (t : Nat) σ' H', (t : Int) < hi - lo → Pv t σ' H' → tu { D with nx := Pv (t + 1), ct := Pv (t + 1), bk := D.nx } (σ'.set j (some (.int (hi - (t : Int))))) H') (hd : ∀ σ' H', Pv (hi - lo).toNat σ' H' → D.nx σ' H') : tFor (iRng3 tA) (gName j) tu D σ H :=
  h H (Ex.refl H) _ fun H1 e => ⟨hi, lo, -1, (hi - lo).toNat, rfl, RgC.neg (by omega) (by omega) (by omega) (by omega), for_rangeC Pv (h0 H1 e) (fun t σ' H' ht p => by
    show tu { D with nx := Pv (t + 1), ct := Pv (t + 1), bk := D.nx } (σ'.set j (some (.int (hi + (t : Nat) * (-1))))) H'
    rw [show hi + ((t : Nat) : Int) * (-1) = hi - (t : Int) by omega]
    exact hs t σ' H' (by omega) p) hd⟩
end
section
variable {P : Program} {w : World} {K : PySem.W.Frag} {mg : Str → Option Value} {base : Heap}
/-! ### the hand -/
/-- a hand at h whose cells stand at c -/
def HandC (H : Hp) (h c : Addr) (cells : List Int) : Prop := (∃ (i : Nat) (u s d : Int), H h = some (.lst [.ref c, .int (i : Int), .int u, .int s, .int d])) ∧ H c = some (.lst (cells.map V.int))
theorem HandC.ex {H H' : Hp} {h c : Addr} {cells : List Int} (a : HandC H h c cells) (e : Ex H H') : HandC H' h c cells := by
  obtain ⟨⟨i, u, s, d, h1⟩, h2⟩ := a
  exact ⟨⟨i, u, s, d, e _ _ h1⟩, e _ _ h2⟩
theorem HandC.ne {H : Hp} {h c : Addr} {cells : List Int} (a : HandC H h c cells) : c ≠ h := fun z => by
  obtain ⟨⟨i, u, s, d, h1⟩, h2⟩ := a
  rw [z, h1] at h2
  have := HO.lst.inj (Option.some.inj h2)
  cases cells with
  | nil => cases this
  | cons x r => cases (List.cons.inj this).1
/-! ### a draw -/
def sp__law_draw : Sp := fun vs H Q _ => ∃ (h c : Addr) (cells : List Int) (many : Nat), vs = [.ref h, .int many] ∧ HandC H h c cells ∧ 0 < many ∧ many ≤ 10000000000000 ∧ ∀ (r : Nat) H', r < many → Bt h H H' → HandC H' h c cells → Q (.int r) H'
theorem divW {i : Int} {m : Nat} (h : 0 < m) (h2 : m ≤ 10000000000000) : CDivW i (m : Int) := ⟨by omega, by
  rw [Int.natAbs_natCast]
  have : m.log2 < 44 := (Nat.log2_lt (by omega)).mpr (by omega)
  omega⟩
theorem mod_nat {a : Int} {m : Nat} (h : 0 < m) : ∃ r : Nat, r < m ∧ a % (m : Int) = (r : Int) := ⟨(a % (m : Int)).toNat, by
  have h1 := Int.emod_nonneg a (show (m : Int) ≠ 0 by omega)
  have h2 := Int.emod_lt_of_pos a (show (0 : Int) < (m : Int) by omega)
  omega, by
  have h1 := Int.emod_nonneg a (show (m : Int) ≠ 0 by omega)
  omega⟩
theorem mod_small {a m : Int} (h : 0 < m) (hm : m < 2 ^ 64) : -(2 ^ 64) < a % m ∧ a % m < 2 ^ 64 := by
  have h1 := Int.emod_nonneg a (show m ≠ 0 by omega)
  have h2 := Int.emod_lt_of_pos a h
  omega
theorem ok_law_draw (T : Top K mg) : FnOk P w K mg base CX0 1 T.a__law_draw T.fd__law_draw ["hand", "many"] sp__law_draw := by
  refine T.F__law_draw.ok sc_law_draw (fun vs H Q E h => ?_) (fun cdv A outer s H vs Q E hr h => ?_)
  · obtain ⟨h, c, cells, many, rfl, _⟩ := h
    rfl
  · obtain ⟨h, c, cells, many, rfl, hh, hm, hm2, k⟩ := h
    have nd := sc_law_draw.nd
    refine ⟨_, (pss_cut (ps_if (PW.pt (pw_and (pt_cmpR op_eq (pe_ix ix_list (pv 0) pe_int (fun _ _ => rfl)) pe_int (nomark _)) (pw_and1 (pt_cmpR op_lt (pe_ix ix_list (pv 0) pe_int (fun _ _ => rfl)) (pe_callB call_len_seq (by rfl) T.z_len PySem.boot_len (pa_cons (pe_ix ix_list (pv 0) pe_int (fun _ _ => rfl)) pa_nil)) (nomark _))))) (pss_cons (ps_set (i := 2) nd rfl (Or.inl rfl) (pe_ix ix_list (pe_ix ix_list (pv 0) pe_int (fun _ _ => rfl)) (pe_ix ix_list (pv 0) pe_int (fun _ _ => rfl)) (fun _ _ => rfl))) (pss_cons (ps_asg (pe_op op_add (pe_ix ix_list (pv 0) pe_int (fun _ _ => rfl)) pe_int) (pg_sub (pv 0) pe_int set_list)) (pss_cons (ps_asg (pe_op op_mod (pe_callTy call_int1 (by rfl) T.z_int (by decide +kernel) (pa_cons (pe_op op_add (pe_op op_add (pe_op op_mul (pe_ix ix_list (pv 0) pe_int (fun _ _ => rfl)) pe_int) (pe_op op_mul (pv 2) pe_int)) pe_int) pa_nil)) pe_int) (pg_sub (pv 0) pe_int set_list)) (pss_one (ps_if (pt_cmpR op_ge (pv 2) (pe_op op_pow pe_int pe_int) (nomark _)) (pss_one (ps_asg (pv 2) (pg_sub (pv 0) pe_int set_list))) pss_nil))))) pss_nil) (pss_cons (ps_if (pt_cmpR op_gt (pe_ix ix_list (pv 0) pe_int (fun _ _ => rfl)) pe_int (nomark _)) (pss_cons (ps_set (i := 3) nd rfl (Or.inl rfl) (pe_op op_mod (pe_callTy call_int1 (by rfl) T.z_int (by decide +kernel) (pa_cons (pe_ix ix_list (pv 0) pe_int (fun _ _ => rfl)) pa_nil)) (pv 1))) (pss_cons (ps_asg (pe_op op_fdivW (pe_ix ix_list (pv 0) pe_int (fun _ _ => rfl)) (pv 1)) (pg_sub (pv 0) pe_int set_list)) (pss_one (ps_ret (pv 3))))) pss_nil) (pss_cons (ps_asg (pe_op op_add (pe_ix ix_list (pv 0) pe_int (fun _ _ => rfl)) pe_int) (pg_sub (pv 0) pe_int set_list)) (pss_cons (ps_set (i := 4) nd rfl (Or.inl rfl) (pe_op op_mod (pe_callTy call_int1 (by rfl) T.z_int (by decide +kernel) (pa_cons (pe_op op_mul (pe_callTy call_int1 (by rfl) T.z_int (by decide +kernel) (pa_cons (pe_op op_add (pe_ix ix_list (pv 0) pe_int (fun _ _ => rfl)) (pe_op op_mul pe_int (pe_ix ix_list (pv 0) pe_int (fun _ _ => rfl)))) pa_nil)) pe_int) pa_nil)) pe_int)) (pss_cons (ps_set (i := 4) nd rfl (Or.inl rfl) (pe_op op_mod (pe_callTy call_int1 (by rfl) T.z_int (by decide +kernel) (pa_cons (pe_op op_mul (pv 4) (pe_op op_add (pe_op op_fdiv (pv 4) pe_int) pe_int)) pa_nil)) pe_int)) (pss_cons (ps_set (i := 4) nd rfl (Or.inl rfl) (pe_op op_mod (pe_callTy call_int1 (by rfl) T.z_int (by decide +kernel) (pa_cons (pe_op op_mul (pv 4) (pe_op op_add (pe_op op_fdiv (pv 4) pe_int) pe_int)) pa_nil)) pe_int)) (pss_one (ps_ret (pe_op op_mod (pe_callTy call_int1 (by rfl) T.z_int (by decide +kernel) (pa_cons (pe_op op_fdiv (pv 4) pe_int) pa_nil)) (pv 1)))))))))), ?_⟩
    have hc := hh.ne
    obtain ⟨⟨i, u, s, d, h1⟩, h2⟩ := hh
    refine q_cut (M := fun σ' H' => ∃ y, σ' = [some (.ref h), some (.int (many : Int)), y, none, none] ∧ Bt h H H' ∧ ∃ (i : Nat) (u s d : Int), H' h = some (.lst [.ref c, .int (i : Int), .int u, .int s, .int d]) ∧ H' c = some (.lst (cells.map V.int))) ?_ fun σ' H' hM => ?_
    · refine s_when (b := decide (V.int u = V.int 0) && decide ((i : Int) < ((cells.map V.int).length : Int))) (et_and (et_test (ev_op (ev_ixL (K := K) (j := 2) (ev_var rfl) (sq_of h1) ev_c rfl) ev_c (rv_eq rfl))) fun _ => et_test (ev_op (ev_ixL (K := K) (j := 1) (ev_var rfl) (sq_of h1) ev_c rfl) (ev_lenS (K := K) (ev_ixL (K := K) (j := 0) (ev_var rfl) (sq_of h1) ev_c rfl) (.inl (sq_of h2))) rv_I0)) (fun hb H1 e1 => ?_) fun hb H1 e1 => ⟨none, rfl, .of e1, i, u, s, d, e1 _ _ h1, e1 _ _ h2⟩
      have hi : (i : Int) < ((cells.map V.int).length : Int) := of_decide_eq_true (Bool.and_eq_true_iff.mp hb).2
      have hi2 : i < cells.length := by rw [List.length_map] at hi; omega
      have hv : (cells.map V.int)[i]? = some (.int cells[i]) := by rw [List.getElem?_map, List.getElem?_eq_getElem hi2]; rfl
      have a1 := e1 _ _ h1
      have a2 := e1 _ _ h2
      refine q_asg (v := .int cells[i]) (ev_ixL (K := K) (ev_ixL (K := K) (j := 0) (ev_var rfl) (sq_of a1) ev_c rfl) (sq_of a2) (ev_ixL (K := K) (j := 1) (ev_var rfl) (sq_of a1) ev_c rfl) hv) fun H2 e2 => ?_
      have b1 := e2 _ _ a1
      refine q_setL (j := 1) b1 (ev_op (ev_ixL (K := K) (j := 1) (ev_var rfl) (sq_of b1) ev_c rfl) ev_c rv_I0) (ev_var rfl) ev_c (by show 1 < 5; decide) fun H3 e3 => ?_
      have c2 : (upd H3 h (.lst [.ref c, .int ((i : Int) + 1), .int u, .int s, .int d])) c = some (.lst (cells.map V.int)) := by rw [upd_ne hc]; exact e3 _ _ (e2 _ _ a2)
      have c1 : (upd H3 h (.lst [.ref c, .int ((i : Int) + 1), .int u, .int s, .int d])) h = some (.lst [.ref c, .int ((i : Int) + 1), .int u, .int s, .int d]) := upd_same
      have bb : Bt h H (upd H3 h (.lst [.ref c, .int ((i : Int) + 1), .int u, .int s, .int d])) := (Bt.of ((e1.trans e2).trans e3)).up
      show tSeq _ _ _ _ (upd H3 h (.lst [.ref c, .int ((i : Int) + 1), .int u, .int s, .int d]))
      generalize upd H3 h (.lst [.ref c, .int ((i : Int) + 1), .int u, .int s, .int d]) = H4 at c1 c2 bb
      refine q_setL (j := 3) c1 (ev_op (ev_intI (ev_op (ev_op (ev_op (ev_ixL (K := K) (j := 3) (ev_var rfl) (sq_of c1) ev_c rfl) ev_c (rv_mul (.inr ⟨by decide, by decide⟩))) (ev_op (ev_var rfl) ev_c (rv_mul (.inr ⟨by decide, by decide⟩))) rv_I0) ev_c rv_I0)) ev_c (rv_I (by decide))) (ev_var rfl) ev_c (by show 3 < 5; decide) fun H5 e5 => ?_
      generalize hs' : (s * 69621 + cells[i] * 40692 + 31) % 2147483629 = s'
      show tIfS _ _ _ _ _ (upd H5 h (.lst [.ref c, .int ((i : Int) + 1), .int u, .int s', .int d]))
      have d2 : (upd H5 h (.lst [.ref c, .int ((i : Int) + 1), .int u, .int s', .int d])) c = some (.lst (cells.map V.int)) := by rw [upd_ne hc]; exact e5 _ _ c2
      have d1 : (upd H5 h (.lst [.ref c, .int ((i : Int) + 1), .int u, .int s', .int d])) h = some (.lst [.ref c, .int ((i : Int) + 1), .int u, .int s', .int d]) := upd_same
      have bb2 : Bt h H (upd H5 h (.lst [.ref c, .int ((i : Int) + 1), .int u, .int s', .int d])) := (bb.ex e5).up
      generalize upd H5 h (.lst [.ref c, .int ((i : Int) + 1), .int u, .int s', .int d]) = H6 at d1 d2 bb2
      refine s_when (et_test (ev_op (ev_var rfl) (ev_op ev_c ev_c (rv_I ⟨by decide, by decide, by decide⟩)) rv_I0)) (fun _ H7 e7 => ?_) fun _ H7 e7 => ⟨_, rfl, bb2.ex e7, i + 1, u, s', d, e7 _ _ d1, e7 _ _ d2⟩
      refine s_setL (j := 2) (e7 _ _ d1) (ev_var rfl) (ev_var rfl) ev_c (by show 2 < 5; decide) fun H8 e8 => ⟨_, rfl, ((bb2.ex e7).ex e8).up, i + 1, cells[i], s', d, upd_same, ?_⟩
      rw [upd_ne hc]
      exact e8 _ _ (e7 _ _ d2)
    · obtain ⟨y, rfl, b, i, u, s, d, h1, h2⟩ := hM
      refine q_when (b := decide ((0 : Int) < u)) (et_test (ev_op (ev_ixL (K := K) (j := 2) (ev_var rfl) (sq_of h1) ev_c rfl) ev_c rv_I0)) (fun hb H1 e1 => ?_) fun hb H1 e1 => ?_
      · have a1 := e1 _ _ h1
        obtain ⟨r, hr1, hr2⟩ := mod_nat (a := u) hm
        refine q_asg (v := .int (r : Int)) (ev_is (ev_op (ev_intI (ev_ixL (K := K) (j := 2) (ev_var rfl) (sq_of a1) ev_c rfl)) (ev_var rfl) (rv_I (by omega))) (congrArg V.int hr2)) fun H2 e2 => ?_
        have b1 := e2 _ _ a1
        refine q_setL (j := 2) b1 (ev_op (ev_ixL (K := K) (j := 2) (ev_var rfl) (sq_of b1) ev_c rfl) (ev_var rfl) (rv_I (divW hm hm2))) (ev_var rfl) ev_c (by show 2 < 5; decide) fun H3 e3 => ?_
        refine s_ret (ev_var rfl) fun H4 e4 => k r H4 hr1 (((b.ex ((e1.trans e2).trans e3)).up).ex e4) ⟨⟨i, u / (many : Int), s, d, e4 _ _ upd_same⟩, e4 _ _ ?_⟩
        rw [upd_ne hc]
        exact e3 _ _ (e2 _ _ (e1 _ _ h2))
      · have a1 := e1 _ _ h1
        refine q_setL (j := 4) a1 (ev_op (ev_ixL (K := K) (j := 4) (ev_var rfl) (sq_of a1) ev_c rfl) ev_c rv_I0) (ev_var rfl) ev_c (by show 4 < 5; decide) fun H3 e3 => ?_
        show tSeq _ _ _ _ (upd H3 h (.lst [.ref c, .int (i : Int), .int u, .int s, .int (d + 1)]))
        have c2 : (upd H3 h (.lst [.ref c, .int (i : Int), .int u, .int s, .int (d + 1)])) c = some (.lst (cells.map V.int)) := by rw [upd_ne hc]; exact e3 _ _ (e1 _ _ h2)
        have c1 : (upd H3 h (.lst [.ref c, .int (i : Int), .int u, .int s, .int (d + 1)])) h = some (.lst [.ref c, .int (i : Int), .int u, .int s, .int (d + 1)]) := upd_same
        have bb : Bt h H (upd H3 h (.lst [.ref c, .int (i : Int), .int u, .int s, .int (d + 1)])) := (b.ex (e1.trans e3)).up
        generalize upd H3 h (.lst [.ref c, .int (i : Int), .int u, .int s, .int (d + 1)]) = H4 at c1 c2 bb
        refine q_asg (ev_op (ev_intI (ev_op (ev_intI (ev_op (ev_ixL (K := K) (j := 3) (ev_var rfl) (sq_of c1) ev_c rfl) (ev_op ev_c (ev_ixL (K := K) (j := 4) (ev_var rfl) (sq_of c1) ev_c rfl) (rv_mul (.inl ⟨by decide, by decide⟩))) rv_I0)) ev_c (rv_mul (.inr ⟨by decide, by decide⟩)))) ev_c (rv_I (by decide))) fun H5 e5 => ?_
        generalize hn1 : (s + 7919 * (d + 1)) * 48271 % 2147483647 = n1
        have s1 : -(2 ^ 64) < n1 ∧ n1 < 2 ^ 64 := hn1 ▸ mod_small (by decide) (by decide)
        refine q_asg (ev_op (ev_intI (ev_op (ev_var rfl) (ev_op (ev_op (ev_var rfl) ev_c (rv_I ⟨by decide, by decide⟩)) ev_c rv_I0) (rv_mul (.inl s1)))) ev_c (rv_I (by decide))) fun H6 e6 => ?_
        generalize hn2 : n1 * (n1 / 1009 + 69621) % 2147483647 = n2
        have s2 : -(2 ^ 64) < n2 ∧ n2 < 2 ^ 64 := hn2 ▸ mod_small (by decide) (by decide)
        refine q_asg (ev_op (ev_intI (ev_op (ev_var rfl) (ev_op (ev_op (ev_var rfl) ev_c (rv_I ⟨by decide, by decide⟩)) ev_c rv_I0) (rv_mul (.inl s2)))) ev_c (rv_I (by decide))) fun H7 e7 => ?_
        generalize hn3 : n2 * (n2 / 2003 + 40014) % 2147483563 = n3
        obtain ⟨r, hr1, hr2⟩ := mod_nat (a := n3 / 16) hm
        refine s_ret (v := .int (r : Int)) (ev_is (ev_op (ev_intI (ev_op (ev_var rfl) ev_c (rv_I ⟨by decide, by decide⟩))) (ev_var rfl) (rv_I (by omega))) (congrArg V.int hr2)) fun H8 e8 => ?_
        have e48 := ((e5.trans e6).trans e7).trans e8
        exact k r H8 hr1 (bb.ex e48) ⟨⟨i, u, s, d + 1, e48 _ _ c1⟩, e48 _ _ c2⟩
end
theorem Bt.mut {l : Addr} {H H' : Hp} {p : Addr} {o : HO} (b : Bt l H H') (n : H p = none) : Bt l H (upd H' p o) := fun a u ne h => by
  rw [upd_ne (ne_of_none h n)]
  exact b a u ne h
theorem bt_back {l : Addr} {H H' : Hp} {p : Addr} (b : Bt l H H') (hl : p ≠ l) (h : H' p = none) : H p = none := by
  cases e : H p with
  | none => rfl
  | some o => rw [b p o hl e] at h; cases h
theorem HandC.ref {H : Hp} {h c : Addr} {cells : List Int} (a : HandC H h c cells) {p : Addr} (hp : H p = none) : p ≠ h ∧ p ≠ c := by
  obtain ⟨⟨i, u, s, d, h1⟩, h2⟩ := a
  exact ⟨(ne_of_none h1 hp).symm, (ne_of_none h2 hp).symm⟩
theorem HandC.upd {H : Hp} {h c : Addr} {cells : List Int} (a : HandC H h c cells) {p : Addr} {o : HO} (hp : p ≠ h ∧ p ≠ c) : HandC (upd H p o) h c cells := by
  obtain ⟨⟨i, u, s, d, h1⟩, h2⟩ := a
  exact ⟨⟨i, u, s, d, by rw [upd_ne hp.1.symm]; exact h1⟩, by rw [upd_ne hp.2.symm]; exact h2⟩
section
variable {K : PySem.W.Frag} {σ : L2.St} {H H' : Hp} {ta tb te tx tl : TE} {tA : TA} {x y z v : V} {t u : TT} {g : TG} {h c : Addr} {cells : List Int}
/-- an expression that may draw: a word about its value -/
def EvD (te : TE) (σ : L2.St) (h c : Addr) (cells : List Int) (W : V → Prop) : Prop := ∀ H, HandC H h c cells → ∀ Q : VK, (∀ v H', W v → Bt h H H' → HandC H' h c cells → Q v H') → te σ H Q
theorem ed_of {v : V} (f : ∀ H, Ev te σ H v) : EvD te σ h c cells (fun x => x = v) := fun H hh Q q => f H H (Ex.refl H) Q fun H2 e2 => q v H2 rfl (.of e2) (hh.ex e2)
theorem ed_draw {E : XK} {many : Nat} (hσ : σ[0]? = some (some (.ref h))) (hm : ∀ H, Ev tb σ H (.int (many : Nat))) (h0 : 0 < many) (h1 : many ≤ 10000000000000) : EvD (tCall sp__law_draw [] E (tCons (tVar 0) (tCons tb tNil))) σ h c cells (fun x => ∃ r : Nat, x = .int (r : Nat) ∧ r < many) := fun H hh Q q =>
  ⟨_, hσ, hm H H (Ex.refl H) _ fun H1 e1 => ⟨h, c, cells, many, rfl, hh.ex e1, h0, h1, fun r H' hr b hh' => q _ H' ⟨r, rfl, hr⟩ (fun a o ne ha => b a o ne (e1 a o ha)) hh'⟩⟩
theorem Bt.ex1 {l : Addr} {H H1 H2 : Hp} (e : Ex H H1) (b : Bt l H1 H2) : Bt l H H2 := fun a o ne ha => b a o ne (e a o ha)
theorem ed_op {g : Int → Int → V} {W1 W2 W3 : V → Prop} (ha : EvD ta σ h c cells W1) (hb : EvD tb σ h c cells W2) (hw : ∀ x y, W1 x → W2 y → ∃ i j, x = .int i ∧ y = .int j ∧ W3 (g i j)) : EvD (tOp (rI0 g) ta tb) σ h c cells W3 := fun H hh Q q =>
  ha H hh _ fun x H1 w1 b1 hh1 => hb H1 hh1 _ fun y H2 w2 b2 hh2 => by
    obtain ⟨i, j, rfl, rfl, w3⟩ := hw x y w1 w2
    exact ⟨i, j, rfl, rfl, q _ H2 w3 (b1.trans b2) hh2⟩
theorem dp_ints (ns : List Int) : DpAll K H (ns.map V.int) (ns.map PyData.int) := by
  induction ns with
  | nil => exact .nil
  | cons n r ih => exact .cons (.int n) ih
theorem rv_neSame {p q : Addr} {ns : List Int} (h1 : SqL K H p (ns.map V.int)) (h2 : SqL K H q (ns.map V.int)) : RV (rNeD K) (.ref p) (.ref q) H (.bl false) := fun H1 e Q k =>
  ⟨.list (ns.map PyData.int), .list (ns.map PyData.int), .lst (ex_l e h1) (dp_ints ns), .lst (ex_l e h2) (dp_ints ns), PySem.W.ke_shaped_ints ns, PySem.W.ke_shaped_ints ns, by
    rw [SeqAt.eqv_refl _ (SeqAt.canLay_of_shaped (PySem.W.ke_shaped_ints ns))]
    exact k H1 (Ex.refl H1)⟩
theorem HandC.tup {a : Addr} {xs : List V} (s : HandC H h c cells) (b : Bt h H H') (ha : H a = some (.tup xs)) : H' a = some (.tup xs) := by
  obtain ⟨⟨_, _, _, _, e⟩, _⟩ := s
  exact b _ _ (fun z => by rw [z, e] at ha; cases ha) ha
/-- over a list, the target told by a word -/
theorem el_lcG {a : Addr} {xs : List V} {vs : List Nat} (f : Nat → Bool) (v : Nat → V) (σs : Nat → L2.St) (h : Ev tl σ H (.ref a)) (hx : SqL K H a xs) (hz : xs.length ≤ 40000)
    (hg : ∀ (i : Nat) (x : V) H1 (Q : L2.St → Hp → Prop), Ex H H1 → xs[i]? = some x → Q (σs i) H1 → g x (wipe σ vs) H1 Q) (hw : ∀ i, i < xs.length → wipe (σs i) vs = wipe σ vs)
    (ht : ∀ (i : Nat) (x : V) H1, Ex H H1 → xs[i]? = some x → EvT t (σs i) H1 (f i)) (he : ∀ (i : Nat) (x : V) H1, Ex H H1 → xs[i]? = some x → f i = true → Ev te (σs i) H1 (v i)) :
    EvL (tLc (iList K tl) g t te vs) σ H (given xs.length f v) := fun H0 e Q q => h H0 e _ fun H1 e1 => ⟨a, rfl, ⟨xs, ex_l (e.trans e1) hx⟩, fun Dl hD =>
  lc_list (xs := xs) (Cw H1 f v Dl) ⟨hD, Ex.new hD, upd_same⟩ (fun i H' _ p => ex_l ((e.trans e1).trans p.2.1) hx) (fun i x H' hi p => hg i x H' _ ((e.trans e1).trans p.2.1) hi ⟨hw i (List.getElem?_eq_some_iff.mp hi).1, cw_turn p (by have := (List.getElem?_eq_some_iff.mp hi).1; omega) (ht i x H1 (e.trans e1) hi) (fun hf => he i x H1 (e.trans e1) hi hf)⟩)
    (fun H' p => q Dl H' (fresh_back e1 p.1) (e1.trans p.2.1) p.2.2)⟩
end
theorem cast_sum : ∀ cs : List Nat, (cs.map fun (c : Nat) => (c : Int)).sum = ((cs.sum : Nat) : Int)
  | [] => rfl
  | c :: r => by rw [List.map_cons, List.sum_cons, List.sum_cons, cast_sum r]; omega
theorem last_ge : ∀ (l : List Nat) (h : l ≠ []), l.Pairwise (· < ·) → ∀ c ∈ l, c ≤ l.getLast h
  | [], h, _, _, _ => absurd rfl h
  | [a], _, _, c, hc => by rw [List.mem_singleton.mp hc]; exact Nat.le_refl _
  | a :: b :: r, _, hp, c, hc => by
    rw [List.getLast_cons (by simp)]
    obtain ⟨h1, h2⟩ := List.pairwise_cons.mp hp
    rcases List.mem_cons.mp hc with rfl | hc
    · exact Nat.le_of_lt (h1 _ (List.getLast_mem _))
    · exact last_ge (b :: r) (by simp) h2 c hc
theorem sum_le {B : Nat} : ∀ cs : List Nat, (∀ c ∈ cs, c ≤ B) → cs.sum ≤ cs.length * B
  | [], _ => by simp
  | c :: r, h => by
    have h1 := sum_le r fun x hx => h x (List.mem_cons_of_mem _ hx)
    have h2 := h c (by simp)
    rw [List.sum_cons, List.length_cons, Nat.add_mul, Nat.one_mul]
    omega
theorem list_max : ∀ l : List Nat, l ≠ [] → ∃ M ∈ l, ∀ y ∈ l, y ≤ M
  | [], h => absurd rfl h
  | [a], _ => ⟨a, by simp, fun y hy => by rw [List.mem_singleton.mp hy]; exact Nat.le_refl _⟩
  | a :: b :: r, _ => by
    obtain ⟨M, hM, hg⟩ := list_max (b :: r) (by simp)
    by_cases q : a ≤ M
    · exact ⟨M, List.mem_cons_of_mem _ hM, fun y hy => by
        rcases List.mem_cons.mp hy with rfl | hy
        · exact q
        · exact hg y hy⟩
    · exact ⟨a, by simp, fun y hy => by
        rcases List.mem_cons.mp hy with rfl | hy
        · exact Nat.le_refl _
        · have := hg y hy
          omega⟩
end Pd

/-! Tables by any payable number; sums along gaps. -/
namespace Pd
/-! ### tables for any modulus -/
theorem nil_pay {x : Nat} (p : Pay [] x) : x = 0 := by
  rcases p.inv with h | ⟨c, hc, _⟩
  · exact h
  · cases hc
theorem tab_nil {n : Nat} (hn : 0 < n) : Tab n [] (some 0 :: List.replicate (n - 1) none) := by
  refine ⟨by simp; omega, fun x v h => ?_, fun x p => ?_⟩
  · unfold At at h
    cases x with
    | zero =>
      obtain rfl := Option.some.inj (Option.some.inj h)
      exact ⟨Nat.zero_mod n, .zero⟩
    | succ x =>
      rw [List.getElem?_cons_succ, List.getElem?_replicate] at h
      split at h
      · cases h
      · cases h
  · rw [nil_pay p, Nat.zero_mod]
    exact ⟨0, rfl, Nat.le_refl 0⟩
theorem Tab.of_iff {n : Nat} {cs ds : List Nat} {T : Tb} (h : Tab n cs T) (e : ∀ x, Pay cs x ↔ Pay ds x) : Tab n ds T := ⟨h.len, fun x v a => ⟨(h.sound x v a).1, (e v).mp (h.sound x v a).2⟩, fun x p => h.full x ((e x).mpr p)⟩
theorem Tab.zero {n c : Nat} {cs : List Nat} {T : Tb} (h : Tab n cs T) (hz : c % n = 0) : Tab n (cs ++ [c]) T := by
  refine ⟨h.len, fun x v a => ⟨(h.sound x v a).1, (h.sound x v a).2.mono fun d hd => List.mem_append_left _ hd⟩, fun x p => ?_⟩
  obtain ⟨a, k, pa, rfl⟩ := p.split
  obtain ⟨v, hv, hl⟩ := h.full a pa
  have e : (a + k * c) % n = a % n := by rw [Nat.add_mod, Nat.mul_mod, hz, Nat.mul_zero, Nat.zero_mod, Nat.add_zero, Nat.mod_mod]
  rw [e]
  exact ⟨v, hv, by omega⟩
theorem tab_unique {n : Nat} {cs : List Nat} {T T' : Tb} (h : Tab n cs T) (h' : Tab n cs T') : T = T' := by
  have key : ∀ {T T' : Tb} {x v : Nat}, Tab n cs T → Tab n cs T' → At T x v → ∃ v', At T' x v' ∧ v' ≤ v := fun {T T' x v} h h' a => by
    obtain ⟨e, p⟩ := h.sound x v a
    obtain ⟨v', a', l⟩ := h'.full v p
    rw [e] at a'
    exact ⟨v', a', l⟩
  apply List.ext_getElem?
  intro x
  by_cases hx : x < n
  · have hx1 : x < T.length := by rw [h.len]; exact hx
    have hx2 : x < T'.length := by rw [h'.len]; exact hx
    have e : T[x]? = some T[x] := List.getElem?_eq_getElem hx1
    have e' : T'[x]? = some T'[x] := List.getElem?_eq_getElem hx2
    cases hv : T[x]'hx1 with
    | some v =>
      have a : At T x v := by unfold At; rw [e, hv]
      obtain ⟨v', a', l'⟩ := key h h' a
      obtain ⟨v2, a2, l2⟩ := key h' h a'
      have : v2 = v := a2.inj a
      have ev : v' = v := by omega
      rw [e, hv]
      unfold At at a'
      rw [a', ev]
    | none =>
      cases hv' : T'[x]'hx2 with
      | none => rw [e, e', hv, hv']
      | some v' =>
        have a' : At T' x v' := by unfold At; rw [e', hv']
        obtain ⟨v2, a2, _⟩ := key h' h a'
        unfold At at a2
        rw [e, hv] at a2
        cases a2
  · rw [List.getElem?_eq_none (by rw [h.len]; omega), List.getElem?_eq_none (by rw [h'.len]; omega)]
/-- one coin in least_sums -/
def lstep (n : Nat) (T : Tb) (c : Nat) : Tb := if c % n = 0 then T else rounds T (c % n) c n (Nat.gcd (c % n) n)
theorem lsteps {n : Nat} (hn : 0 < n) : ∀ (cs pre : List Nat) (T : Tb), Tab n pre T → Tab n (pre ++ cs) (cs.foldl (lstep n) T)
  | [], pre, T, h => by rw [List.append_nil]; exact h
  | c :: r, pre, T, h => by
    have h1 : Tab n (pre ++ [c]) (lstep n T c) := by
      unfold lstep
      split
      · rename_i z
        exact h.zero z
      · exact h.add (rounds_ru hn h.len)
    have := lsteps hn r (pre ++ [c]) _ h1
    rw [List.append_assoc] at this
    exact this
theorem least_sums_tab {n : Nat} (hn : 0 < n) (cs : List Nat) : Tab n cs (cs.foldl (lstep n) (some 0 :: List.replicate (n - 1) none)) := lsteps hn cs [] _ (tab_nil hn)
theorem pay_more {cs : List Nat} {n : Nat} (h : Pay cs n) (x : Nat) : Pay (cs ++ [n]) x ↔ Pay cs x := ⟨fun p => p.gen fun d hd => by
  rcases List.mem_append.mp hd with hd | hd
  · exact .one hd
  · rw [List.mem_singleton.mp hd]; exact h, fun p => p.mono fun d hd => List.mem_append_left _ hd⟩
/-- a table by whichever payable number -/
structure Rst (m : Nat) (cs : List Nat) (W : List Nat) : Prop where
  len : W.length = m
  mod : ∀ (x w : Nat), W[x]? = some w → w % m = x
  pay : ∀ (n w : Nat), W[n % m]? = some w → (Pay cs n ↔ w ≤ n)
theorem Rests.rst {m : Nat} {cs W : List Nat} (h : Rests m cs W) : Rst m cs W := ⟨h.len, h.mod, h.pay⟩
theorem Rst.of_iff {m : Nat} {cs ds W : List Nat} (h : Rst m cs W) (e : ∀ x, Pay cs x ↔ Pay ds x) : Rst m ds W := ⟨h.len, h.mod, fun n w hw => (e n).symm.trans (h.pay n w hw)⟩
theorem tab_rests {n : Nat} {cs : List Nat} {T : Tb} (h : Tab n cs T) (hn : 0 < n) (hp : Pay cs n) (hc : gcdL cs = 1) : ∃ W : List Nat, T = W.map some ∧ Rst n cs W := by
  have h2 : Tab n (cs ++ [n]) T := h.of_iff fun x => (pay_more hp x).symm
  have g : gcdL (cs ++ [n]) = 1 := by
    have hc' : cs.foldl Nat.gcd 0 = 1 := hc
    unfold gcdL
    rw [List.foldl_append, hc']
    show Nat.gcd 1 n = 1
    exact Nat.gcd_one_left n
  obtain ⟨W, eW, R⟩ := h2.whole hn (by simp) g
  exact ⟨W, eW, R.rst.of_iff (pay_more hp)⟩
theorem Rst.tab {n : Nat} {cs W : List Nat} (R : Rst n cs W) (hn : 0 < n) : Tab n cs (W.map some) := by
  refine ⟨by rw [List.length_map]; exact R.len, fun x v a => ?_, fun x p => ?_⟩
  · unfold At at a
    rw [List.getElem?_map] at a
    cases e : W[x]? with
    | none => rw [e] at a; cases a
    | some w =>
      rw [e] at a
      obtain rfl := Option.some.inj (Option.some.inj a)
      have m := R.mod x w e
      exact ⟨m, (R.pay w w (by rw [m]; exact e)).mpr (Nat.le_refl _)⟩
  · have lt : x % n < W.length := by rw [R.len]; exact Nat.mod_lt _ hn
    have e : W[x % n]? = some W[x % n] := List.getElem?_eq_getElem lt
    refine ⟨W[x % n], by unfold At; rw [List.getElem?_map, e]; rfl, (R.pay x _ e).mp p⟩
/-! ### sums along gaps -/
noncomputable def gapF (ds : List Nat) (f : Nat → Int) (k : Nat) : Int := if pb ds k = true then 0 else f k
noncomputable def Gs (ds : List Nat) (last : Nat) (f : Nat → Int) : Int := sumN (gapF ds f) (last + 1)
theorem sumN_mul (c : Int) (f : Nat → Int) : ∀ n, sumN (fun k => c * f k) n = c * sumN f n
  | 0 => by show (0 : Int) = c * 0; rw [Int.mul_zero]
  | n + 1 => by show sumN _ n + c * f n = c * (sumN f n + f n); rw [sumN_mul c f n, Int.mul_add]
theorem sumN_swap (F : Nat → Nat → Int) (b : Nat) : ∀ a, sumN (fun k => sumN (fun j => F k j) b) a = sumN (fun j => sumN (fun k => F k j) a) b
  | 0 => by
    show (0 : Int) = sumN (fun j => 0) b
    rw [sumN_zero b fun _ _ => rfl]
  | a + 1 => by
    show sumN _ a + sumN (fun j => F a j) b = sumN (fun j => sumN (fun k => F k j) a + F a j) b
    rw [sumN_add, sumN_swap F b a]
theorem sumN_grid (g : Nat → Int) (n : Nat) : ∀ Q, sumN g (n * Q) = sumN (fun r => sumN (fun j => g (r + j * n)) Q) n
  | 0 => (sumN_zero n fun _ _ => rfl).symm
  | Q + 1 => by
    rw [Nat.mul_succ, sumN_split, sumN_grid g n Q, ← sumN_add]
    refine sumN_congr n fun r _ => ?_
    show sumN _ Q + g (n * Q + r) = sumN _ Q + g (r + Q * n)
    rw [Nat.add_comm (n * Q) r, Nat.mul_comm n Q]
theorem rests_w {n r : Nat} {cs W : List Nat} (R : Rst n cs W) (hr : r < n) : W[r]? = some (W.getD r 0) ∧ W.getD r 0 = r + W.getD r 0 / n * n := by
  have lt : r < W.length := by rw [R.len]; exact hr
  have e : W[r]? = some W[r] := List.getElem?_eq_getElem lt
  have eg : W.getD r 0 = W[r] := by rw [List.getD_eq_getElem?_getD, e]; rfl
  have m := R.mod r _ e
  refine ⟨by rw [eg]; exact e, ?_⟩
  rw [eg]
  have h := Nat.mod_add_div W[r] n
  rw [m, Nat.mul_comm] at h
  exact h.symm
theorem class_sum {n r Q : Nat} {ds W : List Nat} (R : Rst n ds W) (hr : r < n) (f : Nat → Int) (hQ : W.getD r 0 / n ≤ Q) : sumN (fun j => gapF ds f (r + j * n)) Q = sumN (fun j => f (r + j * n)) (W.getD r 0 / n) := by
  obtain ⟨e, ew⟩ := rests_w R hr
  have gp : ∀ j, Pay ds (r + j * n) ↔ W.getD r 0 / n ≤ j := fun j => by
    have hmod : (r + j * n) % n = r := by rw [Nat.add_mul_mod_self_right]; exact Nat.mod_eq_of_lt hr
    have p := R.pay (r + j * n) (W.getD r 0) (by rw [hmod]; exact e)
    rw [p]
    generalize W.getD r 0 / n = q at ew ⊢
    rw [ew]
    constructor
    · intro h
      apply Classical.byContradiction
      intro hn
      have : (j + 1) * n ≤ q * n := Nat.mul_le_mul_right _ (by omega)
      rw [Nat.add_mul] at this
      omega
    · intro h
      have : q * n ≤ j * n := Nat.mul_le_mul_right _ h
      omega
  obtain ⟨d, rfl⟩ : ∃ d, Q = W.getD r 0 / n + d := ⟨Q - W.getD r 0 / n, by omega⟩
  rw [sumN_split, sumN_zero d fun k _ => by
    unfold gapF
    rw [if_pos (pb_iff.mpr ((gp _).mpr (by omega)))], Int.add_zero]
  refine sumN_congr _ fun k hk => ?_
  unfold gapF
  rw [pb_not.mpr fun p => by have := (gp k).mp p; omega, if_neg Bool.false_ne_true]
theorem gap_ends {ds : List Nat} {last : Nat} (L : Last ds last) (f : Nat → Int) : EndsAt (gapF ds f) last := fun k hk => by
  unfold gapF
  rw [if_pos (pb_iff.mpr (L.safe k hk))]
theorem getD_le_sum (W : List Nat) (r : Nat) : W.getD r 0 ≤ W.sum := by
  induction W generalizing r with
  | nil => simp
  | cons a W ih =>
    cases r with
    | zero => rw [List.sum_cons]; show a ≤ _; omega
    | succ r => rw [List.sum_cons, List.getD_cons_succ]; have := ih r; omega
/-- by whichever table -/
theorem Gs_by {n last : Nat} {ds W : List Nat} (R : Rst n ds W) (hn : 0 < n) (L : Last ds last) (f : Nat → Int) : Gs ds last f = sumN (fun r => sumN (fun j => f (r + j * n)) (W.getD r 0 / n)) n := by
  have hQ : last + 1 ≤ n * (W.sum + last + 1) := Nat.le_trans (by omega) (Nat.le_mul_of_pos_left _ hn)
  unfold Gs
  rw [← sumN_more (gap_ends L f) (show last < last + 1 by omega) hQ, sumN_grid]
  refine sumN_congr n fun r hr => class_sum R hr f ?_
  have h1 := getD_le_sum W r
  have h2 := Nat.div_le_self (W.getD r 0) n
  omega
theorem tele (f : Nat → Int) (r n : Nat) : ∀ q, sumN (fun j => f (r + j * n + n) - f (r + j * n)) q = f (r + q * n) - f r
  | 0 => by rw [Nat.zero_mul, Nat.add_zero, Int.sub_self]; rfl
  | q + 1 => by
    show sumN _ q + (f (r + q * n + n) - f (r + q * n)) = _
    rw [tele f r n q, Nat.add_mul, Nat.one_mul, ← Nat.add_assoc]
    omega
theorem Gs_tele {n last : Nat} {ds W : List Nat} (R : Rst n ds W) (hn : 0 < n) (L : Last ds last) (f : Nat → Int) : Gs ds last (fun g => f (g + n) - f g) = sumN (fun r => f (W.getD r 0) - f r) n := by
  rw [Gs_by R hn L]
  refine sumN_congr n fun r hr => ?_
  rw [tele]
  rw [← (rests_w R hr).2]
theorem Gs_congr {ds : List Nat} {last : Nat} {f g : Nat → Int} (h : ∀ k, f k = g k) : Gs ds last f = Gs ds last g := by
  have : f = g := funext h
  rw [this]
theorem Gs_mul {ds : List Nat} {last : Nat} (c : Int) (f : Nat → Int) : Gs ds last (fun k => c * f k) = c * Gs ds last f := by
  unfold Gs
  rw [← sumN_mul]
  refine sumN_congr _ fun k _ => ?_
  unfold gapF
  split
  · rw [Int.mul_zero]
  · rfl
theorem Gs_sum {ds : List Nat} {last : Nat} (F : Nat → Nat → Int) (p : Nat) : Gs ds last (fun k => sumN (fun a => F a k) p) = sumN (fun a => Gs ds last (F a)) p := by
  unfold Gs
  rw [← sumN_swap]
  refine sumN_congr _ fun k _ => ?_
  unfold gapF
  split
  · rw [sumN_zero p fun _ _ => rfl]
  · rfl
/-! ### the binomial -/
def ch : Nat → Nat → Nat
  | _, 0 => 1
  | 0, _ + 1 => 0
  | n + 1, k + 1 => ch n k + ch n (k + 1)
theorem ch_zero (n : Nat) : ch n 0 = 1 := by cases n <;> rfl
theorem ch_big : ∀ n k, n < k → ch n k = 0
  | 0, k + 1, _ => rfl
  | n + 1, k + 1, h => by
    show ch n k + ch n (k + 1) = 0
    rw [ch_big n k (by omega), ch_big n (k + 1) (by omega)]
theorem ch_self : ∀ n, ch n n = 1
  | 0 => rfl
  | n + 1 => by
    show ch n n + ch n (n + 1) = 1
    rw [ch_self n, ch_big n (n + 1) (by omega)]
theorem ch_absorb : ∀ n k, (k + 1) * ch n (k + 1) = (n - k) * ch n k
  | 0, k => by
    show (k + 1) * 0 = (0 - k) * ch 0 k
    rw [Nat.mul_zero, Nat.zero_sub, Nat.zero_mul]
  | n + 1, 0 => by
    have h := ch_absorb n 0
    rw [ch_zero] at h
    show (0 + 1) * (ch n 0 + ch n (0 + 1)) = (n + 1 - 0) * ch (n + 1) 0
    rw [ch_zero, ch_zero]
    omega
  | n + 1, k + 1 => by
    have h1 := ch_absorb n k
    have h2 := ch_absorb n (k + 1)
    show (k + 1 + 1) * (ch n (k + 1) + ch n (k + 1 + 1)) = (n + 1 - (k + 1)) * (ch n k + ch n (k + 1))
    rw [Nat.mul_add, h2, Nat.mul_add, show n + 1 - (k + 1) = n - k by omega, ← h1]
    by_cases q : k < n
    · rw [show n - k = (n - (k + 1)) + 1 by omega, Nat.add_mul (k + 1) 1, Nat.add_mul (n - (k + 1)) 1]
      omega
    · have h0 : ch n (k + 1) = 0 := ch_big n (k + 1) (by omega)
      rw [h0]
      simp
theorem ch_next (n k : Nat) : ((ch n k : Nat) : Int) * ((n : Int) - (k : Int)) / ((k : Int) + 1) = ((if k ≤ n then ch n (k + 1) else ch n (k + 1) : Nat) : Int) ∨ n < k := by
  by_cases h : k ≤ n
  · left
    rw [if_pos h]
    have e := ch_absorb n k
    have e2 : ((ch n k : Nat) : Int) * ((n : Int) - (k : Int)) = (((k + 1) * ch n (k + 1) : Nat) : Int) := by
      rw [e, show ((n : Int) - (k : Int)) = ((n - k : Nat) : Int) by omega, Nat.mul_comm, Int.natCast_mul]
    rw [e2, show ((k : Int) + 1) = ((k + 1 : Nat) : Int) by omega]
    have : (((k + 1) * ch n (k + 1) : Nat) : Int) / ((k + 1 : Nat) : Int) = (((k + 1) * ch n (k + 1) / (k + 1) : Nat) : Int) := rfl
    rw [this, Nat.mul_div_cancel_left _ (by omega)]
  · right
    omega
theorem binom (x y : Int) : ∀ p : Nat, (x + y) ^ p = sumN (fun a => ((ch p a : Nat) : Int) * x ^ a * y ^ (p - a)) (p + 1)
  | 0 => by
    show (x + y) ^ 0 = 0 + ((1 : Nat) : Int) * x ^ 0 * y ^ 0
    rw [Int.pow_zero, Int.pow_zero, Int.pow_zero]
    rfl
  | p + 1 => by
    rw [Int.pow_succ, binom x y p]
    have e1 : sumN (fun a => ((ch (p + 1) a : Nat) : Int) * x ^ a * y ^ (p + 1 - a)) (p + 1 + 1) = y ^ (p + 1) + sumN (fun b => (((ch p b : Nat) : Int) + ((ch p (b + 1) : Nat) : Int)) * x ^ (b + 1) * y ^ (p - b)) (p + 1) := by
      rw [Nat.add_comm (p + 1) 1, sumN_split]
      have a0 : sumN (fun a => ((ch (1 + p) a : Nat) : Int) * x ^ a * y ^ (1 + p - a)) 1 = y ^ (p + 1) := by
        show 0 + ((ch (1 + p) 0 : Nat) : Int) * x ^ 0 * y ^ (1 + p - 0) = y ^ (p + 1)
        rw [ch_zero, Int.pow_zero, Nat.sub_zero, Nat.add_comm 1 p]
        simp
      have a1 : sumN (fun a => ((ch (p + 1) a : Nat) : Int) * x ^ a * y ^ (p + 1 - a)) 1 = y ^ (p + 1) := by rw [Nat.add_comm p 1] at a0 ⊢; exact a0
      rw [a1]
      refine congrArg (y ^ (p + 1) + ·) (sumN_congr _ fun b hb => ?_)
      show ((ch (p + 1) (1 + b) : Nat) : Int) * x ^ (1 + b) * y ^ (p + 1 - (1 + b)) = _
      rw [Nat.add_comm 1 b, show p + 1 - (b + 1) = p - b by omega]
      show (((ch p b + ch p (b + 1) : Nat)) : Int) * x ^ (b + 1) * y ^ (p - b) = _
      rw [Int.natCast_add]
    rw [e1]
    have e2 : sumN (fun b => (((ch p b : Nat) : Int) + ((ch p (b + 1) : Nat) : Int)) * x ^ (b + 1) * y ^ (p - b)) (p + 1) = x * sumN (fun a => ((ch p a : Nat) : Int) * x ^ a * y ^ (p - a)) (p + 1) + sumN (fun b => ((ch p (b + 1) : Nat) : Int) * x ^ (b + 1) * y ^ (p - b)) (p + 1) := by
      rw [← sumN_mul, ← sumN_add]
      refine sumN_congr _ fun b _ => ?_
      rw [Int.add_mul, Int.add_mul, Int.pow_succ]
      congr 1
      rw [← Int.mul_assoc x, ← Int.mul_assoc x, Int.mul_comm x, Int.mul_assoc _ x, Int.mul_comm x]
    have e3 : y ^ (p + 1) + sumN (fun b => ((ch p (b + 1) : Nat) : Int) * x ^ (b + 1) * y ^ (p - b)) (p + 1) = y * sumN (fun a => ((ch p a : Nat) : Int) * x ^ a * y ^ (p - a)) (p + 1) := by
      have last0 : sumN (fun b => ((ch p (b + 1) : Nat) : Int) * x ^ (b + 1) * y ^ (p - b)) (p + 1) = sumN (fun b => ((ch p (b + 1) : Nat) : Int) * x ^ (b + 1) * y ^ (p - b)) p := by
        show sumN _ p + ((ch p (p + 1) : Nat) : Int) * x ^ (p + 1) * y ^ (p - p) = _
        rw [ch_big p (p + 1) (by omega)]
        simp
      rw [last0, Nat.add_comm p 1, sumN_split]
      have a0 : sumN (fun a => ((ch p a : Nat) : Int) * x ^ a * y ^ (p - a)) 1 = y ^ p := by
        show 0 + ((ch p 0 : Nat) : Int) * x ^ 0 * y ^ (p - 0) = y ^ p
        rw [ch_zero, Int.pow_zero, Nat.sub_zero]
        simp
      rw [a0, Int.mul_add, ← sumN_mul, Nat.add_comm 1 p, Int.pow_succ, Int.mul_comm (y ^ p) y]
      refine congrArg (y * y ^ p + ·) (sumN_congr _ fun b hb => ?_)
      show ((ch p (b + 1) : Nat) : Int) * x ^ (b + 1) * y ^ (p - b) = y * (((ch p (1 + b) : Nat) : Int) * x ^ (1 + b) * y ^ (p - (1 + b)))
      rw [Nat.add_comm 1 b, show p - b = p - (b + 1) + 1 by omega, Int.pow_succ y, Int.mul_comm y, Int.mul_assoc (_ * _) _ y]
    rw [e2, Int.mul_comm, Int.add_mul]
    omega
/-- powers along gaps -/
theorem gap_powers {n last p : Nat} {ds W : List Nat} (R : Rst n ds W) (hn : 0 < n) (L : Last ds last) : sumN (fun a => ((ch p a : Nat) : Int) * (n : Int) ^ (p - a) * Gs ds last (fun g => (g : Int) ^ a)) p = sumN (fun r => ((W.getD r 0 : Nat) : Int) ^ p - (r : Int) ^ p) n := by
  rw [← Gs_tele R hn L (fun g => (g : Int) ^ p)]
  have e : ∀ g : Nat, ((g + n : Nat) : Int) ^ p - (g : Int) ^ p = sumN (fun a => (((ch p a : Nat) : Int) * (n : Int) ^ (p - a)) * (g : Int) ^ a) p := fun g => by
    rw [Int.natCast_add, binom]
    show sumN _ p + ((ch p p : Nat) : Int) * (g : Int) ^ p * (n : Int) ^ (p - p) - (g : Int) ^ p = _
    rw [ch_self, Nat.sub_self, Int.pow_zero, Int.mul_one]
    have e1 : ((1 : Nat) : Int) * (g : Int) ^ p = (g : Int) ^ p := by simp
    rw [e1, Int.add_sub_cancel]
    refine sumN_congr p fun a _ => ?_
    rw [Int.mul_assoc, Int.mul_comm ((g : Int) ^ a), ← Int.mul_assoc]
  rw [Gs_congr e, Gs_sum]
  refine sumN_congr p fun a _ => ?_
  rw [Gs_mul]
/-- the polynomial of gaps -/
theorem gap_at {n last : Nat} {ds W : List Nat} (R : Rst n ds W) (hn : 0 < n) (L : Last ds last) (x : Int) : (x ^ n - 1) * Gs ds last (fun g => x ^ g) = sumN (fun r => x ^ (W.getD r 0) - x ^ r) n := by
  rw [← Gs_tele R hn L (fun g => x ^ g), ← Gs_mul]
  refine Gs_congr fun g => ?_
  rw [Int.pow_add, Int.sub_mul, Int.one_mul, Int.mul_comm]
/-- the value of a row at a place -/
def evl (f : Nat → Int) (n : Nat) (x : Int) : Int := sumN (fun k => f k * x ^ k) n
theorem evl_gap {ds : List Nat} {last : Nat} (x : Int) : evl (gapF ds fun _ => 1) (last + 1) x = Gs ds last (fun g => x ^ g) := by
  unfold evl Gs
  refine sumN_congr _ fun k _ => ?_
  unfold gapF
  split
  · rw [Int.zero_mul]
  · rw [Int.one_mul]
theorem evl_poly {ds : List Nat} {last : Nat} (L : Last ds last) (x : Int) : evl (mc 1 (pf ds)) (last + 2) x = 1 + (x - 1) * evl (gapF ds fun _ => 1) (last + 1) x := by
  have hp : ∀ k, pf ds k = 1 - gapF ds (fun _ => 1) k := fun k => by
    unfold pf gapF
    split <;> rfl
  have e : evl (mc 1 (pf ds)) (last + 2) x = sumN (fun k => dl k * x ^ k) (last + 2) + (sumN (fun k => sh 1 (gapF ds fun _ => 1) k * x ^ k) (last + 2) - sumN (fun k => gapF ds (fun _ => 1) k * x ^ k) (last + 2)) := by
    unfold evl
    rw [← sumN_sub, ← sumN_add]
    refine sumN_congr _ fun k _ => ?_
    rw [← Int.sub_mul, ← Int.add_mul]
    congr 1
    unfold mc sh dl
    rw [hp k]
    by_cases h0 : 1 ≤ k
    · rw [if_pos h0, if_pos h0, if_neg (by omega), hp (k - 1)]
      omega
    · rw [if_neg h0, if_neg h0, if_pos (by omega)]
      omega
  have e1 : sumN (fun k => dl k * x ^ k) (last + 2) = 1 := by
    rw [sumN_one (j := 0) (by omega) fun k _ hk => by unfold dl; rw [if_neg hk, Int.zero_mul]]
    show (1 : Int) * x ^ 0 = 1
    rw [Int.pow_zero]
    rfl
  have e2 : sumN (fun k => sh 1 (gapF ds fun _ => 1) k * x ^ k) (last + 2) = x * evl (gapF ds fun _ => 1) (last + 1) x := by
    rw [show last + 2 = 1 + (last + 1) by omega, sumN_split]
    have a0 : sumN (fun k => sh 1 (gapF ds fun _ => 1) k * x ^ k) 1 = 0 := by
      show 0 + (if 1 ≤ 0 then _ else (0 : Int)) * x ^ 0 = 0
      rw [if_neg (by omega), Int.zero_mul]
      rfl
    unfold evl
    rw [a0, Int.zero_add, ← sumN_mul]
    refine sumN_congr _ fun k _ => ?_
    show (if 1 ≤ 1 + k then gapF ds (fun _ => 1) (1 + k - 1) else 0) * x ^ (1 + k) = _
    rw [if_pos (by omega), show 1 + k - 1 = k by omega, Nat.add_comm 1 k, Int.pow_succ, ← Int.mul_assoc, Int.mul_comm]
  have e3 : sumN (fun k => gapF ds (fun _ => 1) k * x ^ k) (last + 2) = evl (gapF ds fun _ => 1) (last + 1) x := by
    show sumN _ (last + 1) + gapF ds (fun _ => 1) (last + 1) * x ^ (last + 1) = _
    rw [gap_ends L _ (last + 1) (by omega), Int.zero_mul, Int.add_zero]
    rfl
  rw [e, e1, e2, e3, Int.sub_mul, Int.one_mul]
/-- Horner's way: so many of the last items -/
def horn (f : Nat → Int) (n : Nat) (x : Int) (i : Nat) : Int := sumN (fun j => f (n - i + j) * x ^ j) i
theorem horn_next {f : Nat → Int} {n i : Nat} {x : Int} (h : i < n) : horn f n x (i + 1) = horn f n x i * x + f (n - 1 - i) := by
  unfold horn
  rw [Nat.add_comm i 1, sumN_split]
  have a0 : sumN (fun j => f (n - (1 + i) + j) * x ^ j) 1 = f (n - 1 - i) := by
    show 0 + f (n - (1 + i) + 0) * x ^ 0 = _
    rw [Int.pow_zero, Int.mul_one, Int.zero_add, Nat.add_zero, show n - (1 + i) = n - 1 - i by omega]
  rw [a0, Int.add_comm, Int.mul_comm, ← sumN_mul]
  congr 1
  refine sumN_congr _ fun k _ => ?_
  rw [show n - (1 + i) + (1 + k) = n - i + k by omega, Nat.add_comm 1 k, Int.pow_succ, ← Int.mul_assoc, Int.mul_comm]
theorem horn_all (f : Nat → Int) (n : Nat) (x : Int) : horn f n x n = evl f n x := by
  unfold horn evl
  refine sumN_congr _ fun k _ => ?_
  rw [Nat.sub_self, Nat.zero_add]
/-- an arithmetic row -/
theorem row_sum (a n : Int) : ∀ q : Nat, sumN (fun j => a + (j : Int) * n) q = (q : Int) * a + n * (q : Int) * ((q : Int) - 1) / 2 := by
  have half : ∀ q : Nat, n * (q : Int) * ((q : Int) - 1) / 2 = n * sumN (fun j => (j : Int)) q := fun q => by
    have e : (q : Int) * ((q : Int) - 1) = 2 * sumN (fun j => (j : Int)) q := by
      induction q with
      | zero => rfl
      | succ q ih =>
        show _ = 2 * (sumN _ q + (q : Int))
        rw [Int.mul_add, ← ih, show ((q + 1 : Nat) : Int) = (q : Int) + 1 by omega, show ((q : Int) + 1 - 1) = (q : Int) by omega, Int.mul_sub, Int.add_mul]
        omega
    rw [Int.mul_assoc, e, ← Int.mul_assoc, Int.mul_comm n 2, Int.mul_assoc, Int.mul_ediv_cancel_left _ (by decide)]
  intro q
  rw [half, ← sumN_mul]
  induction q with
  | zero => simp [sumN]
  | succ q ih =>
    show sumN _ q + (a + (q : Int) * n) = ((q + 1 : Nat) : Int) * a + (sumN _ q + n * (q : Int))
    rw [ih, show ((q + 1 : Nat) : Int) = (q : Int) + 1 by omega, Int.add_mul, Int.one_mul, Int.mul_comm n]
    omega
end Pd

/-! Coins of a set of sums; rules by one rest; chains of fractions. -/
namespace Pd
/-! ### the least coins of a row -/
theorem pb_snoc {cs : List Nat} {c n : Nat} (hc : 0 < c) : pb (cs ++ [c]) n = (pb cs n || (decide (c ≤ n) && pb (cs ++ [c]) (n - c))) := by
  rw [Bool.eq_iff_iff, pb_iff, Bool.or_eq_true, Bool.and_eq_true, pb_iff, pb_iff, decide_eq_true_iff]
  constructor
  · intro p
    obtain ⟨a, k, pa, rfl⟩ := p.split
    cases k with
    | zero => left; rw [Nat.zero_mul, Nat.add_zero]; exact pa
    | succ k =>
      right
      have e : a + (k + 1) * c = (a + k * c) + c := by rw [Nat.add_mul, Nat.one_mul, Nat.add_assoc]
      rw [e]
      refine ⟨by omega, ?_⟩
      rw [Nat.add_sub_cancel]
      exact (pa.mono fun d hd => List.mem_append_left _ hd).sum ((Pay.one (by simp)).times k)
  · rintro (p | ⟨h, p⟩)
    · exact p.mono fun d hd => List.mem_append_left _ hd
    · exact p.step (by simp) h
noncomputable def needF : List Nat → List Nat → List Nat
  | acc, [] => acc
  | acc, c :: r => if pb acc c = true then needF acc r else needF (acc ++ [c]) r
theorem needF_pay : ∀ (L acc : List Nat) (x : Nat), Pay (needF acc L) x ↔ Pay (acc ++ L) x
  | [], acc, x => by rw [List.append_nil]; exact Iff.rfl
  | c :: r, acc, x => by
    unfold needF
    split
    · rename_i h
      rw [needF_pay r acc]
      have hc := pb_iff.mp h
      refine ⟨fun p => p.mono fun d hd => ?_, fun p => p.gen fun d hd => ?_⟩
      · rcases List.mem_append.mp hd with hd | hd
        · exact List.mem_append_left _ hd
        · exact List.mem_append_right _ (List.mem_cons_of_mem _ hd)
      · rcases List.mem_append.mp hd with hd | hd
        · exact .one (List.mem_append_left _ hd)
        · rcases List.mem_cons.mp hd with rfl | hd
          · exact hc.mono fun e he => List.mem_append_left _ he
          · exact .one (List.mem_append_right _ hd)
    · rw [needF_pay r (acc ++ [c]), List.append_assoc]
      exact Iff.rfl
theorem needF_sub : ∀ (L acc : List Nat) (c : Nat), c ∈ needF acc L → c ∈ acc ∨ c ∈ L
  | [], acc, c, h => .inl h
  | d :: r, acc, c, h => by
    unfold needF at h
    split at h
    · exact (needF_sub r acc c h).imp id (List.mem_cons_of_mem _)
    · rcases needF_sub r _ c h with h | h
      · rcases List.mem_append.mp h with h | h
        · exact .inl h
        · rw [List.mem_singleton.mp h]; exact .inr (by simp)
      · exact .inr (List.mem_cons_of_mem _ h)
theorem needF_asc : ∀ (L acc : List Nat), (acc ++ L).Pairwise (· < ·) → (needF acc L).Pairwise (· < ·)
  | [], acc, h => by rw [List.append_nil] at h; exact h
  | d :: r, acc, h => by
    unfold needF
    split
    · refine needF_asc r acc (h.sublist ?_)
      exact List.Sublist.append_left (List.sublist_cons_self d r) acc
    · refine needF_asc r _ ?_
      rw [List.append_assoc]
      exact h
theorem needF_need : ∀ (L acc : List Nat), (∀ a c b, acc = a ++ c :: b → ¬ Pay a c) → ∀ a c b, needF acc L = a ++ c :: b → ¬ Pay a c
  | [], acc, h, a, c, b, e => h a c b e
  | d :: r, acc, h, a, c, b, e => by
    unfold needF at e
    split at e
    · exact needF_need r acc h a c b e
    · rename_i hd
      refine needF_need r _ (fun a' c' b' e' => ?_) a c b e
      rcases List.append_eq_append_iff.mp e' with ⟨x, h1, h2⟩ | ⟨x, h1, h2⟩
      · cases x with
        | nil =>
          rw [List.append_nil] at h1
          obtain ⟨rfl, _⟩ := List.cons.inj h2
          subst h1
          exact fun p => hd (pb_iff.mpr p)
        | cons y x =>
          have := congrArg List.length h2
          simp at this
      · cases x with
        | nil =>
          rw [List.append_nil] at h1
          rw [List.nil_append] at h2
          obtain ⟨rfl, _⟩ := List.cons.inj h2
          subst h1
          exact fun p => hd (pb_iff.mpr p)
        | cons y x =>
          obtain ⟨rfl, h3⟩ := List.cons.inj h2
          exact h a' c' x h1
/-! ### a set of sums -/
/-- sums kept by a rule: nothing is lost by adding; the last one lost, the first one kept -/
structure Kept (s : Nat → Bool) (last first : Nat) : Prop where
  zero : s 0 = true
  add : ∀ m n, s m = true → s n = true → s (m + n) = true
  gap : last = 0 ∨ s last = false
  safe : ∀ n, last < n → s n = true
  pos : 0 < first
  one : s first = true
  low : ∀ n, 0 < n → n < first → s n = false
theorem Kept.uniq {s : Nat → Bool} {l f l' f' : Nat} (h : Kept s l f) (h' : Kept s l' f') : l = l' ∧ f = f' := by
  constructor
  · apply Classical.byContradiction
    intro hn
    rcases Nat.lt_or_gt_of_ne hn with q | q
    · rcases h'.gap with z | z
      · omega
      · have := h.safe l' q; rw [z] at this; cases this
    · rcases h.gap with z | z
      · omega
      · have := h'.safe l q; rw [z] at this; cases this
  · apply Classical.byContradiction
    intro hn
    rcases Nat.lt_or_gt_of_ne hn with q | q
    · have := h'.low f h.pos q; rw [h.one] at this; cases this
    · have := h.low f' h'.pos q; rw [h'.one] at this; cases this
theorem Kept.first_le {s : Nat → Bool} {last first : Nat} (h : Kept s last first) : first ≤ last + 1 := by
  apply Classical.byContradiction
  intro hn
  have := h.low (last + 1) (by omega) (by omega)
  rw [h.safe (last + 1) (by omega)] at this
  cases this
def rowOf (s : Nat → Bool) (N : Nat) : List Nat := ((List.range N).map (· + 1)).filter s
theorem row_mem {s : Nat → Bool} {N x : Nat} : x ∈ rowOf s N ↔ 0 < x ∧ x ≤ N ∧ s x = true := by
  unfold rowOf
  rw [List.mem_filter, List.mem_map]
  constructor
  · rintro ⟨⟨i, hi, rfl⟩, h⟩
    have := List.mem_range.mp hi
    exact ⟨by omega, by omega, h⟩
  · rintro ⟨h1, h2, h3⟩
    exact ⟨⟨x - 1, List.mem_range.mpr (by omega), by omega⟩, h3⟩
theorem row_asc (s : Nat → Bool) (N : Nat) : (rowOf s N).Pairwise (· < ·) := List.Pairwise.filter _ (List.pairwise_map.mpr (List.pairwise_lt_range.imp fun h => by omega))
noncomputable def gens (s : Nat → Bool) (last first : Nat) : List Nat := needF [] (rowOf s (last + first))
theorem gens_pay {s : Nat → Bool} {last first : Nat} (h : Kept s last first) (x : Nat) : Pay (gens s last first) x ↔ s x = true := by
  unfold gens
  rw [needF_pay, List.nil_append]
  constructor
  · intro p
    induction p with
    | zero => exact h.zero
    | add hc _ ih => exact h.add _ _ ih (row_mem.mp hc).2.2
  · induction x using Nat.strongRecOn with
    | ind x ih =>
      intro hx
      by_cases h0 : x = 0
      · rw [h0]; exact .zero
      · by_cases h1 : x ≤ last + first
        · exact .one (row_mem.mpr ⟨by omega, h1, hx⟩)
        · have h2 := h.pos
          have p := ih (x - first) (by omega) (h.safe _ (by omega))
          exact p.step (row_mem.mpr ⟨h2, by omega, h.one⟩) (by omega)
theorem gens_mem {s : Nat → Bool} {last first c : Nat} (hc : c ∈ gens s last first) : 0 < c ∧ c ≤ last + first ∧ s c = true := by
  rcases needF_sub _ _ c hc with h | h
  · cases h
  · exact row_mem.mp h
theorem gens_asc (s : Nat → Bool) (last first : Nat) : (gens s last first).Pairwise (· < ·) := needF_asc _ _ (by rw [List.nil_append]; exact row_asc s _)
theorem gens_need (s : Nat → Bool) (last first : Nat) : ∀ a c b, gens s last first = a ++ c :: b → ¬ Pay a c := needF_need _ _ fun a c b e => by cases a <;> cases e
theorem gens_first {s : Nat → Bool} {last first : Nat} (h : Kept s last first) : first ∈ gens s last first ∧ ∀ c ∈ gens s last first, first ≤ c := by
  constructor
  · have p := (gens_pay h first).mpr h.one
    rcases p.inv with z | ⟨c, hc, hl, q⟩
    · have := h.pos; omega
    · have hc2 := gens_mem hc
      by_cases e : c = first
      · exact Eq.subst (motive := fun z => z ∈ gens s last first) e hc
      · have := h.low c hc2.1 (by omega)
        rw [hc2.2.2] at this
        cases this
  · intro c hc
    have hc2 := gens_mem hc
    apply Classical.byContradiction
    intro hn
    have := h.low c hc2.1 (by omega)
    rw [hc2.2.2] at this
    cases this
theorem nodup_le : ∀ (n : Nat) (l : List Nat), l.Nodup → (∀ x ∈ l, x < n) → l.length ≤ n
  | 0, l, _, h => by
    cases l with
    | nil => exact Nat.le_refl 0
    | cons a r => exact absurd (h a (by simp)) (by omega)
  | n + 1, l, hd, h => by
    by_cases q : n ∈ l
    · have h1 := nodup_le n (l.erase n) (hd.erase n) fun x hx => by
        obtain ⟨h2, h3⟩ := (List.Nodup.mem_erase_iff hd).mp hx
        have := h x h3
        omega
      have := List.length_erase_of_mem q
      omega
    · have h1 := nodup_le n l hd fun x hx => by
        have h2 := h x hx
        by_cases e : x = n
        · rw [e] at hx; exact absurd hx q
        · omega
      omega
theorem gens_len {s : Nat → Bool} {last first : Nat} (h : Kept s last first) : (gens s last first).length ≤ first := by
  have hf := gens_first h
  have key : ((gens s last first).map (· % first)).Nodup := by
    refine List.pairwise_map.mpr ?_
    have asc := gens_asc s last first
    -- congruent ones: the greater is paid by the lesser and the first
    have nd : ∀ a c b, gens s last first = a ++ c :: b → ∀ d ∈ a, d % first ≠ c % first := fun a c b e d hd he => by
      have hasc := asc
      rw [e] at hasc
      obtain ⟨_, _, h3⟩ := List.pairwise_append.mp hasc
      have hlt : d < c := h3 d hd c (by simp)
      obtain ⟨j, hj⟩ := same_rest he (by omega)
      refine gens_need s last first a c b e ?_
      rw [hj]
      have fa : first ∈ a := by
        have hfm := hf.1
        rw [e] at hfm
        rcases List.mem_append.mp hfm with z | z
        · exact z
        · have hdf := hf.2 d (by rw [e]; exact List.mem_append_left _ hd)
          rcases List.mem_cons.mp z with rfl | z
          · omega
          · have := (List.pairwise_cons.mp (List.pairwise_append.mp hasc).2.1).1 _ z
            omega
      exact (Pay.one hd).sum ((Pay.one fa).times j)
    generalize gens s last first = G at nd
    have byn : ∀ n, (G.take n).Pairwise fun a b => a % first ≠ b % first := fun n => by
      induction n with
      | zero => rw [List.take_zero]; exact List.Pairwise.nil
      | succ n ih =>
        by_cases q : n < G.length
        · have e : G[n]? = some G[n] := List.getElem?_eq_getElem q
          have et : G.take (n + 1) = G.take n ++ [G[n]] := by rw [List.take_add_one, e]; rfl
          have eg : G = G.take n ++ G[n] :: G.drop (n + 1) := by rw [← List.drop_eq_getElem_cons q, List.take_append_drop]
          rw [et]
          refine List.pairwise_append.mpr ⟨ih, List.pairwise_singleton _ _, fun x hx y hy => ?_⟩
          rw [List.mem_singleton.mp hy]
          exact nd _ _ _ eg x hx
        · rw [List.take_of_length_le (by omega)]
          rw [List.take_of_length_le (by omega)] at ih
          exact ih
    have := byn G.length
    rw [List.take_length] at this
    exact this
  have := nodup_le first _ key fun x hx => by
    obtain ⟨c, _, rfl⟩ := List.mem_map.mp hx
    exact Nat.mod_lt _ h.pos
  rw [List.length_map] at this
  exact this
theorem kept_gcd {s : Nat → Bool} {last first : Nat} (h : Kept s last first) : gcdL (gens s last first) = 1 := by
  have dv : ∀ d, (∀ c ∈ gens s last first, d ∣ c) → ∀ x, Pay (gens s last first) x → d ∣ x := fun d hd x p => by
    induction p with
    | zero => exact Nat.dvd_zero d
    | add hc _ ih => exact Nat.dvd_add ih (hd _ hc)
  have key : ∀ (cs : List Nat) (a d : Nat), d ∣ cs.foldl Nat.gcd a → d ∣ a ∧ ∀ c ∈ cs, d ∣ c := fun cs => by
    induction cs with
    | nil => intro a d h; exact ⟨h, fun c hc => by cases hc⟩
    | cons c r ih =>
      intro a d h
      obtain ⟨h1, h2⟩ := ih _ d h
      obtain ⟨h3, h4⟩ := Nat.dvd_gcd_iff.mp h1
      exact ⟨h3, fun x hx => by
        rcases List.mem_cons.mp hx with rfl | hx
        · exact h4
        · exact h2 x hx⟩
  have hd := (key (gens s last first) 0 (gcdL (gens s last first)) (Nat.dvd_refl _)).2
  have d1 := dv _ hd (last + 1) ((gens_pay h _).mpr (h.safe _ (by omega)))
  have d2 := dv _ hd (last + 1 + 1) ((gens_pay h _).mpr (h.safe _ (by omega)))
  exact Nat.dvd_one.mp ((Nat.dvd_add_right d1).mp d2)
end Pd

/-! Rules by one rest, chains of fractions, how many gaps. -/
namespace Pd
theorem least_pos {s : Nat → Bool} : ∀ n, 0 < n → s n = true → ∃ f, 0 < f ∧ f ≤ n ∧ s f = true ∧ ∀ k, 0 < k → k < f → s k = false := fun n => by
  induction n using Nat.strongRecOn with
  | ind n ih =>
    intro h0 hs
    by_cases q : ∃ k, 0 < k ∧ k < n ∧ s k = true
    · obtain ⟨k, k0, kn, ks⟩ := q
      obtain ⟨f, f0, fk, fs, fl⟩ := ih k kn k0 ks
      exact ⟨f, f0, by omega, fs, fl⟩
    · refine ⟨n, h0, Nat.le_refl n, hs, fun k k0 kn => ?_⟩
      cases e : s k with
      | false => rfl
      | true => exact absurd ⟨k, k0, kn, e⟩ q
theorem last_gap {s : Nat → Bool} : ∀ B, ∃ l, l ≤ B ∧ (l = 0 ∨ s l = false) ∧ ∀ n, l < n → n ≤ B → s n = true
  | 0 => ⟨0, Nat.le_refl 0, .inl rfl, fun n h1 h2 => by omega⟩
  | B + 1 => by
    cases e : s (B + 1) with
    | false => exact ⟨B + 1, Nat.le_refl _, .inr e, fun n h1 h2 => by omega⟩
    | true =>
      obtain ⟨l, h1, h2, h3⟩ := last_gap (s := s) B
      refine ⟨l, by omega, h2, fun n a b => ?_⟩
      by_cases q : n = B + 1
      · rw [q]; exact e
      · exact h3 n a (by omega)
/-! ### a rule -/
def kp (a b c n : Nat) : Bool := decide (a * n % b ≤ c * n)
theorem kp_big {a b c n : Nat} (hb : 0 < b) (hc : 0 < c) (h : b ≤ n) : kp a b c n = true := by
  refine decide_eq_true ?_
  have h1 := Nat.mod_lt (a * n) hb
  have h2 : n ≤ c * n := Nat.le_mul_of_pos_left _ hc
  omega
theorem kp_kept (a : Nat) {b c : Nat} (hb : 0 < b) (hc : 0 < c) : ∃ last first, Kept (kp a b c) last first ∧ last < b ∧ c * last < b ∧ first ≤ b := by
  obtain ⟨f, f0, fb, fs, fl⟩ := least_pos (s := kp a b c) b hb (kp_big hb hc (Nat.le_refl b))
  obtain ⟨l, lb, lg, ls⟩ := last_gap (s := kp a b c) b
  have lc : c * l < b := by
    rcases lg with z | z
    · rw [z, Nat.mul_zero]; exact hb
    · have h1 := of_decide_eq_false z
      have h2 := Nat.mod_lt (a * l) hb
      omega
  have ll : l ≤ c * l := Nat.le_mul_of_pos_left _ hc
  refine ⟨l, f, ⟨?_, fun m n hm hn => ?_, lg, fun n hn => ?_, f0, fs, fl⟩, by omega, lc, fb⟩
  · refine decide_eq_true ?_
    rw [Nat.mul_zero, Nat.zero_mod]
    exact Nat.zero_le _
  · have h1 := of_decide_eq_true hm
    have h2 := of_decide_eq_true hn
    refine decide_eq_true ?_
    rw [Nat.mul_add, Nat.mul_add, Nat.add_mod]
    have := Nat.mod_le (a * m % b + a * n % b) b
    omega
  · by_cases q : n ≤ b
    · exact ls n hn q
    · exact kp_big hb hc (by omega)
theorem kp_more (a b c t n : Nat) : kp (a + t * b) b c n = kp a b c n := by
  unfold kp
  rw [Nat.add_mul, Nat.mul_right_comm t b n, Nat.add_mul_mod_self_right]
theorem kp_times {t : Nat} (ht : 0 < t) (a b c n : Nat) : kp (t * a) (t * b) (t * c) n = kp a b c n := by
  unfold kp
  rw [Nat.mul_assoc, Nat.mul_mod_mul_left, Nat.mul_assoc]
  refine decide_eq_decide.mpr ⟨fun h => Nat.le_of_mul_le_mul_left h ht, fun h => Nat.mul_le_mul_left t h⟩
/-- the twin factor -/
theorem kp_twin {a b n : Nat} (hb : 0 < b) (ha : a ≤ b) : kp (b + 1 - a) b 1 n = kp a b 1 n := by
  unfold kp
  rw [Nat.one_mul]
  refine decide_eq_decide.mpr ?_
  -- (b + 1 - a) n + a n = b n + n
  have e : (b + 1 - a) * n + a * n = b * n + n := by
    rw [← Nat.add_mul, show b + 1 - a + a = b + 1 by omega, Nat.add_mul, Nat.one_mul]
  have h1 := Nat.mod_lt (a * n) hb
  have h2 := Nat.mod_lt ((b + 1 - a) * n) hb
  have d1 := Nat.mod_add_div (a * n) b
  have d2 := Nat.mod_add_div ((b + 1 - a) * n) b
  generalize (b + 1 - a) * n % b = x at *
  generalize a * n % b = y at *
  generalize (b + 1 - a) * n / b = q1 at *
  generalize a * n / b = q2 at *
  -- x + y + b (q1 + q2) = b n + n
  have s : x + y + b * (q1 + q2) = b * n + n := by rw [Nat.mul_add]; omega
  constructor
  · intro hx
    apply Classical.byContradiction
    intro hy
    -- x + y - n is a multiple of b between 1 and b - 1
    have hd : b * (q1 + q2) < b * n + 0 + b * 0 + 1 ∨ True := .inr trivial
    by_cases k : q1 + q2 ≤ n - 1 ∧ 0 < n
    · have : b * (q1 + q2) ≤ b * (n - 1) := Nat.mul_le_mul_left _ k.1
      have e3 : b * n = b * (n - 1) + b := by
        obtain ⟨m, rfl⟩ : ∃ m, n = m + 1 := ⟨n - 1, by omega⟩
        rw [Nat.add_sub_cancel, Nat.mul_add, Nat.mul_one]
      omega
    · have : b * n ≤ b * (q1 + q2) := Nat.mul_le_mul_left _ (by omega)
      omega
  · intro hy
    apply Classical.byContradiction
    intro hx
    by_cases k : q1 + q2 ≤ n - 1 ∧ 0 < n
    · have : b * (q1 + q2) ≤ b * (n - 1) := Nat.mul_le_mul_left _ k.1
      have e3 : b * n = b * (n - 1) + b := by
        obtain ⟨m, rfl⟩ : ∃ m, n = m + 1 := ⟨n - 1, by omega⟩
        rw [Nat.add_sub_cancel, Nat.mul_add, Nat.mul_one]
      omega
    · have : b * n ≤ b * (q1 + q2) := Nat.mul_le_mul_left _ (by omega)
      omega
/-- in a span: some number of wholes lies between -/
def Btw (p1 q1 p2 q2 n : Nat) : Prop := ∃ k, n * q2 ≤ k * p2 ∧ k * p1 ≤ n * q1
theorem kp_btw {a b c n : Nat} (hb : 0 < b) (hc : c ≤ a) : kp a b c n = true ↔ Btw b a b (a - c) n := by
  have e : n * (a - c) + n * c = n * a := by rw [← Nat.mul_add, Nat.sub_add_cancel hc]
  have e2 := Nat.mod_add_div (a * n) b
  constructor
  · intro h
    have h := of_decide_eq_true h
    refine ⟨a * n / b, ?_, ?_⟩
    · rw [Nat.mul_comm (a * n / b), Nat.mul_comm n a, ] at *
      rw [Nat.mul_comm c n] at h
      omega
    · rw [Nat.mul_comm _ b, Nat.mul_comm n a]
      omega
  · rintro ⟨k, h1, h2⟩
    refine decide_eq_true ?_
    have e3 : a * n % b ≤ a * n - k * b := by
      have : a * n = (a * n - k * b) + b * k := by rw [Nat.mul_comm b k, Nat.mul_comm a n]; omega
      rw [this, Nat.add_mul_mod_self_left]
      have := Nat.mod_le (a * n - k * b) b
      rw [Nat.mul_comm b k, Nat.add_sub_cancel]
      exact this
    rw [Nat.mul_comm a n, Nat.mul_comm c n] at *
    omega
theorem btw_red {g1 g2 p1 q1 p2 q2 n : Nat} (h1 : 0 < g1) (h2 : 0 < g2) : Btw (g1 * p1) (g1 * q1) (g2 * p2) (g2 * q2) n ↔ Btw p1 q1 p2 q2 n := by
  unfold Btw
  refine exists_congr fun k => ?_
  rw [Nat.mul_left_comm n g2, Nat.mul_left_comm k g2, Nat.mul_left_comm k g1, Nat.mul_left_comm n g1]
  exact and_congr ⟨fun h => Nat.le_of_mul_le_mul_left h h2, fun h => Nat.mul_le_mul_left _ h⟩ ⟨fun h => Nat.le_of_mul_le_mul_left h h1, fun h => Nat.mul_le_mul_left _ h⟩
/-! ### chains -/
inductive Chn (hi : Nat × Nat) : Nat × Nat → List (Nat × Nat) → Prop
  | one : Chn hi hi [hi]
  | step {p q : Nat × Nat} {l : List (Nat × Nat)} : q.1 * p.2 = p.1 * q.2 + 1 → q.1 ≤ max p.1 hi.1 → q.1 * hi.2 ≤ hi.1 * q.2 → 0 < q.2 → Chn hi q l → Chn hi p (p :: l)
theorem Chn.tops {hi p : Nat × Nat} {l : List (Nat × Nat)} (h : Chn hi p l) : ∀ x ∈ l, x.1 ≤ max p.1 hi.1 := by
  induction h with
  | one => intro x hx; rw [List.mem_singleton.mp hx]; omega
  | step h1 h2 h3 h4 _ ih =>
    intro x hx
    rcases List.mem_cons.mp hx with rfl | hx
    · omega
    · have := ih x hx
      omega
theorem Chn.under {hi p : Nat × Nat} {l : List (Nat × Nat)} (h : Chn hi p l) : p.1 * hi.2 ≤ hi.1 * p.2 → ∀ x ∈ l, x.1 * hi.2 ≤ hi.1 * x.2 := by
  induction h with
  | one => intro h0 x hx; rw [List.mem_singleton.mp hx]; exact h0
  | step h1 h2 h3 h4 _ ih =>
    intro h0 x hx
    rcases List.mem_cons.mp hx with rfl | hx
    · exact h0
    · exact ih h3 x hx
theorem Chn.over {hi p : Nat × Nat} {l : List (Nat × Nat)} (h : Chn hi p l) : ∀ x ∈ l, p.1 * x.2 ≤ x.1 * p.2 := by
  induction h with
  | one => intro x hx; rw [List.mem_singleton.mp hx]; exact Nat.le_refl _
  | @step p q l h1 h2 h3 h4 _ ih =>
    intro x hx
    rcases List.mem_cons.mp hx with rfl | hx
    · exact Nat.le_refl _
    · have h5 := ih x hx
      refine Nat.le_of_mul_le_mul_right (c := q.2) ?_ h4
      have a1 : p.1 * q.2 * x.2 ≤ q.1 * p.2 * x.2 := Nat.mul_le_mul_right _ (by omega)
      have a2 : q.1 * x.2 * p.2 ≤ x.1 * q.2 * p.2 := Nat.mul_le_mul_right _ h5
      rw [Nat.mul_right_comm p.1 q.2 x.2] at a1
      rw [Nat.mul_right_comm q.1 x.2 p.2] at a2
      rw [Nat.mul_right_comm x.1 q.2 p.2] at a2
      omega
/-- what lies between is paid by two neighbours' tops -/
theorem Chn.cone {hi p : Nat × Nat} {l : List (Nat × Nat)} (h : Chn hi p l) (co : Nat.gcd hi.1 hi.2 = 1) {n k : Nat} : p.1 * k ≤ n * p.2 → n * hi.2 ≤ hi.1 * k → ∃ α β x y, x ∈ l ∧ y ∈ l ∧ n = α * x.1 + β * y.1 := by
  induction h with
  | one =>
    intro h1 h2
    have e : hi.1 * k = n * hi.2 := by omega
    have d : hi.1 ∣ n * hi.2 := ⟨k, e.symm⟩
    have d2 : hi.1 ∣ n := Nat.Coprime.dvd_of_dvd_mul_right co d
    obtain ⟨j, hj⟩ := d2
    exact ⟨j, 0, hi, hi, by simp, by simp, by rw [hj, Nat.zero_mul, Nat.add_zero, Nat.mul_comm]⟩
  | @step p q l h1 h2 h3 h4 hc ih =>
    intro g1 g2
    have qm : q ∈ l := by cases hc <;> simp
    by_cases c : n * q.2 ≤ q.1 * k
    · obtain ⟨α, ea⟩ : ∃ α, q.1 * k = n * q.2 + α := ⟨q.1 * k - n * q.2, by omega⟩
      obtain ⟨β, eb⟩ : ∃ β, n * p.2 = p.1 * k + β := ⟨n * p.2 - p.1 * k, by omega⟩
      refine ⟨α, β, p, q, by simp, List.mem_cons_of_mem _ qm, ?_⟩
      have a1 : q.1 * k * p.1 = n * q.2 * p.1 + α * p.1 := by rw [ea, Nat.add_mul]
      have b1 : n * p.2 * q.1 = p.1 * k * q.1 + β * q.1 := by rw [eb, Nat.add_mul]
      have c1 : n * p.2 * q.1 = n * q.2 * p.1 + n := by rw [Nat.mul_assoc, Nat.mul_comm p.2, h1, Nat.mul_add, Nat.mul_one, Nat.mul_comm p.1, ← Nat.mul_assoc]
      have d1 : q.1 * k * p.1 = p.1 * k * q.1 := by rw [Nat.mul_comm q.1 k, Nat.mul_right_comm, Nat.mul_comm k p.1]
      omega
    · obtain ⟨α, β, x, y, hx, hy, e⟩ := ih (by omega) g2
      exact ⟨α, β, x, y, List.mem_cons_of_mem _ hx, List.mem_cons_of_mem _ hy, e⟩
/-! ### how many gaps -/
theorem count_mult {a b : Nat} (hb : 0 < b) : sumN (fun n => if a * n % b = 0 then 1 else 0) b = ((Nat.gcd a b : Nat) : Int) := by
  have hg : 0 < Nat.gcd a b := Nat.gcd_pos_of_pos_right a hb
  obtain ⟨u, hu⟩ := Nat.gcd_dvd_right a b
  obtain ⟨v, hv⟩ := Nat.gcd_dvd_left a b
  have u0 : 0 < u := by
    apply Classical.byContradiction
    intro hn
    have : u = 0 := by omega
    rw [this, Nat.mul_zero] at hu
    omega
  have co : Nat.gcd u v = 1 := by
    have h1 : Nat.gcd (Nat.gcd a b * v) (Nat.gcd a b * u) = Nat.gcd a b * Nat.gcd v u := Nat.gcd_mul_left _ _ _
    rw [← hv, ← hu] at h1
    have : Nat.gcd a b * 1 = Nat.gcd a b * Nat.gcd v u := by rw [Nat.mul_one]; exact h1
    rw [Nat.gcd_comm]
    exact (Nat.eq_of_mul_eq_mul_left hg this).symm
  have iff : ∀ n, a * n % b = 0 ↔ n % u = 0 := fun n => by
    constructor
    · intro h
      have d : b ∣ a * n := Nat.dvd_of_mod_eq_zero h
      rw [hu, hv, Nat.mul_assoc] at d
      -- the gcds stand for themselves
      have d2 : u ∣ v * n := Nat.dvd_of_mul_dvd_mul_left hg (by
        have : Nat.gcd a b * u ∣ Nat.gcd a b * (v * n) := by
          have e1 : b ∣ a * n := Nat.dvd_of_mod_eq_zero h
          rw [← hu, ← Nat.mul_assoc, ← hv]
          exact e1
        exact this)
      exact Nat.mod_eq_zero_of_dvd (Nat.Coprime.dvd_of_dvd_mul_left co d2)
    · intro h
      obtain ⟨j, hj⟩ := Nat.dvd_of_mod_eq_zero h
      refine Nat.mod_eq_zero_of_dvd ?_
      refine ⟨v * j, ?_⟩
      have : a * n = Nat.gcd a b * v * (u * j) := by rw [← hv, ← hj]
      rw [this]
      have e2 : b * (v * j) = Nat.gcd a b * u * (v * j) := by rw [← hu]
      rw [e2, Nat.mul_assoc, Nat.mul_assoc, Nat.mul_left_comm v u j]
  have eb : b = u * Nat.gcd a b := by rw [Nat.mul_comm]; exact hu
  have e0 : sumN (fun n => if a * n % b = 0 then (1 : Int) else 0) b = sumN (fun n => if n % u = 0 then 1 else 0) (u * Nat.gcd a b) := by
    rw [← eb]
    refine sumN_congr b fun n _ => ?_
    by_cases q : n % u = 0
    · rw [if_pos q, if_pos ((iff n).mpr q)]
    · rw [if_neg q, if_neg fun z => q ((iff n).mp z)]
  rw [e0, sumN_grid]
  rw [sumN_one (j := 0) u0 fun r hr hne => sumN_zero _ fun j _ => by
    rw [if_neg]
    rw [Nat.add_mul_mod_self_right, Nat.mod_eq_of_lt hr]
    exact hne]
  have ones : ∀ g : Nat, sumN (fun j => if (0 + j * u) % u = 0 then (1 : Int) else 0) g = (g : Int) := fun g => by
    induction g with
    | zero => rfl
    | succ g ih =>
      show sumN _ g + (if (0 + g * u) % u = 0 then (1 : Int) else 0) = _
      rw [ih, if_pos (by rw [Nat.zero_add, Nat.mul_mod_left])]
      omega
  exact ones _
theorem rest_twin {a b n : Nat} (hb : 0 < b) (hn : n ≤ b) : a * (b - n) % b = if a * n % b = 0 then 0 else b - a * n % b := by
  have e : a * (b - n) + a * n = a * b := by rw [← Nat.mul_add, Nat.sub_add_cancel hn]
  have h1 := Nat.mod_lt (a * n) hb
  have h2 := Nat.mod_lt (a * (b - n)) hb
  have h3 : (a * (b - n) % b + a * n % b) % b = 0 := by rw [← Nat.add_mod, e, Nat.mul_mod_left]
  generalize a * (b - n) % b = x at *
  generalize a * n % b = y at *
  by_cases q : x + y < b
  · rw [Nat.mod_eq_of_lt q] at h3
    rw [if_pos (by omega)]
    omega
  · have : (x + y) % b = x + y - b := by rw [Nat.mod_eq_sub_mod (by omega), Nat.mod_eq_of_lt (by omega)]
    rw [this] at h3
    rw [if_neg (by omega)]
    omega
theorem genus {a b : Nat} (hb : 0 < b) (ha : 0 < a) : 2 * sumN (fun n => if kp a b 1 n = true then 0 else 1) b = (b : Int) + 1 - ((Nat.gcd a b : Nat) : Int) - ((Nat.gcd (a - 1) b : Nat) : Int) := by
  -- by twos: n and b - n
  obtain ⟨m, rfl⟩ : ∃ m, b = m + 1 := ⟨b - 1, by omega⟩
  have k0 : kp a (m + 1) 1 0 = true := by
    refine decide_eq_true ?_
    rw [Nat.mul_zero, Nat.zero_mod]
    exact Nat.zero_le _
  have shift : ∀ f : Nat → Int, sumN f (m + 1) = f 0 + sumN (fun k => f (k + 1)) m := fun f => by
    rw [Nat.add_comm m 1, sumN_split]
    congr 1
    · show 0 + f 0 = f 0
      omega
    · exact sumN_congr _ fun k _ => by rw [Nat.add_comm 1 k]
  have c1 := count_mult (a := a) (b := m + 1) hb
  have c2 := count_mult (a := a - 1) (b := m + 1) hb
  rw [shift, if_pos (by rw [Nat.mul_zero, Nat.zero_mod])] at c1 c2
  rw [← c1, ← c2, shift, if_pos k0]
  -- backwards
  have rev := sumN_rev (fun k => if kp a (m + 1) 1 (k + 1) = true then (0 : Int) else 1) m
  have tw : sumN (fun k => if kp a (m + 1) 1 (k + 1) = true then (0 : Int) else 1) m + sumN (fun k => if kp a (m + 1) 1 (m - 1 - k + 1) = true then (0 : Int) else 1) m
      = sumN (fun k => 1 - (if a * (k + 1) % (m + 1) = 0 then (1 : Int) else 0) - (if (a - 1) * (k + 1) % (m + 1) = 0 then (1 : Int) else 0)) m := by
    rw [← sumN_add]
    refine sumN_congr m fun k hk => ?_
    have en : m - 1 - k + 1 = m + 1 - (k + 1) := by omega
    rw [en]
    have r2 := rest_twin (a := a) (b := m + 1) (n := k + 1) hb (by omega)
    have r1 := Nat.mod_lt (a * (k + 1)) hb
    -- the rest of (a - 1) n
    have r3 : (a - 1) * (k + 1) % (m + 1) = 0 ↔ a * (k + 1) % (m + 1) = k + 1 := by
      have e : a * (k + 1) = (a - 1) * (k + 1) + (k + 1) := by
        obtain ⟨a', rfl⟩ : ∃ a', a = a' + 1 := ⟨a - 1, by omega⟩
        rw [Nat.add_sub_cancel, Nat.add_mul, Nat.one_mul]
      rw [e, Nat.add_mod]
      have h4 := Nat.mod_lt ((a - 1) * (k + 1)) hb
      rw [Nat.mod_eq_of_lt (show k + 1 < m + 1 by omega)]
      generalize (a - 1) * (k + 1) % (m + 1) = z at *
      constructor
      · intro h
        rw [h, Nat.zero_add]
        exact Nat.mod_eq_of_lt (by omega)
      · intro h
        by_cases q : z + (k + 1) < m + 1
        · rw [Nat.mod_eq_of_lt q] at h
          omega
        · rw [Nat.mod_eq_sub_mod (by omega), Nat.mod_eq_of_lt (by omega)] at h
          omega
    unfold kp
    rw [r2, Nat.one_mul, Nat.one_mul]
    generalize a * (k + 1) % (m + 1) = y at *
    have p3 : ((if (a - 1) * (k + 1) % (m + 1) = 0 then (1 : Int) else 0)) = if y = k + 1 then 1 else 0 := by
      by_cases q : (a - 1) * (k + 1) % (m + 1) = 0
      · rw [if_pos q, if_pos (r3.mp q)]
      · rw [if_neg q, if_neg fun z => q (r3.mpr z)]
    show (if decide (y ≤ k + 1) = true then (0 : Int) else 1) + (if decide ((if y = 0 then 0 else m + 1 - y) ≤ m + 1 - (k + 1)) = true then (0 : Int) else 1) = 1 - (if y = 0 then 1 else 0) - (if (a - 1) * (k + 1) % (m + 1) = 0 then (1 : Int) else 0)
    rw [p3]
    by_cases y0 : y = 0
    · rw [if_pos y0, if_pos y0, if_pos (decide_eq_true (by omega)), if_pos (decide_eq_true (by omega)), if_neg (by omega)]
      rfl
    · rw [if_neg y0, if_neg y0]
      by_cases yk : y = k + 1
      · rw [if_pos yk, if_pos (decide_eq_true (by omega)), if_pos (decide_eq_true (by omega))]
        rfl
      · rw [if_neg yk]
        by_cases yl : y ≤ k + 1
        · rw [if_pos (decide_eq_true yl), if_neg (by rw [decide_eq_false (by omega)]; exact Bool.false_ne_true)]
          rfl
        · rw [if_neg (by rw [decide_eq_false yl]; exact Bool.false_ne_true), if_pos (decide_eq_true (by omega))]
          rfl
  rw [← rev] at tw
  rw [sumN_sub, sumN_sub] at tw
  have ones : ∀ g : Nat, sumN (fun _ => (1 : Int)) g = (g : Int) := fun g => by
    induction g with
    | zero => rfl
    | succ g ih =>
      show sumN _ g + 1 = _
      rw [ih]
      omega
  rw [ones] at tw
  omega
end Pd

/-! Sets of ints by a comprehension (the library's way with truth values, turned to ints); sorted of a set of any size; x != y by an own ==. -/
namespace Pd
open PySem PySem.Spec PyProof.Rows L2 PpSet
section
variable {X : Cx}
/-- set.add of an int -/
theorem addI_ok {pins : List (Addr × Obj)} {σ : L2.St} {H : Hp} {s : Shared} {E : Value → Shared → Prop} {D : Addr} {S : Int → Bool} {n : Nat} {y : Int} {tk : Tok} {Q : Value → Shared → Prop} (I : Inv X pins σ H s) (hD : H D = some (SetO X.w D S n)) (room : n + 1 < scanBound)
    (h : ∀ s', Inv X pins σ (upd H D (SetO X.w D (fun j => S j || decide (j = y)) (if S y = true then n else n + 1))) s' → Q .none s') : wpAny (model X.prog X.w) X.A (call (.builtin "set.add") [.ref D, .int y tk]) Q E s := by
  have R := setO_get I hD
  refine setR_add R room fun h' sb new => ?_
  have he : ∃ u, h'.get? D = some u := by
    have ⟨o, _, _, _, ho, _⟩ := new
    exact ⟨o, ho⟩
  exact h _ (I.write (e := D) (t' := s.toks + 1) (by rw [hD]; trivial) (.inl rfl) (fun b u hb hu => (sb.2 b hb).trans hu) he (setO_new new))
/-- {elt for target in iter if ..}, elt an int: D the new set -/
def tScI (w : World) (wi : TI) (g : TG) (tt : TT) (te : TE) (vs : List Nat) : TE := fun σ H Q => wi σ H fun J H1 => ∀ D, H1 D = none → ∃ W : Nat → Nat → Hp → Prop, (∃ m, W 0 m (upd H1 D (SetO w D (fun _ => false) 0))) ∧ ∀ i m H, W i m H →
  (J.stop i H ∧ Q (.ref D) H) ∨ (J.go i H ∧ ∃ Nx : Hp → Prop, (∀ H', Nx H' → ∃ m', m' < m ∧ W (i + 1) m' H') ∧ ∀ x H', J.yld i H x H' → g x (wipe σ vs) H' fun σ2 H2 => wipe σ2 vs = wipe σ vs ∧ tt σ2 H2 fun b H3 =>
    if b = true then te σ2 H3 fun y H4 => ∃ (c : Int) (S : Int → Bool) (n : Nat), y = .int c ∧ H4 D = some (SetO w D S n) ∧ n + 1 < scanBound ∧ Nx (upd H4 D (SetO w D (fun j => S j || decide (j = c)) (if S c = true then n else n + 1))) else Nx H3)
theorem sc_coreI {pins : List (Addr × Obj)} {s : Shared} {σ : L2.St} {H : Hp} {Q : VK} {elt tg iter : Expr} {ifs : List Expr} {scope : Scope} {own : List (PySem.Str × Nat)} {pos pos' : Pos} {wi : TI} {g : TG} {tt : TT} {te : TE} {use : Option (Value → Sem Unit)} {Qf : Value → Shared → Prop}
    (hc : X.calm = true) (hN : X.N.Nodup) (I : Inv X pins σ H s) (hi : PI X tg iter wi) (ok : BlkOk X.N X.env.scope scope own)
    (hg : ∀ (s : Shared) (H : Hp) (C : Addr) (cl : List (PySem.Str × Addr)) (fp : List Addr), PG (X.blk s H scope (compEnvC scope cl C X.env) fp) tg g) (ht : ∀ (s : Shared) (H : Hp) (C : Addr) (cl : List (PySem.Str × Addr)) (fp : List Addr), PTs (X.blk s H scope (compEnvC scope cl C X.env) fp) ifs tt)
    (he : ∀ (s : Shared) (H : Hp) (C : Addr) (cl : List (PySem.Str × Addr)) (fp : List Addr), PE (X.blk s H scope (compEnvC scope cl C X.env) fp) elt te) (hs : ∀ x, foldedSetIterable iter X.env x = pure x)
    (h : tScI X.w wi g tt te (own.map (·.2)) σ H Q)
    (hRR : ∀ D C s' m H', Inv X pins σ H' s' → Q (.ref D) H' → s'.heap.Ns C m → FpOk X pins H' C → compPost (model X.prog X.w) X.A X.xe use Qf (.ref D) C (.ok .next) s') :
    wpAny (model X.prog X.w) X.A (comprehension (.SetComp elt [⟨tg, iter, ifs, 0⟩] scope pos) scope X.env pos' (newSet (.type "set")) false (eval iter X.env) use) Qf X.xe s := by
  have hfree : ∀ y ∈ scope.names, y.2 = .free → ∃ c, X.env.cells.lookup y.1 = some c := fun y hy e => by
    rcases ok.free y hy e with k | k
    · exact I.ok.has _ (.inl k)
    · exact I.ok.has _ (.inr k)
  refine wpAny_comprehension_free (use := use) rfl hs (closure_ok hfree) ok.kind (fun y hy e => by rw [ok.uniq y hy, e])
    (thn (hi.run pins s σ H _ I h) fun xv s1 hx => thn hx fun itv s2 h2 => ?_)
  obtain ⟨it, fp, tn, J, H2, e, I2, T, st2, f2, q⟩ := h2
  subst e
  refine newSet_ok (newEnv_comp ?_)
  generalize hD : s2.heap.objs.size = D
  have hDn : H2 D = none := I2.hok.fresh (Nat.le_of_eq hD)
  obtain ⟨W, ⟨m0, w0⟩, turn⟩ := q D hDn
  -- the new list
  generalize hs3 : ({ s2 with heap := s2.heap.push { cls := .type "set", dict := none, data := .set #[] 0 (.fresh 0 0 (!X.w.params.followText "set-order")) } } : Shared) = s3
  have I3 : Inv X pins σ (upd H2 D (SetO X.w D (fun _ => false) 0)) s3 := by
    rw [← hs3]
    refine I2.laid (t' := s2.toks) (fun b o e => Heap.get?_push_of_some _ e) (Nat.le_of_eq hD) ?_
    rw [← hD]
    exact setO_new (setR_fresh X.w)
  have h3 : s3.heap = s2.heap.push { cls := .type "set", dict := none, data := .set #[] 0 (.fresh 0 0 (!X.w.params.followText "set-order")) } := by rw [← hs3]
  have sz : ∀ b ∈ fp, b < s2.heap.objs.size := fun b hb => by
    obtain ⟨o, e, _⟩ := T.obj _ _ st2 b hb
    exact Heap.lt_size e
  have f3 : ∀ b ∈ fp, FpOk X pins (upd H2 D (SetO X.w D (fun _ => false) 0)) b ∧ b < s3.heap.objs.size := fun b hb => by
    have hlt := sz b hb
    refine ⟨⟨?_, (f2 b hb).2⟩, by rw [h3, Heap.size_push]; exact Nat.lt_succ_of_lt hlt⟩
    rw [upd_ne (by rw [← hD]; exact Nat.ne_of_lt hlt)]
    exact (f2 b hb).1
  have st3 : tn 0 s3.heap := T.keep _ _ _ st2 fun b _ o e => by rw [h3]; exact Heap.get?_push_of_some _ e
  have I4 := block_start I3 ok hN f3
  have pg := hg s3 (upd H2 D (SetO X.w D (fun _ => false) 0)) s3.heap.objs.size (cellsFrom (s3.heap.objs.size + 1) scope.names (cloFrom X.env.cells scope.names [])) fp
  have pt := ht s3 (upd H2 D (SetO X.w D (fun _ => false) 0)) s3.heap.objs.size (cellsFrom (s3.heap.objs.size + 1) scope.names (cloFrom X.env.cells scope.names [])) fp
  have pe := he s3 (upd H2 D (SetO X.w D (fun _ => false) 0)) s3.heap.objs.size (cellsFrom (s3.heap.objs.size + 1) scope.names (cloFrom X.env.cells scope.names [])) fp
  show codeAny _ _ (.compStart (.SetComp elt [⟨tg, iter, ifs, 0⟩] scope pos) 0 (.ref it) (.ref D) (compEnvC scope (cellsFrom (s3.heap.objs.size + 1) scope.names (cloFrom X.env.cells scope.names [])) s3.heap.objs.size X.env)) (compPost (model X.prog X.w) X.A X.xe use Qf (.ref D) s3.heap.objs.size) { s3 with heap := pushCells (s3.heap.push { cls := .type "dict", data := .dict #[] }) scope.names }
  have nfp : ∀ b ∈ fp, (upd H2 D (SetO X.w D (fun _ => false) 0)) b = none := fun b hb => (f3 b hb).1.1
  generalize hce : compEnvC scope (cellsFrom (s3.heap.objs.size + 1) scope.names (cloFrom X.env.cells scope.names [])) s3.heap.objs.size X.env = ce at I4 pg pt pe ⊢
  have cL : ce.locals = s3.heap.objs.size := by subst hce; rfl
  generalize hH3 : upd H2 D (SetO X.w D (fun _ => false) 0) = H3 at I3 I4 pg pt pe w0 nfp f3
  generalize hs4 : ({ s3 with heap := pushCells (s3.heap.push { cls := .type "dict", data := .dict #[] }) scope.names } : Shared) = s4 at I4 ⊢
  have st4 : tn 0 s4.heap := T.keep _ _ _ st3 fun b _ o e => by rw [← hs4]; exact pushCells_keeps _ _ _ _ (Heap.get?_push_of_some _ e)
  have stat : ∀ {σ' : L2.St} {H' : Hp} {s' : Shared}, Inv (X.blk s3 H3 scope ce fp) [] σ' H' s' → (∀ b ∈ fp, H' b = none) → ∀ b ∈ fp, FpOk (X.blk s3 H3 scope ce fp) [] H' b := fun {σ' H' s'} I' hn b hb =>
    ⟨hn b hb, (I'.ok.exf b hb).1, I'.ok.exfs b hb, .inl hb, fun x c e => (I'.ok.exf b hb).2 x c e, fun p hp => absurd (show p ∈ ([] : List (Addr × Obj)) ++ [] from hp) (by simp)⟩
  have loop : codeAny (model X.prog X.w) X.A (.compLoop (.SetComp elt [⟨tg, iter, ifs, 0⟩] scope pos) 0 (.ref it) (.ref D) ce) (compPost (model X.prog X.w) X.A X.xe use Qf (.ref D) s3.heap.objs.size) s4 := by
    refine compLoopS_any (fun n s' => ∃ i H', Inv (X.blk s3 H3 scope ce fp) [] (wipe σ (own.map (·.2))) H' s' ∧ tn i s'.heap ∧ (∀ b ∈ fp, H' b = none) ∧ W i n H') ?_ m0 ⟨0, H3, I4, st4, nfp, w0⟩
    rintro n s5 ⟨i, H5, I5, st5, n5, w5⟩
    rcases turn i n H5 w5 with ⟨stop, qq⟩ | ⟨go, Nx, hNx, step⟩
    · have td := T.done (X.blk s3 H3 scope ce fp) rfl rfl rfl hc i [] s5 _ H5 (fun _ _ => False) I5 (stat I5 n5) st5 stop
      refine thnF td fun r s6 ⟨hr, I6⟩ => ?_
      subst hr
      -- back in the def's context
      have I7 : Inv X pins σ H5 s6 := I3.call' (ch := fp) I6.os I6.base I6.hok I6.bare fun b hb => ⟨(f3 b hb).1.2.2.2.1, (f3 b hb).1.2.1, (f3 b hb).1.2.2.2.2.1, (f3 b hb).1.2.2.2.2.2⟩
      have nC : H5 s3.heap.objs.size = none := by
        have z : H5 ce.locals = none := I6.free
        rw [cL] at z
        exact z
      obtain ⟨m, hn, _⟩ := I6.loc
      have hn : s6.heap.Ns ce.locals m := hn
      rw [cL] at hn
      exact hRR D s3.heap.objs.size s6 m H5 I7 qq hn (I3.fpOk (Nat.le_refl _) nC)
    · have ti := T.item (X.blk s3 H3 scope ce fp) rfl rfl rfl hc i [] s5 _ H5 (fun _ _ => False) I5 (stat I5 n5) st5 go
      refine thnF ti fun r s6 ⟨u, hr, h6⟩ => ?_
      subst hr
      refine thnF h6 fun _ s7 ⟨x, H7, I7, r7, y7, st7, n7⟩ => ?_
      have I7' := I7.pinned (stat I7 n7) (T.obj _ _ st7)
      refine thnF (pg.run _ s7 _ H7 x u _ I7' r7 (step x H7 y7)) fun _ s8 ⟨σ8, H8, I8, hw8, q8⟩ => ?_
      refine thnF (pt.run _ s8 σ8 H8 _ I8 q8) fun b s9 ⟨H9, I9, q9⟩ => ?_
      -- the turn's end
      have fin : ∀ {s' : Shared} {H' : Hp}, Inv (X.blk s3 H3 scope ce fp) ([] ++ pinsAt fp s7.heap) σ8 H' s' → Nx H' → ∃ m, m < n ∧ ∃ i H', Inv (X.blk s3 H3 scope ce fp) [] (wipe σ (own.map (·.2))) H' s' ∧ tn i s'.heap ∧ (∀ b ∈ fp, H' b = none) ∧ W i m H' := fun {s' H'} I' nx => by
        obtain ⟨m', hm, w'⟩ := hNx H' nx
        have pin' : ∀ b ∈ fp, ∀ o, s7.heap.get? b = some o → s'.heap.get? b = some o ∧ H' b = none := fun b hb o e =>
          let z := I'.pin (b, o) (List.mem_append_right _ (List.mem_append_right _ (mem_pinsAt hb e)))
          ⟨z.1, z.2.1⟩
        have hl : (wipe σ (own.map (·.2))).length = σ8.length := by rw [← hw8, wipe_length]
        refine ⟨m', hm, i + 1, H', (I'.unpinned (pins := [])).weak hl (fun j v e => ?_), T.keep _ _ _ st7 fun b hb o e => (pin' b hb o e).1, fun b hb => ?_, w'⟩
        · rw [← hw8] at e
          exact (wipe_some e).1
        · obtain ⟨o, e, _⟩ := T.obj _ _ st7 b hb
          exact (pin' b hb o e).2
      cases b with
      | false =>
        simp only [Bool.false_eq_true, if_false] at q9 ⊢
        exact fin I9 q9
      | true =>
        simp only [if_true] at q9 ⊢
        refine thnF (pe.run _ s9 σ8 H9 _ I9 q9) fun z s10 ⟨yv, H10, I10, r10, cb, S0, n0, ey, hD10, hz10, nx⟩ => ?_
        subst ey
        obtain ⟨tkz, rfl⟩ := r10
        exact addI_ok (X := X.blk s3 H3 scope ce fp) I10 hD10 hz10 fun s11 I11 => fin I11 nx
  exact codeAny_compStart_set loop (T.self X.A 0 _ _ _ st4 loop)
/-- as a value -/
theorem pe_scI {elt tg iter : Expr} {ifs : List Expr} {scope : Scope} {own : List (PySem.Str × Nat)} {pos : Pos} {wi : TI} {g : TG} {tt : TT} {te : TE} (hc : X.calm = true) (hN : X.N.Nodup) (hi : PI X tg iter wi) (ok : BlkOk X.N X.env.scope scope own)
    (hg : ∀ (s : Shared) (H : Hp) (C : Addr) (cl : List (PySem.Str × Addr)) (fp : List Addr), PG (X.blk s H scope (compEnvC scope cl C X.env) fp) tg g) (ht : ∀ (s : Shared) (H : Hp) (C : Addr) (cl : List (PySem.Str × Addr)) (fp : List Addr), PTs (X.blk s H scope (compEnvC scope cl C X.env) fp) ifs tt)
    (he : ∀ (s : Shared) (H : Hp) (C : Addr) (cl : List (PySem.Str × Addr)) (fp : List Addr), PE (X.blk s H scope (compEnvC scope cl C X.env) fp) elt te) (hs : ∀ x, foldedSetIterable iter X.env x = pure x := by intro _; rfl) :
    PE X (.SetComp elt [⟨tg, iter, ifs, 0⟩] scope pos) (tScI X.w wi g tt te (own.map (·.2))) := by
  refine ⟨fun pins s σ H Q I h => ?_⟩
  rw [eval_SetComp]
  refine sc_coreI hc hN I hi ok hg ht he hs h fun D C s' m H' I' q hn f => ⟨m, hn, fun h'' sb => ?_⟩
  obtain ⟨f0, f1, f2, f3, f4, f5⟩ := f
  exact ⟨.ref D, H', I'.turned (t' := s'.toks) (fun b o hb e => (sb.2 b hb).trans e) f0 f1 f3 f4 f5, rfl, q⟩
end
/-! ### sorted(a set) -/
section
variable {P : Program} {w : World} {A : Around} {E : Value → Shared → Prop} {s : Shared} {a : Addr}
theorem sorted_setB {S : Int → Bool} {n : Nat} {Q : Value → Shared → Prop} (R : SetR w s.heap a S n) (hh : A.handled = none)
    (hQ : ∀ s' p (out : List Value) (c : Nat) (ns : List Int), (∀ b o, s.heap.get? b = some o → s'.heap.get? b = some o) → s'.gens = s.gens → s'.os = s.os → s.heap.objs.size ≤ p →
      s'.heap.get? p = some (seqObj "list" out.toArray c) → IntsAre out ns → ns.Pairwise (· < ·) → (∀ k, k ∈ ns ↔ S k = true) → ns.length = n → n < scanBound → Q (.ref p) s') :
    wpAny (model P w) A (call (.builtin "sorted") [.ref a]) Q E s := by
  obtain ⟨o, es, ep, t, ho, hex, hd, g, nd, hm, hb, hf, hn, hr, hl⟩ := R
  refine Calls.call_function_entry kind_sorted plain_sorted entry_sorted (args_sorted1 _) ?_
  unfold Builtin.«sorted»
  refine wpAny_bind (m := checkCount "sorted" 1 1 _) (wpAny_pure ?_)
  refine wpAny_bind (collect_set (A := A.in1) hh ⟨o, ho, hex.1, hd⟩ hf hb hr hl fun s1 vs k1 hz g1 o1 pm => ?_)
  have hvl : vs.length = n := by rw [pm.length_eq, List.length_map, Array.length_toList]; exact hn
  have hn2 : n < scanBound := hn ▸ hb
  have hvz : vs.length ≤ sizeLine := by rw [hvl]; exact Nat.le_trans (Nat.le_of_lt hn2) (by decide)
  have hI : IntsAre vs (vs.map Builtin.Re.reRawOf) := ints_of vs fun v hv => by
    obtain ⟨e, he, q⟩ := List.mem_map.mp (pm.mem_iff.mp hv)
    obtain ⟨k, tk, h1, _⟩ := g e he
    exact ⟨k, tk, by rw [← q]; exact h1⟩
  have pk : (vs.map Builtin.Re.reRawOf).Perm (es.toList.map keyOf) := by
    have q := pm.map Builtin.Re.reRawOf
    rw [List.map_map] at q
    exact q
  refine wpAny_bind (wpAny_newList ?_ hvz)
  have at1 : (s1.heap.push (seqObj "list" vs.toArray 0)).get? s1.heap.objs.size = some (seqObj "list" vs.toArray 0) := Heap.get?_push_size _ rfl
  refine wpAny_bind (wpAny_holding (wpAny_call_entry slot_list_sort ⟨_, at1, rfl⟩ entry_list_sort (SrtO.list_sort_ord SrtO.swo_int at1 hvz (fun h2 => SrtO.ints_sortable hI h2) fun out hs hb2 => ⟨_, rfl, ?_⟩) (args_list_sort _)))
  obtain ⟨c, at2⟩ := sortedHeap_at (out := out.toArray) at1
  obtain ⟨e1, e2, e3⟩ := SrtO.ints_out hI hs hb2
  have pn : (out.map SrtO.iv).Perm (es.toList.map keyOf) := e2.trans pk
  refine wpAny_pure ⟨_, rfl, hQ _ s1.heap.objs.size out c _ (fun b u e => ?_) g1 o1 hz at2 e1 (lt_of_le_nodup _ e3 (pn.nodup_iff.mpr nd)) (fun k => by rw [pn.mem_iff, ← hm k]) ?_ hn2⟩
  · have q := k1 b u e
    have hlt := Heap.lt_size q
    show (sortedHeap (s1.heap.push (seqObj "list" vs.toArray 0)) s1.heap.objs.size vs out.toArray).get? b = some u
    rw [sortedHeap_old (Nat.ne_of_lt hlt) (by rw [Heap.size_push]; exact Nat.lt_succ_of_lt hlt)]
    exact Heap.get?_push_of_some _ q
  · rw [pn.length_eq, List.length_map, Array.length_toList]; exact hn
end
section
variable {X : Cx}
def rSortedSetB (w : World) : List V → Hp → VK → Prop := fun vs H Q => ∃ (a : Addr) (S : Int → Bool) (n : Nat), vs = [V.ref a] ∧ H a = some (SetO w a S n) ∧
  ∀ (ns : List Int) (p : Addr), ns.Pairwise (· < ·) → (∀ k : Int, k ∈ ns ↔ S k = true) → H p = none → Q (.ref p) (upd H p (.lst (ns.map V.int)))
theorem cr_sortedSetB (hc : X.calm = true) : CallR X (.builtin "sorted") (rSortedSetB X.w) := by
  intro pins s σ H vs us Q I r h
  obtain ⟨a, S, n, rfl, ha, q⟩ := h
  have R := setO_get I ha
  rw [Vals.ref1 r]
  refine sorted_setB R (I.ok.hd hc) fun s' p out c ns k g o hp hg hi hs hm hl hn2 => ?_
  have hlen : (ns.map V.int).length ≤ sizeLine := by rw [List.length_map, hl]; exact Nat.le_trans (Nat.le_of_lt hn2) (by decide)
  have hn : H p = none := I.hok.fresh hp
  have J : Inv X pins σ (upd H p (.lst (ns.map V.int))) { s with heap := s'.heap, gens := s'.gens, drawn := s'.drawn, toks := s'.toks } :=
    I.call (ch := []) (Un.laid k hp hn) (I.hok.laid k hp ⟨hlen, out, c, vals_of_ints hi, hg⟩) (by rw [g]; exact I.bare) (fun _ z => nomatch z)
  have e : s' = { s with heap := s'.heap, gens := s'.gens, drawn := s'.drawn, toks := s'.toks } := by
    cases s'
    cases s
    cases o
    rfl
  rw [e]
  exact ⟨.ref p, _, J, rfl, q ns p hs hm hn⟩
end
end Pd

/-! x != y of instances with an own == and no own !=. -/
namespace Pd
open PySem PySem.Spec PyProof.Rows L2 PySem.SeqAt
section
variable {M : Model} {prog : Program} {w : World} {A : Around} {E : Value → Shared → Prop} {s : Shared} {K : PySem.W.Frag} {x y C L f : Addr} {h₀ : Heap} {m : Str → Option Value} {ox : Obj} {od : Option Obj}
theorem ifBound_objNe {args : List Value} {Q : Option Value → Shared → Prop} (X : K.In s.heap) (I : PySem.W.InstAt s.heap x ox C od) (hs : PySem.W.findIn K (.ref C) "__ne__" = some (some (.builtin "object.__ne__")))
    (h : wpAny M A (call (.builtin "object.__ne__") (.ref x :: args)) (fun v => Q (some v)) E s) : wpAny M A (callSpecialIfBound? (.ref x) "__ne__" args) Q E s := by
  simp only [callSpecialIfBound?, bindSpecialIfBound?]
  refine wpAny_holding (wpAny_bind (wpAny_bind (wpAny_bind (I.type.here ((PySem.W.looks_findIn X hs).here ?_)))))
  refine wpAny_bind (wpAny_askSetting (wpAny_ite ?_))
  have fin : wpAny M A (call (.builtin "object.__ne__") ([.ref x] ++ args) >>= fun v => pure (some v)) Q E s := wpAny_bind (wpAny_mono h (fun v s' h' => wpAny_pure h') fun _ _ h' => h')
  split
  · exact wpAny_bind (wpAny_of_eq (F.cmp_object.ne.bind _) (wpAny_pure (by exact fin)))
  · exact wpAny_tryCatch (wpAny_bind (wpAny_of_eq (F.cmp_object.ne.bind _) (wpAny_pure (by exact fin))))
/-- object's !=: what the own == says, turned -/
theorem entry_ne {Q : Fin → Shared → Prop} (hu : A.units < cLine) (X : K.In s.heap) (I : PySem.W.InstAt s.heap x ox C od) (hs : PySem.W.findIn K (.ref C) "__eq__" = some (some (.ref f))) (hf : PySem.W.isFn K (.ref f) = true)
    (h : wpAny M A (call (.ref f) [.ref x, .ref y]) (fun v s' => v = .bool true ∧ Q (.done (.ret (.bool false))) s') E s) : wpAny M A (Builtin.«object.__ne__» ⟨[.ref x, .ref y], []⟩) Q E s := by
  unfold Builtin.«object.__ne__»
  refine wpAny_bind (wpAny_pure ?_)
  refine wpAny_bind (wpAny_cRoomFor hu ?_)
  refine wpAny_bind (PySem.W.ifBound_K X I hs hf (wpAny_mono h (fun v s' q => ?_) fun _ _ e => e))
  obtain ⟨rfl, q⟩ := q
  refine wpAny_bind ?_
  exact wpAny_truthy_bool (wpAny_pure q)
theorem cmp_ne {Q : Value → Shared → Prop} {tb : Value} (hu : A.units + 1 < cLine) (X : K.In s.heap) (I : PySem.W.InstAt s.heap x ox C od) (hb : PySem.W.Looks (model prog w) s.heap (typeOf (.ref y)) tb) (htb : tb = .ref C) (hn : PySem.W.findIn K (.ref C) "__ne__" = some (some (.builtin "object.__ne__")))
    (hm : PySem.W.mroIn K C (.type "object") = some true) (hs : PySem.W.findIn K (.ref C) "__eq__" = some (some (.ref f))) (hf : PySem.W.isFn K (.ref f) = true)
    (h : wpAny (model prog w) A.in1 (call (.ref f) [.ref x, .ref y]) (fun v s' => v = .bool true ∧ Q (.bool false) s') (fun _ _ => False) s) : wpAny (model prog w) A (richCompare .NotEq (.ref x) (.ref y)) Q E s := by
  have hu0 : A.units < cLine := Nat.lt_of_succ_lt hu
  have one : wpAny (model prog w) A (tryCompare (.ref x) "__ne__" (.ref y)) (fun r s' => ∃ v, r = some v ∧ Q v s') E s := by
    unfold tryCompare
    refine wpAny_bind (ifBound_objNe X I hn (wpAny_call (codeAny_call_builtin F.cmp_object.ne.plain F.cmpEntry_ne (PySem.W.check_slot F.cmpKind_ne F.cmpSplit_ne (I.type.andThen (PySem.W.looks_mroIn X hm)) (F.cmpArgs_ne _ _) (entry_ne (A := A.in1) hu X I hs hf ?_)))))
    refine wpAny_mono h (fun v s' q => ?_) fun _ _ z => z.elim
    obtain ⟨rfl, q⟩ := q
    exact ⟨rfl, wpAny_pure ⟨_, rfl, q⟩⟩
  subst htb
  simp only [richCompare, cmpInfo_NotEq, oneThing_ref]
  refine wpAny_holding (wpAny_bind (wpAny_cRoomFor hu0 ?_))
  refine wpAny_bind (I.type.here (wpAny_bind (hb.here ?_)))
  split
  · rename_i q
    simp at q
  · refine wpAny_bind (wpAny_pure ?_)
    simp only [Bool.false_eq_true, if_false]
    refine wpAny_bind (wpAny_mono one (fun r s' z => ?_) fun _ _ e => e)
    obtain ⟨v, rfl, hq⟩ := z
    exact wpAny_pure hq
end
section
variable {X : Cx} {n : Nat}
def rNeG (D : Eqv) : R2 := fun x y H Q => D x y H ∧ ∀ H', Ext H H' → Q (.bl false) H'
/-- x != y of two instances of C whose own == says True -/
theorem op_neG {C f : Addr} {fd : FuncData} {ps : List Str} {R : Addr → Addr → Hp → Prop} (F : FnOk X.prog X.w X.K X.mg X.base CX0 n f fd ps (spEq R))
    (hs : PySem.W.findIn X.K (.ref C) "__eq__" = some (some (.ref f))) (hn : PySem.W.findIn X.K (.ref C) "__ne__" = some (some (.builtin "object.__ne__"))) (hm : PySem.W.mroIn X.K C (.type "object") = some true) (hf : PySem.W.isFn X.K (.ref f) = true) (hb : Binds X.K fd ps [])
    (hr : Room (n + 1) X.A) : OpR X (compareOp .NotEq) (rNeG (DIns C R)) := by
  intro pins s σ H x y v u Q I rx ry hq
  obtain ⟨d, q⟩ := hq
  obtain ⟨a, b, dx, dy, fs, gs, rfl, rfl, ha, hb', hr'⟩ := d
  cases rx
  cases ry
  obtain ⟨mA, J, _⟩ := ins_get I.hok ha
  obtain ⟨mB, J', _⟩ := ins_get I.hok hb'
  obtain ⟨od, J, _⟩ := J.look
  obtain ⟨od', J', _⟩ := J'.look
  show wpAny (model X.prog X.w) X.A (richCompare .NotEq (.ref a) (.ref b)) (EP X pins σ Q) X.xe s
  have hu : X.A.units + 1 < cLine := by have := hr.units; omega
  refine cmp_ne hu I.kIn J J'.type rfl hn hm hs hf ?_
  have hsp : spEq R [.ref a, .ref b] H (fun v H' => v = .bl true ∧ Ext H H') E0 := ⟨a, b, rfl, hr', fun H' e => ⟨rfl, e⟩⟩
  have e0 : Env0 X.prog X.w X.K X.mg X.base X.A.in1 X.stack s H := by
    have e := I.env0
    exact ⟨e.frames, e.mod, e.bs, e.bsz, e.funs, e.frf, e.hok, e.bare⟩
  have hl := F.len _ _ _ _ hsp
  have r2 : Vals [V.ref a, V.ref b] [Value.ref a, Value.ref b] := .cons rfl (.cons rfl .nil)
  refine wpAny_call (codeAny_mono (F.run X.A.in1 X.stack s H ⟨[.ref a, .ref b], []⟩ [.ref a, .ref b] [.ref a, .ref b] _ E0 hr.in1 e0 (by
    have := hb s [.ref a, .ref b] I.kIn (by simpa using hl)
    simpa using this) r2 hsp) fun r s' hq => ?_)
  cases r with
  | error e => exact hq
  | ok fl =>
    cases fl with
    | ret w =>
      obtain ⟨z, H', I', rz, ez, ex⟩ := I.after hq
      subst ez
      cases rz
      exact ⟨rfl, .bl false, H', I', rfl, q H' ex⟩
    | next => exact False.elim hq
    | brk => exact False.elim hq
    | cont => exact False.elim hq
end
end Pd

/-! k05: fractions, systems compared, least coins. -/
namespace Pd
open PySem PySem.Spec PyProof.Rows L2 Evl
/-- a fraction as the text holds it -/
def FrAt (H : Hp) (a : Addr) (p : Nat × Nat) : Prop := H a = some (.tup [.int (p.1 : Nat), .int (p.2 : Nat)])
theorem FrAt.ex {H H' : Hp} {a : Addr} {p : Nat × Nat} (h : FrAt H a p) (e : Ex H H') : FrAt H' a p := e _ _ h
def frV (p : Nat × Nat) : List V := [.int (p.1 : Nat), .int (p.2 : Nat)]
section
variable {K : PySem.W.Frag} {σ : L2.St} {H H' : Hp} {ta tb te tx tl : TE} {x y z v : V} {a : Addr} {p : Nat × Nat}
theorem ev_fr0 (h : Ev ta σ H (.ref a)) (hx : FrAt H a p) : Ev (tOp (rIxT K) ta (tC (.int 0))) σ H (.int (p.1 : Nat)) := ev_ixT (j := 0) h (st_of hx) ev_c rfl
theorem ev_fr1 (h : Ev ta σ H (.ref a)) (hx : FrAt H a p) : Ev (tOp (rIxT K) ta (tC (.int 1))) σ H (.int (p.2 : Nat)) := ev_ixT (j := 1) h (st_of hx) ev_c rfl
theorem EvS.ofU {xs : List V} (h : EvU te σ H xs) : EvS K te σ H xs := fun H1 e Q q => h H1 e Q fun p H2 _ e2 hp => q p H2 e2 (st_of hp)
theorem canLay_ints : ∀ ns : List Int, PyData.canLayAll0 (ns.map PyData.int) = true
  | [] => rfl
  | _ :: r => by simp [PyData.canLayAll0, PyData.canLay0, canLay_ints r]
theorem depth_ints : ∀ ns : List Int, PyData.depthAll (ns.map PyData.int) = 0
  | [] => rfl
  | _ :: r => by simp [PyData.depthAll, PyData.depth, depth_ints r]
theorem shaped_tup (ns : List Int) : SeqAt.shaped (.tuple (ns.map PyData.int)) = true := by
  simp [SeqAt.shaped, PyData.canLay0, PyData.depth, canLay_ints, depth_ints]
theorem rv_eqTup {p q : Addr} {ns : List Int} (h1 : SqT K H p (ns.map V.int)) (h2 : SqT K H q (ns.map V.int)) : RV (rEqD K) (.ref p) (.ref q) H (.bl true) := fun H1 e Q k =>
  ⟨.tuple (ns.map PyData.int), .tuple (ns.map PyData.int), .tup (ex_t e h1) (dp_ints ns), .tup (ex_t e h2) (dp_ints ns), shaped_tup ns, shaped_tup ns, by
    rw [SeqAt.eqv_refl _ (SeqAt.canLay_of_shaped (shaped_tup ns))]
    exact k H1 (Ex.refl H1)⟩
end
section
variable {P : Program} {w : World} {K : PySem.W.Frag} {mg : Str → Option Value} {base : Heap}
def sp_is_tuple_of : Sp := fun vs H Q _ => ∃ (a : Addr) (xs : List V), vs = [.ref a, .int (xs.length : Int)] ∧ H a = some (.tup xs) ∧ RetV (.bl true) H Q
theorem ok_is_tuple_of (T : Top K mg) : FnOk P w K mg base CX0 1 T.a_is_tuple_of T.fd_is_tuple_of ["thing", "many"] sp_is_tuple_of := by
  refine T.F_is_tuple_of.ok sc_is_tuple_of (fun vs H Q E h => ?_) (fun cdv A outer s H vs Q E hr h => ?_)
  · obtain ⟨a, xs, rfl, _⟩ := h
    rfl
  · obtain ⟨a, xs, rfl, ha, k⟩ := h
    have nd := sc_is_tuple_of.nd
    refine ⟨_, (pss_one (ps_ret (pe_and (pe_callB call_isi (by rfl) T.z_isinstance (by decide +kernel) (pa_cons (pv 0) (pa_cons (pe_bltn (v := .ty "tuple") (u := .type "tuple") (by rfl) T.z_tuple (by decide +kernel) rfl) pa_nil))) (pe_one (pe_cmpR op_eq (pe_callB call_len_seq (by rfl) T.z_len PySem.boot_len (pa_cons (pv 0) pa_nil)) (pv 1) (nomark _)))))), ?_⟩
    refine s_ret (v := .bl true) (ev_is (ev_andV (a := true) (b := true) ?_ fun _ => ?_) rfl) fun H1 e1 => k H1 e1
    · exact ev_cb (ea_cons (ev_var rfl) (ea_cons ev_c ea_nil)) (rc_isi (.ty "tuple") (fun _ e1 => ty_tup (e1 _ _ ha)) (kit_ty (by decide +kernel)))
    · exact ev_is (ev_op (ev_lenS (K := K) (ev_var rfl) (.inr (st_of ha))) (ev_var rfl) (rv_eq rfl)) (by simp)
/-! ### frac -/
def sp_frac : Sp := fun vs H Q _ => ∃ t s : Nat, vs = [.int (t : Int), .int (s : Int)] ∧ 0 < s ∧ Nat.gcd t s < 1073741824 ∧ RetU (frV (t / Nat.gcd t s, s / Nat.gcd t s)) H Q
theorem su_frac {H : Hp} {t s : Nat} (hs : 0 < s) (hg : Nat.gcd t s < 1073741824) : SpU sp_frac [.int (t : Int), .int (s : Int)] H (frV (t / Nat.gcd t s, s / Nat.gcd t s)) := fun H1 e Q q E => ⟨t, s, rfl, hs, hg, q⟩
theorem ok_frac (T : Top K mg) : FnOk P w K mg base CX0 2 T.a_frac T.fd_frac ["top", "bottom"] sp_frac := by
  refine T.F_frac.ok sc_frac (fun vs H Q E h => ?_) (fun cdv A outer s H vs Q E hr h => ?_)
  · obtain ⟨t, s, rfl, _⟩ := h
    rfl
  · obtain ⟨t, s', rfl, hs, hg, k⟩ := h
    have nd := sc_frac.nd
    refine ⟨_, (pss_cons (ps_set (i := 2) nd rfl (Or.inl rfl) (pe_call (ok_common T) (hr.mono (by decide)) (by rfl) T.g_common T.F_common.kp T.b_common .nil pass0 (pa_cons (pv 0) (pa_cons (pv 1) pa_nil)))) (pss_cons (ps_if (pt_cmpR op_lt (pv 1) pe_int (nomark _)) (pss_one (ps_set (i := 2) nd rfl (Or.inl rfl) (pe_un un_neg (pv 2)))) pss_nil) (pss_one (ps_ret (pe_tup (pa_cons (pe_op op_fdiv (pv 0) (pv 2)) (pa_cons (pe_op op_fdiv (pv 1) (pv 2)) pa_nil))))))), ?_⟩
    have gp : 0 < Nat.gcd t s' := Nat.gcd_pos_of_pos_right t hs
    refine q_asg (ev_call (ea_cons (ev_var rfl) (ea_cons (ev_var rfl) ea_nil)) (sv_common t s')) fun H1 e1 => ?_
    refine q_when (b := false) (et_is (et_test (ev_op (ev_var rfl) ev_c rv_I0)) (decide_eq_false (by omega))) (fun z => by cases z) fun _ H2 e2 => ?_
    exact s_retU (eu_tup (ea_cons (ev_op (x := .int (t : Int)) (y := .int ((Nat.gcd t s' : Nat) : Int)) (ev_var rfl) (ev_var rfl) (rv_I ⟨by omega, by omega⟩)) (ea_cons (ev_op (x := .int (s' : Int)) (y := .int ((Nat.gcd t s' : Nat) : Int)) (ev_var rfl) (ev_var rfl) (rv_I ⟨by omega, by omega⟩)) ea_nil)) (by show 2 ≤ 100000; decide)) fun p H3 np e3 hp => k p H3 (fresh_back (e1.trans e2) np) ((e1.trans e2).trans e3) hp
def sp_is_fraction : Sp := fun vs H Q _ => ∃ (a : Addr) (p : Nat × Nat), vs = [.ref a] ∧ FrAt H a p ∧ 0 < p.2 ∧ Nat.gcd p.1 p.2 = 1 ∧ RetV (.bl true) H Q
theorem ok_is_fraction (T : Top K mg) : FnOk P w K mg base CX0 2 T.a_is_fraction T.fd_is_fraction ["thing"] sp_is_fraction := by
  refine T.F_is_fraction.ok sc_is_fraction (fun vs H Q E h => ?_) (fun cdv A outer s H vs Q E hr h => ?_)
  · obtain ⟨a, p, rfl, _⟩ := h
    rfl
  · obtain ⟨a, p, rfl, ha, hp, hg, k⟩ := h
    have nd := sc_is_fraction.nd
    refine ⟨_, (pss_cons (ps_if (PW.pt (pw_or (pt_not (pt_val (pe_call (ok_is_tuple_of T) (hr.mono (by decide)) (by rfl) T.g_is_tuple_of T.F_is_tuple_of.kp T.b_is_tuple_of .nil pass0 (pa_cons (pv 0) (pa_cons pe_int pa_nil))))) (pw_or (pt_not (pt_val (pe_call (ok_is_integer T) (hr.mono (by decide)) (by rfl) T.g_is_integer T.F_is_integer.kp T.b_is_integer .nil pass0 (pa_cons (pe_ix ix_tup (pv 0) pe_int (fun _ _ => rfl)) pa_nil)))) (pw_or1 (pt_not (pt_val (pe_call (ok_is_integer T) (hr.mono (by decide)) (by rfl) T.g_is_integer T.F_is_integer.kp T.b_is_integer .nil pass0 (pa_cons (pe_ix ix_tup (pv 0) pe_int (fun _ _ => rfl)) pa_nil)))))))) (pss_one (ps_ret pe_bl)) pss_nil) (pss_one (ps_ret (pe_and (pe_cmpR op_ge (pe_ix ix_tup (pv 0) pe_int (fun _ _ => rfl)) pe_int (nomark _)) (pe_one (pe_cmpR op_eq (pe_call (ok_common T) (hr.mono (by decide)) (by rfl) T.g_common T.F_common.kp T.b_common .nil pass0 (pa_cons (pe_ix ix_tup (pv 0) pe_int (fun _ _ => rfl)) (pa_cons (pe_ix ix_tup (pv 0) pe_int (fun _ _ => rfl)) pa_nil))) pe_int (nomark _))))))), ?_⟩
    refine q_when (b := false) (et_is (et_or (a := false) (b := false) (et_is (et_not (a := true) (et_B (ev_call (ea_cons (ev_var rfl) (ea_cons ev_c ea_nil)) fun H1 e Q q E => ⟨a, _, rfl, e _ _ ha, q⟩))) rfl) fun _ => et_or (a := false) (b := false) (et_is (et_not (a := true) (et_B (ev_call (ea_cons (ev_fr0 (K := K) (ev_var rfl) ha) ea_nil) (sv_is_integer _)))) rfl) fun _ => et_is (et_not (a := true) (et_B (ev_call (ea_cons (ev_fr1 (K := K) (ev_var rfl) ha) ea_nil) (sv_is_integer _)))) rfl) rfl) (fun z => by cases z) fun _ H1 e1 => ?_
    have ha1 := ha.ex e1
    refine s_ret (v := .bl true) (ev_is (ev_andV (a := true) (b := true) (ev_is (ev_op (ev_fr1 (K := K) (ev_var rfl) ha1) ev_c rv_I0) ?_) fun _ => ev_is (ev_op (ev_call (ea_cons (ev_fr0 (K := K) (ev_var rfl) ha1) (ea_cons (ev_fr1 (K := K) (ev_var rfl) ha1) ea_nil)) (sv_common p.1 p.2)) ev_c (rv_eq rfl)) ?_) rfl) fun H2 e2 => k H2 (e1.trans e2)
    · exact congrArg V.bl (decide_eq_true (by omega))
    · rw [hg]
      rfl
/-! ### systems: ==, pays, how many gaps -/
/-- two systems of the same needed coins -/
def SameSys (C : Addr) (a b : Addr) (H : Hp) : Prop := ∃ nd W W', SysAt C H a nd W ∧ SysAt C H b nd W'
theorem SameSys.mon {C : Addr} : ∀ a b H H', Ext H H' → SameSys C a b H → SameSys C a b H' := fun a b H H' e ⟨nd, W, W', h1, h2⟩ => ⟨nd, W, W', h1.ex e, h2.ex e⟩
theorem ok_System_eq (T : Top K mg) : FnOk P w K mg base CX0 1 T.a_System_eq T.fd_System_eq ["self", "other"] (spEq (SameSys T.a_System)) := by
  refine T.F_System_eq.ok sc_System_eq (fun vs H Q E h => ?_) (fun cdv A outer s H vs Q E hr h => ?_)
  · obtain ⟨a, b, rfl, _⟩ := h
    rfl
  · obtain ⟨a, b, rfl, ⟨nd', W, W', ⟨dx, b1, c1, a1, h1, h2, h3⟩, ⟨dy, b2, c2, a2, g1, g2, g3⟩⟩, k⟩ := h
    have nd := sc_System_eq.nd
    have cl : Cls K T.a_System := T.i_System.cl
    refine ⟨_, (pss_cons (ps_if (pt_not (pt_val (pe_callB (C8.call_isC T.i_System) (by rfl) T.z_isinstance (by decide +kernel) (pa_cons (pv 1) (pa_cons (pe_glob (v := .ref T.a_System) rfl T.g_System rfl) pa_nil))))) (pss_one (ps_ret pe_bl)) pss_nil) (pss_one (ps_ret (pe_cmpR (op_eqD hr.units) (pe_fld (pv 0) rfl) (pe_fld (pv 1) rfl) (nomark _))))), ?_⟩
    refine q_when (b := false) (et_is (et_not (a := true) (et_B (ev_cb (ea_cons (ev_var rfl) (ea_cons ev_c ea_nil)) (rc_isC g1)))) rfl) (fun z => by cases z) fun _ H1 e1 => ?_
    exact s_ret (ev_op (ev_fld (ev_var rfl) (e1 _ _ h1) cl T.n_System_needed_coins (sysF_need _ _ _)) (ev_fld (ev_var rfl) (e1 _ _ g1) cl T.n_System_needed_coins (sysF_need _ _ _)) (rv_eqTup (K := K) (by rw [← nv_ints]; exact st_of (e1 _ _ h2)) (by rw [← nv_ints]; exact st_of (e1 _ _ g2)))) fun H2 e2 => k H2 (e1.trans e2)
def sp_pays (C : Addr) : Sp := sp_pays_of C
theorem ok_pays (T : Top K mg) : FnOk P w K mg base CX0 3 T.a_pays T.fd_pays ["system", "number"] (sp_pays T.a_System) := by
  refine T.F_pays.ok sc_pays (fun vs H Q E h => ?_) (fun cdv A outer s H vs Q E hr h => ?_)
  · obtain ⟨x, n, m, tl, W, rfl, _⟩ := h
    rfl
  · obtain ⟨x, n, m, tl, W, rfl, h, k⟩ := h
    have nd := sc_pays.nd
    refine ⟨_, (pss_cons (ps_expr (pe_call (ok_check_sum T) (hr.mono (by decide)) (by rfl) T.g_check_sum T.F_check_sum.kp T.b_check_sum .nil pass0 (pa_cons (pv 0) (pa_cons (pv 1) pa_nil)))) (pss_one (ps_ret (pe_call (ok_pays_of T) (hr.mono (by decide)) (by rfl) T.g_pays_of T.F_pays_of.kp T.b_pays_of .nil pass0 (pa_cons (pv 0) (pa_cons (pv 1) pa_nil)))))), ?_⟩
    refine q_drop (ev_call (ea_cons (ev_var rfl) (ea_cons (ev_var rfl) ea_nil)) (sv_check_sum h _)) fun H1 e1 => ?_
    exact s_ret (ev_call (ea_cons (ev_var rfl) (ea_cons (ev_var rfl) ea_nil)) (sv_pays_of (h.ex e1) _)) fun H2 e2 => k H2 (e1.trans e2)
/-- so many gaps -/
noncomputable def gapsN (ds : List Nat) (last : Nat) : Int := Gs ds last fun _ => 1
theorem ones_sum : ∀ q : Nat, sumN (fun _ => (1 : Int)) q = (q : Int)
  | 0 => rfl
  | q + 1 => by show sumN _ q + 1 = _; rw [ones_sum q]; omega
def sp_gaps_number (C : Addr) : Sp := fun vs H Q _ => ∃ (x : Addr) (m : Nat) (tl W : List Nat) (last : Nat), vs = [.ref x] ∧ SyAt C H x m tl W ∧ m ≤ 40000 ∧ Last (m :: tl) last ∧ RetV (.int (gapsN (m :: tl) last)) H Q
theorem ok_gaps_number_of (T : Top K mg) : FnOk P w K mg base CX0 1 T.a_gaps_number_of T.fd_gaps_number_of ["system"] (sp_gaps_number T.a_System) := by
  refine T.F_gaps_number_of.ok sc_gaps_number_of (fun vs H Q E h => ?_) (fun cdv A outer s H vs Q E hr h => ?_)
  · obtain ⟨x, m, tl, W, last, rfl, _⟩ := h
    rfl
  · obtain ⟨x, m, tl, W, last, rfl, h, hmz, hL, k⟩ := h
    have nd := sc_gaps_number_of.nd
    have cl : Cls K T.a_System := T.i_System.cl
    have R := h.rests
    have hm := h.hm
    obtain ⟨dx, b, c, a, hx, hb, hc⟩ := h.at_
    refine ⟨_, (pss_cons (ps_set (i := 1) nd rfl (Or.inr rfl) (pe_callB call_len_seq (by rfl) T.z_len PySem.boot_len (pa_cons (pe_fld (pv 0) rfl) pa_nil))) (pss_one (ps_ret (pe_callB (cr_sum rfl) (by rfl) T.z_sum (by decide +kernel) (pa_cons (pe_lc (own := [("item", 2)]) (by rfl) nd (pi_tup (pe_fld (pv 0) rfl)) (blkOk_by (own := [("item", 2)]) (N := n_gaps_number_of) (sc := defScope s_gaps_number_of) (by decide +kernel)) (fun _ _ _ _ _ => (pg_name (i := 2) nd rfl (Or.inl rfl))) (fun _ _ _ _ _ => pts_nil) (fun _ _ _ _ _ => (pe_op op_fdiv (pv 2) (pv 1)))) pa_nil))))), ?_⟩
    refine q_asg (v := .int (m : Int)) (ev_is (ev_lenS (K := K) (ev_fld (ev_var rfl) hx cl T.n_System_rests (sysF_rests _ _ _)) (.inr (st_of hc))) (by rw [nv_len, R.len])) fun H1 e1 => ?_
    obtain ⟨ns, en, es⟩ := given_ints (n := (nv W).length) (f := fun _ => true) (v := fun j => ((W.getD j 0 / m : Nat) : Int))
    have hs : ns.sum = gapsN (m :: tl) last := by
      unfold gapsN
      rw [es, nv_len, R.len, Gs_by R.rst hm hL]
      refine sumN_congr m fun r _ => ?_
      rw [ones_sum]
      rfl
    refine s_ret (v := .int (gapsN (m :: tl) last)) (ev_is (ev_sumN (K := K) (el_is (el_lcT (K := K) (a := c) (xs := nv W) (fun _ => true) (fun j => V.int ((W.getD j 0 / m : Nat) : Int)) (ev_fld (ev_var rfl) (e1 _ _ hx) cl T.n_System_rests (sysF_rests _ _ _)) (st_of (e1 _ _ hc)) (by rw [nv_len, R.len]; exact hmz) (fun v => rfl) (fun i z H2 e2 hz => fun H3 e3 Q q => q H3 (Ex.refl H3)) (fun i z H2 e2 hz _ => ?_)) en)) (congrArg V.int hs)) fun H2 e2 => k H2 (e1.trans e2)
    obtain ⟨w', hw, rfl⟩ := nv_get hz
    have eg : W.getD i 0 = w' := by rw [List.getD_eq_getElem?_getD, hw]; rfl
    rw [eg]
    exact ev_op (x := .int (w' : Int)) (y := .int (m : Int)) (ev_var rfl) (ev_var rfl) (rv_I ⟨by omega, by omega⟩)
theorem sv_gaps_number {C x : Addr} {H : Hp} {m last : Nat} {tl W : List Nat} (h : SyAt C H x m tl W) (hm : m ≤ 40000) (hL : Last (m :: tl) last) : SpV (sp_gaps_number C) [.ref x] H (.int (gapsN (m :: tl) last)) := fun H1 e Q q E => ⟨x, m, tl, W, last, rfl, h.ex e, hm, hL, q⟩
theorem ok_gaps_number (T : Top K mg) : FnOk P w K mg base CX0 2 T.a_gaps_number T.fd_gaps_number ["system"] (sp_gaps_number T.a_System) := by
  refine T.F_gaps_number.ok sc_gaps_number (fun vs H Q E h => ?_) (fun cdv A outer s H vs Q E hr h => ?_)
  · obtain ⟨x, m, tl, W, last, rfl, _⟩ := h
    rfl
  · obtain ⟨x, m, tl, W, last, rfl, h, hm, hL, k⟩ := h
    have nd := sc_gaps_number.nd
    refine ⟨_, (pss_cons (ps_expr (pe_call (ok_check_system T) (hr.mono (by decide)) (by rfl) T.g_check_system T.F_check_system.kp T.b_check_system .nil pass0 (pa_cons (pv 0) pa_nil))) (pss_one (ps_ret (pe_call (ok_gaps_number_of T) (hr.mono (by decide)) (by rfl) T.g_gaps_number_of T.F_gaps_number_of.kp T.b_gaps_number_of .nil pass0 (pa_cons (pv 0) pa_nil))))), ?_⟩
    refine q_drop (ev_call (ea_cons (ev_var rfl) ea_nil) (sv_check_system h)) fun H1 e1 => ?_
    exact s_ret (ev_call (ea_cons (ev_var rfl) ea_nil) (sv_gaps_number (h.ex e1) hm hL)) fun H2 e2 => k H2 (e1.trans e2)
/-! ### least coins -/
theorem bv_any (cs : List Nat) (n : Nat) : bv (fun k => if k < 1 then pb cs k else false) n = bv (fun k => if k < 1 then pb [] k else false) n := bv_congr fun k _ => by
  split
  · rename_i h
    have : k = 0 := by omega
    rw [this, pb_zero, pb_zero]
  · rfl
theorem pb_nil (k : Nat) : pb [] k = if k < 1 then pb [] k else false := by
  split
  · rfl
  · rename_i h
    exact pb_not.mpr fun p => by have := nil_pay p; omega
theorem needF_snoc (c : Nat) : ∀ (L acc : List Nat), needF acc (L ++ [c]) = if pb (needF acc L) c = true then needF acc L else needF acc L ++ [c]
  | [], acc => by show needF acc [c] = _; unfold needF; rfl
  | d :: r, acc => by
    show needF acc (d :: (r ++ [c])) = _
    unfold needF
    split
    · exact needF_snoc c r acc
    · exact needF_snoc c r _
theorem pb_low {cs : List Nat} {c k : Nat} (hc : 0 < c) (h : k < c) : pb (cs ++ [c]) k = pb cs k := by
  rw [pb_snoc hc, decide_eq_false (by omega), Bool.false_and, Bool.or_false]
def sp_least_coins (K : PySem.W.Frag) : Sp := fun vs H Q _ => ∃ (l : Addr) (L : List Nat) (top : Nat), vs = [.ref l] ∧ SqL K H l (nv L) ∧ L ≠ [] ∧ L.getLast? = some top ∧ (∀ c ∈ L, 0 < c ∧ c ≤ top) ∧ top ≤ 40000 ∧ L.length ≤ 40000 ∧ RetL (nv (needF [] L)) H Q
theorem needF_len (L acc : List Nat) : (needF acc L).length ≤ acc.length + L.length := by
  induction L generalizing acc with
  | nil => exact Nat.le_refl _
  | cons c r ih =>
    unfold needF
    split
    · have := ih acc; rw [List.length_cons]; omega
    · have := ih (acc ++ [c]); rw [List.length_append] at this; simp only [List.length_cons, List.length_nil] at *; omega
theorem ok_least_coins (T : Top K mg) : FnOk P w K mg base CX0 1 T.a_least_coins T.fd_least_coins ["coins"] (sp_least_coins K) := by
  refine T.F_least_coins.ok sc_least_coins (fun vs H Q E h => ?_) (fun cdv A outer s H vs Q E hr h => ?_)
  · obtain ⟨l, L, top, rfl, _⟩ := h
    rfl
  · obtain ⟨l, L, top, rfl, hl, hne, htop, hc, hz, hlz, k⟩ := h
    have nd := sc_least_coins.nd
    refine ⟨_, (pss_cons (ps_set (i := 1) nd rfl (Or.inl rfl) (pe_op op_cat (pe_lst (pa_cons pe_bl pa_nil)) (pe_op op_rep (pe_lst (pa_cons pe_bl pa_nil)) (pe_ix ix_list (pv 0) (pe_un un_neg pe_int) (fun _ _ => rfl))))) (pss_cons (ps_set (i := 2) nd rfl (Or.inl rfl) (pe_lst pa_nil)) (pss_cons (ps_for PassesOwn.never rfl (pi_list (pv 0)) (pg_name (i := 3) nd rfl (Or.inl rfl)) (pss_one (ps_if (pt_not (pt_val (pe_ix ix_list (pv 1) (pv 3) (fun _ _ => rfl)))) (pss_cons (ps_expr (pe_bm PySem.F.plainAttrs_list PySem.F.slot_list_append PySem.F.type_list_append mt_append (pv 2) (pa_cons (pv 3) pa_nil))) (pss_one (ps_for PassesOwn.never rfl (pi_range2 rfl T.z_range (pa_cons (pv 3) (pa_cons (pe_callB call_len_seq (by rfl) T.z_len PySem.boot_len (pa_cons (pv 1) pa_nil)) pa_nil))) (pg_name (i := 4) nd rfl (Or.inl rfl)) (pss_one (ps_if (pt_val (pe_ix ix_list (pv 1) (pe_op op_sub (pv 4) (pv 3)) (fun _ _ => rfl))) (pss_one (ps_asg pe_bl (pg_sub (pv 1) (pv 4) set_list))) pss_nil))))) pss_nil))) (pss_one (ps_ret (pv 2)))))), ?_⟩
    have hlen : 0 < L.length := List.length_pos_iff.mpr hne
    have hlast : atI (nv L) (-1) = some (.int (top : Int)) := by
      unfold atI
      rw [nv_len]
      have : ixN L.length (-1) = some (L.length - 1) := by
        unfold ixN
        simp
        omega
      rw [this]
      show (nv L)[L.length - 1]? = _
      rw [List.getLast?_eq_getElem?] at htop
      unfold nv
      rw [List.getElem?_map, htop]
      rfl
    refine q_asgL (el_is (el_cat (el_lst (ea_cons ev_c ea_nil) (by show 1 ≤ 100000; decide)) (el_rep1 (v := .bl false) (k := top) (el_lst (ea_cons ev_c ea_nil) (by show 1 ≤ 100000; decide)) (ev_op (ev_var rfl) (ev_un ev_c ru_neg) (rv_ixL hl hlast)) (by omega)) (by rw [List.length_replicate]; show 1 + top ≤ 100000; omega)) (bv_start [] top)) fun p H1 np e1 hp => ?_
    have hp0 : H1 p = some (.lst (bv (pb (needF [] (L.take 0))) (top + 1))) := by
      rw [hp]
      congr 2
      exact bv_congr fun k _ => (pb_nil k).symm
    refine q_asgL (el_lst ea_nil (by show 0 ≤ 100000; decide)) fun f H2 nf e2 hf => ?_
    have npf : p ≠ f := ne_of_none hp nf
    have nf0 := fresh_back e1 nf
    refine q_forLn (ev_var rfl) (ex_l (e1.trans e2) hl)
      (fun i σ' H' => ∃ a b, σ' = [some (.ref l), some (.ref p), some (.ref f), a, b] ∧ Ex H H' ∧ H' p = some (.lst (bv (pb (needF [] (L.take i))) (top + 1))) ∧ H' f = some (.lst (nv (needF [] (L.take i)))))
      (fun H3 e3 => ⟨none, none, rfl, (e1.trans e2).trans e3, e3 _ _ (e2 _ _ hp0), e3 _ _ hf⟩) (fun i σ' H' _ ⟨_, _, _, e, _⟩ => ex_l e hl) (fun i x σ' H' hx hp' => ?_) (fun σ' H' hp' => ?_)
    · obtain ⟨a, b, rfl, e, h3, h4⟩ := hp'
      obtain ⟨c, hcc, rfl⟩ := nv_get hx
      obtain ⟨c0, ct⟩ := hc c (List.mem_of_getElem? hcc)
      have enext := needF_snoc c (L.take i) []
      rw [← take_next hcc] at enext
      generalize needF [] (L.take i) = G at *
      refine s_when (b := !pb G c) (et_not (et_B (ev_ixL (K := K) (j := c) (ev_var rfl) (sq_of h3) (ev_var rfl) (bv_get (by omega))))) (fun hb H5 e5 => ?_) (fun hb H5 e5 => ?_)
      · have hb2 : pb G c = false := by
          cases hh : pb G c with
          | true => rw [hh] at hb; cases hb
          | false => rfl
        rw [hb2, if_neg Bool.false_ne_true] at enext
        have glen : G.length < 100000 := by
          have h9 := needF_len (L.take (i + 1)) []
          rw [enext, List.length_append, List.length_take] at h9
          simp only [List.length_cons, List.length_nil] at h9
          omega
        refine q_app (e5 _ _ h4) (ev_var rfl) (ev_var rfl) (by rw [nv_len]; exact glen) fun H6 e6 => ?_
        have f6 : (upd H6 f (.lst (nv G ++ [.int (c : Int)]))) f = some (.lst (nv (G ++ [c]))) := by rw [upd_same, nv_app]; rfl
        have p6 : (upd H6 f (.lst (nv G ++ [.int (c : Int)]))) p = some (.lst (bv (pb G) (top + 1))) := by rw [upd_ne npf]; exact e6 _ _ (e5 _ _ h3)
        have ex6 : Ex H (upd H6 f (.lst (nv G ++ [.int (c : Int)]))) := ((e.trans e5).trans e6).mut nf0
        generalize upd H6 f (.lst (nv G ++ [.int (c : Int)])) = H7 at f6 p6 ex6
        refine s_forR2 (lo := (c : Int)) (n := ((top + 1 : Nat) : Int)) (ea_cons (ev_var rfl) (ea_cons (ev_is (ev_lenS (K := K) (ev_var rfl) (.inl (sq_of p6))) (by rw [bv_len])) ea_nil)) ⟨by omega, by omega, by omega, by omega⟩
          (fun j σ' H' => ∃ b, σ' = [some (.ref l), some (.ref p), some (.ref f), some (.int (c : Int)), b] ∧ Ex H H' ∧ H' p = some (.lst (bv (fun k => if k < c + j then pb (G ++ [c]) k else pb G k) (top + 1))) ∧ H' f = some (.lst (nv (G ++ [c]))))
          (fun H8 e8 => ⟨_, rfl, ex6.trans e8, ?_, e8 _ _ f6⟩) (fun j σ' H' hj hp' => ?_) (fun σ' H' hp' => ?_)
        · rw [e8 _ _ p6]
          congr 2
          exact bv_congr fun k hk => by
            split
            · rename_i q
              exact (pb_low c0 (by omega)).symm
            · rfl
        · obtain ⟨b, rfl, e8, h8, g8⟩ := hp'
          have hj2 : ((c : Int) + (j : Int)) - (c : Int) = (j : Int) := by omega
          have hcj : ((c : Int) + (j : Int)) = ((c + j : Nat) : Int) := by omega
          have vj : (bv (fun k => if k < c + j then pb (G ++ [c]) k else pb G k) (top + 1))[j]? = some (.bl (pb (G ++ [c]) j)) := by rw [bv_get (by omega), if_pos (by omega)]
          have step : pb (G ++ [c]) (c + j) = (pb G (c + j) || pb (G ++ [c]) j) := by rw [pb_snoc c0, decide_eq_true (by omega), Bool.true_and, show c + j - c = j by omega]
          refine s_when (b := pb (G ++ [c]) j) (et_B (ev_ixL (K := K) (j := j) (ev_var rfl) (sq_of h8) (ev_is (ev_op (ev_var rfl) (ev_var rfl) rv_I0) (congrArg V.int hj2)) vj)) (fun hb H9 e9 => ?_) (fun hb H9 e9 => ?_)
          · refine s_setL (l := p) (j := c + j) (v := .bl (pb (G ++ [c]) (c + j))) (e9 _ _ h8) (ev_is ev_c ?_) (ev_var rfl) (ev_is (ev_var rfl) (congrArg V.int hcj)) (by rw [bv_len]; omega) fun H10 e10 => ⟨_, rfl, ((e8.trans e9).trans e10).mut np, ?_, by rw [upd_ne npf.symm]; exact e10 _ _ (e9 _ _ g8)⟩
            · rw [step, hb, Bool.or_true]
            · rw [upd_same]
              have z := bv_set (f := fun k => if k < c + j then pb (G ++ [c]) k else pb G k) (g := fun k => if k < c + (j + 1) then pb (G ++ [c]) k else pb G k) (n := top + 1) (j := c + j) (by omega) fun k hk hne => by
                show (if k < c + j then pb (G ++ [c]) k else pb G k) = if k < c + (j + 1) then pb (G ++ [c]) k else pb G k
                by_cases q : k < c + j
                · rw [if_pos q, if_pos (by omega)]
                · rw [if_neg q, if_neg (by omega)]
              rw [← z, if_pos (by omega)]
          · refine ⟨_, rfl, e8.trans e9, ?_, e9 _ _ g8⟩
            rw [e9 _ _ h8]
            congr 2
            refine bv_congr fun k hk => ?_
            by_cases q : k < c + j
            · rw [if_pos q, if_pos (by omega)]
            · rw [if_neg q]
              by_cases q2 : k < c + (j + 1)
              · have : k = c + j := by omega
                rw [if_pos q2, this, step, hb, Bool.or_false]
              · rw [if_neg q2]
        · obtain ⟨b, rfl, e8, h8, g8⟩ := hp'
          refine ⟨_, _, rfl, e8, ?_, ?_⟩
          · rw [h8, enext]
            congr 2
            exact bv_congr fun k hk => if_pos (by omega)
          · rw [enext]
            exact g8
      · have hb2 : pb G c = true := by
          cases hh : pb G c with
          | true => rfl
          | false => rw [hh] at hb; cases hb
        rw [if_pos hb2] at enext
        exact ⟨_, _, rfl, e.trans e5, by rw [enext]; exact e5 _ _ h3, by rw [enext]; exact e5 _ _ h4⟩
    · obtain ⟨a, b, rfl, e, h3, h4⟩ := hp'
      rw [nv_len, List.take_length] at h4
      exact s_ret (ev_var rfl) fun H4 e4 => k f H4 nf0 (e.trans e4) (e4 _ _ h4)
end
end Pd

/-! k05: rules, spans, chains. -/
namespace Pd
open PySem PySem.Spec PyProof.Rows L2 Evl PpSet
/-! ### plain -/
noncomputable def btwB (p q : Nat × Nat) (n : Nat) : Bool := @decide (Btw p.1 p.2 q.1 q.2 n) (Classical.propDecidable _)
theorem btwB_iff {p q : Nat × Nat} {n : Nat} : btwB p q n = true ↔ Btw p.1 p.2 q.1 q.2 n := by unfold btwB; exact @decide_eq_true_iff _ (Classical.propDecidable _)
theorem ceil_le {a b : Int} (hb : 0 < b) (k : Int) : -(-a / b) ≤ k ↔ a ≤ k * b := by
  have h : (-k) ≤ -a / b ↔ -k * b ≤ -a := Int.le_ediv_iff_mul_le hb
  rw [Int.neg_mul] at h
  omega
theorem in_span_eq {p q : Nat × Nat} (hq : 0 < q.1) (n : Nat) : decide (-(-(n : Int) * ((q.2 : Nat) : Int) / ((q.1 : Nat) : Int)) * ((p.1 : Nat) : Int) ≤ (n : Int) * ((p.2 : Nat) : Int)) = btwB p q n := by
  have e0 : -(n : Int) * ((q.2 : Nat) : Int) = -((n : Int) * ((q.2 : Nat) : Int)) := Int.neg_mul _ _
  rw [Bool.eq_iff_iff, decide_eq_true_iff, btwB_iff, e0]
  generalize hk : -(-((n : Int) * ((q.2 : Nat) : Int)) / ((q.1 : Nat) : Int)) = k
  have hc := fun j => ceil_le (a := (n : Int) * ((q.2 : Nat) : Int)) (b := ((q.1 : Nat) : Int)) (by omega) j
  rw [hk] at hc
  have k0 : 0 ≤ k := by
    apply Classical.byContradiction
    intro hn
    have h1 := (hc (-1)).mp (by omega)
    have h2 : (0 : Int) ≤ (n : Int) * ((q.2 : Nat) : Int) := Int.mul_nonneg (by omega) (by omega)
    omega
  obtain ⟨K, rfl⟩ : ∃ K : Nat, k = (K : Int) := ⟨k.toNat, by omega⟩
  constructor
  · intro h
    refine ⟨K, ?_, ?_⟩
    · have := (hc K).mp (Int.le_refl _)
      rw [← Int.natCast_mul, ← Int.natCast_mul] at this
      omega
    · rw [← Int.natCast_mul, ← Int.natCast_mul] at h
      omega
  · rintro ⟨j, h1, h2⟩
    have h3 := (hc j).mpr (by rw [← Int.natCast_mul, ← Int.natCast_mul]; omega)
    have h4 : K * p.1 ≤ j * p.1 := Nat.mul_le_mul_right _ (by omega)
    rw [← Int.natCast_mul, ← Int.natCast_mul]
    omega
structure Span (p q : Nat × Nat) : Prop where
  p2 : 0 < p.2
  q2 : 0 < q.2
  cp : Nat.gcd p.1 p.2 = 1
  cq : Nat.gcd q.1 q.2 = 1
  pl : p.2 < p.1
  ql : q.2 < q.1
  pm : p.1 ≤ 2000
  qm : q.1 ≤ 2000
  lt : p.1 * q.2 < q.1 * p.2
/-- the next of a chain -/
theorem next_ok {p h : Nat × Nat} (hp2 : 0 < p.2) (hh2 : 0 < h.2) {T B d : Nat} (hB : 1 ≤ B) (hBp : B ≤ p.2) (hT : T * p.2 = B * p.1 + 1) (hd : h.1 * p.2 = p.1 * h.2 + d) (d0 : 0 < d) {o : Nat}
    (ho : (h.2 * T ≤ h.1 * B ∧ o = 0) ∨ (h.1 * B < h.2 * T ∧ h.2 * T ≤ h.1 * B + o * d ∧ o * d < h.2 * T - h.1 * B + d)) :
    (T + o * p.1) * p.2 = p.1 * (B + o * p.2) + 1 ∧ ∃ d', h.1 * (B + o * p.2) = (T + o * p.1) * h.2 + d' ∧ d' < d ∧ (T + o * p.1) * d = d' * p.1 + h.1 := by
  have e1 : (T + o * p.1) * p.2 = p.1 * (B + o * p.2) + 1 := by grind
  refine ⟨e1, ?_⟩
  -- over by o
  have e2 : h.1 * (B + o * p.2) + h.2 * T = (T + o * p.1) * h.2 + (h.1 * B + o * d) := by
    have : h.1 * (B + o * p.2) = h.1 * B + o * (p.1 * h.2 + d) := by grind
    rw [this]
    grind
  have key : ∀ d', h.1 * (B + o * p.2) = (T + o * p.1) * h.2 + d' → (T + o * p.1) * d = d' * p.1 + h.1 := fun d' hd' => by
    generalize T + o * p.1 = N1 at *
    generalize B + o * p.2 = N2 at *
    -- N1 d = N1 (h1 p2 - p1 h2)
    have a1 : N1 * (h.1 * p.2) = N1 * (p.1 * h.2) + N1 * d := by rw [hd, Nat.mul_add]
    have a2 : N1 * (h.1 * p.2) = h.1 * (p.1 * N2) + h.1 := by
      have : N1 * (h.1 * p.2) = h.1 * (N1 * p.2) := by grind
      rw [this, e1]
      grind
    have a3 : h.1 * (p.1 * N2) = p.1 * (N1 * h.2 + d') := by rw [← hd']; grind
    have a4 : p.1 * (N1 * h.2 + d') = N1 * (p.1 * h.2) + d' * p.1 := by grind
    omega
  rcases ho with ⟨h1, rfl⟩ | ⟨h1, h2, h3⟩
  · obtain ⟨d', hd'⟩ : ∃ d', h.1 * B = h.2 * T + d' := ⟨h.1 * B - h.2 * T, by omega⟩
    refine ⟨d', by grind, ?_, key d' (by grind)⟩
    -- p2 d' = B d - h2
    have b1 : d' * p.2 + h.2 = B * d := by
      have c1 : h.1 * B * p.2 = (h.2 * T + d') * p.2 := by rw [hd']
      have c2 : h.1 * B * p.2 = B * (p.1 * h.2 + d) := by rw [← hd]; grind
      have c3 : (h.2 * T + d') * p.2 = h.2 * (B * p.1 + 1) + d' * p.2 := by rw [← hT]; grind
      have c4 : B * (p.1 * h.2 + d) = h.2 * (B * p.1) + B * d := by grind
      have c5 : h.2 * (B * p.1 + 1) = h.2 * (B * p.1) + h.2 := by grind
      omega
    have b2 : B * d ≤ p.2 * d := Nat.mul_le_mul_right _ hBp
    apply Classical.byContradiction
    intro hn
    have b3 : d * p.2 ≤ d' * p.2 := Nat.mul_le_mul_right _ (by omega)
    rw [Nat.mul_comm d p.2] at b3
    omega
  · obtain ⟨d', hd'⟩ : ∃ d', h.1 * B + o * d = h.2 * T + d' := ⟨h.1 * B + o * d - h.2 * T, by omega⟩
    have e3 : h.1 * (B + o * p.2) = (T + o * p.1) * h.2 + d' := by omega
    exact ⟨d', e3, by omega, key d' e3⟩
theorem next_top {N d d' p1 h1 : Nat} (e : N * d = d' * p1 + h1) (l : d' < d) : N ≤ max p1 h1 := by
  have a1 : d' * p1 ≤ d' * max p1 h1 := Nat.mul_le_mul_left _ (by omega)
  have a2 : (d' + 1) * max p1 h1 ≤ d * max p1 h1 := Nat.mul_le_mul_right _ (by omega)
  have a3 : (d' + 1) * max p1 h1 = d' * max p1 h1 + max p1 h1 := by grind
  apply Classical.byContradiction
  intro hn
  have a4 : (max p1 h1 + 1) * d ≤ N * d := Nat.mul_le_mul_right _ (by omega)
  have a5 : (max p1 h1 + 1) * d = d * max p1 h1 + d := by grind
  have a6 : h1 ≤ max p1 h1 := Nat.le_max_right _ _
  omega
theorem adj_co {a b c d : Nat} (h : a * b = c * d + 1) : Nat.gcd a d = 1 := by
  have h1 : Nat.gcd a d ∣ a * b := Nat.dvd_trans (Nat.gcd_dvd_left a d) (Nat.dvd_mul_right a b)
  have h2 : Nat.gcd a d ∣ c * d := Nat.dvd_trans (Nat.gcd_dvd_right a d) (Nat.dvd_mul_left d c)
  rw [h] at h1
  exact Nat.dvd_one.mp ((Nat.dvd_add_right h2).mp h1)
theorem co_eq {a b c d : Nat} (h1 : Nat.gcd a b = 1) (h2 : Nat.gcd c d = 1) (hb : 0 < b) (hd : 0 < d) (e : a * d = c * b) : a = c ∧ b = d := by
  have x1 : b ∣ d := Nat.Coprime.dvd_of_dvd_mul_left (k := b) (m := a) (n := d) (by rw [Nat.Coprime, Nat.gcd_comm]; exact h1) ⟨c, by rw [e, Nat.mul_comm]⟩
  have x2 : d ∣ b := Nat.Coprime.dvd_of_dvd_mul_left (k := d) (m := c) (n := b) (by rw [Nat.Coprime, Nat.gcd_comm]; exact h2) ⟨a, by rw [← e, Nat.mul_comm]⟩
  have eb : b = d := Nat.dvd_antisymm x1 x2
  subst eb
  exact ⟨Nat.eq_of_mul_eq_mul_right hb e, rfl⟩
/-- some neighbour stands -/
theorem left_some {t s : Nat} (hs : 0 < s) (hc : Nat.gcd t s = 1) : ∃ b, 1 ≤ b ∧ b ≤ s ∧ (b * t + 1) % s = 0 := by
  by_cases h1 : s = 1
  · subst h1
    exact ⟨1, Nat.le_refl 1, Nat.le_refl 1, Nat.mod_one _⟩
  · obtain ⟨u, hu⟩ := bez t hs
    rw [hc, Nat.mod_eq_of_lt (show 1 < s by omega)] at hu
    -- u t = 1 mod s: b = s - u mod s
    have hu0 : u % s ≠ 0 := fun z => by
      have : (u * t) % s = 0 := by rw [Nat.mul_mod, z, Nat.zero_mul, Nat.zero_mod]
      omega
    have hul := Nat.mod_lt u hs
    refine ⟨s - u % s, by omega, by omega, ?_⟩
    have e1 : (s - u % s) * t + u % s * t = s * t := by rw [← Nat.add_mul, Nat.sub_add_cancel (by omega)]
    have e2 : (u % s * t) % s = 1 := by rw [Nat.mod_mul_mod]; exact hu
    have e3 : ((s - u % s) * t + u % s * t) % s = 0 := by rw [e1]; exact Nat.mul_mod_right s t
    rw [Nat.add_mod, e2] at e3
    have e4 := Nat.mod_lt ((s - u % s) * t) hs
    rw [Nat.add_mod, Nat.mod_eq_of_lt (show 1 < s by omega)]
    exact e3
section
variable {K : PySem.W.Frag} {σ : L2.St} {H H' : Hp} {ta tb te tx tl : TE} {x y z v : V} {a : Addr} {p : Nat × Nat}
theorem ev_neD2 {a b c d : Int} {r s : Addr} (ha : Ev ta σ H (.ref r)) (hb : Ev tb σ H (.ref s)) (h1 : H r = some (.tup [.int a, .int b])) (h2 : H s = some (.tup [.int c, .int d])) : Ev (tOp (rNeD K) ta tb) σ H (.bl (!decide (a = c ∧ b = d))) :=
  ev_op ha hb fun H1 e Q k => by
    have q1 : DpAll K H1 [.int a, .int b] [PyData.int a, PyData.int b] := dp_ints [a, b]
    have q2 : DpAll K H1 [.int c, .int d] [PyData.int c, PyData.int d] := dp_ints [c, d]
    refine ⟨.tuple [PyData.int a, PyData.int b], .tuple [PyData.int c, PyData.int d], .tup (st_of (e _ _ h1)) q1, .tup (st_of (e _ _ h2)) q2, shaped_tup [a, b], shaped_tup [c, d], ?_⟩
    have ee : PyData.eqv (.tuple [PyData.int a, PyData.int b]) (.tuple [PyData.int c, PyData.int d]) = decide (a = c ∧ b = d) := by
      simp [PyData.eqv, PyData.eqvAll]
      rfl
    rw [ee]
    exact k H1 (Ex.refl H1)
/-- append, beyond a hundred thousand -/
theorem s_appZ {l : Addr} {xs : List V} {D : L2.Ends} (hl : H l = some (.lst xs)) (ha : Ev ta σ H (.ref l)) (h : Ev te σ H v) (hz : xs.length < sizeLine) (k : ∀ H1, Ex H H1 → D.nx σ (upd H1 l (.lst (xs ++ [v])))) : tDrop (tBM K "list" rAppend ta (tCons te tNil)) D σ H :=
  ha H (Ex.refl H) _ fun H1 e1 => ⟨Or.inl ⟨rfl, xs, sq_of (e1 l _ hl)⟩, h H1 e1 _ fun H2 e2 => ⟨l, xs, v, rfl, rfl, e2 l _ (e1 l _ hl), hz, k H2 (e1.trans e2)⟩⟩
end
end Pd

/-! k05: the rules and spans walked. -/
namespace Pd
open PySem PySem.Spec PyProof.Rows L2 Evl PpSet
section
variable {P : Program} {w : World} {K : PySem.W.Frag} {mg : Str → Option Value} {base : Heap}
theorem wi_true {lo hi i : Int} (h1 : lo ≤ i) (h2 : i ≤ hi) : V.bl (decide (lo ≤ i) && decide (i ≤ hi)) = .bl true := by
  rw [decide_eq_true h1, decide_eq_true h2]
  rfl
/-- a rule that the text takes -/
structure RuleOk (f m s : Nat) : Prop where
  f1 : 1 ≤ f
  f2 : f ≤ 1000000000000
  m1 : 2 ≤ m
  m2 : m ≤ 1000000000
  s1 : 1 ≤ s
  s2 : s ≤ 1000000000000
def sp_check_rule : Sp := fun vs H Q _ => ∃ f m s : Nat, vs = [.int f, .int m, .int s] ∧ RuleOk f m s ∧ RetV .non H Q
theorem sv_check_rule {H : Hp} {f m s : Nat} (r : RuleOk f m s) : SpV sp_check_rule [.int f, .int m, .int s] H .non := fun H1 e Q q E => ⟨f, m, s, rfl, r, q⟩
theorem ok_check_rule (T : Top K mg) : FnOk P w K mg base CX0 3 T.a_check_rule T.fd_check_rule ["factor", "modulus", "share"] sp_check_rule := by
  refine T.F_check_rule.ok sc_check_rule (fun vs H Q E h => ?_) (fun cdv A outer s H vs Q E hr h => ?_)
  · obtain ⟨f, m, s, rfl, _⟩ := h
    rfl
  · obtain ⟨f, m, s', rfl, r, k⟩ := h
    have nd := sc_check_rule.nd
    have f1 := r.f1; have f2 := r.f2; have m1 := r.m1; have m2 := r.m2; have s1 := r.s1; have s2 := r.s2
    refine ⟨_, (pss_cons (ps_if (pt_not (pt_val (pe_call (ok_is_within T) (hr.mono (by decide)) (by rfl) T.g_is_within T.F_is_within.kp T.b_is_within .nil pass0 (pa_cons (pv 1) (pa_cons pe_int (pa_cons (pe_glob (v := .int 1000000000000000000000000000000) rfl T.c_MOST_SIZE ⟨_, rfl⟩) pa_nil)))))) pss_dead pss_nil) (pss_one (ps_if (PW.pt (pw_or (pt_not (pt_val (pe_call (ok_is_within T) (hr.mono (by decide)) (by rfl) T.g_is_within T.F_is_within.kp T.b_is_within .nil pass0 (pa_cons (pv 0) (pa_cons pe_int (pa_cons (pe_glob (v := .int 1000000000000000000000000000000) rfl T.c_MOST_SIZE ⟨_, rfl⟩) pa_nil)))))) (pw_or1 (pt_not (pt_val (pe_call (ok_is_within T) (hr.mono (by decide)) (by rfl) T.g_is_within T.F_is_within.kp T.b_is_within .nil pass0 (pa_cons (pv 2) (pa_cons pe_int (pa_cons (pe_glob (v := .int 1000000000000000000000000000000) rfl T.c_MOST_SIZE ⟨_, rfl⟩) pa_nil))))))))) pss_dead pss_nil))), ?_⟩
    refine q_when (b := false) (et_is (et_not (a := true) (et_B (ev_is (ev_call (ea_cons (ev_var rfl) (ea_cons ev_c (ea_cons ev_c ea_nil))) (sv_is_within _ _ _)) (wi_true (by omega) (by omega))))) rfl) (fun z => by cases z) fun _ H1 e1 => ?_
    exact s_when (b := false) (et_is (et_or (a := false) (b := false) (et_is (et_not (a := true) (et_B (ev_is (ev_call (ea_cons (ev_var rfl) (ea_cons ev_c (ea_cons ev_c ea_nil))) (sv_is_within _ _ _)) (wi_true (by omega) (by omega))))) rfl) fun _ => et_is (et_not (a := true) (et_B (ev_is (ev_call (ea_cons (ev_var rfl) (ea_cons ev_c (ea_cons ev_c ea_nil))) (sv_is_within _ _ _)) (wi_true (by omega) (by omega))))) rfl) rfl) (fun z => by cases z) fun _ H2 e2 => k H2 (e1.trans e2)
theorem kp_int (f m s n : Nat) : decide (((f : Int) * (n : Int)) % (m : Int) ≤ (s : Int) * (n : Int)) = kp f m s n := by
  unfold kp
  rw [← Int.natCast_mul, ← Int.natCast_mul]
  exact decide_eq_decide.mpr (by
    have : ((f * n : Nat) : Int) % (m : Int) = ((f * n % m : Nat) : Int) := rfl
    rw [this]
    omega)
theorem ev_kp {σ : L2.St} {H : Hp} {ta tb tc td te : TE} {f m s n : Nat} (h1 : Ev ta σ H (.int (f : Nat))) (h2 : Ev tb σ H (.int (n : Nat))) (h3 : Ev tc σ H (.int (m : Nat))) (h4 : Ev td σ H (.int (s : Nat))) (h5 : Ev te σ H (.int (n : Nat))) (hm : 0 < m) (hn : n < 2 ^ 64) :
    Ev (tOp (rI0 fun i j => .bl (decide (i ≤ j))) (tOp (rI (fun _ j => 0 < j) fun i j => .int (i % j)) (tOp (rI CMul fun i j => .int (i * j)) ta tb) tc) (tOp (rI CMul fun i j => .int (i * j)) td te)) σ H (.bl (kp f m s n)) :=
  ev_is (ev_op (ev_op (ev_op h1 h2 (rv_mul (.inr ⟨by omega, by omega⟩))) h3 (rv_I (by omega))) (ev_op h4 h5 (rv_mul (.inr ⟨by omega, by omega⟩))) rv_I0) (congrArg V.bl (kp_int f m s n))
def sp_rule_holds : Sp := fun vs H Q _ => ∃ f m s n : Nat, vs = [.int f, .int m, .int s, .int n] ∧ RuleOk f m s ∧ n ≤ 1000000000000000 ∧ RetV (.bl (kp f m s n)) H Q
theorem sv_rule_holds {H : Hp} {f m s n : Nat} (r : RuleOk f m s) (hn : n ≤ 1000000000000000) : SpV sp_rule_holds [.int f, .int m, .int s, .int n] H (.bl (kp f m s n)) := fun H1 e Q q E => ⟨f, m, s, n, rfl, r, hn, q⟩
theorem ok_rule_holds (T : Top K mg) : FnOk P w K mg base CX0 4 T.a_rule_holds T.fd_rule_holds ["factor", "modulus", "share", "number"] sp_rule_holds := by
  refine T.F_rule_holds.ok sc_rule_holds (fun vs H Q E h => ?_) (fun cdv A outer s H vs Q E hr h => ?_)
  · obtain ⟨f, m, s, n, rfl, _⟩ := h
    rfl
  · obtain ⟨f, m, s', n, rfl, r, hn, k⟩ := h
    have nd := sc_rule_holds.nd
    refine ⟨_, (pss_cons (ps_expr (pe_call (ok_check_rule T) (hr.mono (by decide)) (by rfl) T.g_check_rule T.F_check_rule.kp T.b_check_rule .nil pass0 (pa_cons (pv 0) (pa_cons (pv 1) (pa_cons (pv 2) pa_nil))))) (pss_cons (ps_if (pt_not (pt_val (pe_call (ok_is_within T) (hr.mono (by decide)) (by rfl) T.g_is_within T.F_is_within.kp T.b_is_within .nil pass0 (pa_cons (pv 3) (pa_cons pe_int (pa_cons (pe_glob (v := .int 1000000000000000000000000000000) rfl T.c_MOST_SIZE ⟨_, rfl⟩) pa_nil)))))) pss_dead pss_nil) (pss_one (ps_ret (pe_cmpR op_le (pe_op op_mod (pe_op op_mul (pv 0) (pv 3)) (pv 1)) (pe_op op_mul (pv 2) (pv 3)) (nomark _)))))), ?_⟩
    refine q_drop (ev_call (ea_cons (ev_var rfl) (ea_cons (ev_var rfl) (ea_cons (ev_var rfl) ea_nil))) (sv_check_rule r)) fun H1 e1 => ?_
    refine q_when (b := false) (et_is (et_not (a := true) (et_B (ev_is (ev_call (ea_cons (ev_var rfl) (ea_cons ev_c (ea_cons ev_c ea_nil))) (sv_is_within _ _ _)) (wi_true (by omega) (by omega))))) rfl) (fun z => by cases z) fun _ H2 e2 => ?_
    have m1 := r.m1
    exact s_ret (ev_kp (ev_var rfl) (ev_var rfl) (ev_var rfl) (ev_var rfl) (ev_var rfl) (by omega) (by omega)) fun H3 e3 => k H3 ((e1.trans e2).trans e3)
def sp_rule_gaps : Sp := fun vs H Q _ => ∃ f m : Nat, vs = [.int f, .int m] ∧ RuleOk f m 1 ∧ 2 ≤ f ∧ f < m ∧ RetV (.int (((m : Int) + 1 - ((Nat.gcd f m : Nat) : Int) - ((Nat.gcd (f - 1) m : Nat) : Int)) / 2)) H Q
theorem sv_rule_gaps {H : Hp} {f m : Nat} (r : RuleOk f m 1) (h1 : 2 ≤ f) (h2 : f < m) : SpV sp_rule_gaps [.int f, .int m] H (.int (((m : Int) + 1 - ((Nat.gcd f m : Nat) : Int) - ((Nat.gcd (f - 1) m : Nat) : Int)) / 2)) := fun H1 e Q q E => ⟨f, m, rfl, r, h1, h2, q⟩
theorem ok_rule_gaps (T : Top K mg) : FnOk P w K mg base CX0 4 T.a_rule_gaps T.fd_rule_gaps ["factor", "modulus"] sp_rule_gaps := by
  refine T.F_rule_gaps.ok sc_rule_gaps (fun vs H Q E h => ?_) (fun cdv A outer s H vs Q E hr h => ?_)
  · obtain ⟨f, m, rfl, _⟩ := h
    rfl
  · obtain ⟨f, m, rfl, r, h1, h2, k⟩ := h
    have nd := sc_rule_gaps.nd
    refine ⟨_, (pss_cons (ps_expr (pe_call (ok_check_rule T) (hr.mono (by decide)) (by rfl) T.g_check_rule T.F_check_rule.kp T.b_check_rule .nil pass0 (pa_cons (pv 0) (pa_cons (pv 1) (pa_cons pe_int pa_nil))))) (pss_cons (ps_set (i := 2) nd rfl (Or.inl rfl) (pe_op op_mod (pv 0) (pv 1))) (pss_cons (ps_if (pt_cmpR op_eq (pv 2) pe_int (nomark _)) (pss_one (ps_ret pe_int)) pss_nil) (pss_one (ps_ret (pe_op op_fdiv (pe_op op_sub (pe_op op_sub (pe_op op_add (pv 1) pe_int) (pe_call (ok_common T) (hr.mono (by decide)) (by rfl) T.g_common T.F_common.kp T.b_common .nil pass0 (pa_cons (pv 2) (pa_cons (pv 1) pa_nil)))) (pe_call (ok_common T) (hr.mono (by decide)) (by rfl) T.g_common T.F_common.kp T.b_common .nil pass0 (pa_cons (pe_op op_sub (pv 2) pe_int) (pa_cons (pv 1) pa_nil)))) pe_int)))))), ?_⟩
    refine q_drop (ev_call (ea_cons (ev_var rfl) (ea_cons (ev_var rfl) (ea_cons ev_c ea_nil))) (sv_check_rule (s := 1) r)) fun H1 e1 => ?_
    have em : (f : Int) % (m : Int) = (f : Int) := Int.emod_eq_of_lt (by omega) (by omega)
    refine q_asg (v := .int (f : Int)) (ev_is (ev_op (ev_var rfl) (ev_var rfl) (rv_I (by omega))) (congrArg V.int em)) fun H2 e2 => ?_
    refine q_when (b := false) (et_is (et_test (ev_op (ev_var rfl) ev_c (rv_eq rfl))) (decide_eq_false fun z => by have := V.int.inj z; omega)) (fun z => by cases z) fun _ H3 e3 => ?_
    have ef : (f : Int) - 1 = ((f - 1 : Nat) : Int) := by omega
    exact s_ret (ev_op (ev_op (ev_op (ev_op (ev_var rfl) ev_c rv_I0) (ev_call (ea_cons (ev_var rfl) (ea_cons (ev_var rfl) ea_nil)) (sv_common f m)) rv_I0) (ev_call (ea_cons (ev_is (ev_op (ev_var rfl) ev_c rv_I0) (congrArg V.int ef)) (ea_cons (ev_var rfl) ea_nil)) (sv_common (f - 1) m)) rv_I0) ev_c (rv_I ⟨by decide, by decide⟩)) fun H4 e4 => k H4 (((e1.trans e2).trans e3).trans e4)
def sp_least_kept : Sp := fun vs H Q _ => ∃ f m s first : Nat, vs = [.int f, .int m, .int s] ∧ RuleOk f m s ∧ m ≤ 360000 ∧ 0 < first ∧ first ≤ 1000000 ∧ kp f m s first = true ∧ (∀ n, 0 < n → n < first → kp f m s n = false) ∧ RetV (.int (first : Nat)) H Q
theorem sv_least_kept {H : Hp} {f m s first : Nat} (r : RuleOk f m s) (hm : m ≤ 360000) (h0 : 0 < first) (hz : first ≤ 1000000) (h1 : kp f m s first = true) (h2 : ∀ n, 0 < n → n < first → kp f m s n = false) : SpV sp_least_kept [.int f, .int m, .int s] H (.int (first : Nat)) := fun H1 e Q q E => ⟨f, m, s, first, rfl, r, hm, h0, hz, h1, h2, q⟩
theorem ok_least_kept (T : Top K mg) : FnOk P w K mg base CX0 4 T.a_least_kept T.fd_least_kept ["factor", "modulus", "share"] sp_least_kept := by
  refine T.F_least_kept.ok sc_least_kept (fun vs H Q E h => ?_) (fun cdv A outer s H vs Q E hr h => ?_)
  · obtain ⟨f, m, s, first, rfl, _⟩ := h
    rfl
  · obtain ⟨f, m, s', first, rfl, r, hm, h0, hz, h1, h2, k⟩ := h
    have nd := sc_least_kept.nd
    have m1 := r.m1
    refine ⟨_, (pss_cons (ps_expr (pe_call (ok_check_rule T) (hr.mono (by decide)) (by rfl) T.g_check_rule T.F_check_rule.kp T.b_check_rule .nil pass0 (pa_cons (pv 0) (pa_cons (pv 1) (pa_cons (pv 2) pa_nil))))) (pss_cons (ps_if (pt_cmpR op_gt (pv 1) (pe_op op_mul (pe_glob (v := .int 600) rfl T.c_MOST_MODULUS ⟨_, rfl⟩) (pe_glob (v := .int 600) rfl T.c_MOST_MODULUS ⟨_, rfl⟩)) (nomark _)) pss_dead pss_nil) (pss_cons (ps_set (i := 3) nd rfl (Or.inl rfl) pe_int) (pss_cons (ps_while PassesOwn.never (pt_cmpR op_gt (pe_op op_mod (pe_op op_mul (pv 0) (pv 3)) (pv 1)) (pe_op op_mul (pv 2) (pv 3)) (nomark _)) (pss_one (ps_set (i := 3) nd rfl (Or.inl rfl) (pe_op op_add (pv 3) pe_int)))) (pss_one (ps_ret (pv 3))))))), ?_⟩
    refine q_drop (ev_call (ea_cons (ev_var rfl) (ea_cons (ev_var rfl) (ea_cons (ev_var rfl) ea_nil))) (sv_check_rule r)) fun H1 e1 => ?_
    refine q_when (b := false) (et_is (et_test (ev_op (ev_var rfl) (ev_op ev_c ev_c (rv_mul (.inl ⟨by decide, by decide⟩))) rv_I0)) (decide_eq_false (by show ¬ (600 : Int) * 600 < (m : Int); omega))) (fun z => by cases z) fun _ H2 e2 => ?_
    refine q_asg (v := .int ((1 : Nat) : Int)) ev_c fun H3 e3 => ?_
    refine q_while (fun q σ H' => ∃ n : Nat, σ = [some (.int (f : Int)), some (.int (m : Int)), some (.int (s' : Int)), some (.int (n : Int))] ∧ 0 < n ∧ n ≤ first ∧ q = first - n ∧ Ex H H') (first - 1) ⟨1, rfl, by omega, by omega, rfl, (e1.trans e2).trans e3⟩ fun q σ' H' hw => ?_
    obtain ⟨n, rfl, n0, nf, rfl, e⟩ := hw
    have et : decide ((s' : Int) * (n : Int) < ((f : Int) * (n : Int)) % (m : Int)) = !kp f m s' n := by
      rw [← kp_int]
      rw [← decide_not]
      exact decide_eq_decide.mpr (by omega)
    refine ⟨!kp f m s' n, et_is (et_test (ev_op (ev_op (ev_op (ev_var rfl) (ev_var rfl) (rv_mul (.inr ⟨by omega, by omega⟩))) (ev_var rfl) (rv_I (by omega))) (ev_op (ev_var rfl) (ev_var rfl) (rv_mul (.inr ⟨by omega, by omega⟩))) rv_I0)) et, fun hb H4 e4 => ?_, fun hb H4 e4 => ?_⟩
    · have hlt : n < first := by
        apply Classical.byContradiction
        intro hn
        have : n = first := by omega
        rw [this, h1] at hb
        cases hb
      refine ⟨fun σ H' => ∃ k : Nat, σ = [some (.int (f : Int)), some (.int (m : Int)), some (.int (s' : Int)), some (.int (k : Int))] ∧ 0 < k ∧ k ≤ first ∧ first - k < first - n ∧ Ex H H', fun σ2 H2 ⟨k, a, b, c, d, e⟩ => ⟨first - k, d, k, a, b, c, rfl, e⟩, ?_⟩
      exact s_asg (ev_op (ev_var rfl) ev_c rv_I0) fun H5 e5 => ⟨n + 1, rfl, by omega, by omega, by omega, (e.trans e4).trans e5⟩
    · have hn : n = first := by
        apply Classical.byContradiction
        intro hn
        rw [h2 n n0 (by omega)] at hb
        cases hb
      subst hn
      exact s_ret (ev_var rfl) fun H5 e5 => k H5 ((e.trans e4).trans e5)
def sp_same_rule : Sp := fun vs H Q _ => ∃ f g m : Nat, vs = [.int f, .int g, .int m] ∧ RuleOk f m 1 ∧ RuleOk g m 1 ∧ m ≤ 6000 ∧ (∀ n, kp f m 1 n = kp g m 1 n) ∧ RetV (.bl true) H Q
theorem sv_same_rule {H : Hp} {f g m : Nat} (r : RuleOk f m 1) (r2 : RuleOk g m 1) (hm : m ≤ 6000) (h : ∀ n, kp f m 1 n = kp g m 1 n) : SpV sp_same_rule [.int f, .int g, .int m] H (.bl true) := fun H1 e Q q E => ⟨f, g, m, rfl, r, r2, hm, h, q⟩
theorem kp_int1 (f m n : Nat) : decide (((f : Int) * (n : Int)) % (m : Int) ≤ (n : Int)) = kp f m 1 n := by
  have h := kp_int f m 1 n
  rw [show (((1 : Nat) : Int) * (n : Int)) = (n : Int) by omega] at h
  exact h
theorem ok_same_rule (T : Top K mg) : FnOk P w K mg base CX0 4 T.a_same_rule T.fd_same_rule ["one", "other", "modulus"] sp_same_rule := by
  refine T.F_same_rule.ok sc_same_rule (fun vs H Q E h => ?_) (fun cdv A outer s H vs Q E hr h => ?_)
  · obtain ⟨f, g, m, rfl, _⟩ := h
    rfl
  · obtain ⟨f, g, m, rfl, r, r2, hm, hk, k⟩ := h
    have nd := sc_same_rule.nd
    have m1 := r.m1
    refine ⟨_, (pss_cons (ps_expr (pe_call (ok_check_rule T) (hr.mono (by decide)) (by rfl) T.g_check_rule T.F_check_rule.kp T.b_check_rule .nil pass0 (pa_cons (pv 0) (pa_cons (pv 2) (pa_cons pe_int pa_nil))))) (pss_cons (ps_expr (pe_call (ok_check_rule T) (hr.mono (by decide)) (by rfl) T.g_check_rule T.F_check_rule.kp T.b_check_rule .nil pass0 (pa_cons (pv 1) (pa_cons (pv 2) (pa_cons pe_int pa_nil))))) (pss_cons (ps_if (pt_cmpR op_gt (pv 2) (pe_op op_mul (pe_glob (v := .int 600) rfl T.c_MOST_MODULUS ⟨_, rfl⟩) pe_int) (nomark _)) pss_dead pss_nil) (pss_cons (ps_for PassesOwn.never rfl (pi_range2 rfl T.z_range (pa_cons pe_int (pa_cons (pv 2) pa_nil))) (pg_name (i := 3) nd rfl (Or.inl rfl)) (pss_one (ps_if (pt_cmpR op_ne (pe_cmpR op_le (pe_op op_mod (pe_op op_mul (pv 0) (pv 3)) (pv 2)) (pv 3) (nomark _)) (pe_cmpR op_le (pe_op op_mod (pe_op op_mul (pv 1) (pv 3)) (pv 2)) (pv 3) (nomark _)) (nomark _)) (pss_one (ps_ret pe_bl)) pss_nil))) (pss_one (ps_ret pe_bl)))))), ?_⟩
    refine q_drop (ev_call (ea_cons (ev_var rfl) (ea_cons (ev_var rfl) (ea_cons ev_c ea_nil))) (sv_check_rule (s := 1) r)) fun H1 e1 => ?_
    refine q_drop (ev_call (ea_cons (ev_var rfl) (ea_cons (ev_var rfl) (ea_cons ev_c ea_nil))) (sv_check_rule (s := 1) r2)) fun H2 e2 => ?_
    refine q_when (b := false) (et_is (et_test (ev_op (ev_var rfl) (ev_op ev_c ev_c (rv_mul (.inl ⟨by decide, by decide⟩))) rv_I0)) (decide_eq_false (by show ¬ (600 : Int) * 10 < (m : Int); omega))) (fun z => by cases z) fun _ H3 e3 => ?_
    have e03 := (e1.trans e2).trans e3
    refine q_forR2 (lo := 1) (n := (m : Int)) (ea_cons ev_c (ea_cons (ev_var rfl) ea_nil)) ⟨by omega, by omega, by omega, by omega⟩
      (fun i σ' H' => ∃ y, σ' = [some (.int (f : Int)), some (.int (g : Int)), some (.int (m : Int)), y] ∧ Ex H H') (fun H4 e4 => ⟨none, rfl, e03.trans e4⟩) (fun i σ' H' hi hp => ?_) (fun σ' H' hp => ?_)
    · obtain ⟨y, rfl, e⟩ := hp
      have ei : (1 : Int) + (i : Int) = ((1 + i : Nat) : Int) := by omega
      have side : ∀ (x : Nat) (tx : TE), Ev tx (([some (V.int (f : Int)), some (.int (g : Int)), some (.int (m : Int)), y] : L2.St).set 3 (some (.int ((1 : Int) + (i : Int))))) H' (.int (x : Nat)) →
          Ev (tOp (rI0 fun i j => .bl (decide (i ≤ j))) (tOp (rI (fun _ j => 0 < j) fun i j => .int (i % j)) (tOp (rI CMul fun i j => .int (i * j)) tx (tVar 3)) (tVar 2)) (tVar 3)) (([some (V.int (f : Int)), some (.int (g : Int)), some (.int (m : Int)), y] : L2.St).set 3 (some (.int ((1 : Int) + (i : Int))))) H' (.bl (kp x m 1 (1 + i))) := fun x tx hx =>
        ev_is (ev_op (ev_op (ev_op hx (ev_is (ev_var rfl) (congrArg V.int ei)) (rv_mul (.inr ⟨by omega, by omega⟩))) (ev_var rfl) (rv_I (by omega))) (ev_is (ev_var rfl) (congrArg V.int ei)) rv_I0) (congrArg V.bl (kp_int1 x m (1 + i)))
      refine s_when (b := false) (et_is (et_test (ev_op (side f _ (ev_var rfl)) (side g _ (ev_var rfl)) (rv_ne rfl))) (by rw [hk]; simp)) (fun z => by cases z) fun _ H4 e4 => ⟨_, rfl, e.trans e4⟩
    · obtain ⟨y, rfl, e⟩ := hp
      exact s_ret ev_c fun H4 e4 => k H4 (e.trans e4)
def sp_twin_factor : Sp := fun vs H Q _ => ∃ f m : Nat, vs = [.int f, .int m] ∧ RuleOk f m 1 ∧ f ≤ m ∧ RetV (.int (((m + 1 - f) % m : Nat) : Int)) H Q
theorem sv_twin_factor {H : Hp} {f m : Nat} (r : RuleOk f m 1) (hf : f ≤ m) : SpV sp_twin_factor [.int f, .int m] H (.int (((m + 1 - f) % m : Nat) : Int)) := fun H1 e Q q E => ⟨f, m, rfl, r, hf, q⟩
theorem ok_twin_factor (T : Top K mg) : FnOk P w K mg base CX0 4 T.a_twin_factor T.fd_twin_factor ["factor", "modulus"] sp_twin_factor := by
  refine T.F_twin_factor.ok sc_twin_factor (fun vs H Q E h => ?_) (fun cdv A outer s H vs Q E hr h => ?_)
  · obtain ⟨f, m, rfl, _⟩ := h
    rfl
  · obtain ⟨f, m, rfl, r, hf, k⟩ := h
    have nd := sc_twin_factor.nd
    have m1 := r.m1
    refine ⟨_, (pss_cons (ps_expr (pe_call (ok_check_rule T) (hr.mono (by decide)) (by rfl) T.g_check_rule T.F_check_rule.kp T.b_check_rule .nil pass0 (pa_cons (pv 0) (pa_cons (pv 1) (pa_cons pe_int pa_nil))))) (pss_one (ps_ret (pe_op op_mod (pe_op op_sub (pe_op op_add (pv 1) pe_int) (pv 0)) (pv 1))))), ?_⟩
    refine q_drop (ev_call (ea_cons (ev_var rfl) (ea_cons (ev_var rfl) (ea_cons ev_c ea_nil))) (sv_check_rule (s := 1) r)) fun H1 e1 => ?_
    have et : (((m : Int) + 1) - (f : Int)) % (m : Int) = (((m + 1 - f) % m : Nat) : Int) := by
      rw [show ((m : Int) + 1) - (f : Int) = ((m + 1 - f : Nat) : Int) by omega]
      rfl
    exact s_ret (ev_is (ev_op (ev_op (ev_op (ev_var rfl) ev_c rv_I0) (ev_var rfl) rv_I0) (ev_var rfl) (rv_I (by omega))) (congrArg V.int et)) fun H2 e2 => k H2 (e1.trans e2)
/-! ### spans -/
def sp_check_span : Sp := fun vs H Q _ => ∃ (a b : Addr) (p q : Nat × Nat), vs = [.ref a, .ref b] ∧ FrAt H a p ∧ FrAt H b q ∧ Span p q ∧ RetV .non H Q
theorem sv_check_span {H : Hp} {a b : Addr} {p q : Nat × Nat} (ha : FrAt H a p) (hb : FrAt H b q) (s : Span p q) : SpV sp_check_span [.ref a, .ref b] H .non := fun H1 e Q k E => ⟨a, b, p, q, rfl, ha.ex e, hb.ex e, s, k⟩
theorem ok_check_span (T : Top K mg) : FnOk P w K mg base CX0 3 T.a_check_span T.fd_check_span ["low", "high"] sp_check_span := by
  refine T.F_check_span.ok sc_check_span (fun vs H Q E h => ?_) (fun cdv A outer s H vs Q E hr h => ?_)
  · obtain ⟨a, b, p, q, rfl, _⟩ := h
    rfl
  · obtain ⟨a, b, p, q, rfl, ha, hb, s', k⟩ := h
    have nd := sc_check_span.nd
    refine ⟨_, (pss_cons (ps_for PassesOwn.never rfl (pi_tup (pe_tup (pa_cons (pv 0) (pa_cons (pv 1) pa_nil)))) (pg_name (i := 2) nd rfl (Or.inl rfl)) (pss_one (ps_if (PW.pt (pw_or (pt_not (pt_val (pe_call (ok_is_fraction T) (hr.mono (by decide)) (by rfl) T.g_is_fraction T.F_is_fraction.kp T.b_is_fraction .nil pass0 (pa_cons (pv 2) pa_nil)))) (pw_or (pt_cmpR op_le (pe_ix ix_tup (pv 2) pe_int (fun _ _ => rfl)) (pe_ix ix_tup (pv 2) pe_int (fun _ _ => rfl)) (nomark _)) (pw_or1 (pt_cmpR op_gt (pe_ix ix_tup (pv 2) pe_int (fun _ _ => rfl)) (pe_glob (v := .int 2000) rfl T.c_MOST_PART ⟨_, rfl⟩) (nomark _)))))) pss_dead pss_nil))) (pss_one (ps_if (pt_cmpR op_ge (pe_op op_mul (pe_ix ix_tup (pv 0) pe_int (fun _ _ => rfl)) (pe_ix ix_tup (pv 1) pe_int (fun _ _ => rfl))) (pe_op op_mul (pe_ix ix_tup (pv 1) pe_int (fun _ _ => rfl)) (pe_ix ix_tup (pv 0) pe_int (fun _ _ => rfl))) (nomark _)) pss_dead pss_nil))), ?_⟩
    refine q_forSx (K := K) (xs := [.ref a, .ref b]) (EvS.ofU (eu_tup (ea_cons (ev_var rfl) (ea_cons (ev_var rfl) ea_nil)) (by show 2 ≤ 100000; decide)))
      (fun i σ' H' => ∃ y, σ' = [some (.ref a), some (.ref b), y] ∧ Ex H H') (fun H1 e1 => ⟨none, rfl, e1⟩) (fun Z hZ i v σ' H' hv hp hz => ?_) (fun σ' H' hp => ?_)
    · obtain ⟨y, rfl, e⟩ := hp
      have pick : ∃ (c : Addr) (r : Nat × Nat), FrAt H c r ∧ 0 < r.2 ∧ Nat.gcd r.1 r.2 = 1 ∧ r.2 < r.1 ∧ r.1 ≤ 2000 ∧ v = .ref c := by
        cases i with
        | zero => exact ⟨a, p, ha, s'.p2, s'.cp, s'.pl, s'.pm, (Option.some.inj hv).symm⟩
        | succ i =>
          cases i with
          | zero => exact ⟨b, q, hb, s'.q2, s'.cq, s'.ql, s'.qm, (Option.some.inj hv).symm⟩
          | succ i => cases hv
      obtain ⟨c, r, hc, r2, rc, rl, rm, rfl⟩ := pick
      have hc2 := hc.ex e
      refine s_when (b := false) (et_is (et_or (a := false) (b := false) (et_is (et_not (a := true) (et_B (ev_call (ea_cons (ev_var rfl) ea_nil) fun H1 e1 Q k E => ⟨c, r, rfl, hc2.ex e1, r2, rc, k⟩))) rfl) fun _ => et_or (a := false) (b := false) (et_is (et_test (ev_op (ev_fr0 (K := K) (ev_var rfl) hc2) (ev_fr1 (K := K) (ev_var rfl) hc2) rv_I0)) (decide_eq_false (by omega))) fun _ => et_is (et_test (ev_op (ev_fr0 (K := K) (ev_var rfl) hc2) ev_c rv_I0)) (decide_eq_false (by omega))) rfl) (fun z => by cases z) fun _ H1 e1 => ⟨⟨_, rfl, e.trans e1⟩, hZ _ _ hz e1⟩
    · obtain ⟨y, rfl, e⟩ := hp
      have ha2 := ha.ex e
      have hb2 := hb.ex e
      have lt := s'.lt
      have pm := s'.pm
      have qm := s'.qm
      have pl := s'.pl
      have ql := s'.ql
      refine s_when (b := false) (et_is (et_test (ev_op (ev_op (ev_fr0 (K := K) (ev_var rfl) ha2) (ev_fr1 (K := K) (ev_var rfl) hb2) (rv_mul (.inl ⟨by omega, by omega⟩))) (ev_op (ev_fr0 (K := K) (ev_var rfl) hb2) (ev_fr1 (K := K) (ev_var rfl) ha2) (rv_mul (.inl ⟨by omega, by omega⟩))) rv_I0)) (decide_eq_false ?_)) (fun z => by cases z) fun _ H1 e1 => k H1 (e.trans e1)
      rw [← Int.natCast_mul, ← Int.natCast_mul]
      omega
def sp_in_span : Sp := fun vs H Q _ => ∃ (a b : Addr) (p q : Nat × Nat) (n : Nat), vs = [.ref a, .ref b, .int n] ∧ FrAt H a p ∧ FrAt H b q ∧ Span p q ∧ n ≤ 1000000000000000 ∧ RetV (.bl (btwB p q n)) H Q
theorem sv_in_span {H : Hp} {a b : Addr} {p q : Nat × Nat} (ha : FrAt H a p) (hb : FrAt H b q) (s : Span p q) {n : Nat} (hn : n ≤ 1000000000000000) : SpV sp_in_span [.ref a, .ref b, .int n] H (.bl (btwB p q n)) := fun H1 e Q k E => ⟨a, b, p, q, n, rfl, ha.ex e, hb.ex e, s, hn, k⟩
theorem ok_in_span (T : Top K mg) : FnOk P w K mg base CX0 1 T.a_in_span T.fd_in_span ["low", "high", "number"] sp_in_span := by
  refine T.F_in_span.ok sc_in_span (fun vs H Q E h => ?_) (fun cdv A outer s H vs Q E hr h => ?_)
  · obtain ⟨a, b, p, q, n, rfl, _⟩ := h
    rfl
  · obtain ⟨a, b, p, q, n, rfl, ha, hb, s', hn, k⟩ := h
    have nd := sc_in_span.nd
    have pm := s'.pm
    have qm := s'.qm
    have pl := s'.pl
    have ql := s'.ql
    refine ⟨_, (pss_cons (ps_set (i := 3) nd rfl (Or.inl rfl) (pe_un un_neg (pe_op op_fdiv (pe_op op_mul (pe_un un_neg (pv 2)) (pe_ix ix_tup (pv 1) pe_int (fun _ _ => rfl))) (pe_ix ix_tup (pv 1) pe_int (fun _ _ => rfl))))) (pss_one (ps_ret (pe_cmpR op_le (pe_op op_mul (pv 3) (pe_ix ix_tup (pv 0) pe_int (fun _ _ => rfl))) (pe_op op_mul (pv 2) (pe_ix ix_tup (pv 0) pe_int (fun _ _ => rfl))) (nomark _))))), ?_⟩
    refine q_asg (ev_un (ev_op (ev_op (ev_un (ev_var rfl) ru_neg) (ev_fr1 (K := K) (ev_var rfl) hb) (rv_mul (.inr ⟨by omega, by omega⟩))) (ev_fr0 (K := K) (ev_var rfl) hb) (rv_I ⟨by omega, by omega⟩)) ru_neg) fun H1 e1 => ?_
    exact s_ret (ev_is (ev_op (ev_op (ev_var rfl) (ev_fr0 (K := K) (ev_var rfl) (ha.ex e1)) (rv_mul (.inr ⟨by omega, by omega⟩))) (ev_op (ev_var rfl) (ev_fr1 (K := K) (ev_var rfl) (ha.ex e1)) (rv_mul (.inr ⟨by omega, by omega⟩))) rv_I0) (congrArg V.bl (in_span_eq (by omega) n))) fun H2 e2 => k H2 (e1.trans e2)
def sp_span_pays : Sp := sp_in_span
theorem ok_span_pays (T : Top K mg) : FnOk P w K mg base CX0 4 T.a_span_pays T.fd_span_pays ["low", "high", "number"] sp_span_pays := by
  refine T.F_span_pays.ok sc_span_pays (fun vs H Q E h => ?_) (fun cdv A outer s H vs Q E hr h => ?_)
  · obtain ⟨a, b, p, q, n, rfl, _⟩ := h
    rfl
  · obtain ⟨a, b, p, q, n, rfl, ha, hb, s', hn, k⟩ := h
    have nd := sc_span_pays.nd
    refine ⟨_, (pss_cons (ps_expr (pe_call (ok_check_span T) (hr.mono (by decide)) (by rfl) T.g_check_span T.F_check_span.kp T.b_check_span .nil pass0 (pa_cons (pv 0) (pa_cons (pv 1) pa_nil)))) (pss_cons (ps_if (pt_not (pt_val (pe_call (ok_is_within T) (hr.mono (by decide)) (by rfl) T.g_is_within T.F_is_within.kp T.b_is_within .nil pass0 (pa_cons (pv 2) (pa_cons pe_int (pa_cons (pe_op op_pow pe_int pe_int) pa_nil)))))) pss_dead pss_nil) (pss_one (ps_ret (pe_call (ok_in_span T) (hr.mono (by decide)) (by rfl) T.g_in_span T.F_in_span.kp T.b_in_span .nil pass0 (pa_cons (pv 0) (pa_cons (pv 1) (pa_cons (pv 2) pa_nil)))))))), ?_⟩
    refine q_drop (ev_call (ea_cons (ev_var rfl) (ea_cons (ev_var rfl) ea_nil)) (sv_check_span ha hb s')) fun H1 e1 => ?_
    have e30 : ((10 : Int) ^ (30 : Int).toNat) = 1000000000000000000000000000000 := by decide
    refine q_when (b := false) (et_is (et_not (a := true) (et_B (ev_is (ev_call (ea_cons (ev_var rfl) (ea_cons ev_c (ea_cons (ev_op ev_c ev_c (rv_I ⟨by decide, by decide, by decide⟩)) ea_nil))) (sv_is_within _ _ _)) (wi_true (by omega) (by rw [e30]; omega))))) rfl) (fun z => by cases z) fun _ H2 e2 => ?_
    exact s_ret (ev_call (ea_cons (ev_var rfl) (ea_cons (ev_var rfl) (ea_cons (ev_var rfl) ea_nil))) (sv_in_span (ha.ex (e1.trans e2)) (hb.ex (e1.trans e2)) s' hn)) fun H3 e3 => k H3 ((e1.trans e2).trans e3)
end
end Pd

/-! k05: chains walked. -/
namespace Pd
open PySem PySem.Spec PyProof.Rows L2 Evl PpSet
/-- tuples of a chain, in a row -/
def FrsAt (H : Hp) (rs : List V) (l : List (Nat × Nat)) : Prop := rs.length = l.length ∧ ∀ (i : Nat) (p : Nat × Nat), l[i]? = some p → ∃ a : Addr, rs[i]? = some (.ref a) ∧ FrAt H a p
theorem FrsAt.ex {H H' : Hp} {rs : List V} {l : List (Nat × Nat)} (h : FrsAt H rs l) (e : Ex H H') : FrsAt H' rs l := ⟨h.1, fun i p hp => by
  obtain ⟨a, h1, h2⟩ := h.2 i p hp
  exact ⟨a, h1, e _ _ h2⟩⟩
theorem FrsAt.snoc {H : Hp} {rs : List V} {l : List (Nat × Nat)} {a : Addr} {p : Nat × Nat} (h : FrsAt H rs l) (ha : FrAt H a p) : FrsAt H (rs ++ [.ref a]) (l ++ [p]) := by
  refine ⟨by rw [List.length_append, List.length_append, h.1]; rfl, fun i q hq => ?_⟩
  rw [List.getElem?_append] at hq
  rw [List.getElem?_append, h.1]
  split
  · rename_i z
    rw [if_pos z] at hq
    exact h.2 i q hq
  · rename_i z
    rw [if_neg z] at hq
    cases hi : i - l.length with
    | zero =>
      rw [hi] at hq
      obtain rfl := Option.some.inj hq
      exact ⟨a, rfl, ha⟩
    | succ k => rw [hi] at hq; cases hq
theorem FrsAt.of {H : Hp} {rs : List V} {l : List (Nat × Nat)} (h : FrsAt H rs l) {i : Nat} {x : V} (hx : rs[i]? = some x) : ∃ p a, l[i]? = some p ∧ x = .ref a ∧ FrAt H a p := by
  have lt : i < l.length := by rw [← h.1]; exact (List.getElem?_eq_some_iff.mp hx).1
  obtain ⟨a, h1, h2⟩ := h.2 i _ (List.getElem?_eq_getElem lt)
  rw [hx] at h1
  exact ⟨_, a, List.getElem?_eq_getElem lt, Option.some.inj h1, h2⟩
/-- a chain walked so far: what is left to go -/
inductive Pre (hi : Nat × Nat) : Nat × Nat → List (Nat × Nat) → Nat × Nat → Prop
  | one (p : Nat × Nat) : Pre hi p [p] p
  | step {p q r : Nat × Nat} {l : List (Nat × Nat)} : Pre hi p l q → r.1 * q.2 = q.1 * r.2 + 1 → r.1 ≤ max q.1 hi.1 → r.1 * hi.2 ≤ hi.1 * r.2 → 0 < r.2 → Pre hi p (l ++ [r]) r
theorem Pre.whole {hi p q : Nat × Nat} {l m : List (Nat × Nat)} (h : Pre hi p l q) : Chn hi q (q :: m) → ∃ l', l = l' ++ [q] ∧ Chn hi p (l' ++ (q :: m)) := by
  induction h generalizing m with
  | one => intro c; exact ⟨[], rfl, c⟩
  | @step q r l h1 h2 h3 h4 h5 ih =>
    intro c
    -- one step ahead of the rest
    have c2 : Chn hi q (q :: r :: m) := .step h2 h3 h4 h5 c
    obtain ⟨l', e, c3⟩ := ih c2
    refine ⟨l' ++ [q], by rw [e], ?_⟩
    rw [List.append_assoc]
    exact c3
theorem Pre.chn {hi p : Nat × Nat} {l : List (Nat × Nat)} (h : Pre hi p l hi) : Chn hi p l := by
  obtain ⟨l', e, c⟩ := h.whole (m := []) .one
  rw [e]
  exact c
section
variable {P : Program} {w : World} {K : PySem.W.Frag} {mg : Str → Option Value} {base : Heap}
def sp_across : Sp := fun vs H Q _ => ∃ (a b : Addr) (p q : Nat × Nat), vs = [.ref a, .ref b] ∧ FrAt H a p ∧ FrAt H b q ∧ p.1 ≤ 1000000 ∧ q.1 ≤ 1000000 ∧ RetV (.int (((q.1 : Nat) : Int) * ((p.2 : Nat) : Int) - ((p.1 : Nat) : Int) * ((q.2 : Nat) : Int))) H Q
theorem ok_across (T : Top K mg) : FnOk P w K mg base CX0 1 T.a_across T.fd_across ["one", "other"] sp_across := by
  refine T.F_across.ok sc_across (fun vs H Q E h => ?_) (fun cdv A outer s H vs Q E hr h => ?_)
  · obtain ⟨a, b, p, q, rfl, _⟩ := h
    rfl
  · obtain ⟨a, b, p, q, rfl, ha, hb, h1, h2, k⟩ := h
    have nd := sc_across.nd
    refine ⟨_, (pss_one (ps_ret (pe_op op_sub (pe_op op_mul (pe_ix ix_tup (pv 1) pe_int (fun _ _ => rfl)) (pe_ix ix_tup (pv 0) pe_int (fun _ _ => rfl))) (pe_op op_mul (pe_ix ix_tup (pv 0) pe_int (fun _ _ => rfl)) (pe_ix ix_tup (pv 1) pe_int (fun _ _ => rfl)))))), ?_⟩
    exact s_ret (ev_op (ev_op (ev_fr0 (K := K) (ev_var rfl) hb) (ev_fr1 (K := K) (ev_var rfl) ha) (rv_mul (.inl ⟨by omega, by omega⟩))) (ev_op (ev_fr0 (K := K) (ev_var rfl) ha) (ev_fr1 (K := K) (ev_var rfl) hb) (rv_mul (.inl ⟨by omega, by omega⟩))) rv_I0) fun H1 e1 => k H1 e1
theorem sv_across {H : Hp} {a b : Addr} {p q : Nat × Nat} (ha : FrAt H a p) (hb : FrAt H b q) (h1 : p.1 ≤ 1000000) (h2 : q.1 ≤ 1000000) {d : Nat} (hd : q.1 * p.2 = p.1 * q.2 + d) : SpV sp_across [.ref a, .ref b] H (.int (d : Nat)) := fun H1 e Q k E => by
  refine ⟨a, b, p, q, rfl, ha.ex e, hb.ex e, h1, h2, fun H2 e2 => ?_⟩
  have : (((q.1 : Nat) : Int) * ((p.2 : Nat) : Int) - ((p.1 : Nat) : Int) * ((q.2 : Nat) : Int)) = (d : Nat) := by
    rw [← Int.natCast_mul, ← Int.natCast_mul]
    omega
  rw [this]
  exact k H2 e2
def sp_left_neighbour : Sp := fun vs H Q _ => ∃ (a : Addr) (p : Nat × Nat), vs = [.ref a] ∧ FrAt H a p ∧ 0 < p.2 ∧ p.1 ≤ 1000000 ∧ p.2 ≤ 10000 ∧ Nat.gcd p.1 p.2 = 1 ∧
  ∀ (T B : Nat) (t : Addr) H', 1 ≤ B → B ≤ p.2 → T * p.2 = B * p.1 + 1 → H t = none → Ex H H' → FrAt H' t (T, B) → Q (.ref t) H'
theorem ok_left_neighbour (T : Top K mg) : FnOk P w K mg base CX0 1 T.a_left_neighbour T.fd_left_neighbour ["here"] sp_left_neighbour := by
  refine T.F_left_neighbour.ok sc_left_neighbour (fun vs H Q E h => ?_) (fun cdv A outer s H vs Q E hr h => ?_)
  · obtain ⟨a, p, rfl, _⟩ := h
    rfl
  · obtain ⟨a, p, rfl, ha, h2, hz, hz2, hc, k⟩ := h
    have nd := sc_left_neighbour.nd
    refine ⟨_, (pss_cons (ps_for PassesOwn.never rfl (pi_range2 rfl T.z_range (pa_cons pe_int (pa_cons (pe_op op_add (pe_ix ix_tup (pv 0) pe_int (fun _ _ => rfl)) pe_int) pa_nil))) (pg_name (i := 1) nd rfl (Or.inl rfl)) (pss_one (ps_if (pt_cmpR op_eq (pe_op op_mod (pe_op op_add (pe_op op_mul (pv 1) (pe_ix ix_tup (pv 0) pe_int (fun _ _ => rfl))) pe_int) (pe_ix ix_tup (pv 0) pe_int (fun _ _ => rfl))) pe_int (nomark _)) (pss_one (ps_ret (pe_tup (pa_cons (pe_op op_fdiv (pe_op op_add (pe_op op_mul (pv 1) (pe_ix ix_tup (pv 0) pe_int (fun _ _ => rfl))) pe_int) (pe_ix ix_tup (pv 0) pe_int (fun _ _ => rfl))) (pa_cons (pv 1) pa_nil))))) pss_nil))) (pss_one (ps_ret (pe_tup (pa_cons (pe_op op_add (pe_ix ix_tup (pv 0) pe_int (fun _ _ => rfl)) pe_int) (pa_cons pe_int pa_nil)))))), ?_⟩
    refine q_forR2 (lo := 1) (n := ((p.2 : Nat) : Int) + 1) (ea_cons ev_c (ea_cons (ev_op (ev_fr1 (K := K) (ev_var rfl) ha) ev_c rv_I0) ea_nil)) ⟨by omega, by omega, by omega, by omega⟩
      (fun i σ' H' => (∃ y, σ' = [some (.ref a), y]) ∧ Ex H H' ∧ ∀ b, 1 ≤ b → b < 1 + i → (b * p.1 + 1) % p.2 ≠ 0) (fun H1 e1 => ⟨⟨none, rfl⟩, e1, fun b _ _ => by omega⟩) (fun i σ' H' hi hp => ?_) (fun σ' H' hp => ?_)
    · obtain ⟨⟨y, rfl⟩, e, hno⟩ := hp
      have ei : (1 : Int) + (i : Int) = ((1 + i : Nat) : Int) := by omega
      have ha2 := ha.ex e
      have num : ∀ {H2 : Hp} {σ2 : L2.St}, Ex H' H2 → σ2[0]? = some (some (V.ref a)) → σ2[1]? = some (some (.int ((1 : Int) + (i : Int)))) → Ev (tOp (rI0 fun i j => .int (i + j)) (tOp (rI CMul fun i j => .int (i * j)) (tVar 1) (tOp (rIxT K) (tVar 0) (tC (.int 0)))) (tC (.int 1))) σ2 H2 (.int (((1 + i) * p.1 + 1 : Nat) : Int)) := fun {H2 σ2} e2 g0 g1 =>
        ev_is (ev_op (ev_op (ev_is (ev_var g1) (congrArg V.int ei)) (ev_fr0 (K := K) (ev_var g0) (ha2.ex e2)) (rv_mul (.inr ⟨by omega, by omega⟩))) ev_c rv_I0) (congrArg V.int (by rw [← Int.natCast_mul]; omega))
      refine s_when (b := decide (V.int ((((1 + i) * p.1 + 1) % p.2 : Nat) : Int) = V.int 0)) (et_test (ev_op (ev_is (ev_op (num (Ex.refl H') rfl rfl) (ev_fr1 (K := K) (ev_var rfl) ha2) (rv_I (by omega))) rfl) ev_c (rv_eq rfl))) (fun hb H4 e4 => ?_) (fun hb H4 e4 => ⟨⟨_, rfl⟩, e.trans e4, fun b b1 b2 => ?_⟩)
      · have hz0 : ((1 + i) * p.1 + 1) % p.2 = 0 := by have := V.int.inj (of_decide_eq_true hb); omega
        have hd : ((1 + i) * p.1 + 1) / p.2 * p.2 = (1 + i) * p.1 + 1 := Nat.div_mul_cancel (Nat.dvd_of_mod_eq_zero hz0)
        refine s_retU (eu_tup (ea_cons (ev_is (ev_op (num e4 rfl rfl) (ev_fr1 (K := K) (ev_var rfl) (ha2.ex e4)) (rv_I ⟨by omega, by omega⟩)) rfl) (ea_cons (ev_is (ev_var rfl) (congrArg V.int ei)) ea_nil)) (by show 2 ≤ 100000; decide)) fun t H5 nt e5 ht => ?_
        exact k (((1 + i) * p.1 + 1) / p.2) (1 + i) t H5 (by omega) (by omega) hd (fresh_back (e.trans e4) nt) ((e.trans e4).trans e5) ht
      · by_cases q : b < 1 + i
        · exact hno b b1 q
        · have eb : b = 1 + i := by omega
          rw [eb]
          intro z
          rw [z] at hb
          cases hb
    · obtain ⟨⟨y, rfl⟩, e, hno⟩ := hp
      obtain ⟨b, b1, b2, b3⟩ := left_some h2 hc
      exact absurd b3 (hno b b1 (by omega))
/-! ### the next -/
def sp_next_in_chain : Sp := fun vs H Q _ => ∃ (a b : Addr) (p h : Nat × Nat) (d : Nat), vs = [.ref a, .ref b] ∧ FrAt H a p ∧ FrAt H b h ∧ 0 < p.2 ∧ p.2 ≤ 10000 ∧ p.1 ≤ 10000 ∧ Nat.gcd p.1 p.2 = 1 ∧ 0 < h.2 ∧ h.2 ≤ 10000 ∧ h.1 ≤ 10000 ∧ 0 < h.1 ∧ Nat.gcd h.1 h.2 = 1 ∧ h.1 * p.2 = p.1 * h.2 + d ∧ 0 < d ∧
  ∀ (n : Nat × Nat) (d' : Nat) (t : Addr) H', n.1 * p.2 = p.1 * n.2 + 1 → n.1 ≤ max p.1 h.1 → h.1 * n.2 = n.1 * h.2 + d' → d' < d → 0 < n.2 → Nat.gcd n.1 n.2 = 1 → Ex H H' → FrAt H' t n → Q (.ref t) H'
theorem ok_next_in_chain (T : Top K mg) : FnOk P w K mg base CX0 3 T.a_next_in_chain T.fd_next_in_chain ["here", "high"] sp_next_in_chain := by
  refine T.F_next_in_chain.ok sc_next_in_chain (fun vs H Q E h => ?_) (fun cdv A outer s H vs Q E hr h => ?_)
  · obtain ⟨a, b, p, h', d, rfl, _⟩ := h
    rfl
  · obtain ⟨a, b, p, hh, d, rfl, ha, hb, p2, p2z, p1z, pc, h2, h2z, h1z, h10, hc, hd, d0, k⟩ := h
    have nd := sc_next_in_chain.nd
    refine ⟨_, (pss_cons (ps_if (pt_cmpR op_eq (pe_call (ok_across T) (hr.mono (by decide)) (by rfl) T.g_across T.F_across.kp T.b_across .nil pass0 (pa_cons (pv 0) (pa_cons (pv 1) pa_nil))) pe_int (nomark _)) (pss_one (ps_ret (pv 1))) pss_nil) (pss_cons (ps_asg (pe_call (ok_left_neighbour T) (hr.mono (by decide)) (by rfl) T.g_left_neighbour T.F_left_neighbour.kp T.b_left_neighbour .nil pass0 (pa_cons (pv 0) pa_nil)) (pg_tup rfl (pgs_cons (pg_name (i := 2) nd rfl (Or.inl rfl)) (pgs_cons (pg_name (i := 3) nd rfl (Or.inl rfl)) pgs_nil)))) (pss_cons (ps_set (i := 4) nd rfl (Or.inl rfl) (pe_op op_sub (pe_op op_mul (pe_ix ix_tup (pv 1) pe_int (fun _ _ => rfl)) (pe_ix ix_tup (pv 0) pe_int (fun _ _ => rfl))) (pe_op op_mul (pe_ix ix_tup (pv 1) pe_int (fun _ _ => rfl)) (pe_ix ix_tup (pv 0) pe_int (fun _ _ => rfl))))) (pss_cons (ps_set (i := 5) nd rfl (Or.inl rfl) (pe_op op_sub (pe_op op_mul (pe_ix ix_tup (pv 1) pe_int (fun _ _ => rfl)) (pv 2)) (pe_op op_mul (pe_ix ix_tup (pv 1) pe_int (fun _ _ => rfl)) (pv 3)))) (pss_cons (ps_set (i := 6) nd rfl (Or.inl rfl) (pe_ifExp (pt_cmpR op_gt (pv 5) pe_int (nomark _)) (pe_un un_neg (pe_op op_fdiv (pe_un un_neg (pv 5)) (pv 4))) pe_int)) (pss_one (ps_ret (pe_call (ok_frac T) (hr.mono (by decide)) (by rfl) T.g_frac T.F_frac.kp T.b_frac .nil pass0 (pa_cons (pe_op op_add (pv 2) (pe_op op_mul (pv 6) (pe_ix ix_tup (pv 0) pe_int (fun _ _ => rfl)))) (pa_cons (pe_op op_add (pv 3) (pe_op op_mul (pv 6) (pe_ix ix_tup (pv 0) pe_int (fun _ _ => rfl)))) pa_nil)))))))))), ?_⟩
    refine q_when (b := decide (V.int (d : Int) = V.int 1)) (et_test (ev_op (ev_call (ea_cons (ev_var rfl) (ea_cons (ev_var rfl) ea_nil)) (sv_across ha hb (by omega) (by omega) hd)) ev_c (rv_eq rfl))) (fun hb1 H1 e1 => ?_) (fun hb1 H1 e1 => ?_)
    · have hd1 : d = 1 := by have := V.int.inj (of_decide_eq_true hb1); omega
      exact s_ret (ev_var rfl) fun H2 e2 => k hh 0 b H2 (by rw [hd, hd1]) (Nat.le_max_right _ _) (by omega) d0 h2 hc (e1.trans e2) (hb.ex (e1.trans e2))
    · refine q_asgCall (ea_cons (ev_var rfl) ea_nil) fun H2 e2 => ⟨a, p, rfl, ha.ex (e1.trans e2), p2, by omega, p2z, pc, fun TT BB t H3 hB hBp hT nt e3 ht => ?_⟩
      refine g_pair (σ := [some (.ref a), some (.ref b), none, none, none, none, none]) ht ?_
      have e03 := (e1.trans e2).trans e3
      have ha3 := ha.ex e03
      have hb3 := hb.ex e03
      have tz : TT * p.2 ≤ 10000 * 10000 + 1 := by
        have h1 : BB * p.1 ≤ 10000 * 10000 := Nat.mul_le_mul (by omega) p1z
        omega
      have tz2 : TT ≤ TT * p.2 := Nat.le_mul_of_pos_right _ p2
      have cst : (((hh.1 : Nat) : Int) * ((p.2 : Nat) : Int) - ((hh.2 : Nat) : Int) * ((p.1 : Nat) : Int)) = (d : Nat) := by
        rw [← Int.natCast_mul, ← Int.natCast_mul, Nat.mul_comm hh.2]
        omega
      refine q_asg (v := .int (d : Nat)) (ev_is (ev_op (ev_op (ev_fr0 (K := K) (ev_var rfl) hb3) (ev_fr1 (K := K) (ev_var rfl) ha3) (rv_mul (.inl ⟨by omega, by omega⟩))) (ev_op (ev_fr1 (K := K) (ev_var rfl) hb3) (ev_fr0 (K := K) (ev_var rfl) ha3) (rv_mul (.inl ⟨by omega, by omega⟩))) rv_I0) (congrArg V.int cst)) fun H4 e4 => ?_
      have hb4 := hb3.ex e4
      have ha4 := ha3.ex e4
      refine q_asg (ev_op (ev_op (ev_fr1 (K := K) (ev_var rfl) hb4) (ev_var (v := .int (TT : Int)) rfl) (rv_mul (.inl ⟨by omega, by omega⟩))) (ev_op (ev_fr0 (K := K) (ev_var rfl) hb4) (ev_var (v := .int (BB : Int)) rfl) (rv_mul (.inl ⟨by omega, by omega⟩))) rv_I0) fun H5 e5 => ?_
      have eov : (((hh.2 : Nat) : Int) * (TT : Int) - ((hh.1 : Nat) : Int) * (BB : Int)) = ((hh.2 * TT : Nat) : Int) - ((hh.1 * BB : Nat) : Int) := by rw [Int.natCast_mul, Int.natCast_mul]
      rw [eov]
      have dz : d ≤ 10000 * 10000 := by
        have : hh.1 * p.2 ≤ 10000 * 10000 := Nat.mul_le_mul h1z p2z
        omega
      -- how often
      have oz : hh.2 * TT ≤ 10000 * (10000 * 10000 + 1) := Nat.mul_le_mul h2z (by omega)
      obtain ⟨o, ho, hov⟩ : ∃ o : Nat, ((hh.2 * TT ≤ hh.1 * BB ∧ o = 0) ∨ (hh.1 * BB < hh.2 * TT ∧ hh.2 * TT ≤ hh.1 * BB + o * d ∧ o * d < hh.2 * TT - hh.1 * BB + d)) ∧ (hh.1 * BB < hh.2 * TT → -(-(((hh.2 * TT : Nat) : Int) - ((hh.1 * BB : Nat) : Int)) / (d : Int)) = (o : Int)) := by
        by_cases q : hh.1 * BB < hh.2 * TT
        · generalize hoo : -(-(((hh.2 * TT : Nat) : Int) - ((hh.1 * BB : Nat) : Int)) / (d : Int)) = oo
          have hcl := fun j => ceil_le (a := ((hh.2 * TT : Nat) : Int) - ((hh.1 * BB : Nat) : Int)) (b := (d : Int)) (by omega) j
          rw [hoo] at hcl
          have o1 := (hcl oo).mp (Int.le_refl _)
          have o2 : ¬ oo ≤ oo - 1 := by omega
          have o3 : ¬ ((hh.2 * TT : Nat) : Int) - ((hh.1 * BB : Nat) : Int) ≤ (oo - 1) * (d : Int) := fun z => o2 ((hcl _).mpr z)
          have o0 : 0 ≤ oo := by
            apply Classical.byContradiction
            intro hn
            have h1 : oo * (d : Int) ≤ 0 := by
              have := Int.mul_le_mul_of_nonneg_right (show oo ≤ 0 by omega) (show (0 : Int) ≤ (d : Int) by omega)
              rw [Int.zero_mul] at this
              exact this
            omega
          obtain ⟨o, rfl⟩ : ∃ o : Nat, oo = (o : Int) := ⟨oo.toNat, by omega⟩
          refine ⟨o, .inr ⟨q, ?_, ?_⟩, fun _ => rfl⟩
          · rw [← Int.natCast_mul] at o1
            omega
          · rw [Int.sub_mul, ← Int.natCast_mul] at o3
            omega
        · exact ⟨0, .inl ⟨by omega, rfl⟩, fun z => absurd z q⟩
      obtain ⟨n1, d', n2, n3, n4⟩ := next_ok (p := p) (h := hh) p2 h2 hB hBp hT hd d0 ho
      have ntop := next_top n4 n3
      have nco := adj_co n1
      have nsm : TT + o * p.1 ≤ 10000 := by omega
      refine q_asg (v := .int (o : Int)) (ev_if (b := decide ((0 : Int) < ((hh.2 * TT : Nat) : Int) - ((hh.1 * BB : Nat) : Int))) (et_test (ev_op (ev_var rfl) ev_c rv_I0)) (fun hb2 => ?_) (fun hb2 => ?_)) fun H6 e6 => ?_
      · have hb2 := of_decide_eq_true hb2
        exact ev_is (ev_un (ev_op (ev_un (ev_var rfl) ru_neg) (ev_var rfl) (rv_I ⟨by omega, by omega⟩)) ru_neg) (congrArg V.int (hov (by omega)))
      · have hb2 := of_decide_eq_false hb2
        rcases ho with ⟨_, rfl⟩ | ⟨z, _⟩
        · exact ev_c
        · omega
      · have ha6 := (ha4.ex e5).ex e6
        have ez1 : (TT : Int) + (o : Int) * ((p.1 : Nat) : Int) = ((TT + o * p.1 : Nat) : Int) := by rw [← Int.natCast_mul]; omega
        have ez2 : (BB : Int) + (o : Int) * ((p.2 : Nat) : Int) = ((BB + o * p.2 : Nat) : Int) := by rw [← Int.natCast_mul]; omega
        have fr := su_frac (H := H6) (t := TT + o * p.1) (s := BB + o * p.2) (by omega) (by rw [nco]; decide)
        rw [nco, Nat.div_one, Nat.div_one] at fr
        refine s_retU (eu_call (ea_cons (ev_is (ev_op (ev_var rfl) (ev_op (ev_var rfl) (ev_fr0 (K := K) (ev_var rfl) ha6) (rv_mul (.inr ⟨by omega, by omega⟩))) rv_I0) (congrArg V.int ez1)) (ea_cons (ev_is (ev_op (ev_var rfl) (ev_op (ev_var rfl) (ev_fr1 (K := K) (ev_var rfl) ha6) (rv_mul (.inr ⟨by omega, by omega⟩))) rv_I0) (congrArg V.int ez2)) ea_nil)) fr) fun t2 H7 nt2 e7 ht2 => ?_
        exact k (TT + o * p.1, BB + o * p.2) d' t2 H7 n1 ntop n2 n3 (by show 0 < BB + o * p.2; omega) nco ((((e03.trans e4).trans e5).trans e6).trans e7) ht2
/-! ### the chain -/
def sp_chain_of : Sp := fun vs H Q _ => ∃ (a b : Addr) (p h : Nat × Nat), vs = [.ref a, .ref b] ∧ FrAt H a p ∧ FrAt H b h ∧ Span p h ∧ ∀ (l : List (Nat × Nat)) (rs : List V) (c : Addr) H', Chn h p l → H c = none → Ex H H' → H' c = some (.lst rs) → FrsAt H' rs l → Q (.ref c) H'
theorem ok_chain_of (T : Top K mg) : FnOk P w K mg base CX0 4 T.a_chain_of T.fd_chain_of ["low", "high"] sp_chain_of := by
  refine T.F_chain_of.ok sc_chain_of (fun vs H Q E h => ?_) (fun cdv A outer s H vs Q E hr h => ?_)
  · obtain ⟨a, b, p, h', rfl, _⟩ := h
    rfl
  · obtain ⟨a, b, p, hh, rfl, ha, hb, sp, k⟩ := h
    have nd := sc_chain_of.nd
    have pl := sp.pl
    have ql := sp.ql
    have pm := sp.pm
    have qm := sp.qm
    have sp2 := sp.p2
    have sq2 := sp.q2
    refine ⟨_, (pss_cons (ps_set (i := 2) nd rfl (Or.inl rfl) (pe_lst (pa_cons (pv 0) pa_nil))) (pss_cons (ps_set (i := 3) nd rfl (Or.inl rfl) (pv 0)) (pss_cons (ps_while PassesOwn.never (pt_cmpR (op_neD hr.units) (pv 3) (pv 1) (nomark _)) (pss_cons (ps_set (i := 3) nd rfl (Or.inl rfl) (pe_call (ok_next_in_chain T) (hr.mono (by decide)) (by rfl) T.g_next_in_chain T.F_next_in_chain.kp T.b_next_in_chain .nil pass0 (pa_cons (pv 3) (pa_cons (pv 1) pa_nil)))) (pss_one (ps_expr (pe_bm PySem.F.plainAttrs_list PySem.F.slot_list_append PySem.F.type_list_append mt_append (pv 2) (pa_cons (pv 3) pa_nil)))))) (pss_one (ps_ret (pv 2)))))), ?_⟩
    refine q_asgL (el_lst (ea_cons (ev_var rfl) ea_nil) (by show 1 ≤ 100000; decide)) fun c H1 nc e1 hc => ?_
    refine q_asg (ev_var rfl) fun H2 e2 => ?_
    obtain ⟨d0, hd0⟩ : ∃ d, hh.1 * p.2 = p.1 * hh.2 + d := ⟨hh.1 * p.2 - p.1 * hh.2, by have := sp.lt; omega⟩
    have d0z : d0 ≤ 2000 * 2000 := by
      have : hh.1 * p.2 ≤ 2000 * 2000 := Nat.mul_le_mul qm (by omega)
      omega
    refine q_while (fun d σ H' => ∃ (y : Addr) (q : Nat × Nat) (l : List (Nat × Nat)) (rs : List V), σ = [some (.ref a), some (.ref b), some (.ref c), some (.ref y)] ∧ Ex H H' ∧ FrAt H' y q ∧ H' c = some (.lst rs) ∧ FrsAt H' rs l ∧ Pre hh p l q ∧ 0 < q.2 ∧ q.1 ≤ 2000 ∧ q.2 ≤ q.1 ∧ Nat.gcd q.1 q.2 = 1 ∧ hh.1 * q.2 = q.1 * hh.2 + d ∧ l.length + d ≤ d0 + 1)
      d0 ⟨a, p, [p], [.ref a], rfl, e1.trans e2, ha.ex (e1.trans e2), e2 _ _ hc, ⟨rfl, fun i q hq => by
        cases i with
        | zero => obtain rfl := Option.some.inj hq; exact ⟨a, rfl, ha.ex (e1.trans e2)⟩
        | succ i => cases hq⟩, .one p, sp2, pm, by omega, sp.cp, hd0, by show 1 + d0 ≤ d0 + 1; omega⟩ fun d σ' H' hw => ?_
    obtain ⟨y, q, l, rs, rfl, e, hy, hrs, fr, pre, q2, q1z, qle, qc, hd, hlz⟩ := hw
    have hb' := hb.ex e
    refine ⟨!decide (((q.1 : Nat) : Int) = ((hh.1 : Nat) : Int) ∧ ((q.2 : Nat) : Int) = ((hh.2 : Nat) : Int)), et_test (ev_neD2 (K := K) (ev_var rfl) (ev_var rfl) hy hb'), fun hbb H4 e4 => ?_, fun hbb H4 e4 => ?_⟩
    · have dpos : 0 < d := by
        apply Classical.byContradiction
        intro hn
        have dz : d = 0 := by omega
        rw [dz, Nat.add_zero] at hd
        obtain ⟨x1, x2⟩ := co_eq qc sp.cq q2 sq2 (by rw [hd])
        rw [decide_eq_true ⟨by omega, by omega⟩] at hbb
        cases hbb
      refine ⟨fun σ H' => ∃ (d' : Nat) (y : Addr) (q : Nat × Nat) (l : List (Nat × Nat)) (rs : List V), d' < d ∧ σ = [some (.ref a), some (.ref b), some (.ref c), some (.ref y)] ∧ Ex H H' ∧ FrAt H' y q ∧ H' c = some (.lst rs) ∧ FrsAt H' rs l ∧ Pre hh p l q ∧ 0 < q.2 ∧ q.1 ≤ 2000 ∧ q.2 ≤ q.1 ∧ Nat.gcd q.1 q.2 = 1 ∧ hh.1 * q.2 = q.1 * hh.2 + d' ∧ l.length + d' ≤ d0 + 1, fun σ2 H2 ⟨d', y, q, l, rs, h1, h2⟩ => ⟨d', h1, y, q, l, rs, h2⟩, ?_⟩
      refine q_asgCall (ea_cons (ev_var rfl) (ea_cons (ev_var rfl) ea_nil)) fun H5 e5 => ⟨y, b, q, hh, d, rfl, hy.ex (e4.trans e5), hb'.ex (e4.trans e5), q2, by omega, by omega, qc, sq2, by omega, by omega, by omega, sp.cq, hd, dpos, fun n d' t H6 n1 n2 n3 n4 n5 n6 e6 ht => ?_⟩
      have e06 := ((e.trans e4).trans e5).trans e6
      have hrs6 : H6 c = some (.lst rs) := e6 _ _ (e5 _ _ (e4 _ _ hrs))
      have fr6 := ((fr.ex e4).ex e5).ex e6
      have n1z : n.1 ≤ 2000 := by omega
      -- n is a fraction above 1
      have nle : n.2 ≤ n.1 := by
        have h1 : n.2 * q.2 ≤ q.1 * n.2 := by rw [Nat.mul_comm]; exact Nat.mul_le_mul_right _ qle
        have h2 : n.2 * q.2 ≤ n.1 * q.2 := by omega
        exact Nat.le_of_mul_le_mul_right h2 q2
      refine s_appZ (σ := [some (.ref a), some (.ref b), some (.ref c), some (.ref t)]) (K := K) hrs6 (ev_var rfl) (ev_var rfl) ?_ fun H7 e7 => ?_
      · rw [fr.1]
        exact Nat.lt_of_lt_of_le (show l.length < 4000002 by omega) (by decide)
      · have exu : Ex H (upd H7 c (.lst (rs ++ [.ref t]))) := (e06.trans e7).mut nc
        -- the tuples stand elsewhere
        have ups : ∀ (u : Addr) (r : Nat × Nat), FrAt H7 u r → FrAt (upd H7 c (.lst (rs ++ [.ref t]))) u r := fun u r hu => by
          have uc : u ≠ c := fun z => by
            have h9 : H7 c = some (.lst rs) := e7 _ _ hrs6
            unfold FrAt at hu
            rw [z, h9] at hu
            cases hu
          unfold FrAt
          rw [upd_ne uc]
          exact hu
        refine ⟨d', t, n, l ++ [n], rs ++ [.ref t], n4, rfl, exu, ups t n (ht.ex e7), upd_same, ?_, .step pre n1 (by omega) (by omega) n5, n5, n1z, nle, n6, n3, by rw [List.length_append]; show l.length + 1 + d' ≤ d0 + 1; omega⟩
        have f7 := (fr6.ex e7).snoc (ht.ex e7)
        exact ⟨f7.1, fun i r hr => by
          obtain ⟨u, u1, u2⟩ := f7.2 i r hr
          exact ⟨u, u1, ups u r u2⟩⟩
    · have heq : q = hh := by
        have : ((q.1 : Nat) : Int) = ((hh.1 : Nat) : Int) ∧ ((q.2 : Nat) : Int) = ((hh.2 : Nat) : Int) := by
          cases hx : decide (((q.1 : Nat) : Int) = ((hh.1 : Nat) : Int) ∧ ((q.2 : Nat) : Int) = ((hh.2 : Nat) : Int)) with
          | true => exact of_decide_eq_true hx
          | false => rw [hx] at hbb; cases hbb
        exact Prod.ext (by omega) (by omega)
      rw [heq] at pre
      exact s_ret (ev_var rfl) fun H5 e5 => k l rs c H5 pre.chn nc ((e.trans e4).trans e5) (e5 _ _ (e4 _ _ hrs)) ((fr.ex e4).ex e5)
end
end Pd

/-! k05: chain_coins, rule_system, span_system. -/
namespace Pd
open PySem PySem.Spec PyProof.Rows L2 Evl PpSet
/-! ### rows -/
theorem row_snoc (s : Nat → Bool) (N : Nat) : rowOf s (N + 1) = rowOf s N ++ (if s (N + 1) = true then [N + 1] else []) := by
  unfold rowOf
  rw [List.range_succ, List.map_append, List.filter_append]
  congr 1
  show List.filter s [N + 1] = _
  by_cases h : s (N + 1) = true
  · rw [List.filter_cons_of_pos h, if_pos h]; rfl
  · rw [List.filter_cons_of_neg h, if_neg h]; rfl
theorem row_same {s : Nat → Bool} {L : Nat} : ∀ k, (∀ n, L < n → n ≤ L + k → s n = false) → rowOf s (L + k) = rowOf s L
  | 0, _ => rfl
  | k + 1, h => by
    rw [← Nat.add_assoc, row_snoc, if_neg (by rw [h (L + k + 1) (by omega) (by omega)]; exact Bool.false_ne_true), List.append_nil]
    exact row_same k fun n a b => h n a (by omega)
theorem row_getLast {s : Nat → Bool} {L N : Nat} (h0 : 0 < L) (hN : L ≤ N) (hs : s L = true) (h : ∀ n, L < n → n ≤ N → s n = false) : (rowOf s N).getLast? = some L := by
  obtain ⟨k, rfl⟩ : ∃ k, N = L + k := ⟨N - L, by omega⟩
  rw [row_same k h]
  obtain ⟨m, rfl⟩ : ∃ m, L = m + 1 := ⟨L - 1, by omega⟩
  rw [row_snoc, if_pos hs, List.getLast?_concat]
theorem row_nil {s : Nat → Bool} {N : Nat} (h : ∀ n, 0 < n → n ≤ N → s n = false) : rowOf s N = [] := by
  have := row_same (s := s) (L := 0) N fun n a b => h n a (by omega)
  rw [Nat.zero_add] at this
  rw [this]
  rfl
theorem row_cut {s : Nat → Bool} {L : Nat} : ∀ k, (rowOf s (L + k)).filter (fun x => decide (x ≤ L)) = rowOf s L
  | 0 => List.filter_eq_self.mpr fun x hx => decide_eq_true (row_mem.mp hx).2.1
  | k + 1 => by
    rw [← Nat.add_assoc, row_snoc, List.filter_append, row_cut k]
    split
    · rw [List.filter_cons_of_neg (by simp; omega)]
      exact List.append_nil _
    · exact List.append_nil _
theorem row_head {s : Nat → Bool} {f N : Nat} (h0 : 0 < f) (hN : f ≤ N) (hs : s f = true) (h : ∀ n, 0 < n → n < f → s n = false) : (rowOf s N)[0]? = some f := by
  obtain ⟨k, rfl⟩ : ∃ k, N = f + k := ⟨N - f, by omega⟩
  induction k with
  | zero =>
    obtain ⟨m, rfl⟩ : ∃ m, f = m + 1 := ⟨f - 1, by omega⟩
    rw [Nat.add_zero, row_snoc, if_pos hs, row_nil fun n a b => h n a (by omega)]
    rfl
  | succ k ih =>
    rw [← Nat.add_assoc, row_snoc, List.getElem?_append_left]
    · exact ih (by omega)
    · exact (List.getElem?_eq_some_iff.mp (ih (by omega))).1
theorem row_ext {s : Nat → Bool} {L : Nat} (h : ∀ n, L < n → s n = true) : ∀ f, rowOf s (L + f) = rowOf s L ++ (List.range f).map fun i => L + 1 + i
  | 0 => (List.append_nil _).symm
  | f + 1 => by
    rw [← Nat.add_assoc, row_snoc, if_pos (h _ (by omega)), row_ext h f, List.range_succ, List.map_append, List.append_assoc, show L + f + 1 = L + 1 + f by omega]
    rfl
theorem given_row (s : Nat → Bool) (N : Nat) : given N (fun i => s (1 + i)) (fun i => V.int ((1 : Int) + (i : Int))) = nv (rowOf s N) := by
  unfold given nv rowOf
  rw [List.filter_map, List.map_map]
  have e1 : (fun i => s (1 + i)) = s ∘ fun x => x + 1 := funext fun i => by show s (1 + i) = s (i + 1); rw [Nat.add_comm]
  rw [e1]
  refine List.map_congr_left fun i _ => ?_
  exact congrArg V.int (show (1 : Int) + (i : Int) = ((i + 1 : Nat) : Int) by omega)
theorem given_filter (l : List Nat) (p : Nat → Bool) : given (nv l).length (fun i => p (l.getD i 0)) (fun i => V.int ((l.getD i 0 : Nat) : Int)) = nv (l.filter p) := by
  unfold given
  rw [nv_len]
  have e : ((List.range l.length).filter fun i => p (l.getD i 0)).map (fun i => l.getD i 0) = l.filter p := by
    have h := list_range 0 l
    conv => rhs; rw [← h, List.filter_map]
    rfl
  rw [← e]
  unfold nv
  rw [List.map_map]
  rfl
section
variable {K : PySem.W.Frag} {σ : L2.St} {H H' : Hp} {ta tb te tx tl : TE} {x y z v : V} {t u : TT} {g : TG} {a : Addr}
/-- a comprehension over range(lo, n) -/
theorem el_lcR2 {tA : TA} {j : Nat} {vs : List Nat} {lo n : Int} (f : Nat → Bool) (v : Nat → V) (h : EvA tA σ H [.int lo, .int n]) (hn : 0 ≤ lo ∧ lo ≤ 40000 ∧ -40000 ≤ n ∧ n ≤ 40000) (hw : ∀ x, wipe ((wipe σ vs).set j (some x)) vs = wipe σ vs)
    (ht : ∀ (i : Nat) H1, Ex H H1 → lo + (i : Int) < n → EvT t ((wipe σ vs).set j (some (.int (lo + (i : Int))))) H1 (f i)) (he : ∀ (i : Nat) H1, Ex H H1 → lo + (i : Int) < n → f i = true → Ev te ((wipe σ vs).set j (some (.int (lo + (i : Int))))) H1 (v i)) :
    EvL (tLc (iRng2 tA) (gName j) t te vs) σ H (given (n - lo).toNat f v) := fun H0 e Q q => h H0 e _ fun H1 e1 => ⟨lo, n, rfl, ⟨by omega, by omega, by omega, by omega⟩, fun Dl hD =>
  lc_range (lo := lo) (n := (n - lo).toNat) (Cw H1 f v Dl) ⟨hD, Ex.new hD, upd_same⟩ (fun i H' hi p => ⟨hw _, cw_turn p (by omega) (ht i H1 (e.trans e1) (by omega)) (fun hf => he i H1 (e.trans e1) (by omega) hf)⟩) (fun H' p => q Dl H' (fresh_back e1 p.1) (e1.trans p.2.1) p.2.2)⟩
/-- a list of ints != [] -/
theorem ev_neNil {cs : List Nat} (ha : Ev ta σ H (.ref a)) (h : SqL K H a (nv cs)) (hb : EvL tb σ H []) : Ev (tOp (rNeD K) ta tb) σ H (.bl (!cs.isEmpty)) :=
  ev_opL ha hb fun p H1 hp e => fun H2 e2 Q k => by
    have h2 : SqL K H2 a ((cs.map fun (c : Nat) => (c : Int)).map V.int) := by rw [← nv_ints]; exact ex_l (e.trans e2) h
    refine ⟨.list ((cs.map fun (c : Nat) => (c : Int)).map PyData.int), .list ([].map PyData.int), .lst h2 (dp_ints _), .lst (sq_of (e2 _ _ hp)) .nil, PySem.W.ke_shaped_ints _, PySem.W.ke_shaped_ints _, ?_⟩
    have ee : PyData.eqv (.list ((cs.map fun (c : Nat) => (c : Int)).map PyData.int)) (.list ([].map PyData.int)) = cs.isEmpty := by
      cases cs with
      | nil => simp [PyData.eqv, PyData.eqvAll]
      | cons c r => simp [PyData.eqv, PyData.eqvAll]
    rw [ee]
    exact k H2 (Ex.refl H2)
theorem ev_lastL {cs : List Nat} {top : Nat} (ha : Ev ta σ H (.ref a)) (h : SqL K H a (nv cs)) (ht : cs.getLast? = some top) : Ev (tOp (rIxL K) ta (tUn (rU fun i => .int (-i)) (tC (.int 1)))) σ H (.int (top : Nat)) := by
  have hlen : 0 < cs.length := by
    cases cs with
    | nil => cases ht
    | cons c r => simp
  refine ev_op ha (ev_un ev_c ru_neg) (rv_ixL h ?_)
  unfold atI
  rw [nv_len]
  have : ixN cs.length (-1) = some (cs.length - 1) := by
    unfold ixN
    simp
    omega
  rw [this]
  show (nv cs)[cs.length - 1]? = _
  rw [List.getLast?_eq_getElem?] at ht
  unfold nv
  rw [List.getElem?_map, ht]
  rfl
theorem el_listRg {tl2 : TE} {i j : Int} (ha : Ev ta σ H (.int i)) (hb : Ev tl2 σ H (.int j)) (h1 : 0 ≤ i) (h2 : i ≤ 1000000) (h3 : 0 ≤ j) (h4 : j ≤ 1000000) : EvL (tLstRg (tRg2 ta tl2)) σ H (rgV i j) := fun H0 e Q q =>
  ha H0 e _ fun H1 e1 => hb H1 (e.trans e1) _ fun H2 e2 => ⟨i, j, rfl, rfl, RgOk.of_le h1 (by omega) (by omega) h3, fun p np => q p _ (fresh_back (e1.trans e2) np) ((e1.trans e2).trans (Ex.new np)) upd_same⟩
theorem rg_nv (L f : Nat) : rgV ((L : Int) + 1) ((L : Int) + 1 + (f : Int)) = nv ((List.range f).map fun i => L + 1 + i) := by
  unfold rgV nv
  rw [List.map_map, show ((L : Int) + 1 + (f : Int) - ((L : Int) + 1)).toNat = f by omega]
  refine List.map_congr_left fun i _ => ?_
  exact congrArg V.int (show (L : Int) + 1 + (i : Nat) = ((L + 1 + i : Nat) : Int) by omega)
/-- return System(a new tuple) -/
theorem s_retSys {C : Addr} {cs : List Nat} {E : XK} {D : L2.Ends} (G : Good cs) (h : EvU te σ H (nv cs))
    (k : ∀ x m rest W H2, H x = none → (m :: rest).Perm cs → (m :: rest).Pairwise (· ≤ ·) → Rests m (m :: rest) W → Ex H H2 → SysAt C H2 x (m :: needM [m] rest) W → D.rt (.ref x) H2) :
    tRet (tMake C (sp_System_init C) [] E (tCons te tNil)) D σ H :=
  h H (Ex.refl H) _ fun t H1 nt e1 ht x dx nx nd ne => ⟨x, t, dx, cs, rfl, upd_same, by rw [upd_ne (ne_of_none ht nx), upd_ne (ne_of_none ht nd)]; exact ht, G, fun m rest W H' pm so R b sy => by
    have ex : Ex H H' := fun a o ha => b a o (ne_of_none (e1 _ _ ha) nx) (by rw [upd_ne (ne_of_none (e1 _ _ ha) nx), upd_ne (ne_of_none (e1 _ _ ha) nd)]; exact e1 _ _ ha)
    exact ⟨rfl, k x m rest W H' (fresh_back e1 nx) pm so R ex sy⟩⟩
/-- a set by a comprehension over a list -/
theorem scI_list {w : World} {xs : List V} {tt : TT} {vs : List Nat} {H1 : Hp} {D : Addr} {Qd : Hp → Prop} (Pv : Nat → Hp → Prop) (h0 : Pv 0 (upd H1 D (SetO w D (fun _ => false) 0))) (hl : ∀ i H, i ≤ xs.length → Pv i H → SqL K H a xs)
    (hs : ∀ i x H, xs[i]? = some x → Pv i H → g x (wipe σ vs) H fun σ2 H2 => wipe σ2 vs = wipe σ vs ∧ tt σ2 H2 fun b H3 =>
      if b = true then te σ2 H3 fun y H4 => ∃ (c : Int) (S : Int → Bool) (n : Nat), y = .int c ∧ H4 D = some (SetO w D S n) ∧ n + 1 < scanBound ∧ Pv (i + 1) (upd H4 D (SetO w D (fun j => S j || decide (j = c)) (if S c = true then n else n + 1))) else Pv (i + 1) H3) (hd : ∀ H, Pv xs.length H → Qd H) :
    ∃ W : Nat → Nat → Hp → Prop, (∃ m, W 0 m (upd H1 D (SetO w D (fun _ => false) 0))) ∧ ∀ i m H, W i m H →
      ((Itl K a).stop i H ∧ Qd H) ∨ ((Itl K a).go i H ∧ ∃ Nx : Hp → Prop, (∀ H', Nx H' → ∃ m', m' < m ∧ W (i + 1) m' H') ∧ ∀ x H', (Itl K a).yld i H x H' → g x (wipe σ vs) H' fun σ2 H2 => wipe σ2 vs = wipe σ vs ∧ tt σ2 H2 fun b H3 =>
        if b = true then te σ2 H3 fun y H4 => ∃ (c : Int) (S : Int → Bool) (n : Nat), y = .int c ∧ H4 D = some (SetO w D S n) ∧ n + 1 < scanBound ∧ Nx (upd H4 D (SetO w D (fun j => S j || decide (j = c)) (if S c = true then n else n + 1))) else Nx H3) := by
  refine ⟨fun i m H => m = xs.length - i ∧ i ≤ xs.length ∧ Pv i H, ⟨xs.length, by simp, Nat.zero_le _, h0⟩, ?_⟩
  rintro i m H ⟨rfl, hi, p⟩
  have q := hl i H hi p
  by_cases hlt : i < xs.length
  · refine .inr ⟨⟨xs, xs[i], q, by simp [hlt]⟩, Pv (i + 1), fun H' p' => ⟨xs.length - (i + 1), by omega, rfl, hlt, p'⟩, fun x H' y => ?_⟩
    obtain ⟨e, y⟩ := y
    subst e
    exact hs i x _ (y xs q) p
  · have e : i = xs.length := by omega
    subst e
    exact .inl ⟨⟨xs, q, Nat.le_refl _⟩, hd H p⟩
end
/-! ### systems of a set of sums -/
def SysOf (C : Addr) (H : Hp) (x : Addr) (s : Nat → Bool) (last first : Nat) : Prop := ∃ m tl W, m :: tl = gens s last first ∧ SyAt C H x m tl W
theorem SysOf.ex {C : Addr} {H H' : Hp} {x : Addr} {s : Nat → Bool} {last first : Nat} (h : SysOf C H x s last first) (e : Ex H H') : SysOf C H' x s last first := by
  obtain ⟨m, tl, W, e1, h1⟩ := h
  exact ⟨m, tl, W, e1, h1.ex e⟩
theorem gens_congr {s s' : Nat → Bool} (h : ∀ n, s n = s' n) (last first : Nat) : gens s last first = gens s' last first := by
  have : s = s' := funext h
  rw [this]
theorem gens_good {s : Nat → Bool} {last first : Nat} (h : Kept s last first) (h1 : first ≤ 700) (h2 : last + first ≤ 1000000) : Good (gens s last first) := by
  obtain ⟨f1, f2⟩ := gens_first h
  refine ⟨fun z => (by rw [z] at f1; cases f1), Nat.le_trans (gens_len h) h1, fun c hc => ?_, (gens_asc s last first).imp fun q => by omega, ⟨first, f1, by omega, f2⟩, kept_gcd h⟩
  have := gens_mem hc
  omega
theorem sys_gens {C : Addr} {H : Hp} {x : Addr} {s : Nat → Bool} {last first m : Nat} {rest W : List Nat} (h : Kept s last first) (pm : (m :: rest).Perm (gens s last first)) (so : (m :: rest).Pairwise (· ≤ ·)) (R : Rests m (m :: rest) W) (sy : SysAt C H x (m :: needM [m] rest) W) : SysOf C H x s last first := by
  have so0 : (gens s last first).Pairwise (· ≤ ·) := (gens_asc s last first).imp fun q => by omega
  have e : m :: rest = gens s last first := List.Perm.eq_of_pairwise (fun a b _ _ h1 h2 => Nat.le_antisymm h1 h2) so so0 pm
  have hn : needM [m] rest = rest := needM_all rest [m] fun a c b e2 => gens_need s last first (m :: a) c b (by rw [← e, e2]; rfl)
  rw [hn] at sy
  exact ⟨m, rest, W, e, sy, R, fun c hc => (gens_mem (by rw [← e]; exact hc)).1⟩
section
variable {P : Program} {w : World} {K : PySem.W.Frag} {mg : Str → Option Value} {base : Heap}
theorem sl_least_coins {H : Hp} {l : Addr} {L : List Nat} {top : Nat} (hl : SqL K H l (nv L)) (hne : L ≠ []) (ht : L.getLast? = some top) (hc : ∀ c ∈ L, 0 < c ∧ c ≤ top) (hz : top ≤ 40000) (hz2 : L.length ≤ 40000) : SpL (sp_least_coins K) [.ref l] H (nv (needF [] L)) := fun H1 e Q q E => ⟨l, L, top, rfl, ex_l e hl, hne, ht, hc, hz, hz2, q⟩
theorem row_len (s : Nat → Bool) (N : Nat) : (rowOf s N).length ≤ N := by
  unfold rowOf
  refine Nat.le_trans (List.length_filter_le _ _) ?_
  rw [List.length_map, List.length_range]
  exact Nat.le_refl N
/-- the coins of the row to last + first -/
theorem sl_gens {H : Hp} {l : Addr} {s : Nat → Bool} {last first : Nat} (h : Kept s last first) (hz : last + first ≤ 40000) (hl : SqL K H l (nv (rowOf s (last + first)))) : SpL (sp_least_coins K) [.ref l] H (nv (gens s last first)) := by
  have hp := h.pos
  have ht : (rowOf s (last + first)).getLast? = some (last + first) := row_getLast (by omega) (Nat.le_refl _) (h.safe _ (by omega)) fun n a b => by omega
  refine sl_least_coins hl (fun z => by rw [z] at ht; cases ht) ht (fun c hc => ?_) hz (Nat.le_trans (row_len s _) hz)
  have := row_mem.mp hc
  omega
/-! ### chain_coins -/
def sp_chain_coins : Sp := fun vs H Q _ => ∃ (a b : Addr) (p h : Nat × Nat), vs = [.ref a, .ref b] ∧ FrAt H a p ∧ FrAt H b h ∧ Span p h ∧ ∀ (l : List (Nat × Nat)) (ns : List Int) (c : Addr) H', Chn h p l → (∀ k : Int, k ∈ ns ↔ ∃ x ∈ l, ((x.1 : Nat) : Int) = k) → Ex H H' → H' c = some (.tup (ns.map V.int)) → Q (.ref c) H'
theorem ok_chain_coins (T : Top K mg) : FnOk P w K mg base CX0 5 T.a_chain_coins T.fd_chain_coins ["low", "high"] sp_chain_coins := by
  refine T.F_chain_coins.ok sc_chain_coins (fun vs H Q E h => ?_) (fun cdv A outer s H vs Q E hr h => ?_)
  · obtain ⟨a, b, p, h', rfl, _⟩ := h
    rfl
  · obtain ⟨a, b, p, hh, rfl, ha, hb, sp, k⟩ := h
    have nd := sc_chain_coins.nd
    have pm := sp.pm
    have qm := sp.qm
    refine ⟨_, (pss_cons (ps_expr (pe_call (ok_check_span T) (hr.mono (by decide)) (by rfl) T.g_check_span T.F_check_span.kp T.b_check_span .nil pass0 (pa_cons (pv 0) (pa_cons (pv 1) pa_nil)))) (pss_one (ps_ret (pe_callTy call_tuple_of (by rfl) T.z_tuple (by decide +kernel) (pa_cons (pe_callB (cr_sortedSetB rfl) (by rfl) T.z_sorted (by decide +kernel) (pa_cons (pe_scI (own := [("one", 2)]) (by rfl) nd (pi_list (pe_call (ok_chain_of T) (hr.mono (by decide)) (by rfl) T.g_chain_of T.F_chain_of.kp T.b_chain_of .nil pass0 (pa_cons (pv 0) (pa_cons (pv 1) pa_nil)))) (blkOk_by (own := [("one", 2)]) (N := n_chain_coins) (sc := defScope s_chain_coins) (by decide +kernel)) (fun _ _ _ _ _ => (pg_name (i := 2) nd rfl (Or.inl rfl))) (fun _ _ _ _ _ => pts_nil) (fun _ _ _ _ _ => (pe_ix (show IxR _ (rIxT K) from ix_tup) (pv 2) pe_int (fun _ _ => rfl)))) pa_nil)) pa_nil))))), ?_⟩
    refine q_drop (ev_call (ea_cons (ev_var rfl) (ea_cons (ev_var rfl) ea_nil)) (sv_check_span ha hb sp)) fun H1 e1 => ?_
    refine ⟨_, rfl, _, rfl, a, b, p, hh, rfl, ha.ex e1, hb.ex e1, sp, fun l rs c H2 ch nc e2 hc fr => ⟨c, rfl, ⟨rs, sq_of hc⟩, fun Dl hD => ?_⟩⟩
    have tops := ch.tops
    refine scI_list (K := K) (σ := [some (.ref a), some (.ref b), none]) (vs := [2]) (xs := rs) (fun i H' => Ex H2 H' ∧ ∃ (S : Int → Bool) (Ds : List Nat), H' Dl = some (SetO w Dl S Ds.length) ∧ Ds.Nodup ∧ (∀ d ∈ Ds, d ≤ 2000) ∧ (∀ z : Int, S z = true ↔ ∃ d ∈ Ds, (d : Int) = z) ∧ ∀ z : Int, S z = true ↔ ∃ x ∈ l.take i, ((x.1 : Nat) : Int) = z)
      ⟨Ex.new hD, fun _ => false, [], upd_same, List.nodup_nil, fun d hd => (by cases hd), fun z => ⟨fun q => (by cases q), fun ⟨d, hd, _⟩ => (by cases hd)⟩, fun z => ⟨fun q => (by cases q), fun ⟨x, hx, _⟩ => (by rw [List.take_zero] at hx; cases hx)⟩⟩ (fun i H' _ q => sq_of (q.1 _ _ hc)) (fun i x H' hx q => ?_) (fun H' q => ?_)
    · obtain ⟨e3, S, Ds, hS, dn, dz, hd, hm⟩ := q
      obtain ⟨r, u, hr1, rfl, hu⟩ := fr.of hx
      have rz : r.1 ≤ 2000 := by
        have := tops r (List.mem_of_getElem? hr1)
        omega
      show wipe _ [2] = wipe _ [2] ∧ tOp (rIxT K) (tVar 2) (tC (.int 0)) _ H' _
      refine ⟨rfl, (ev_fr0 (K := K) (ev_var rfl) (hu.ex e3) : Ev _ [some (V.ref a), some (.ref b), some (.ref u)] H' _) H' (Ex.refl H') _ fun H4 e4 => ⟨((r.1 : Nat) : Int), S, Ds.length, rfl, e4 _ _ hS, ?_, ?_⟩⟩
      · have := nodup_le 2001 Ds dn fun d hd2 => by have := dz d hd2; omega
        exact Nat.lt_of_le_of_lt (show Ds.length + 1 ≤ 2002 by omega) (by decide)
      · have mtake : ∀ z : Int, (S z || decide (z = ((r.1 : Nat) : Int))) = true ↔ ∃ x ∈ l.take (i + 1), ((x.1 : Nat) : Int) = z := fun z => by
          rw [Bool.or_eq_true, decide_eq_true_iff, hm z, take_next hr1]
          constructor
          · rintro (⟨x, hx, e⟩ | e)
            · exact ⟨x, List.mem_append_left _ hx, e⟩
            · exact ⟨r, by simp, e.symm⟩
          · rintro ⟨x, hx, e⟩
            rcases List.mem_append.mp hx with hx | hx
            · exact .inl ⟨x, hx, e⟩
            · rw [List.mem_singleton.mp hx] at e
              exact .inr e.symm
        refine ⟨(e3.trans e4).mut hD, _, if S ((r.1 : Nat) : Int) = true then Ds else r.1 :: Ds, ?_, ?_, ?_, ?_, mtake⟩
        · rw [upd_same]
          split <;> rfl
        · split
          · exact dn
          · rename_i hn
            refine List.nodup_cons.mpr ⟨fun hmem => hn ((hd _).mpr ⟨r.1, hmem, rfl⟩), dn⟩
        · intro d hd2
          split at hd2
          · exact dz d hd2
          · rcases List.mem_cons.mp hd2 with rfl | hd2
            · exact rz
            · exact dz d hd2
        · intro z
          rw [Bool.or_eq_true, decide_eq_true_iff, hd z]
          split
          · rename_i hy
            constructor
            · rintro (h | h)
              · exact h
              · rw [h]; exact (hd _).mp hy
            · exact .inl
          · constructor
            · rintro (⟨d, h1, h2⟩ | h)
              · exact ⟨d, List.mem_cons_of_mem _ h1, h2⟩
              · exact ⟨r.1, by simp, h.symm⟩
            · rintro ⟨d, h1, h2⟩
              rcases List.mem_cons.mp h1 with rfl | h1
              · exact .inr h2.symm
              · exact .inl ⟨d, h1, h2⟩
    · obtain ⟨e3, S, Ds, hS, dn, dz, hd, hm⟩ := q
      refine ⟨Dl, S, Ds.length, rfl, hS, fun ns q hso hmem nq => ⟨q, _, rfl, .inl ⟨sq_of upd_same, fun u nu => ?_⟩⟩⟩
      have ex1 : Ex H' (upd H' q (.lst (ns.map V.int))) := Ex.new nq
      refine k l ns u _ ch (fun z => ?_) (((e1.trans e2).trans e3).trans (ex1.trans (Ex.new nu))) upd_same
      rw [hmem z, hm z, fr.1, List.take_length]
end
end Pd

/-! k05: rule_system, span_system. -/
namespace Pd
open PySem PySem.Spec PyProof.Rows L2 Evl PpSet
section
variable {K : PySem.W.Frag} {σ : L2.St} {H H' : Hp} {ta tb : TE}
/-- a list that stands, + a new one -/
theorem el_catV {xs ys : List V} {a : Addr} (ha : Ev ta σ H (.ref a)) (hx : H a = some (.lst xs)) (hb : EvL tb σ H ys) (hz : xs.length + ys.length ≤ 100000) : EvL (tOp rCat ta tb) σ H (xs ++ ys) := fun H1 e Q q =>
  ha H1 e _ fun H2 e2 => hb H2 (e.trans e2) _ fun p' H3 np' e3 hp' => ⟨a, p', xs, ys, rfl, rfl, ((e.trans e2).trans e3) _ _ hx, hp', sz_of hz, fun l hl => q l _ (fresh_back (e2.trans e3) hl) ((e2.trans e3).trans (Ex.new hl)) upd_same⟩
end
section
variable {P : Program} {w : World} {K : PySem.W.Frag} {mg : Str → Option Value} {base : Heap}
theorem row_empty {l : List Nat} : (!l.isEmpty) = true ↔ l ≠ [] := by
  cases l with
  | nil => simp
  | cons a r => simp
def sp_rule_system (C : Addr) : Sp := fun vs H Q _ => ∃ f m s last first : Nat, vs = [.int f, .int m, .int s] ∧ RuleOk f m s ∧ m ≤ 600 ∧ Kept (kp f m s) last first ∧ last < m ∧ first ≤ m ∧ ∀ x H', Ex H H' → SysOf C H' x (kp f m s) last first → Q (.ref x) H'
theorem ok_rule_system (T : Top K mg) : FnOk P w K mg base CX0 7 T.a_rule_system T.fd_rule_system ["factor", "modulus", "share"] (sp_rule_system T.a_System) := by
  refine T.F_rule_system.ok sc_rule_system (fun vs H Q E h => ?_) (fun cdv A outer s H vs Q E hr h => ?_)
  · obtain ⟨f, m, s, last, first, rfl, _⟩ := h
    rfl
  · obtain ⟨f, m, s', last, first, rfl, r, hm, kt, hl, hf, k⟩ := h
    have nd := sc_rule_system.nd
    have m1 := r.m1
    refine ⟨_, (pss_cons (ps_expr (pe_call (ok_check_rule T) (hr.mono (by decide)) (by rfl) T.g_check_rule T.F_check_rule.kp T.b_check_rule .nil pass0 (pa_cons (pv 0) (pa_cons (pv 1) (pa_cons (pv 2) pa_nil))))) (pss_cons (ps_if (pt_cmpR op_gt (pv 1) (pe_glob (v := .int 600) rfl T.c_MOST_MODULUS ⟨_, rfl⟩) (nomark _)) pss_dead pss_nil) (pss_cons (ps_setLc (i := 3) (own := [("number", 8)]) (by rfl) nd rfl rfl (sw_true rfl rfl rfl (by decide +kernel)) (pi_range2 rfl T.z_range (pa_cons pe_int (pa_cons (pe_op op_add (pv 1) pe_int) pa_nil))) (blkOk_by (own := [("number", 8)]) (N := n_rule_system) (sc := defScope s_rule_system) (by decide +kernel)) (fun _ _ _ _ _ => (pg_name (i := 8) nd rfl (Or.inl rfl))) (fun _ _ _ _ _ => pts_one (pt_cmpR op_le (pe_op op_mod (pe_op op_mul (pv 0) (pv 8)) (pv 1)) (pe_op op_mul (pv 2) (pv 8)) (nomark _))) (fun _ _ _ _ _ => (pv 8))) (pss_cons (ps_setLc (i := 4) (own := [("number", 8)]) (by rfl) nd rfl rfl (sw_true rfl rfl rfl (by decide +kernel)) (pi_range2 rfl T.z_range (pa_cons pe_int (pa_cons (pe_op op_add (pv 1) pe_int) pa_nil))) (blkOk_by (own := [("number", 8)]) (N := n_rule_system) (sc := defScope s_rule_system) (by decide +kernel)) (fun _ _ _ _ _ => (pg_name (i := 8) nd rfl (Or.inl rfl))) (fun _ _ _ _ _ => pts_one (pt_cmpR op_gt (pe_op op_mod (pe_op op_mul (pv 0) (pv 8)) (pv 1)) (pe_op op_mul (pv 2) (pv 8)) (nomark _))) (fun _ _ _ _ _ => (pv 8))) (pss_cons (ps_set (i := 5) nd rfl (Or.inr rfl) (pe_ifExp (pt_cmpR (op_neD hr.units) (pv 4) (pe_lst pa_nil) (nomark _)) (pe_ix ix_list (pv 4) (pe_un un_neg pe_int) (fun _ _ => rfl)) pe_int)) (pss_cons (ps_setLc (i := 6) (own := [("number", 8)]) (by rfl) nd rfl rfl (sw_true rfl rfl rfl (by decide +kernel)) (pi_list (pv 3)) (blkOk_by (own := [("number", 8)]) (N := n_rule_system) (sc := defScope s_rule_system) (by decide +kernel)) (fun _ _ _ _ _ => (pg_name (i := 8) nd rfl (Or.inl rfl))) (fun _ _ _ _ _ => pts_one (pt_cmpR op_le (pv 8) (pv 5) (nomark _))) (fun _ _ _ _ _ => (pv 8))) (pss_cons (ps_set (i := 7) nd rfl (Or.inl rfl) (pe_ifExp (pt_cmpR (op_neD hr.units) (pv 6) (pe_lst pa_nil) (nomark _)) (pe_ix ix_list (pv 6) pe_int (fun _ _ => rfl)) (pe_op op_add (pv 5) pe_int))) (pss_one (ps_ret (pe_make T.m_System (ok_System_init T) (hr.mono (by decide)) (by rfl) T.g_System T.b_System_init .nil pass0 (pa_cons (pe_callTy call_tuple_of (by rfl) T.z_tuple (by decide +kernel) (pa_cons (pe_call (ok_least_coins T) (hr.mono (by decide)) (by rfl) T.g_least_coins T.F_least_coins.kp T.b_least_coins .nil pass0 (pa_cons (pe_op op_cat (pv 6) (pe_listRg rfl (by rfl) T.z_list (prg_2 (by rfl) T.z_range (pe_op op_add (pv 5) pe_int) (pe_op op_add (pe_op op_add (pv 5) pe_int) (pv 7))))) pa_nil)) pa_nil)) pa_nil))))))))))), ?_⟩
    refine q_drop (ev_call (ea_cons (ev_var rfl) (ea_cons (ev_var rfl) (ea_cons (ev_var rfl) ea_nil))) (sv_check_rule r)) fun H1 e1 => ?_
    refine q_when (b := false) (et_is (et_test (ev_op (ev_var rfl) ev_c rv_I0)) (decide_eq_false (by omega))) (fun z => by cases z) fun _ H2 e2 => ?_
    have ecnt : (((m : Int) + 1) - 1).toNat = m := by omega
    -- paid
    have g1 : given (((m : Int) + 1) - 1).toNat (fun i => kp f m s' (1 + i)) (fun i => V.int ((1 : Int) + (i : Int))) = nv (rowOf (kp f m s') m) := by rw [ecnt]; exact given_row _ m
    refine q_asgL (el_is (el_lcR2 (lo := 1) (n := (m : Int) + 1) (fun i => kp f m s' (1 + i)) (fun i => V.int ((1 : Int) + (i : Int))) (ea_cons ev_c (ea_cons (ev_op (ev_var rfl) ev_c rv_I0) ea_nil)) ⟨by omega, by omega, by omega, by omega⟩ (fun x => rfl) (fun i H3 e3 hi => ?_) (fun i H3 e3 hi _ => ev_var rfl)) g1) fun pd H3 npd e3 hpd => ?_
    · have ei : (1 : Int) + (i : Int) = ((1 + i : Nat) : Int) := by omega
      exact et_test (ev_kp (ev_var rfl) (ev_is (ev_var rfl) (congrArg V.int ei)) (ev_var rfl) (ev_var rfl) (ev_is (ev_var rfl) (congrArg V.int ei)) (by omega) (by omega))
    -- gone
    have g2 : given (((m : Int) + 1) - 1).toNat (fun i => !kp f m s' (1 + i)) (fun i => V.int ((1 : Int) + (i : Int))) = nv (rowOf (fun n => !kp f m s' n) m) := by rw [ecnt]; exact given_row (fun n => !kp f m s' n) m
    refine q_asgL (el_is (el_lcR2 (lo := 1) (n := (m : Int) + 1) (fun i => !kp f m s' (1 + i)) (fun i => V.int ((1 : Int) + (i : Int))) (ea_cons ev_c (ea_cons (ev_op (ev_var rfl) ev_c rv_I0) ea_nil)) ⟨by omega, by omega, by omega, by omega⟩ (fun x => rfl) (fun i H4 e4 hi => ?_) (fun i H4 e4 hi _ => ev_var rfl)) g2) fun gn H4 ngn e4 hgn => ?_
    · have ei : (1 : Int) + (i : Int) = ((1 + i : Nat) : Int) := by omega
      have et : decide ((s' : Int) * ((1 + i : Nat) : Int) < ((f : Int) * ((1 + i : Nat) : Int)) % (m : Int)) = !kp f m s' (1 + i) := by
        rw [← kp_int, ← decide_not]
        exact decide_eq_decide.mpr (by omega)
      exact et_is (et_test (ev_op (ev_op (ev_op (ev_var rfl) (ev_is (ev_var rfl) (congrArg V.int ei)) (rv_mul (.inr ⟨by omega, by omega⟩))) (ev_var rfl) (rv_I (by omega))) (ev_op (ev_var rfl) (ev_is (ev_var rfl) (congrArg V.int ei)) (rv_mul (.inr ⟨by omega, by omega⟩))) rv_I0)) et
    -- last
    have hpd4 := e4 _ _ hpd
    refine q_asg (v := .int (last : Int)) (ev_if (b := !(rowOf (fun n => !kp f m s' n) m).isEmpty) (et_test (ev_neNil (K := K) (ev_var rfl) (sq_of hgn) (el_lst ea_nil (by show 0 ≤ 100000; decide)))) (fun hb => ?_) (fun hb => ?_)) fun H5 e5 => ?_
    · have hne := row_empty.mp hb
      have l0 : 0 < last := by
        apply Classical.byContradiction
        intro hn
        refine hne (row_nil fun n a b => ?_)
        rw [kt.safe n (by omega)]
        rfl
      refine ev_lastL (K := K) (ev_var rfl) (sq_of hgn) (row_getLast l0 (by omega) ?_ fun n a b => ?_)
      · rcases kt.gap with z | z
        · omega
        · rw [z]; rfl
      · rw [kt.safe n a]; rfl
    · have l0 : last = 0 := by
        apply Classical.byContradiction
        intro hn
        have hm2 : last ∈ rowOf (fun n => !kp f m s' n) m := row_mem.mpr ⟨by omega, by omega, by
          rcases kt.gap with z | z
          · omega
          · rw [z]; rfl⟩
        cases hrow : rowOf (fun n => !kp f m s' n) m with
        | nil => rw [hrow] at hm2; cases hm2
        | cons a b => rw [hrow] at hb; cases hb
      rw [l0]
      exact ev_c
    -- small
    have hpd5 := e5 _ _ hpd4
    have g3 : given (nv (rowOf (kp f m s') m)).length (fun i => decide ((rowOf (kp f m s') m).getD i 0 ≤ last)) (fun i => V.int (((rowOf (kp f m s') m).getD i 0 : Nat) : Int)) = nv (rowOf (kp f m s') last) := by
      rw [given_filter _ fun x => decide (x ≤ last)]
      obtain ⟨j, hj⟩ : ∃ j, m = last + j := ⟨m - last, by omega⟩
      congr 1
      have := row_cut (s := kp f m s') (L := last) j
      rw [← hj] at this
      exact this
    refine q_asgL (el_is (el_lcL (K := K) (a := pd) (xs := nv (rowOf (kp f m s') m)) (fun i => decide ((rowOf (kp f m s') m).getD i 0 ≤ last)) (fun i => V.int (((rowOf (kp f m s') m).getD i 0 : Nat) : Int)) (ev_var rfl) (sq_of hpd5) (by rw [nv_len]; have := row_len (kp f m s') m; omega) (fun x => rfl) (fun i x H6 e6 hx => ?_) (fun i x H6 e6 hx _ => ?_)) g3) fun sm H6 nsm e6 hsm => ?_
    · obtain ⟨c, hc, rfl⟩ := nv_get hx
      have eg : (rowOf (kp f m s') m).getD i 0 = c := by rw [List.getD_eq_getElem?_getD, hc]; rfl
      rw [eg]
      exact et_is (et_test (ev_op (x := .int (c : Int)) (y := .int (last : Int)) (ev_var rfl) (ev_var rfl) rv_I0)) (decide_eq_decide.mpr (by omega))
    · obtain ⟨c, hc, rfl⟩ := nv_get hx
      have eg : (rowOf (kp f m s') m).getD i 0 = c := by rw [List.getD_eq_getElem?_getD, hc]; rfl
      rw [eg]
      exact ev_var rfl
    -- first
    have fle := kt.first_le
    refine q_asg (v := .int (first : Int)) (ev_if (b := !(rowOf (kp f m s') last).isEmpty) (et_test (ev_neNil (K := K) (ev_var rfl) (sq_of hsm) (el_lst ea_nil (by show 0 ≤ 100000; decide)))) (fun hb => ?_) (fun hb => ?_)) fun H7 e7 => ?_
    · have hne := row_empty.mp hb
      have hfl : first ≤ last := by
        apply Classical.byContradiction
        intro hn
        exact hne (row_nil fun n a b => kt.low n a (by omega))
      have h0 := row_head kt.pos hfl kt.one kt.low
      refine ev_ixL (K := K) (j := 0) (ev_var rfl) (sq_of hsm) ev_c ?_
      unfold nv
      rw [List.getElem?_map, h0]
      rfl
    · have hfl : first = last + 1 := by
        apply Classical.byContradiction
        intro hn
        have h0 := row_head kt.pos (show first ≤ last by omega) kt.one kt.low
        cases hrow : rowOf (kp f m s') last with
        | nil => rw [hrow] at h0; cases h0
        | cons a b => rw [hrow] at hb; cases hb
      exact ev_is (ev_op (ev_var rfl) ev_c rv_I0) (congrArg V.int (by omega))
    -- the system
    have G := gens_good kt (by omega) (by omega)
    have e07 := (((((e1.trans e2).trans e3).trans e4).trans e5).trans e6).trans e7
    have rowx : nv (rowOf (kp f m s') last) ++ rgV ((last : Int) + 1) ((last : Int) + 1 + (first : Int)) = nv (rowOf (kp f m s') (last + first)) := by
      rw [rg_nv, row_ext kt.safe first, nv_app]
    have hsm7 : SqL K H7 sm (nv (rowOf (kp f m s') last)) := sq_of (e7 _ _ hsm)
    refine s_retSys G (eu_tupOf (K := K) (el_callL1 (el_is (el_catV (ev_var rfl) (e7 _ _ hsm) (el_listRg (ev_op (ev_var rfl) ev_c rv_I0) (ev_op (ev_op (ev_var rfl) ev_c rv_I0) (ev_var rfl) rv_I0) (by omega) (by omega) (by omega) (by omega)) ?_) rowx) fun q Hq eq hq => sl_gens kt (by omega) (sq_of hq))) fun x m0 rest W H8 nx pm so R e8 sy => k x H8 (e07.trans e8) (sys_gens kt pm so R sy)
    rw [nv_len, rgV_length]
    have := row_len (kp f m s') last
    omega
/-! ### span_system -/
def sp_span_system (C : Addr) : Sp := fun vs H Q _ => ∃ (a b : Addr) (p q : Nat × Nat) (B last first : Nat), vs = [.ref a, .ref b] ∧ FrAt H a p ∧ FrAt H b q ∧ Span p q ∧ B = p.1 * q.1 / (q.1 * p.2 - p.1 * q.2) + 1 ∧ B ≤ 2000 ∧ Kept (btwB p q) last first ∧ last < B ∧ first ≤ B ∧ first ≤ 700 ∧ ∀ x H', Ex H H' → SysOf C H' x (btwB p q) last first → Q (.ref x) H'
theorem ok_span_system_of (T : Top K mg) : FnOk P w K mg base CX0 7 T.a_span_system_of T.fd_span_system_of ["low", "high"] (sp_span_system T.a_System) := by
  refine T.F_span_system_of.ok sc_span_system_of (fun vs H Q E h => ?_) (fun cdv A outer s H vs Q E hr h => ?_)
  · obtain ⟨a, b, p, q, B, last, first, rfl, _⟩ := h
    rfl
  · obtain ⟨a, b, p, q, B, last, first, rfl, ha, hb, sp, hB, Bz, kt, hl, hf, f700, k⟩ := h
    have nd := sc_span_system_of.nd
    have pm := sp.pm
    have qm := sp.qm
    have pl := sp.pl
    have ql := sp.ql
    have lt := sp.lt
    refine ⟨_, (pss_cons (ps_set (i := 2) nd rfl (Or.inl rfl) (pe_op op_sub (pe_op op_mul (pe_ix ix_tup (pv 1) pe_int (fun _ _ => rfl)) (pe_ix ix_tup (pv 0) pe_int (fun _ _ => rfl))) (pe_op op_mul (pe_ix ix_tup (pv 0) pe_int (fun _ _ => rfl)) (pe_ix ix_tup (pv 1) pe_int (fun _ _ => rfl))))) (pss_cons (ps_set (i := 3) nd rfl (Or.inl rfl) (pe_op op_add (pe_op op_fdiv (pe_op op_mul (pe_ix ix_tup (pv 0) pe_int (fun _ _ => rfl)) (pe_ix ix_tup (pv 1) pe_int (fun _ _ => rfl))) (pv 2)) pe_int)) (pss_cons (ps_if (pt_cmpR op_gt (pv 3) (pe_glob (v := .int 2000) rfl T.c_MOST_GREAT ⟨_, rfl⟩) (nomark _)) pss_dead pss_nil) (pss_cons (ps_setLc (i := 4) (own := [("number", 8)]) (by rfl) nd rfl rfl (sw_true rfl rfl rfl (by decide +kernel)) (pi_range2 rfl T.z_range (pa_cons pe_int (pa_cons (pe_op op_add (pv 3) pe_int) pa_nil))) (blkOk_by (own := [("number", 8)]) (N := n_span_system_of) (sc := defScope s_span_system_of) (by decide +kernel)) (fun _ _ _ _ _ => (pg_name (i := 8) nd rfl (Or.inl rfl))) (fun _ _ _ _ _ => pts_one (pt_val (pe_call (ok_in_span T) (hr.mono (by decide)) (by rfl) T.g_in_span T.F_in_span.kp T.b_in_span .nil pass0 (pa_cons (pv 0) (pa_cons (pv 1) (pa_cons (pv 8) pa_nil)))))) (fun _ _ _ _ _ => (pv 8))) (pss_cons (ps_set (i := 5) nd rfl (Or.inr rfl) (pe_callB (cr_max rfl) (by rfl) T.z_max (by decide +kernel) (pa_cons (pe_op op_cat (pe_lc (own := [("number", 8)]) (by rfl) nd (pi_range2 rfl T.z_range (pa_cons pe_int (pa_cons (pe_op op_add (pv 3) pe_int) pa_nil))) (blkOk_by (own := [("number", 8)]) (N := n_span_system_of) (sc := defScope s_span_system_of) (by decide +kernel)) (fun _ _ _ _ _ => (pg_name (i := 8) nd rfl (Or.inl rfl))) (fun _ _ _ _ _ => pts_one (pt_not (pt_val (pe_call (ok_in_span T) (hr.mono (by decide)) (by rfl) T.g_in_span T.F_in_span.kp T.b_in_span .nil pass0 (pa_cons (pv 0) (pa_cons (pv 1) (pa_cons (pv 8) pa_nil))))))) (fun _ _ _ _ _ => (pv 8))) (pe_lst (pa_cons pe_int pa_nil))) pa_nil))) (pss_cons (ps_set (i := 6) nd rfl (Or.inl rfl) (pe_ix ix_list (pv 4) pe_int (fun _ _ => rfl))) (pss_cons (ps_setLc (i := 7) (own := [("number", 8)]) (by rfl) nd rfl rfl (sw_true rfl rfl rfl (by decide +kernel)) (pi_list (pv 4)) (blkOk_by (own := [("number", 8)]) (N := n_span_system_of) (sc := defScope s_span_system_of) (by decide +kernel)) (fun _ _ _ _ _ => (pg_name (i := 8) nd rfl (Or.inl rfl))) (fun _ _ _ _ _ => pts_one (pt_cmpR op_le (pv 8) (pv 5) (nomark _))) (fun _ _ _ _ _ => (pv 8))) (pss_one (ps_ret (pe_make T.m_System (ok_System_init T) (hr.mono (by decide)) (by rfl) T.g_System T.b_System_init .nil pass0 (pa_cons (pe_callTy call_tuple_of (by rfl) T.z_tuple (by decide +kernel) (pa_cons (pe_call (ok_least_coins T) (hr.mono (by decide)) (by rfl) T.g_least_coins T.F_least_coins.kp T.b_least_coins .nil pass0 (pa_cons (pe_op op_cat (pv 7) (pe_listRg rfl (by rfl) T.z_list (prg_2 (by rfl) T.z_range (pe_op op_add (pv 5) pe_int) (pe_op op_add (pe_op op_add (pv 5) pe_int) (pv 6))))) pa_nil)) pa_nil)) pa_nil))))))))))), ?_⟩
    have egap : (((q.1 : Nat) : Int) * ((p.2 : Nat) : Int) - ((p.1 : Nat) : Int) * ((q.2 : Nat) : Int)) = ((q.1 * p.2 - p.1 * q.2 : Nat) : Int) := by
      rw [← Int.natCast_mul, ← Int.natCast_mul]
      omega
    have gz : q.1 * p.2 - p.1 * q.2 ≤ 2000 * 2000 := by
      have : q.1 * p.2 ≤ 2000 * 2000 := Nat.mul_le_mul qm (by omega)
      omega
    refine q_asg (ev_is (ev_op (ev_op (ev_fr0 (K := K) (ev_var rfl) hb) (ev_fr1 (K := K) (ev_var rfl) ha) (rv_mul (.inl ⟨by omega, by omega⟩))) (ev_op (ev_fr0 (K := K) (ev_var rfl) ha) (ev_fr1 (K := K) (ev_var rfl) hb) (rv_mul (.inl ⟨by omega, by omega⟩))) rv_I0) (congrArg V.int egap)) fun H1 e1 => ?_
    have ha1 := ha.ex e1
    have hb1 := hb.ex e1
    have elast : ((p.1 : Nat) : Int) * ((q.1 : Nat) : Int) / ((q.1 * p.2 - p.1 * q.2 : Nat) : Int) + 1 = (B : Int) := by
      rw [← Int.natCast_mul, hB]
      rfl
    refine q_asg (ev_is (ev_op (ev_op (ev_op (ev_fr0 (K := K) (ev_var rfl) ha1) (ev_fr0 (K := K) (ev_var rfl) hb1) (rv_mul (.inl ⟨by omega, by omega⟩))) (ev_var rfl) (rv_I ⟨by omega, by omega⟩)) ev_c rv_I0) (congrArg V.int elast)) fun H2 e2 => ?_
    refine q_when (b := false) (et_is (et_test (ev_op (ev_var rfl) ev_c rv_I0)) (decide_eq_false (by omega))) (fun z => by cases z) fun _ H3 e3 => ?_
    have e03 := (e1.trans e2).trans e3
    have ha3 := ha.ex e03
    have hb3 := hb.ex e03
    have ecnt : (((B : Int) + 1) - 1).toNat = B := by omega
    -- small
    have g1 : given (((B : Int) + 1) - 1).toNat (fun i => btwB p q (1 + i)) (fun i => V.int ((1 : Int) + (i : Int))) = nv (rowOf (btwB p q) B) := by rw [ecnt]; exact given_row _ B
    refine q_asgL (el_is (el_lcR2 (lo := 1) (n := (B : Int) + 1) (fun i => btwB p q (1 + i)) (fun i => V.int ((1 : Int) + (i : Int))) (ea_cons ev_c (ea_cons (ev_op (ev_var rfl) ev_c rv_I0) ea_nil)) ⟨by omega, by omega, by omega, by omega⟩ (fun x => rfl) (fun i H4 e4 hi => ?_) (fun i H4 e4 hi _ => ev_var rfl)) g1) fun sm H4 nsm e4 hsm => ?_
    · have ei : (1 : Int) + (i : Int) = ((1 + i : Nat) : Int) := by omega
      exact et_B (ev_call (ea_cons (ev_var rfl) (ea_cons (ev_var rfl) (ea_cons (ev_is (ev_var rfl) (congrArg V.int ei)) ea_nil))) (sv_in_span (ha3.ex e4) (hb3.ex e4) sp (by omega)))
    -- top
    have g2 : given (((B : Int) + 1) - 1).toNat (fun i => !btwB p q (1 + i)) (fun i => V.int ((1 : Int) + (i : Int))) = nv (rowOf (fun n => !btwB p q n) B) := by rw [ecnt]; exact given_row (fun n => !btwB p q n) B
    have g2b : nv (rowOf (fun n => !btwB p q n) B) ++ [V.int 0] = (((rowOf (fun n => !btwB p q n) B) ++ [0]).map fun (c : Nat) => (c : Int)).map V.int := by rw [← nv_ints, nv_app]; rfl
    refine q_asg (v := .int (last : Int)) (ev_maxN (K := K) (ns := ((rowOf (fun n => !btwB p q n) B) ++ [0]).map fun (c : Nat) => (c : Int)) (el_is (el_cat (el_is (el_lcR2 (lo := 1) (n := (B : Int) + 1) (fun i => !btwB p q (1 + i)) (fun i => V.int ((1 : Int) + (i : Int))) (ea_cons ev_c (ea_cons (ev_op (ev_var rfl) ev_c rv_I0) ea_nil)) ⟨by omega, by omega, by omega, by omega⟩ (fun x => rfl) (fun i H5 e5 hi => ?_) (fun i H5 e5 hi _ => ev_var rfl)) g2) (el_lst (ea_cons ev_c ea_nil) (by show 1 ≤ 100000; decide)) ?_) g2b) ?_ fun y hy => ?_) fun H5 e5 => ?_
    · have ei : (1 : Int) + (i : Int) = ((1 + i : Nat) : Int) := by omega
      exact et_not (et_B (ev_call (ea_cons (ev_var rfl) (ea_cons (ev_var rfl) (ea_cons (ev_is (ev_var rfl) (congrArg V.int ei)) ea_nil))) (sv_in_span ((ha3.ex e4).ex e5) ((hb3.ex e4).ex e5) sp (by omega))))
    · rw [nv_len]
      have := row_len (fun n => !btwB p q n) B
      show (rowOf (fun n => !btwB p q n) B).length + 1 ≤ 100000
      omega
    · refine List.mem_map.mpr ⟨last, ?_, rfl⟩
      rcases kt.gap with z | z
      · rw [z]; simp
      · by_cases z0 : last = 0
        · rw [z0]; simp
        · exact List.mem_append_left _ (row_mem.mpr ⟨by omega, by omega, by rw [z]; rfl⟩)
    · obtain ⟨n, hn, rfl⟩ := List.mem_map.mp hy
      rcases List.mem_append.mp hn with hn | hn
      · have h1 := row_mem.mp hn
        apply Classical.byContradiction
        intro hgt
        have := kt.safe n (by omega)
        rw [this] at h1
        cases h1.2.2
      · rw [List.mem_singleton.mp hn]
        omega
    -- first
    have hsm5 := e5 _ _ hsm
    have h0 := row_head kt.pos hf kt.one kt.low
    refine q_asg (v := .int (first : Int)) (ev_ixL (K := K) (j := 0) (ev_var rfl) (sq_of hsm5) ev_c (by unfold nv; rw [List.getElem?_map, h0]; rfl)) fun H6 e6 => ?_
    have hsm6 := e6 _ _ hsm5
    -- kept
    have g3 : given (nv (rowOf (btwB p q) B)).length (fun i => decide ((rowOf (btwB p q) B).getD i 0 ≤ last)) (fun i => V.int (((rowOf (btwB p q) B).getD i 0 : Nat) : Int)) = nv (rowOf (btwB p q) last) := by
      rw [given_filter _ fun x => decide (x ≤ last)]
      obtain ⟨j, hj⟩ : ∃ j, B = last + j := ⟨B - last, by omega⟩
      congr 1
      have := row_cut (s := btwB p q) (L := last) j
      rw [← hj] at this
      exact this
    refine q_asgL (el_is (el_lcL (K := K) (a := sm) (xs := nv (rowOf (btwB p q) B)) (fun i => decide ((rowOf (btwB p q) B).getD i 0 ≤ last)) (fun i => V.int (((rowOf (btwB p q) B).getD i 0 : Nat) : Int)) (ev_var rfl) (sq_of hsm6) (by rw [nv_len]; have := row_len (btwB p q) B; omega) (fun x => rfl) (fun i x H7 e7 hx => ?_) (fun i x H7 e7 hx _ => ?_)) g3) fun kp_ H7 nkp e7 hkp => ?_
    · obtain ⟨c, hc, rfl⟩ := nv_get hx
      have eg : (rowOf (btwB p q) B).getD i 0 = c := by rw [List.getD_eq_getElem?_getD, hc]; rfl
      rw [eg]
      exact et_is (et_test (ev_op (x := .int (c : Int)) (y := .int (last : Int)) (ev_var rfl) (ev_var rfl) rv_I0)) (decide_eq_decide.mpr (by omega))
    · obtain ⟨c, hc, rfl⟩ := nv_get hx
      have eg : (rowOf (btwB p q) B).getD i 0 = c := by rw [List.getD_eq_getElem?_getD, hc]; rfl
      rw [eg]
      exact ev_var rfl
    have G := gens_good kt (by omega) (by omega)
    have e07 := (((e03.trans e4).trans e5).trans e6).trans e7
    have rowx : nv (rowOf (btwB p q) last) ++ rgV ((last : Int) + 1) ((last : Int) + 1 + (first : Int)) = nv (rowOf (btwB p q) (last + first)) := by
      rw [rg_nv, row_ext kt.safe first, nv_app]
    refine s_retSys G (eu_tupOf (K := K) (el_callL1 (el_is (el_catV (ev_var rfl) hkp (el_listRg (ev_op (ev_var rfl) ev_c rv_I0) (ev_op (ev_op (ev_var rfl) ev_c rv_I0) (ev_var rfl) rv_I0) (by omega) (by omega) (by omega) (by omega)) ?_) rowx) fun u Hq eq hq => sl_gens kt (by omega) (sq_of hq))) fun x m0 rest W H8 nx pm2 so R e8 sy => k x H8 (e07.trans e8) (sys_gens kt pm2 so R sy)
    rw [nv_len, rgV_length]
    have := row_len (btwB p q) last
    omega
theorem ok_span_system (T : Top K mg) : FnOk P w K mg base CX0 8 T.a_span_system T.fd_span_system ["low", "high"] (sp_span_system T.a_System) := by
  refine T.F_span_system.ok sc_span_system (fun vs H Q E h => ?_) (fun cdv A outer s H vs Q E hr h => ?_)
  · obtain ⟨a, b, p, q, B, last, first, rfl, _⟩ := h
    rfl
  · obtain ⟨a, b, p, q, B, last, first, rfl, ha, hb, sp, hB, Bz, kt, hl, hf, f700, k⟩ := h
    have nd := sc_span_system.nd
    refine ⟨_, (pss_cons (ps_expr (pe_call (ok_check_span T) (hr.mono (by decide)) (by rfl) T.g_check_span T.F_check_span.kp T.b_check_span .nil pass0 (pa_cons (pv 0) (pa_cons (pv 1) pa_nil)))) (pss_one (ps_ret (pe_call (ok_span_system_of T) (hr.mono (by decide)) (by rfl) T.g_span_system_of T.F_span_system_of.kp T.b_span_system_of .nil pass0 (pa_cons (pv 0) (pa_cons (pv 1) pa_nil)))))), ?_⟩
    refine q_drop (ev_call (ea_cons (ev_var rfl) (ea_cons (ev_var rfl) ea_nil)) (sv_check_span ha hb sp)) fun H1 e1 => ?_
    exact ⟨_, rfl, _, rfl, a, b, p, q, B, last, first, rfl, ha.ex e1, hb.ex e1, sp, hB, Bz, kt, hl, hf, f700, fun x H' e' sy => k x H' (e1.trans e') sy⟩
end
end Pd

/-! k05: the law's small defs. -/
namespace Pd
open PySem PySem.Spec PyProof.Rows L2 Evl PpSet
section
variable {P : Program} {w : World} {K : PySem.W.Frag} {mg : Str → Option Value} {base : Heap}
def sp__law_hand (K : PySem.W.Frag) : Sp := fun vs H Q _ => ∃ (a : Addr) (ns : List Int), vs = [.ref a] ∧ SqL K H a (ns.map V.int) ∧ ns.length ≤ 63 ∧ ∀ h c cells H', H h = none → Ex H H' → HandC H' h c cells → Q (.ref h) H'
theorem ok_law_hand (T : Top K mg) : FnOk P w K mg base CX0 1 T.a__law_hand T.fd__law_hand ["script"] (sp__law_hand K) := by
  refine T.F__law_hand.ok sc_law_hand (fun vs H Q E h => ?_) (fun cdv A outer s H vs Q E hr h => ?_)
  · obtain ⟨a, ns, rfl, _⟩ := h
    rfl
  · obtain ⟨a, ns, rfl, ha, hl, k⟩ := h
    have nd := sc_law_hand.nd
    refine ⟨_, (pss_cons (ps_setLc (i := 1) (own := [("cell", 2)]) (by rfl) nd rfl rfl (sw_true rfl rfl rfl (by decide +kernel)) (pi_list (pe_slice sl_list (pv 0) po_none (po_some pe_int))) (blkOk_by (own := [("cell", 2)]) (N := n_law_hand) (sc := defScope s_law_hand) (by decide +kernel)) (fun _ _ _ _ _ => (pg_name (i := 2) nd rfl (Or.inl rfl))) (fun _ _ _ _ _ => pts_nil) (fun _ _ _ _ _ => (pe_callB call_abs (by rfl) T.z_abs (by decide +kernel) (pa_cons (pe_callTy call_int1 (by rfl) T.z_int (by decide +kernel) (pa_cons (pv 2) pa_nil)) pa_nil)))) (pss_one (ps_ret (pe_lst (pa_cons (pv 1) (pa_cons pe_int (pa_cons pe_int (pa_cons (pe_op op_add pe_int (pe_op op_mul pe_int (pe_callB call_len_seq (by rfl) T.z_len PySem.boot_len (pa_cons (pv 1) pa_nil)))) (pa_cons pe_int pa_nil))))))))), ?_⟩
    have hz : ((ns.take 63).map V.int).length ≤ 40000 := by rw [List.length_map, List.length_take]; omega
    obtain ⟨cells, en, _⟩ := given_ints (n := ((ns.take 63).map V.int).length) (f := fun _ => true) (v := fun j => if (ns.take 63).getD j 0 < 0 then -((ns.take 63).getD j 0) else (ns.take 63).getD j 0)
    refine q_asgL (el_is (el_lcNL (K := K) (xs := (ns.take 63).map V.int) (fun _ => true) (fun j => V.int (if (ns.take 63).getD j 0 < 0 then -((ns.take 63).getD j 0) else (ns.take 63).getD j 0)) (el_is (el_sl (ev_var rfl) eo_none (eo_some ev_c) ha) ?_) hz (fun x => rfl) (fun i x H1 e1 hx => ?_) (fun i x H1 e1 hx _ => ?_)) en) fun c H1 nc e1 hc => ?_
    · show cutV (ns.map V.int) none (some ((63 : Nat) : Int)) = _
      rw [cut_to, List.map_take]
    · exact fun H2 e2 Q q => q H2 (Ex.refl H2)
    · rw [List.getElem?_map] at hx
      cases e : (ns.take 63)[i]? with
      | none => rw [e] at hx; cases hx
      | some n =>
        rw [e] at hx
        obtain rfl := Option.some.inj hx
        have eg : (ns.take 63).getD i 0 = n := by rw [List.getD_eq_getElem?_getD, e]; rfl
        rw [eg]
        exact ev_abs (ev_intI (ev_var rfl))
    · refine s_retL (el_lst (ea_cons (ev_var rfl) (ea_cons ev_c (ea_cons ev_c (ea_cons (ev_op ev_c (ev_op ev_c (ev_lenS (K := K) (ev_var rfl) (.inl (sq_of hc))) (rv_mul (.inl ⟨by decide, by decide⟩))) rv_I0) (ea_cons ev_c ea_nil))))) (by show 5 ≤ 100000; decide)) fun h H2 nh e2 hh => ?_
      exact k h c cells H2 (fresh_back e1 nh) (e1.trans e2) ⟨⟨0, 0, _, 0, hh⟩, e2 _ _ hc⟩
def sp__law_some : Sp := fun vs H Q _ => ∃ (h c l : Addr) (cells : List Int) (xs : List V), vs = [.ref h, .ref l] ∧ HandC H h c cells ∧ H l = some (.lst xs) ∧ l ≠ h ∧ 0 < xs.length ∧ xs.length ≤ 1000 ∧
  ∀ (r : Nat) (v : V) H', xs[r]? = some v → Bt h H H' → HandC H' h c cells → Q v H'
theorem ok_law_some (T : Top K mg) : FnOk P w K mg base CX0 2 T.a__law_some T.fd__law_some ["hand", "things"] sp__law_some := by
  refine T.F__law_some.ok sc_law_some (fun vs H Q E h => ?_) (fun cdv A outer s H vs Q E hr h => ?_)
  · obtain ⟨h, c, l, cells, xs, rfl, _⟩ := h
    rfl
  · obtain ⟨h, c, l, cells, xs, rfl, hh, hl, lh, h0, hz, k⟩ := h
    have nd := sc_law_some.nd
    refine ⟨_, (pss_one (ps_ret (pe_ix ix_list (pv 1) (pe_call (ok_law_draw T) (hr.mono (by decide)) (by rfl) T.g__law_draw T.F__law_draw.kp T.b__law_draw .nil pass0 (pa_cons (pv 0) (pa_cons (pe_callB call_len_seq (by rfl) T.z_len PySem.boot_len (pa_cons (pv 1) pa_nil)) pa_nil))) (fun _ _ => rfl)))), ?_⟩
    refine ⟨_, rfl, _, rfl, (ev_lenS (K := K) (ev_var rfl) (.inl (sq_of hl)) : Ev _ [some (V.ref h), some (V.ref l)] H (.int (xs.length : Int))) H (Ex.refl H) _ fun H1 e1 => ⟨h, c, cells, xs.length, rfl, hh.ex e1, h0, by omega, fun r H2 hr2 b hh2 => ?_⟩⟩
    have hv : xs[r]? = some xs[r] := List.getElem?_eq_getElem hr2
    exact ⟨l, xs, (r : Int), xs[r], rfl, rfl, sq_of (b _ _ lh (e1 _ _ hl)), atI_nat hv, k r _ H2 hv (Bt.ex1 e1 b) hh2⟩
theorem ok_law_divisor (T : Top K mg) : FnOk P w K mg base CX0 1 T.a__law_divisor T.fd__law_divisor ["one", "other"] sp_common := by
  refine T.F__law_divisor.ok sc_law_divisor (fun vs H Q E h => ?_) (fun cdv A outer s H vs Q E hr h => ?_)
  · obtain ⟨a, b, rfl, _⟩ := h
    rfl
  · obtain ⟨a, b, rfl, k⟩ := h
    have nd := sc_law_divisor.nd
    refine ⟨_, (pss_cons (ps_while PassesOwn.never (pt_cmpR op_ne (pv 1) pe_int (nomark _)) (pss_one (ps_par (i := 0) (j := 1) rfl nd rfl rfl (by decide) rfl rfl (pa_cons (pv 1) (pa_cons (pe_op op_mod (pe_callTy call_int1 (by rfl) T.z_int (by decide +kernel) (pa_cons (pv 0) pa_nil)) (pv 1)) pa_nil)) (by rfl)))) (pss_one (ps_ret (pv 0)))), ?_⟩
    refine q_while (fun m σ H' => ∃ x y : Nat, σ = [some (.int x), some (.int y)] ∧ Nat.gcd x y = Nat.gcd a b ∧ y = m ∧ Ex H H') b ⟨a, b, rfl, rfl, rfl, Ex.refl H⟩ fun m σ' H' hw => ?_
    obtain ⟨x, y, rfl, hg, rfl, e2⟩ := hw
    refine ⟨!decide (V.int (y : Int) = V.int 0), et_test (ev_op (ev_var rfl) ev_c (rv_ne rfl)), fun hb H3 e3 => ?_, fun hb H3 e3 => ?_⟩
    · have hy : 0 < y := by
        apply Classical.byContradiction
        intro hn
        have : y = 0 := by omega
        rw [this] at hb
        cases hb
      refine ⟨fun σ H' => ∃ u v : Nat, σ = [some (.int u), some (.int v)] ∧ Nat.gcd u v = Nat.gcd a b ∧ v < y ∧ Ex H H', fun σ2 H2 ⟨u, v, h1, h2, h3, h4⟩ => ⟨v, h3, u, v, h1, h2, rfl, h4⟩, ?_⟩
      refine s_par (ea_cons (ev_var rfl) (ea_cons (ev_op (ev_intI (ev_var rfl)) (ev_var rfl) (rv_I (by omega))) ea_nil)) fun H4 e4 => ⟨y, x % y, rfl, ?_, Nat.mod_lt _ (by omega), (e2.trans e3).trans e4⟩
      rw [Nat.gcd_comm, ← Nat.gcd_rec, Nat.gcd_comm]
      exact hg
    · have hy : y = 0 := by
        have : decide (V.int (y : Int) = V.int 0) = true := by
          cases hx : decide (V.int (y : Int) = V.int 0) with
          | true => rfl
          | false => rw [hx] at hb; cases hb
        have := V.int.inj (of_decide_eq_true this)
        omega
      subst hy
      rw [Nat.gcd_zero_right] at hg
      subst hg
      exact s_ret (ev_var rfl) fun H4 e4 => k H4 ((e2.trans e3).trans e4)
theorem ok_law_fraction (T : Top K mg) : FnOk P w K mg base CX0 2 T.a__law_fraction T.fd__law_fraction ["top", "bottom"] sp_frac := by
  refine T.F__law_fraction.ok sc_law_fraction (fun vs H Q E h => ?_) (fun cdv A outer s H vs Q E hr h => ?_)
  · obtain ⟨t, s, rfl, _⟩ := h
    rfl
  · obtain ⟨t, s', rfl, hs, hg, k⟩ := h
    have nd := sc_law_fraction.nd
    refine ⟨_, (pss_cons (ps_set (i := 2) nd rfl (Or.inl rfl) (pe_call (ok_law_divisor T) (hr.mono (by decide)) (by rfl) T.g__law_divisor T.F__law_divisor.kp T.b__law_divisor .nil pass0 (pa_cons (pv 0) (pa_cons (pv 1) pa_nil)))) (pss_one (ps_ret (pe_tup (pa_cons (pe_op op_fdiv (pv 0) (pv 2)) (pa_cons (pe_op op_fdiv (pv 1) (pv 2)) pa_nil)))))), ?_⟩
    have gp : 0 < Nat.gcd t s' := Nat.gcd_pos_of_pos_right t hs
    refine q_asg (ev_call (ea_cons (ev_var rfl) (ea_cons (ev_var rfl) ea_nil)) (sv_common t s')) fun H1 e1 => ?_
    exact s_retU (eu_tup (ea_cons (ev_op (x := .int (t : Int)) (y := .int ((Nat.gcd t s' : Nat) : Int)) (ev_var rfl) (ev_var rfl) (rv_I ⟨by omega, by omega⟩)) (ea_cons (ev_op (x := .int (s' : Int)) (y := .int ((Nat.gcd t s' : Nat) : Int)) (ev_var rfl) (ev_var rfl) (rv_I ⟨by omega, by omega⟩)) ea_nil)) (by show 2 ≤ 100000; decide)) fun p H3 np e3 hp => k p H3 (fresh_back e1 np) (e1.trans e3) hp
def sp__law_keeps : Sp := fun vs H Q _ => ∃ f m s n : Nat, vs = [.int f, .int m, .int s, .int n] ∧ 0 < m ∧ n ≤ 1000000000000000 ∧ RetV (.bl (kp f m s n)) H Q
theorem sv_law_keeps {H : Hp} {f m s n : Nat} (hm : 0 < m) (hn : n ≤ 1000000000000000) : SpV sp__law_keeps [.int f, .int m, .int s, .int n] H (.bl (kp f m s n)) := fun H1 e Q q E => ⟨f, m, s, n, rfl, hm, hn, q⟩
theorem ok_law_keeps (T : Top K mg) : FnOk P w K mg base CX0 1 T.a__law_keeps T.fd__law_keeps ["factor", "modulus", "share", "number"] sp__law_keeps := by
  refine T.F__law_keeps.ok sc_law_keeps (fun vs H Q E h => ?_) (fun cdv A outer s H vs Q E hr h => ?_)
  · obtain ⟨f, m, s, n, rfl, _⟩ := h
    rfl
  · obtain ⟨f, m, s', n, rfl, hm, hn, k⟩ := h
    have nd := sc_law_keeps.nd
    refine ⟨_, (pss_one (ps_ret (pe_cmpR op_le (pe_op op_mod (pe_callTy call_int1 (by rfl) T.z_int (by decide +kernel) (pa_cons (pe_op op_mul (pv 0) (pv 3)) pa_nil)) (pv 1)) (pe_op op_mul (pv 2) (pv 3)) (nomark _)))), ?_⟩
    exact s_ret (ev_is (ev_op (ev_op (ev_intI (ev_op (ev_var rfl) (ev_var rfl) (rv_mul (.inr ⟨by omega, by omega⟩)))) (ev_var rfl) (rv_I (by omega))) (ev_op (ev_var rfl) (ev_var rfl) (rv_mul (.inr ⟨by omega, by omega⟩))) rv_I0) (congrArg V.bl (kp_int f m s' n))) fun H1 e1 => k H1 e1
theorem in_span_law {p q : Nat × Nat} (hp : 0 < p.1) (hq : 0 < q.1) (hq2 : 0 < q.2) {n : Nat} (hn : 0 < n) :
    decide ((if -(-((n : Int) * ((q.2 : Nat) : Int)) / ((q.1 : Nat) : Int)) > 1 then -(-((n : Int) * ((q.2 : Nat) : Int)) / ((q.1 : Nat) : Int)) else 1) ≤ (n : Int) * ((p.2 : Nat) : Int) / ((p.1 : Nat) : Int)) = btwB p q n := by
  rw [Bool.eq_iff_iff, decide_eq_true_iff, btwB_iff]
  have hc := fun j => ceil_le (a := (n : Int) * ((q.2 : Nat) : Int)) (b := ((q.1 : Nat) : Int)) (by omega) j
  generalize -(-((n : Int) * ((q.2 : Nat) : Int)) / ((q.1 : Nat) : Int)) = k at *
  have hab : (n : Int) * ((p.2 : Nat) : Int) / ((p.1 : Nat) : Int) = ((n * p.2 / p.1 : Nat) : Int) := by rw [← Int.natCast_mul]; rfl
  rw [hab]
  have fl := Nat.div_mul_le_self (n * p.2) p.1
  have fl2 : ∀ j, j * p.1 ≤ n * p.2 → j ≤ n * p.2 / p.1 := fun j h => (Nat.le_div_iff_mul_le hp).mpr h
  generalize n * p.2 / p.1 = ab at *
  constructor
  · intro h
    have hk : k ≤ (ab : Int) := by
      split at h
      · exact h
      · omega
    have h1 := (hc ab).mp hk
    rw [← Int.natCast_mul, ← Int.natCast_mul] at h1
    exact ⟨ab, by omega, fl⟩
  · rintro ⟨j, h1, h2⟩
    have h3 := (hc j).mpr (by rw [← Int.natCast_mul, ← Int.natCast_mul]; omega)
    have h4 := fl2 j h2
    have j1 : 1 ≤ j := by
      apply Classical.byContradiction
      intro hn2
      have : j = 0 := by omega
      rw [this, Nat.zero_mul] at h1
      have : 0 < n * q.2 := Nat.mul_pos hn hq2
      omega
    split
    · omega
    · omega
theorem btw_zero (p q : Nat × Nat) : btwB p q 0 = true := btwB_iff.mpr ⟨0, by simp, by simp⟩
theorem ok_law_is_in_span (T : Top K mg) : FnOk P w K mg base CX0 1 T.a__law_is_in_span T.fd__law_is_in_span ["low", "high", "number"] sp_in_span := by
  refine T.F__law_is_in_span.ok sc_law_is_in_span (fun vs H Q E h => ?_) (fun cdv A outer s H vs Q E hr h => ?_)
  · obtain ⟨a, b, p, q, n, rfl, _⟩ := h
    rfl
  · obtain ⟨a, b, p, q, n, rfl, ha, hb, sp, hn, k⟩ := h
    have nd := sc_law_is_in_span.nd
    have pm := sp.pm
    have qm := sp.qm
    have pl := sp.pl
    have ql := sp.ql
    have p2 := sp.p2
    have q2 := sp.q2
    refine ⟨_, (pss_cons (ps_if (pt_cmpR op_eq (pv 2) pe_int (nomark _)) (pss_one (ps_ret pe_bl)) pss_nil) (pss_cons (ps_par (i := 3) (j := 4) rfl nd rfl rfl (by decide) rfl rfl (pa_cons (pe_un un_neg (pe_op op_fdiv (pe_un un_neg (pe_op op_mul (pv 2) (pe_ix ix_tup (pv 1) pe_int (fun _ _ => rfl)))) (pe_ix ix_tup (pv 1) pe_int (fun _ _ => rfl)))) (pa_cons (pe_op op_fdiv (pe_op op_mul (pv 2) (pe_ix ix_tup (pv 0) pe_int (fun _ _ => rfl))) (pe_ix ix_tup (pv 0) pe_int (fun _ _ => rfl))) pa_nil)) (by rfl)) (pss_one (ps_ret (pe_cmpR op_le (pe_callB (call_max2 rfl) (by rfl) T.z_max (by decide +kernel) (pa_cons pe_int (pa_cons (pv 3) pa_nil))) (pv 4) (nomark _)))))), ?_⟩
    refine q_when (b := decide (V.int (n : Int) = V.int 0)) (et_test (ev_op (ev_var rfl) ev_c (rv_eq rfl))) (fun hb1 H1 e1 => ?_) (fun hb1 H1 e1 => ?_)
    · have h0 : n = 0 := by have := V.int.inj (of_decide_eq_true hb1); omega
      subst h0
      exact s_ret ev_c fun H2 e2 => by have := k H2 (e1.trans e2); rw [btw_zero] at this; exact this
    · have h0 : 0 < n := by
        apply Classical.byContradiction
        intro hn2
        have : n = 0 := by omega
        rw [this] at hb1
        cases hb1
      have ha1 := ha.ex e1
      have hb2 := hb.ex e1
      refine q_par (ea_cons (ev_un (ev_op (ev_un (ev_op (ev_var rfl) (ev_fr1 (K := K) (ev_var rfl) hb2) (rv_mul (.inr ⟨by omega, by omega⟩))) ru_neg) (ev_fr0 (K := K) (ev_var rfl) hb2) (rv_I ⟨by omega, by omega⟩)) ru_neg) (ea_cons (ev_op (ev_op (ev_var rfl) (ev_fr1 (K := K) (ev_var rfl) ha1) (rv_mul (.inr ⟨by omega, by omega⟩))) (ev_fr0 (K := K) (ev_var rfl) ha1) (rv_I ⟨by omega, by omega⟩)) ea_nil)) fun H2 e2 => ?_
      exact s_ret (ev_is (ev_op (ev_max2 ev_c (ev_var rfl)) (ev_var rfl) rv_I0) (congrArg V.bl (in_span_law (by omega) (by omega) q2 h0))) fun H3 e3 => k H3 ((e1.trans e2).trans e3)
end
section
variable {X : Cx} {j : Nat}
theorem sys_eq (T : Top X.K X.mg) (hr : Room (j + 2) X.A) : OpR X (compareOp .Eq) (rEqG (DIns T.a_System (SameSys T.a_System))) :=
  op_eqG (rcG_ins (E := E0) (ok_System_eq T) T.eq_System T.fn_System_eq T.b_System_eq pass0) (hr.mono (by omega))
theorem sys_ne (T : Top X.K X.mg) (hr : Room (j + 2) X.A) : OpR X (compareOp .NotEq) (rNeG (DIns T.a_System (SameSys T.a_System))) :=
  op_neG (ok_System_eq T) T.eq_System T.ne_System T.i_System.hm T.fn_System_eq T.b_System_eq (hr.mono (by omega))
end
end Pd

/-! k05: plain facts of a drawn rule. -/
namespace Pd
/-- two rising rows of the same members are the same -/
theorem asc_ext {a b : List Nat} (ha : a.Pairwise (· < ·)) (hb : b.Pairwise (· < ·)) (h : ∀ x, x ∈ a ↔ x ∈ b) : a = b := by
  have na : a.Nodup := ha.imp fun q => by omega
  have nb : b.Nodup := hb.imp fun q => by omega
  have p : a.Perm b := (List.perm_ext_iff_of_nodup na nb).mpr h
  exact List.Perm.eq_of_pairwise (fun x y _ _ h1 h2 => by omega) ha hb p
theorem pay_low {a b : List Nat} {c : Nat} (asc : (a ++ c :: b).Pairwise (· < ·)) {n : Nat} (p : Pay (a ++ c :: b) n) : n < c → Pay a n := by
  induction p with
  | zero => intro _; exact .zero
  | @add d n hd _ ih =>
    intro hn
    have dl : d < c := by omega
    have da : d ∈ a := by
      rcases List.mem_append.mp hd with h | h
      · exact h
      · rcases List.mem_cons.mp h with rfl | h
        · omega
        · have := (List.pairwise_cons.mp (List.pairwise_append.mp asc).2.1).1 d h
          omega
    exact .add da (ih (by omega))
theorem gens_split {s : Nat → Bool} {last first c : Nat} (h : Kept s last first) (hc : c ∈ gens s last first) {x y : Nat} (hx : s x = true) (hy : s y = true) (h0 : 0 < x) (h1 : 0 < y) : x + y ≠ c := fun e => by
  obtain ⟨a, b, eg⟩ := List.append_of_mem hc
  have asc := gens_asc s last first
  rw [eg] at asc
  have px := (gens_pay h x).mpr hx
  have py := (gens_pay h y).mpr hy
  rw [eg] at px py
  exact gens_need s last first a c b eg (e ▸ (pay_low asc px (by omega)).sum (pay_low asc py (by omega)))
theorem gens_least {s : Nat → Bool} {last first c : Nat} (h : Kept s last first) (h0 : 0 < c) (hc : s c = true) (hn : c ∉ gens s last first) : ∃ g ∈ gens s last first, g < c ∧ s (c - g) = true := by
  have p := (gens_pay h c).mpr hc
  rcases p.inv with z | ⟨g, hg, hl, q⟩
  · omega
  · have : g ≠ c := fun z => hn (z ▸ hg)
    exact ⟨g, hg, by omega, (gens_pay h _).mp q⟩
/-! ### a drawn rule -/
structure Drw (f m s : Nat) (p q : Nat × Nat) (last first : Nat) : Prop where
  f2 : 2 ≤ f
  fm : f < m
  s1 : 1 ≤ s
  sf : s < f
  m4 : 4 ≤ m
  mz : m ≤ 563
  ep : p = (m / Nat.gcd m f, f / Nat.gcd m f)
  eq : q = (m / Nat.gcd m (f - s), (f - s) / Nat.gcd m (f - s))
  span : Span p q
  btw : ∀ n, btwB p q n = kp f m s n
  kept : Kept (kp f m s) last first
  ll : last < m
  fl : first ≤ m
  B : p.1 * q.1 / (q.1 * p.2 - p.1 * q.2) + 1 = m / s + 1
  lB : last < m / s + 1
  fB : first ≤ m / s + 1
  p1 : p.1 ≤ m
  q1 : q.1 ≤ m
theorem drw {f m s : Nat} (f2 : 2 ≤ f) (fm : f < m) (s1 : 1 ≤ s) (sf : s < f) (m4 : 4 ≤ m) (mz : m ≤ 563) : ∃ p q last first, Drw f m s p q last first := by
  obtain ⟨last, first, kt, h1, h2, h3⟩ := kp_kept f (show 0 < m by omega) (show 0 < s by omega)
  have g1 : 0 < Nat.gcd m f := Nat.gcd_pos_of_pos_left f (by omega)
  have g2 : 0 < Nat.gcd m (f - s) := Nat.gcd_pos_of_pos_left _ (by omega)
  obtain ⟨a, ha⟩ := Nat.gcd_dvd_left m f
  obtain ⟨b, hb⟩ := Nat.gcd_dvd_right m f
  obtain ⟨c, hc⟩ := Nat.gcd_dvd_left m (f - s)
  obtain ⟨d, hd⟩ := Nat.gcd_dvd_right m (f - s)
  have ea : m / Nat.gcd m f = a := Nat.div_eq_of_eq_mul_right g1 ha
  have eb : f / Nat.gcd m f = b := Nat.div_eq_of_eq_mul_right g1 hb
  have ec : m / Nat.gcd m (f - s) = c := Nat.div_eq_of_eq_mul_right g2 hc
  have ed : (f - s) / Nat.gcd m (f - s) = d := Nat.div_eq_of_eq_mul_right g2 hd
  have cop : ∀ {m f a b : Nat}, 0 < Nat.gcd m f → m = Nat.gcd m f * a → f = Nat.gcd m f * b → Nat.gcd a b = 1 := fun {m f a b} g e1 e2 => by
    have h : Nat.gcd (Nat.gcd m f * a) (Nat.gcd m f * b) = Nat.gcd m f * Nat.gcd a b := Nat.gcd_mul_left _ _ _
    rw [← e1, ← e2] at h
    have h2 : Nat.gcd m f * 1 = Nat.gcd m f * Nat.gcd a b := by omega
    exact (Nat.eq_of_mul_eq_mul_left g h2).symm
  have cab : Nat.gcd a b = 1 := cop g1 ha hb
  have ccd : Nat.gcd c d = 1 := cop g2 hc hd
  have ep : (a, b) = (m / Nat.gcd m f, f / Nat.gcd m f) := by rw [ea, eb]
  have eq : (c, d) = (m / Nat.gcd m (f - s), (f - s) / Nat.gcd m (f - s)) := by rw [ec, ed]
  clear ea eb ec ed
  generalize Nat.gcd m f = u at g1 ha hb
  generalize Nat.gcd m (f - s) = v at g2 hc hd
  have b0 : 0 < b := by
    apply Classical.byContradiction
    intro hn
    have : b = 0 := by omega
    rw [this, Nat.mul_zero] at hb
    omega
  have d0 : 0 < d := by
    apply Classical.byContradiction
    intro hn
    have : d = 0 := by omega
    rw [this, Nat.mul_zero] at hd
    omega
  have ba : b < a := Nat.lt_of_mul_lt_mul_left (a := u) (by omega)
  have dc : d < c := Nat.lt_of_mul_lt_mul_left (a := v) (by omega)
  have am : a ≤ m := by rw [ha]; exact Nat.le_mul_of_pos_left _ g1
  have cm : c ≤ m := by rw [hc]; exact Nat.le_mul_of_pos_left _ g2
  -- across, times both
  have x1 : u * v * (a * d) = m * (f - s) := by rw [hd, ha]; grind
  have x2 : u * v * (c * b) = m * f := by
    have : m * f = (v * c) * (u * b) := by rw [← hc, ← hb]
    rw [this]
    grind
  have x3 : m * f = m * (f - s) + m * s := by rw [← Nat.mul_add, Nat.sub_add_cancel (by omega)]
  have uv : 0 < u * v := Nat.mul_pos g1 g2
  have ms : 0 < m * s := Nat.mul_pos (by omega) (by omega)
  have lt : a * d < c * b := Nat.lt_of_mul_lt_mul_left (a := u * v) (by omega)
  have x4 : u * v * (c * b - a * d) = m * s := by rw [Nat.mul_sub]; omega
  have x5 : u * v * (a * c) = m * m := by
    have : m * m = (u * a) * (v * c) := by rw [← ha, ← hc]
    rw [this]
    grind
  have eB : a * c / (c * b - a * d) = m / s := by
    have : a * c / (c * b - a * d) = (u * v * (a * c)) / (u * v * (c * b - a * d)) := (Nat.mul_div_mul_left _ _ uv).symm
    rw [this, x4, x5, Nat.mul_div_mul_left _ _ (by omega)]
  have lB : last < m / s + 1 := by
    have : last ≤ m / s := (Nat.le_div_iff_mul_le (by omega)).mpr (by rw [Nat.mul_comm]; omega)
    omega
  refine ⟨(a, b), (c, d), last, first, f2, fm, s1, sf, m4, mz, ep, eq, ⟨b0, d0, cab, ccd, ba, dc, by show a ≤ 2000; omega, by show c ≤ 2000; omega, lt⟩, fun n => ?_, kt, h1, h3, by rw [eB], lB, ?_, am, cm⟩
  · rw [Bool.eq_iff_iff, btwB_iff, kp_btw (by omega) (by omega)]
    have r := btw_red (g1 := u) (g2 := v) (p1 := a) (q1 := b) (p2 := c) (q2 := d) (n := n) g1 g2
    rw [← ha, ← hb, ← hc, ← hd] at r
    exact r.symm
  · apply Classical.byContradiction
    intro hn
    have z := kt.low (m / s + 1) (by omega) (by omega)
    rw [kt.safe _ lB] at z
    cases z
/-- each coin is a top of the chain, and no coin is above the modulus -/
theorem gens_tops {f m s : Nat} {p q : Nat × Nat} {last first : Nat} (D : Drw f m s p q last first) {l : List (Nat × Nat)} (ch : Chn q p l) {c : Nat} (hc : c ∈ gens (kp f m s) last first) : ∃ x ∈ l, x.1 = c := by
  have hm := gens_mem hc
  have hb := btwB_iff.mp ((D.btw c).trans hm.2.2)
  obtain ⟨k, k1, k2⟩ := hb
  obtain ⟨α, β, x, y, hx, hy, e⟩ := ch.cone D.span.cq (n := c) (k := k) (by rw [Nat.mul_comm]; exact k2) (by rw [Nat.mul_comm q.1]; exact k1)
  have lt := D.span.lt
  have tops : ∀ z ∈ l, kp f m s z.1 = true := fun z hz => by
    rw [← D.btw]
    refine btwB_iff.mpr ⟨z.2, ?_, ?_⟩
    · have := ch.under (by omega) z hz
      rw [Nat.mul_comm z.2]
      exact this
    · have := ch.over z hz
      rw [Nat.mul_comm z.2]
      exact this
  have mul : ∀ (t k : Nat), kp f m s t = true → kp f m s (k * t) = true := fun t k ht => by
    induction k with
    | zero => rw [Nat.zero_mul]; exact D.kept.zero
    | succ k ih => rw [Nat.add_mul, Nat.one_mul]; exact D.kept.add _ _ ih ht
  -- a sum of two parts above 0 is no coin
  have one : ∀ (t k : Nat), kp f m s t = true → k * t = c → t = c := fun t k ht hk => by
    cases k with
    | zero => rw [Nat.zero_mul] at hk; omega
    | succ k =>
      rw [Nat.add_mul, Nat.one_mul] at hk
      by_cases z : k * t = 0
      · omega
      · have t0 : 0 < t := by
          apply Classical.byContradiction
          intro hn
          have : t = 0 := by omega
          rw [this, Nat.mul_zero] at z
          exact z rfl
        exact absurd hk (gens_split D.kept hc (mul t k ht) ht (by omega) t0)
  by_cases a0 : α * x.1 = 0
  · exact ⟨y, hy, one y.1 β (tops y hy) (by omega)⟩
  · by_cases b0 : β * y.1 = 0
    · exact ⟨x, hx, one x.1 α (tops x hx) (by omega)⟩
    · exact absurd e.symm (gens_split D.kept hc (mul _ α (tops x hx)) (mul _ β (tops y hy)) (by omega) (by omega))
theorem row_gens {f m s : Nat} {p q : Nat × Nat} {last first : Nat} (D : Drw f m s p q last first) (hle : ∀ c ∈ gens (kp f m s) last first, c ≤ m) : (rowOf (kp f m s) m).filter (fun c => decide (c ∈ gens (kp f m s) last first)) = gens (kp f m s) last first := by
  refine asc_ext (List.Pairwise.filter _ (row_asc _ m)) (gens_asc _ _ _) fun x => ?_
  rw [List.mem_filter, decide_eq_true_iff]
  refine ⟨fun h => h.2, fun h => ⟨?_, h⟩⟩
  have := gens_mem h
  exact row_mem.mpr ⟨this.1, hle x h, this.2.2⟩
end Pd

/-! k05: a chain stands; no coin is above the modulus. -/
namespace Pd
theorem chn_ex {h : Nat × Nat} (h2 : 0 < h.2) (ch : Nat.gcd h.1 h.2 = 1) : ∀ d (p : Nat × Nat), 0 < p.2 → Nat.gcd p.1 p.2 = 1 → h.1 * p.2 = p.1 * h.2 + d → ∃ l, Chn h p l := fun d => by
  induction d using Nat.strongRecOn with
  | ind d ih =>
    intro p p2 cp hd
    by_cases d0 : d = 0
    · rw [d0, Nat.add_zero] at hd
      obtain ⟨x1, x2⟩ := co_eq cp ch p2 h2 (by rw [hd])
      have : p = h := Prod.ext x1 x2
      rw [this]
      exact ⟨[h], .one⟩
    · obtain ⟨B, b1, b2, b3⟩ := left_some p2 cp
      obtain ⟨T, hT⟩ := Nat.dvd_of_mod_eq_zero b3
      have hT' : T * p.2 = B * p.1 + 1 := by rw [hT, Nat.mul_comm]
      obtain ⟨o, ho⟩ : ∃ o, (h.2 * T ≤ h.1 * B ∧ o = 0) ∨ (h.1 * B < h.2 * T ∧ h.2 * T ≤ h.1 * B + o * d ∧ o * d < h.2 * T - h.1 * B + d) := by
        by_cases c : h.2 * T ≤ h.1 * B
        · exact ⟨0, .inl ⟨c, rfl⟩⟩
        · generalize h.2 * T = u at *
          generalize h.1 * B = v at *
          have e := Nat.div_add_mod (u - v + d - 1) d
          have l := Nat.mod_lt (u - v + d - 1) (show 0 < d by omega)
          refine ⟨(u - v + d - 1) / d, .inr ⟨by omega, ?_, ?_⟩⟩
          · rw [Nat.mul_comm]
            omega
          · rw [Nat.mul_comm]
            omega
      obtain ⟨n1, d', n2, n3, n4⟩ := next_ok (p := p) (h := h) p2 h2 b1 b2 hT' hd (by omega) ho
      have nco := adj_co n1
      have np : 0 < B + o * p.2 := by omega
      obtain ⟨l, hl⟩ := ih d' n3 (T + o * p.1, B + o * p.2) np nco n2
      exact ⟨p :: l, .step n1 (next_top n4 n3) (by show (T + o * p.1) * h.2 ≤ h.1 * (B + o * p.2); omega) np hl⟩
theorem drw_le {f m s : Nat} {p q : Nat × Nat} {last first : Nat} (D : Drw f m s p q last first) : ∀ c ∈ gens (kp f m s) last first, c ≤ m := fun c hc => by
  have lt := D.span.lt
  obtain ⟨l, hl⟩ := chn_ex D.span.q2 D.span.cq (q.1 * p.2 - p.1 * q.2) p D.span.p2 D.span.cp (by omega)
  obtain ⟨x, hx, e⟩ := gens_tops D hl hc
  have := hl.tops x hx
  have h1 := D.p1
  have h2 := D.q1
  omega
theorem drw_row {f m s : Nat} {p q : Nat × Nat} {last first : Nat} (D : Drw f m s p q last first) : (rowOf (kp f m s) m).filter (fun c => decide (c ∈ gens (kp f m s) last first)) = gens (kp f m s) last first := row_gens D (drw_le D)
end Pd

/-! k05: a dict's keys. -/
namespace Pd
open PySem PySem.Spec PyProof.Rows L2 Evl PpSet
theorem val_some (kvs : List (Key × V)) (k : Key) : (valV kvs k).isSome = true ↔ ∃ kv ∈ kvs, kv.1 = k := by
  unfold valV
  rw [Option.isSome_map, List.find?_isSome]
  exact ⟨fun ⟨x, h1, h2⟩ => ⟨x, h1, of_decide_eq_true h2⟩, fun ⟨x, h1, h2⟩ => ⟨x, h1, decide_eq_true h2⟩⟩
theorem put_some (kvs : List (Key × V)) (k : Key) (v : V) (j : Key) : (valV (putK kvs k v) j).isSome = true ↔ (valV kvs j).isSome = true ∨ k = j := by
  rw [val_some, val_some]
  unfold putK
  split
  · rename_i h
    obtain ⟨z, hz, ez⟩ := List.any_eq_true.mp h
    have ez := of_decide_eq_true ez
    constructor
    · rintro ⟨x, hx, rfl⟩
      obtain ⟨y, hy, rfl⟩ := List.mem_map.mp hx
      refine .inl ⟨y, hy, ?_⟩
      by_cases c : y.1 = k
      · rw [if_pos c]
      · rw [if_neg c]
    · rintro (⟨x, hx, rfl⟩ | rfl)
      · refine ⟨_, List.mem_map.mpr ⟨x, hx, rfl⟩, ?_⟩
        by_cases c : x.1 = k
        · rw [if_pos c]
        · rw [if_neg c]
      · refine ⟨_, List.mem_map.mpr ⟨z, hz, rfl⟩, ?_⟩
        rw [if_pos ez]
        exact ez
  · constructor
    · rintro ⟨x, hx, rfl⟩
      rcases List.mem_append.mp hx with hx | hx
      · exact .inl ⟨x, hx, rfl⟩
      · rw [List.mem_singleton.mp hx]
        exact .inr rfl
    · rintro (⟨x, hx, rfl⟩ | rfl)
      · exact ⟨x, List.mem_append_left _ hx, rfl⟩
      · exact ⟨(k, v), by simp, rfl⟩
theorem merge_some (j : Key) : ∀ (more kvs : List (Key × V)), (valV (mergeK kvs more) j).isSome = true ↔ (valV kvs j).isSome = true ∨ ∃ kv ∈ more, kv.1 = j
  | [], kvs => by simp [mergeK]
  | x :: r, kvs => by
    show (valV (mergeK (putK kvs x.1 x.2) r) j).isSome = true ↔ _
    rw [merge_some j r, put_some]
    simp only [List.mem_cons, exists_eq_or_imp, or_assoc]
end Pd

/-! k05: helpers of the law's main def. -/
namespace Pd
open PySem PySem.Spec PyProof.Rows L2 Evl PpSet
theorem drw_one {f m s : Nat} {p q : Nat × Nat} {last first : Nat} (D : Drw f m s p q last first) : kp f m s 1 = false := by
  unfold kp
  have h1 := D.fm
  have h2 := D.sf
  rw [Nat.mul_one, Nat.mul_one, Nat.mod_eq_of_lt h1]
  exact decide_eq_false (by omega)
theorem drw_l0 {f m s : Nat} {p q : Nat × Nat} {last first : Nat} (D : Drw f m s p q last first) : 0 < last := by
  apply Classical.byContradiction
  intro hn
  have := D.kept.safe 1 (by omega)
  rw [drw_one D] at this
  cases this
theorem drw_last {f m s : Nat} {p q : Nat × Nat} {last first : Nat} (D : Drw f m s p q last first) : Last (gens (kp f m s) last first) last := by
  have l0 := drw_l0 D
  refine ⟨fun h => ?_, fun n hn => (gens_pay D.kept n).mpr (D.kept.safe n hn)⟩
  have h2 := (gens_pay D.kept last).mp h
  rcases D.kept.gap with z | z
  · omega
  · rw [z] at h2; cases h2
theorem drw_gaps {f m : Nat} {p q : Nat × Nat} {last first : Nat} (D : Drw f m 1 p q last first) : gapsN (gens (kp f m 1) last first) last = ((m : Int) + 1 - ((Nat.gcd f m : Nat) : Int) - ((Nat.gcd (f - 1) m : Nat) : Int)) / 2 := by
  have h1 := genus (a := f) (b := m) (by have := D.m4; omega) (by have := D.f2; omega)
  have h2 : gapsN (gens (kp f m 1) last first) last = sumN (fun n => if kp f m 1 n = true then 0 else 1) m := by
    unfold gapsN Gs
    obtain ⟨k, hk⟩ : ∃ k, m = last + 1 + k := ⟨m - (last + 1), by have := D.ll; omega⟩
    have h3 : sumN (fun n => if kp f m 1 n = true then (0 : Int) else 1) m = sumN (fun n => if kp f m 1 n = true then (0 : Int) else 1) (last + 1) := by
      generalize hF : (fun n => if kp f m 1 n = true then (0 : Int) else 1) = F
      rw [hk, sumN_split, sumN_zero k fun j _ => ?_, Int.add_zero]
      rw [← hF]
      show (if kp f m 1 (last + 1 + j) = true then (0 : Int) else 1) = 0
      rw [if_pos (D.kept.safe _ (by omega))]
    rw [h3]
    refine sumN_congr _ fun n _ => ?_
    unfold gapF
    have h4 := gens_pay D.kept n
    by_cases z : kp f m 1 n = true
    · rw [if_pos z, if_pos (pb_iff.mpr (h4.mpr z))]
    · rw [if_neg z, if_neg fun x => z (h4.mp (pb_iff.mp x))]
  rw [h2]
  omega
theorem FrAt.bt {H H' : Hp} {h c a : Addr} {cells : List Int} {p : Nat × Nat} (q : FrAt H a p) (hh : HandC H h c cells) (b : Bt h H H') : FrAt H' a p := hh.tup b q
theorem HandC.ins {H H' : Hp} {h c : Addr} {cells : List Int} {a C dx : Addr} {fs : List (Str × V)} (s : HandC H h c cells) (b : Bt h H H') (ha : H a = some (.ins C dx fs)) : H' a = some (.ins C dx fs) := by
  obtain ⟨⟨_, _, _, _, e⟩, _⟩ := s
  exact b _ _ (fun z => by rw [z, e] at ha; cases ha) ha
theorem SysOf.bt {C : Addr} {H H' : Hp} {h c x : Addr} {cells : List Int} {s : Nat → Bool} {last first : Nat} (q : SysOf C H x s last first) (hh : HandC H h c cells) (b : Bt h H H') : SysOf C H' x s last first := by
  obtain ⟨m, tl, W, g, a⟩ := q
  obtain ⟨dx, e, f, v, h1, h2, h3⟩ := a.at_
  exact ⟨m, tl, W, g, ⟨⟨dx, e, f, v, hh.ins b h1, hh.tup b h2, hh.tup b h3⟩, a.rests, a.pos⟩⟩
section
variable {K : PySem.W.Frag} {σ : L2.St} {H H' : Hp} {ta tb te tx tl : TE} {x y z v : V} {t u : TT}
theorem et_yes : EvT tYes σ H true := fun H1 e Q q => q H1 (Ex.refl H1)
theorem ev_din {kvs : List (Key × V)} {p : Addr} {n : Int} (hi : Ev ta σ H (.int n)) (hd : Ev tb σ H (.ref p)) (h : H p = some (.dK kvs)) : Ev (tDIn ta tb) σ H (.bl (valV kvs (.inl n)).isSome) := fun H1 e Q q =>
  hi H1 e _ fun H2 e2 => hd H2 (e.trans e2) _ fun H3 e3 => ⟨p, _, rfl, DGet.k (k := .inl n) (((e.trans e2).trans e3) _ _ h), q H3 (e2.trans e3)⟩
theorem s_ext {l : Addr} {xs ys : List V} {D : L2.Ends} (hl : H l = some (.lst xs)) (ha : Ev ta σ H (.ref l)) (h : EvL te σ H ys) (hz : xs.length + ys.length ≤ 100000) (k : ∀ H1, Ex H H1 → D.nx σ (upd H1 l (.lst (xs ++ ys)))) : tDrop (tBM K "list" rExtend ta (tCons te tNil)) D σ H :=
  ha H (Ex.refl H) _ fun H1 e1 => ⟨Or.inl ⟨rfl, xs, sq_of (e1 l _ hl)⟩, h H1 e1 _ fun p H2 np e2 hp => ⟨l, p, xs, ys, rfl, rfl, e2 l _ (e1 l _ hl), hp, sz_of hz, k H2 (e1.trans e2)⟩⟩
theorem el_if {b : Bool} {xs : List V} (h : EvT t σ H b) (h1 : b = true → EvL ta σ H xs) (h2 : b = false → EvL tb σ H xs) : EvL (tIf t ta tb) σ H xs := fun H1 e Q q => h H1 e _ fun H2 e2 => by
  cases b with
  | true =>
    show ta σ H2 Q
    exact h1 rfl H2 (e.trans e2) Q fun p H3 n3 e3 => q p H3 (fresh_back e2 n3) (e2.trans e3)
  | false =>
    show tb σ H2 Q
    exact h2 rfl H2 (e.trans e2) Q fun p H3 n3 e3 => q p H3 (fresh_back e2 n3) (e2.trans e3)
theorem ev_neSame1 {cs : List Nat} {a : Addr} (ha : EvL ta σ H (nv cs)) (hb : Ev tb σ H (.ref a)) (h : SqL K H a (nv cs)) : Ev (tOp (rNeD K) ta tb) σ H (.bl false) :=
  ev_opL1 ha (fun H1 e => fun H2 e2 => hb H2 (e.trans e2)) fun p H1 hp e => fun H2 e2 Q k => by
    have h2 : SqL K H2 p ((cs.map fun (c : Nat) => (c : Int)).map V.int) := by rw [← nv_ints]; exact sq_of (e2 _ _ hp)
    have h3 : SqL K H2 a ((cs.map fun (c : Nat) => (c : Int)).map V.int) := by rw [← nv_ints]; exact ex_l (e.trans e2) h
    refine ⟨.list ((cs.map fun (c : Nat) => (c : Int)).map PyData.int), .list ((cs.map fun (c : Nat) => (c : Int)).map PyData.int), .lst h2 (dp_ints _), .lst h3 (dp_ints _), PySem.W.ke_shaped_ints _, PySem.W.ke_shaped_ints _, ?_⟩
    rw [SeqAt.eqv_refl _ (SeqAt.canLay_of_shaped (PySem.W.ke_shaped_ints _))]
    exact k H2 (Ex.refl H2)
theorem ev_allN {bs : List Bool} (ha : EvL ta σ H (bs.map V.bl)) : Ev (tCB (rAll K) (tCons ta tNil)) σ H (.bl (bs.all id)) := fun H1 e Q q =>
  ha H1 e _ fun p H2 _ e2 hp => ⟨p, bs, rfl, sq_of hp, q H2 e2⟩
/-- [a, b] != [c, d] where both are alike: values that are ints or bools -/
theorem ev_neLL {xs : List V} {ds : List PyData} (ha : EvL ta σ H xs) (hb : EvL tb σ H xs) (hd : ∀ H1, DpAll K H1 xs ds) (sh : SeqAt.shaped (.list ds) = true) : Ev (tOp (rNeD K) ta tb) σ H (.bl false) :=
  ev_opLL ha hb fun p q H1 hp hq e => fun H2 e2 Q k => by
    refine ⟨.list ds, .list ds, .lst (sq_of (e2 _ _ hp)) (hd H2), .lst (sq_of (e2 _ _ hq)) (hd H2), sh, sh, ?_⟩
    rw [SeqAt.eqv_refl _ (SeqAt.canLay_of_shaped sh)]
    exact k H2 (Ex.refl H2)
theorem ev_neCall1 {sp : Sp} {R : Eqv} {vs : List V} {tA : TA} {E : XK} (hv : EvA tA σ H vs) (hs : ∀ H1 (Q : VK), Ex H H1 → (∀ x H2, Ex H1 H2 → (∀ H3, Ex H2 H3 → R x y H3) → Q x H2) → sp (vs ++ []) H1 Q E) (hb : Ev tb σ H y) :
    Ev (tOp (rNeG R) (tCall sp [] E tA) tb) σ H (.bl false) := fun H0 e0 Q q =>
  hv H0 e0 _ fun H1 e1 => hs H1 _ (e0.trans e1) fun x H2 e2 r => hb H2 ((e0.trans e1).trans e2) _ fun H3 e3 => ⟨r H3 e3, fun H4 e4 => q H4 (((e1.trans e2).trans e3).trans (e4))⟩
theorem ev_eqCall1 {sp : Sp} {R : Eqv} {vs : List V} {tA : TA} {E : XK} (hv : EvA tA σ H vs) (hs : ∀ H1 (Q : VK), Ex H H1 → (∀ x H2, Ex H1 H2 → (∀ H3, Ex H2 H3 → R x y H3) → Q x H2) → sp (vs ++ []) H1 Q E) (hb : Ev tb σ H y) :
    Ev (tOp (rEqG R) (tCall sp [] E tA) tb) σ H (.bl true) := fun H0 e0 Q q =>
  hv H0 e0 _ fun H1 e1 => hs H1 _ (e0.trans e1) fun x H2 e2 r => hb H2 ((e0.trans e1).trans e2) _ fun H3 e3 => ⟨r H3 e3, fun H4 e4 => q H4 (((e1.trans e2).trans e3).trans (e4))⟩
theorem q_asgD {h c : Addr} {cells : List Int} {W : V → Prop} {i : Nat} {D : L2.Ends} {tz : TS} (he : EvD te σ h c cells W) (hh : HandC H h c cells) (k : ∀ v H', W v → Bt h H H' → HandC H' h c cells → tz D (σ.set i (some v)) H') : tSeq (tAsg te (gName i)) tz D σ H := he H hh _ k
theorem ev_isB {a b : Bool} (ha : Ev ta σ H (.bl a)) (hb : Ev tb σ H (.bl b)) : Ev (tOp rIsB ta tb) σ H (.bl (decide (a = b))) := ev_op ha hb fun H1 _ _ q => ⟨a, b, rfl, rfl, q H1 (Ex.refl H1)⟩
end
theorem in_ints {ns : List Int} {k : Int} (h : k ∈ ns) : inV (.int k) (ns.map V.int) = true := by
  unfold inV
  rw [List.any_map, List.any_eq_true]
  exact ⟨k, h, by show (k == k) = true; exact beq_self_eq_true _⟩
theorem flat_ints (ns : List Int) : (ns.map V.int).all flatV = true := by
  rw [List.all_map, List.all_eq_true]
  intro c _
  rfl
theorem ev_inChain {K : PySem.W.Frag} {σ : L2.St} {H : Hp} {ta : TE} {tA : TA} {E : XK} {f m s : Nat} {p q : Nat × Nat} {last first : Nat} (D : Drw f m s p q last first) {lo hi : Addr} {c : Nat} (ha : Ev ta σ H (.int (c : Int))) (hA : EvA tA σ H [.ref lo, .ref hi]) (fl : FrAt H lo p) (fh : FrAt H hi q) (hc : c ∈ gens (kp f m s) last first) :
    Ev (tOp (rIn K false) ta (tCall sp_chain_coins [] E tA)) σ H (.bl true) := fun H1 e Q k =>
  ha H1 e _ fun H2 e2 => hA H2 (e.trans e2) _ fun H3 e3 => ⟨lo, hi, p, q, rfl, fl.ex ((e.trans e2).trans e3), fh.ex ((e.trans e2).trans e3), D.span, fun l ns t H4 ch mem e4 ht => ⟨t, ns.map V.int, rfl, .inr (st_of ht), rfl, flat_ints ns, by
    obtain ⟨x, hx, ex⟩ := gens_tops D ch hc
    have : inV (.int (c : Int)) (ns.map V.int) = true := in_ints ((mem _).mpr ⟨x, hx, by rw [ex]⟩)
    rw [this]
    exact k H4 ((e2.trans e3).trans e4)⟩⟩
theorem held_any {f m s : Nat} {p q : Nat × Nat} {last first : Nat} (D : Drw f m s p q last first) {kvs : List (Key × V)} (hk : ∀ n : Int, (valV kvs (Sum.inl n)).isSome = true ↔ ∃ c ∈ rowOf (kp f m s) m, (c : Int) = n) {i c : Nat} (hcc : (rowOf (kp f m s) m)[i]? = some c) :
    (((rowOf (kp f m s) m).take i).filter fun c => decide (c ∈ gens (kp f m s) last first)).any (fun g => (valV kvs (Sum.inl ((c : Int) - (g : Int)))).isSome) = !decide (c ∈ gens (kp f m s) last first) := by
  obtain ⟨c0, cm, ck⟩ := row_mem.mp (List.mem_of_getElem? hcc)
  by_cases hc : c ∈ gens (kp f m s) last first
  · rw [decide_eq_true hc]
    refine List.any_eq_false.mpr fun g hg z => ?_
    obtain ⟨g1, g2⟩ := List.mem_filter.mp hg
    obtain ⟨d, hd, e⟩ := (hk _).mp z
    obtain ⟨d0, dm, dk⟩ := row_mem.mp hd
    obtain ⟨q0, qm, qk⟩ := row_mem.mp (List.mem_of_mem_take g1)
    exact gens_split D.kept hc qk dk q0 d0 (by omega)
  · rw [decide_eq_false hc]
    refine List.any_eq_true.mpr ?_
    obtain ⟨g, hg, lt, sk⟩ := gens_least D.kept c0 ck hc
    obtain ⟨g0, _, gk⟩ := gens_mem hg
    refine ⟨g, List.mem_filter.mpr ⟨?_, decide_eq_true hg⟩, (hk _).mpr ⟨c - g, row_mem.mpr ⟨by omega, by omega, sk⟩, by omega⟩⟩
    obtain ⟨j, hj⟩ := List.getElem?_of_mem (row_mem (s := kp f m s) (N := m) (x := g) |>.mpr ⟨g0, by omega, gk⟩)
    have asc := row_asc (kp f m s) m
    have ji : j < i := by
      apply Classical.byContradiction
      intro hn
      obtain ⟨jl, ej⟩ := List.getElem?_eq_some_iff.mp hj
      obtain ⟨il, ei⟩ := List.getElem?_eq_some_iff.mp hcc
      by_cases e : j = i
      · subst e
        rw [ej] at ei
        omega
      · have := List.pairwise_iff_getElem.mp asc i j il jl (by omega)
        omega
    exact List.mem_of_getElem? (i := j) (by rw [List.getElem?_take_of_lt ji]; exact hj)
end Pd

/-! k05: the law's main def (under way). -/
namespace Pd
open PySem PySem.Spec PyProof.Rows L2 Evl PpSet
theorem op_in_seqK {X : Cx} {K : PySem.W.Frag} (h : X.K = K) : OpR X (compareOp .In) (rIn K false) := h ▸ op_in_seq
section
variable {P : Program} {w : World} {K : PySem.W.Frag} {mg : Str → Option Value} {base : Heap}
variable {σ : L2.St} {H H' : Hp} {ta tb te tx tl : TE} {x y z v : V}
/-- a, b = two new tuples, by a tuple -/
theorem q_tupUU {i j : Nat} {xs ys : List V} {D : L2.Ends} {tz : TS} (h1 : EvU ta σ H xs) (h2 : EvU tb σ H ys)
    (k : ∀ p q H1, Ex H H1 → H1 p = some (.tup xs) → H1 q = some (.tup ys) → tz D ((σ.set i (some (.ref p))).set j (some (.ref q))) H1) :
    tSeq (tAsg (tTup (tCons ta (tCons tb tNil))) (gTup K 2 (gCons (gName i) (gCons (gName j) gNil)))) tz D σ H :=
  h1 H (Ex.refl H) _ fun p H1 np e1 hp => h2 H1 e1 _ fun q H2 nq e2 hq => ⟨by show 2 ≤ sizeLine; decide, fun t nt =>
    g_pair upd_same (k p q _ ((e1.trans e2).trans (Ex.new nt)) (Ex.new nt _ _ (e2 _ _ hp)) (Ex.new nt _ _ hq))⟩
/-- one != a call, by an own == -/
theorem ev_neCall {sp : Sp} {R : Eqv} {vs : List V} {tA : TA} {E : XK} (ha : Ev ta σ H x) (hv : EvA tA σ H vs) (hs : ∀ H1 (Q : VK), Ex H H1 → (∀ y H2, Ex H1 H2 → R x y H2 → Q y H2) → sp (vs ++ []) H1 Q E) : Ev (tOp (rNeG R) ta (tCall sp [] E tA)) σ H (.bl false) := fun H0 e0 Q q =>
  ha H0 e0 _ fun H1 e1 => hv H1 (e0.trans e1) _ fun H2 e2 => hs H2 _ ((e0.trans e1).trans e2) fun y H3 e3 r => ⟨r, fun H4 e4 => q H4 (((e1.trans e2).trans e3).trans (e4))⟩
theorem rule_ok {f m s : Nat} (f2 : 2 ≤ f) (fm : f < m) (s1 : 1 ≤ s) (sf : s < f) (mz : m ≤ 563) : RuleOk f m s := ⟨by omega, by omega, by omega, by omega, s1, by omega⟩
theorem sys_ins {C x y : Addr} {H : Hp} {s s' : Nat → Bool} {last first : Nat} (h1 : SysOf C H x s last first) (h2 : SysOf C H y s' last first) (e : ∀ n, s n = s' n) : DIns C (SameSys C) (.ref x) (.ref y) H := by
  obtain ⟨m, tl, W, g, a⟩ := h1
  obtain ⟨m', tl', W', g', a'⟩ := h2
  have h1 := a.at_
  have h2 := a'.at_
  rw [g', ← gens_congr e, ← g] at h2
  have S : SameSys C x y H := ⟨_, W, W', h1, h2⟩
  obtain ⟨dx, b, c, v, i1, _⟩ := h1
  obtain ⟨dy, b', c', v', i2, _⟩ := h2
  exact ⟨x, y, dx, dy, _, _, rfl, rfl, i1, i2, S⟩
def paidL (s : Nat → Bool) (m : Nat) : List Nat := (List.range (m + 1)).filter s
theorem given_paid (s : Nat → Bool) (m : Nat) : given (m + 1) s (fun n => V.int (n : Int)) = nv (paidL s m) := rfl
theorem paid_row (s : Nat → Bool) (m : Nat) : (paidL s m).filter (fun n => decide (0 < n)) = rowOf s m := by
  refine asc_ext (List.Pairwise.filter _ (List.Pairwise.filter _ List.pairwise_lt_range)) (row_asc s m) fun x => ?_
  rw [List.mem_filter, paidL, List.mem_filter, List.mem_range, row_mem, decide_eq_true_iff]
  constructor
  · exact fun h => ⟨h.2, by omega, h.1.2⟩
  · exact fun h => ⟨⟨by omega, h.2.2⟩, h.1⟩
theorem ev_neSame {cs : List Nat} {a : Addr} (ha : Ev ta σ H (.ref a)) (h : SqL K H a (nv cs)) (hb : EvL tb σ H (nv cs)) : Ev (tOp (rNeD K) ta tb) σ H (.bl false) :=
  ev_opL ha hb fun p H1 hp e => fun H2 e2 Q k => by
    have h2 : SqL K H2 a ((cs.map fun (c : Nat) => (c : Int)).map V.int) := by rw [← nv_ints]; exact ex_l (e.trans e2) h
    have h3 : SqL K H2 p ((cs.map fun (c : Nat) => (c : Int)).map V.int) := by rw [← nv_ints]; exact sq_of (e2 _ _ hp)
    refine ⟨.list ((cs.map fun (c : Nat) => (c : Int)).map PyData.int), .list ((cs.map fun (c : Nat) => (c : Int)).map PyData.int), .lst h2 (dp_ints _), .lst h3 (dp_ints _), PySem.W.ke_shaped_ints _, PySem.W.ke_shaped_ints _, ?_⟩
    rw [SeqAt.eqv_refl _ (SeqAt.canLay_of_shaped (PySem.W.ke_shaped_ints _))]
    exact k H2 (Ex.refl H2)
/-- rows of pairs (a number, True) -/
def KeyAt (H : Hp) (rs : List V) (cs : List Nat) : Prop := rs.length = cs.length ∧ ∀ (i c : Nat), cs[i]? = some c → ∃ y : Addr, rs[i]? = some (.ref y) ∧ H y = some (.tup [.int (c : Int), .bl true])
theorem KeyAt.addrs : ∀ {cs : List Nat} {rs : List V}, KeyAt H rs cs → ∃ as : List Addr, rs = as.map V.ref ∧ Paired (fun a (kv : Key × V) => SqT K H a [kV kv.1, kv.2]) as (cs.map fun (c : Nat) => ((Sum.inl (c : Int) : Key), V.bl true))
  | [], rs, h => ⟨[], List.eq_nil_of_length_eq_zero h.1, .nil⟩
  | c :: r, [], h => by have := h.1; cases this
  | c :: r, x :: rs, h => by
    obtain ⟨as, e, pr⟩ := KeyAt.addrs (cs := r) (rs := rs) ⟨Nat.succ.inj h.1, fun i d hd => h.2 (i + 1) d hd⟩
    obtain ⟨y, h1, h2⟩ := h.2 0 c rfl
    obtain rfl := Option.some.inj h1
    exact ⟨y :: as, by rw [e]; rfl, .cons (.inl (.inl h2)) pr⟩
/-- a row of new pairs (a number, True) -/
theorem lc_keys {a : Addr} {cs : List Nat} {j : Nat} {vs : List Nat} (h : Ev tl σ H (.ref a)) (hx : SqL K H a (nv cs)) (hz : cs.length ≤ 40000) (hw : ∀ x, wipe ((wipe σ vs).set j (some x)) vs = wipe σ vs)
    (hj : ∀ x, ((wipe σ vs).set j (some x))[j]? = some (some x)) (H0 : Hp) (e : Ex H H0) (Q : VK) (q : ∀ p rs H', H0 p = none → Ex H0 H' → H' p = some (.lst rs) → KeyAt H' rs cs → Q (.ref p) H') :
    tLc (iList K tl) (gName j) tYes (tTup (tCons (tVar j) (tCons (tC (.bl true)) tNil))) vs σ H0 Q := h H0 e _ fun H1 e1 => ⟨a, rfl, ⟨nv cs, ex_l (e.trans e1) hx⟩, fun Dl hD =>
  lc_list (xs := nv cs) (fun i H' => Ex H1 H' ∧ ∃ rs, H' Dl = some (.lst rs) ∧ KeyAt H' rs (cs.take i))
    ⟨Ex.new hD, [], upd_same, rfl, fun i c hc => by cases hc⟩ (fun i H' _ p => ex_l ((e.trans e1).trans p.1) hx) (fun i x H' hi p => by
      obtain ⟨p1, rs, p2, p3⟩ := p
      obtain ⟨c, hc, rfl⟩ := nv_get hi
      refine ⟨hw _, _, hj _, ⟨by show 2 ≤ sizeLine; decide, fun b nb => ?_⟩⟩
      have il : i < cs.length := (List.getElem?_eq_some_iff.mp hc).1
      have lr : rs.length = i := by rw [p3.1, List.length_take]; omega
      have ex : Ex H' (upd H' b (.tup [.int (c : Int), .bl true])) := Ex.new nb
      refine ⟨rs, ex _ _ p2, Nat.lt_of_lt_of_le (show rs.length < 100000 by omega) (by decide), (p1.trans ex).mut hD, rs ++ [.ref b], upd_same, ?_⟩
      have tk : cs.take (i + 1) = cs.take i ++ [c] := by rw [List.take_add_one, hc]; rfl
      have stay : ∀ (y : Addr) (o : List V), upd H' b (.tup [.int (c : Int), .bl true]) y = some (.tup o) → upd (upd H' b (.tup [.int (c : Int), .bl true])) Dl (.lst (rs ++ [.ref b])) y = some (.tup o) := fun y o hy => by
        have yD : y ≠ Dl := fun z => by rw [z, ex _ _ p2] at hy; cases hy
        rw [upd_ne yD]
        exact hy
      rw [tk]
      refine ⟨by rw [List.length_append, List.length_append, p3.1]; rfl, fun k d hk => ?_⟩
      have lt : (cs.take i).length = i := by rw [List.length_take]; omega
      by_cases kl : k < i
      · rw [List.getElem?_append_left (by omega)] at hk
        obtain ⟨y, y1, y2⟩ := p3.2 k d hk
        exact ⟨y, by rw [List.getElem?_append_left (by omega)]; exact y1, stay y _ (ex _ _ y2)⟩
      · rw [List.getElem?_append_right (by omega), lt] at hk
        have k0 : k - i = 0 := by
          apply Classical.byContradiction
          intro hn
          obtain ⟨z, hz⟩ : ∃ z, k - i = z + 1 := ⟨k - i - 1, by omega⟩
          rw [hz] at hk
          cases hk
        rw [k0] at hk
        obtain rfl := Option.some.inj hk
        refine ⟨b, ?_, stay b _ upd_same⟩
        rw [List.getElem?_append_right (by omega), lr, k0]
        rfl)
    (fun H' p => by
      obtain ⟨p1, rs, p2, p3⟩ := p
      rw [nv_len, List.take_length] at p3
      exact q Dl rs H' (fresh_back e1 hD) (e1.trans p1) p2 p3)⟩
def rDictQ (K : PySem.W.Frag) : List V → Hp → VK → Prop := fun xs H Q => ∃ (a : Addr) (ps : List Addr) (kvs : List (Key × V)), xs = [.ref a] ∧ SqL K H a (ps.map V.ref) ∧ Paired (fun p kv => SqT K H p [kV kv.1, kv.2]) ps kvs ∧
  ∀ p, H p = none → Q (.ref p) (upd H p (.dK (mergeK [] kvs)))
/-- held, needed = dict([(coin, True) ...]), [] -/
theorem q_held {cs : List Nat} {i j : Nat} {D : L2.Ends} {tz : TS} (hl : ∀ Q : VK, (∀ p rs H', H p = none → Ex H H' → H' p = some (.lst rs) → KeyAt H' rs cs → Q (.ref p) H') → tl σ H Q)
    (k : ∀ p q kvs H1, H p = none → H q = none → p ≠ q → Ex H H1 → H1 p = some (.dK kvs) → (∀ n : Int, (valV kvs (Sum.inl n)).isSome = true ↔ ∃ c ∈ cs, (c : Int) = n) → H1 q = some (.lst []) → tz D ((σ.set i (some (.ref p))).set j (some (.ref q))) H1) :
    tSeq (tAsg (tTup (tCons (tCB (rDictQ K) (tCons tl tNil)) (tCons (tLst tNil) tNil))) (gTup K 2 (gCons (gName i) (gCons (gName j) gNil)))) tz D σ H :=
  hl _ fun p rs H1 np e1 hp hk => by
    obtain ⟨as, rfl, pa⟩ := hk.addrs (K := K)
    refine ⟨p, as, _, rfl, sq_of hp, pa, fun d nd => ⟨by show 0 ≤ sizeLine; decide, fun q nq => ⟨by show 2 ≤ sizeLine; decide, fun t nt => ?_⟩⟩⟩
    have ed : Ex H1 (upd H1 d (.dK (mergeK [] (cs.map fun (c : Nat) => ((Sum.inl (c : Int) : Key), V.bl true))))) := Ex.new nd
    have eq := e1.trans ed
    refine g_pair upd_same (k d q _ _ (fresh_back e1 nd) (fresh_back eq nq) ?_ ((eq.trans (Ex.new nq)).trans (Ex.new nt)) (Ex.new nt _ _ (Ex.new nq _ _ upd_same)) (fun n => ?_) (Ex.new nt _ _ upd_same))
    · exact ne_of_none upd_same nq
    · rw [merge_some]
      constructor
      · rintro (z | ⟨kv, h1, h2⟩)
        · cases z
        · obtain ⟨c, hc, rfl⟩ := List.mem_map.mp h1
          exact ⟨c, hc, Sum.inl.inj h2⟩
      · rintro ⟨c, hc, rfl⟩
        exact .inr ⟨_, List.mem_map.mpr ⟨c, hc, rfl⟩, rfl⟩
def sp__law_is_right : Sp := fun vs H Q _ => ∃ (h c : Addr) (cells : List Int) (f m s : Nat), vs = [.ref h, .int f, .int m, .int s] ∧ HandC H h c cells ∧ 2 ≤ f ∧ f < m ∧ 1 ≤ s ∧ s < f ∧ 4 ≤ m ∧ m ≤ 563 ∧
  ∀ H', Bt h H H' → (∃ c cells, HandC H' h c cells) → Q (.bl true) H'
theorem ok_law_is_right (T : Top K mg) : FnOk P w K mg base CX0 9 T.a__law_is_right T.fd__law_is_right ["hand", "factor", "modulus", "share"] sp__law_is_right := by
  refine T.F__law_is_right.ok sc_law_is_right (fun vs H Q E h => ?_) (fun cdv A outer s H vs Q E hr h => ?_)
  · obtain ⟨h, c, cells, f, m, s, rfl, _⟩ := h
    rfl
  · obtain ⟨h, c, cells, f, m, s, rfl, hh, f2, fm, s1, sf, m4, mz, k⟩ := h
    have nd := sc_law_is_right.nd
    obtain ⟨p, q, last, first, D⟩ := drw f2 fm s1 sf m4 mz
    refine ⟨_, (pss_cons (ps_asg (pe_tup (pa_cons (pe_call (ok_law_fraction T) (hr.mono (by decide)) (by rfl) T.g__law_fraction T.F__law_fraction.kp T.b__law_fraction .nil pass0 (pa_cons (pv 2) (pa_cons (pv 1) pa_nil))) (pa_cons (pe_call (ok_law_fraction T) (hr.mono (by decide)) (by rfl) T.g__law_fraction T.F__law_fraction.kp T.b__law_fraction .nil pass0 (pa_cons (pv 2) (pa_cons (pe_op op_sub (pv 1) (pv 3)) pa_nil))) pa_nil))) (pg_tup rfl (pgs_cons (pg_name (i := 4) nd rfl (Or.inr rfl)) (pgs_cons (pg_name (i := 5) nd rfl (Or.inr rfl)) pgs_nil)))) (pss_cons (ps_set (i := 6) nd rfl (Or.inl rfl) (pe_call (ok_rule_system T) (hr.mono (by decide)) (by rfl) T.g_rule_system T.F_rule_system.kp T.b_rule_system .nil pass0 (pa_cons (pv 1) (pa_cons (pv 2) (pa_cons (pv 3) pa_nil))))) (pss_cons (ps_if (pt_cmpR (sys_ne T hr) (pv 6) (pe_call (ok_span_system T) (hr.mono (by decide)) (by rfl) T.g_span_system T.F_span_system.kp T.b_span_system .nil pass0 (pa_cons (pv 4) (pa_cons (pv 5) pa_nil))) (nomark _)) (pss_one (ps_ret pe_bl)) pss_nil) (pss_cons (ps_setLc (i := 7) (own := [("number", 14)]) (by rfl) nd rfl rfl (sw_true rfl rfl rfl (by decide +kernel)) (pi_range1 rfl T.z_range (pa_cons (pe_op op_add (pv 2) pe_int) pa_nil)) (blkOk_by (own := [("number", 14)]) (N := n_law_is_right) (sc := defScope s_law_is_right) (by decide +kernel)) (fun _ _ _ _ _ => (pg_name (i := 14) nd rfl (Or.inl rfl))) (fun _ _ _ _ _ => pts_one (pt_val (pe_call (ok_law_keeps T) (hr.mono (by decide)) (by rfl) T.g__law_keeps T.F__law_keeps.kp T.b__law_keeps .nil pass0 (pa_cons (pv 1) (pa_cons (pv 2) (pa_cons (pv 3) (pa_cons (pv 14) pa_nil))))))) (fun _ _ _ _ _ => (pv 14))) (pss_cons (ps_if (pt_cmpR (op_neD hr.units) (pv 7) (pe_lc (own := [("number", 14)]) (by rfl) nd (pi_range1 rfl T.z_range (pa_cons (pe_op op_add (pv 2) pe_int) pa_nil)) (blkOk_by (own := [("number", 14)]) (N := n_law_is_right) (sc := defScope s_law_is_right) (by decide +kernel)) (fun _ _ _ _ _ => (pg_name (i := 14) nd rfl (Or.inl rfl))) (fun _ _ _ _ _ => pts_one (pt_val (pe_call (ok_law_is_in_span T) (hr.mono (by decide)) (by rfl) T.g__law_is_in_span T.F__law_is_in_span.kp T.b__law_is_in_span .nil pass0 (pa_cons (pv 4) (pa_cons (pv 5) (pa_cons (pv 14) pa_nil)))))) (fun _ _ _ _ _ => (pv 14))) (nomark _)) (pss_one (ps_ret pe_bl)) pss_nil) (pss_cons (ps_setLc (i := 8) (own := [("number", 14)]) (by rfl) nd rfl rfl (sw_true rfl rfl rfl (by decide +kernel)) (pi_list (pv 7)) (blkOk_by (own := [("number", 14)]) (N := n_law_is_right) (sc := defScope s_law_is_right) (by decide +kernel)) (fun _ _ _ _ _ => (pg_name (i := 14) nd rfl (Or.inl rfl))) (fun _ _ _ _ _ => pts_one (pt_cmpR op_gt (pv 14) pe_int (nomark _))) (fun _ _ _ _ _ => (pv 14))) (pss_cons (ps_asg (pe_tup (pa_cons (pe_callTy (call_dictP rfl) (by rfl) T.z_dict (by decide +kernel) (pa_cons (pe_lc (own := [("coin", 11)]) (by rfl) nd (pi_list (pv 8)) (blkOk_by (own := [("coin", 11)]) (N := n_law_is_right) (sc := defScope s_law_is_right) (by decide +kernel)) (fun _ _ _ _ _ => (pg_name (i := 11) nd rfl (Or.inl rfl))) (fun _ _ _ _ _ => pts_nil) (fun _ _ _ _ _ => (pe_tup (pa_cons (pv 11) (pa_cons pe_bl pa_nil))))) pa_nil)) (pa_cons (pe_lst pa_nil) pa_nil))) (pg_tup rfl (pgs_cons (pg_name (i := 9) nd rfl (Or.inr rfl)) (pgs_cons (pg_name (i := 10) nd rfl (Or.inl rfl)) pgs_nil)))) (pss_cons (ps_for PassesOwn.never rfl (pi_list (pv 8)) (pg_name (i := 11) nd rfl (Or.inr rfl)) (pss_cons (ps_set (i := 12) nd rfl (Or.inl rfl) (pe_callB (cr_any rfl) (by rfl) T.z_any (by decide +kernel) (pa_cons (pe_lc (own := [("other", 19)]) (by rfl) nd (pi_list (pv 10)) (blkOk_by (own := [("other", 19)]) (N := n_law_is_right) (sc := defScope s_law_is_right) (by decide +kernel)) (fun _ _ _ _ _ => (pg_name (i := 19) nd rfl (Or.inl rfl))) (fun _ _ _ _ _ => pts_nil) (fun _ _ _ _ _ => (pe_cmp (pc_din (hu_of hr) (pe_op op_sub (pv 11) (pv 19)) (pv 9))))) pa_nil))) (pss_one (ps_expr (pe_bm PySem.F.plainAttrs_list PySem.F.slot_list_extend PySem.F.type_list_extend mt_extend (pv 10) (pa_cons (pe_ifExp (pt_val (pv 12)) (pe_lst pa_nil) (pe_lst (pa_cons (pv 11) pa_nil))) pa_nil)))))) (pss_cons (ps_if (pt_cmpR (op_neD hr.units) (pe_callTy call_list_of (by rfl) T.z_list (by decide +kernel) (pa_cons (pe_fld (pv 6) rfl) pa_nil)) (pv 10) (nomark _)) (pss_one (ps_ret pe_bl)) pss_nil) (pss_cons (ps_if (PW.pt (pw_or (pt_cmpR op_ne (pe_call (ok_least_kept T) (hr.mono (by decide)) (by rfl) T.g_least_kept T.F_least_kept.kp T.b_least_kept .nil pass0 (pa_cons (pv 1) (pa_cons (pv 2) (pa_cons (pv 3) pa_nil)))) (pe_ix ix_list (pv 8) pe_int (fun _ _ => rfl)) (nomark _)) (pw_or1 (pt_not (pt_val (pe_callB (cr_all rfl) (by rfl) T.z_all (by decide +kernel) (pa_cons (pe_lc (own := [("coin", 11)]) (by rfl) nd (pi_list (pv 10)) (blkOk_by (own := [("coin", 11)]) (N := n_law_is_right) (sc := defScope s_law_is_right) (by decide +kernel)) (fun _ _ _ _ _ => (pg_name (i := 11) nd rfl (Or.inl rfl))) (fun _ _ _ _ _ => pts_nil) (fun _ _ _ _ _ => (pe_cmpR (op_in_seqK (K := K) rfl) (pv 11) (pe_call (ok_chain_coins T) (hr.mono (by decide)) (by rfl) T.g_chain_coins T.F_chain_coins.kp T.b_chain_coins .nil pass0 (pa_cons (pv 4) (pa_cons (pv 5) pa_nil))) rfl))) pa_nil))))))) (pss_one (ps_ret pe_bl)) pss_nil) (pss_cons (ps_for PassesOwn.never rfl (pi_range1 rfl T.z_range (pa_cons pe_int pa_nil)) (pg_name (i := 13) nd rfl (Or.inl rfl)) (pss_cons (ps_set (i := 14) nd rfl (Or.inl rfl) (pe_call (ok_law_some T) (hr.mono (by decide)) (by rfl) T.g__law_some T.F__law_some.kp T.b__law_some .nil pass0 (pa_cons (pv 0) (pa_cons (pe_lst (pa_cons (pe_call (ok_law_draw T) (hr.mono (by decide)) (by rfl) T.g__law_draw T.F__law_draw.kp T.b__law_draw .nil pass0 (pa_cons (pv 0) (pa_cons (pe_op op_mul pe_int (pv 2)) pa_nil))) (pa_cons (pe_call (ok_law_draw T) (hr.mono (by decide)) (by rfl) T.g__law_draw T.F__law_draw.kp T.b__law_draw .nil pass0 (pa_cons (pv 0) (pa_cons (pe_op op_pow pe_int pe_int) pa_nil))) (pa_cons (pe_op op_sub (pv 2) pe_int) pa_nil)))) pa_nil)))) (pss_cons (ps_set (i := 15) nd rfl (Or.inl rfl) (pe_call (ok_law_keeps T) (hr.mono (by decide)) (by rfl) T.g__law_keeps T.F__law_keeps.kp T.b__law_keeps .nil pass0 (pa_cons (pv 1) (pa_cons (pv 2) (pa_cons (pv 3) (pa_cons (pv 14) pa_nil)))))) (pss_cons (ps_if (pt_cmpR (op_neD hr.units) (pe_lst (pa_cons (pe_call (ok_rule_holds T) (hr.mono (by decide)) (by rfl) T.g_rule_holds T.F_rule_holds.kp T.b_rule_holds .nil pass0 (pa_cons (pv 1) (pa_cons (pv 2) (pa_cons (pv 3) (pa_cons (pv 14) pa_nil))))) (pa_cons (pe_call (ok_span_pays T) (hr.mono (by decide)) (by rfl) T.g_span_pays T.F_span_pays.kp T.b_span_pays .nil pass0 (pa_cons (pv 4) (pa_cons (pv 5) (pa_cons (pv 14) pa_nil)))) pa_nil))) (pe_lst (pa_cons (pv 15) (pa_cons (pv 15) pa_nil))) (nomark _)) (pss_one (ps_ret pe_bl)) pss_nil) (pss_one (ps_if (pt_cmpR op_ne (pe_call (ok_pays T) (hr.mono (by decide)) (by rfl) T.g_pays T.F_pays.kp T.b_pays .nil pass0 (pa_cons (pv 6) (pa_cons (pv 14) pa_nil))) (pv 15) (nomark _)) (pss_one (ps_ret pe_bl)) pss_nil)))))) (pss_cons (ps_set (i := 16) nd rfl (Or.inl rfl) (pe_op op_add pe_int (pe_call (ok_law_draw T) (hr.mono (by decide)) (by rfl) T.g__law_draw T.F__law_draw.kp T.b__law_draw .nil pass0 (pa_cons (pv 0) (pa_cons pe_int pa_nil))))) (pss_cons (ps_if (pt_cmpR (sys_ne T hr) (pe_call (ok_rule_system T) (hr.mono (by decide)) (by rfl) T.g_rule_system T.F_rule_system.kp T.b_rule_system .nil pass0 (pa_cons (pe_op op_add (pv 1) (pe_op op_mul (pv 16) (pv 2))) (pa_cons (pv 2) (pa_cons (pv 3) pa_nil)))) (pv 6) (nomark _)) (pss_one (ps_ret pe_bl)) pss_nil) (pss_cons (ps_if (pt_cmpR op_gt (pv 3) pe_int (nomark _)) (pss_one (ps_ret (pe_or (pe_cmpR op_gt (pe_op op_mul (pv 16) (pv 2)) pe_int (nomark _)) (pe_one (pe_cmpR (sys_eq T hr) (pe_call (ok_rule_system T) (hr.mono (by decide)) (by rfl) T.g_rule_system T.F_rule_system.kp T.b_rule_system .nil pass0 (pa_cons (pe_op op_mul (pv 16) (pv 1)) (pa_cons (pe_op op_mul (pv 16) (pv 2)) (pa_cons (pe_op op_mul (pv 16) (pv 3)) pa_nil)))) (pv 6) (nomark _)))))) pss_nil) (pss_cons (ps_set (i := 17) nd rfl (Or.inl rfl) (pe_op op_fdiv (pe_op op_sub (pe_op op_sub (pe_op op_add (pv 2) pe_int) (pe_call (ok_law_divisor T) (hr.mono (by decide)) (by rfl) T.g__law_divisor T.F__law_divisor.kp T.b__law_divisor .nil pass0 (pa_cons (pv 1) (pa_cons (pv 2) pa_nil)))) (pe_call (ok_law_divisor T) (hr.mono (by decide)) (by rfl) T.g__law_divisor T.F__law_divisor.kp T.b__law_divisor .nil pass0 (pa_cons (pe_op op_sub (pv 1) pe_int) (pa_cons (pv 2) pa_nil)))) pe_int)) (pss_cons (ps_set (i := 18) nd rfl (Or.inl rfl) (pe_call (ok_twin_factor T) (hr.mono (by decide)) (by rfl) T.g_twin_factor T.F_twin_factor.kp T.b_twin_factor .nil pass0 (pa_cons (pv 1) (pa_cons (pv 2) pa_nil)))) (pss_cons (ps_if (PW.pt (pw_or (pt_cmpR (op_neD hr.units) (pe_lst (pa_cons (pe_call (ok_rule_gaps T) (hr.mono (by decide)) (by rfl) T.g_rule_gaps T.F_rule_gaps.kp T.b_rule_gaps .nil pass0 (pa_cons (pv 1) (pa_cons (pv 2) pa_nil))) (pa_cons (pe_call (ok_gaps_number T) (hr.mono (by decide)) (by rfl) T.g_gaps_number T.F_gaps_number.kp T.b_gaps_number .nil pass0 (pa_cons (pv 6) pa_nil)) pa_nil))) (pe_lst (pa_cons (pv 17) (pa_cons (pv 17) pa_nil))) (nomark _)) (pw_or1 (pt_cmpR op_ne (pv 18) (pe_op op_mod (pe_callTy call_int1 (by rfl) T.z_int (by decide +kernel) (pa_cons (pe_op op_sub (pe_op op_add (pv 2) pe_int) (pv 1)) pa_nil)) (pv 2)) (nomark _))))) (pss_one (ps_ret pe_bl)) pss_nil) (pss_cons (ps_set (i := 18) nd rfl (Or.inl rfl) (pe_ifExp (pt_cmpR op_gt (pv 18) pe_int (nomark _)) (pv 18) (pv 2))) (pss_one (ps_ret (pe_and (pe_cmpR (sys_eq T hr) (pe_call (ok_rule_system T) (hr.mono (by decide)) (by rfl) T.g_rule_system T.F_rule_system.kp T.b_rule_system .nil pass0 (pa_cons (pv 18) (pa_cons (pv 2) (pa_cons pe_int pa_nil)))) (pv 6) (nomark _)) (pe_one (pe_cmpR op_isBl (pe_call (ok_same_rule T) (hr.mono (by decide)) (by rfl) T.g_same_rule T.F_same_rule.kp T.b_same_rule .nil pass0 (pa_cons (pv 1) (pa_cons (pv 18) (pa_cons (pv 2) pa_nil)))) pe_bl (nomark _)))))))))))))))))))))))), ?_⟩
    have R := rule_ok f2 fm s1 sf mz
    refine q_tupUU (xs := frV p) (ys := frV q) ?_ ?_ fun lo hi H1 e1 hlo hhi => ?_
    · have := su_frac (H := H) (t := m) (s := f) (by omega) (by have := Nat.gcd_le_right m (n := f) (by omega); omega)
      rw [← D.ep] at this
      exact eu_call (ea_cons (ev_var rfl) (ea_cons (ev_var rfl) ea_nil)) this
    · have := su_frac (H := H) (t := m) (s := f - s) (by omega) (by have := Nat.gcd_le_right m (n := f - s) (by omega); omega)
      rw [← D.eq] at this
      exact eu_call (ea_cons (ev_var rfl) (ea_cons (ev_is (ev_op (ev_var rfl) (ev_var rfl) rv_I0) (congrArg V.int (show (f : Int) - (s : Int) = ((f - s : Nat) : Int) by omega))) ea_nil)) this
    have flo : FrAt H1 lo p := hlo
    have fhi : FrAt H1 hi q := hhi
    refine q_asgCall (ea_cons (ev_var rfl) (ea_cons (ev_var rfl) (ea_cons (ev_var rfl) ea_nil))) fun H2 e2 => ⟨f, m, s, last, first, rfl, R, by omega, D.kept, D.ll, D.fl, fun sy H3 e3 hsy => ?_⟩
    have e03 := (e1.trans e2).trans e3
    have flo3 := (flo.ex e2).ex e3
    have fhi3 := (fhi.ex e2).ex e3
    refine q_if (b := false) (et_test ?_) (fun z => by cases z) fun _ H4 e4 => ?_
    · refine ev_neCall (ev_var rfl) (ea_cons (ev_var rfl) (ea_cons (ev_var rfl) ea_nil)) fun Ha Q ea kk => ?_
      have bq : ∀ n, kp f m s n = btwB p q n := fun n => (D.btw n).symm
      have ktb : Kept (btwB p q) last first := (funext bq : kp f m s = btwB p q) ▸ D.kept
      exact ⟨lo, hi, p, q, _, last, first, rfl, flo3.ex ea, fhi3.ex ea, D.span, rfl, by rw [D.B]; have := Nat.div_le_self m s; omega, ktb, by rw [D.B]; exact D.lB, by rw [D.B]; exact D.fB, by have := D.fl; omega, fun y Hb eb hy => kk _ Hb eb (sys_ins ((hsy.ex ea).ex eb) hy bq)⟩
    have flo4 := flo3.ex e4
    have fhi4 := fhi3.ex e4
    have sy4 := hsy.ex e4
    refine q_asgL (el_is (el_lcR1 (n := ((m + 1 : Nat) : Int)) (kp f m s) (fun n => V.int (n : Int)) (ea_cons (ev_op (ev_var rfl) ev_c rv_I0) ea_nil) ⟨by omega, by omega⟩ (fun v => rfl) (fun j Hj ej hj => ?_) (fun j Hj ej hj _ => ev_var rfl)) (given_paid (kp f m s) m)) fun pd H5 npd e5 hpd => ?_
    · exact et_B (ev_call (ea_cons (ev_var rfl) (ea_cons (ev_var rfl) (ea_cons (ev_var rfl) (ea_cons (ev_var rfl) ea_nil)))) (sv_law_keeps (by omega) (by omega)))
    have flo5 := flo4.ex e5
    have fhi5 := fhi4.ex e5
    refine q_if (b := false) (et_test (ev_neSame (K := K) (cs := paidL (kp f m s) m) (ev_var rfl) (sq_of hpd) (el_is (el_lcR1 (n := ((m + 1 : Nat) : Int)) (kp f m s) (fun n => V.int (n : Int)) (ea_cons (ev_op (ev_var rfl) ev_c rv_I0) ea_nil) ⟨by omega, by omega⟩ (fun v => rfl) (fun j Hj ej hj => ?_) (fun j Hj ej hj _ => ev_var rfl)) (given_paid (kp f m s) m)))) (fun z => by cases z) fun _ H6 e6 => ?_
    · rw [← D.btw j]
      exact et_B (ev_call (ea_cons (ev_var rfl) (ea_cons (ev_var rfl) (ea_cons (ev_var rfl) ea_nil))) (sv_in_span (flo5.ex ej) (fhi5.ex ej) D.span (by omega)))
    have flo6 := flo5.ex e6
    have fhi6 := fhi5.ex e6
    have hpd6 := e6 _ _ hpd
    refine q_asgL (el_is (el_lcL (K := K) (a := pd) (xs := nv (paidL (kp f m s) m)) (fun i => decide (0 < (paidL (kp f m s) m).getD i 0)) (fun i => V.int (((paidL (kp f m s) m).getD i 0 : Nat) : Int)) (ev_var rfl) (sq_of hpd6) (by rw [nv_len]; have : (paidL (kp f m s) m).length ≤ (List.range (m + 1)).length := List.length_filter_le _ _; rw [List.length_range] at this; omega) (fun v => rfl) (fun i x Hj ej hx => ?_) (fun i x Hj ej hx _ => ?_)) (show _ = nv (rowOf (kp f m s) m) by rw [given_filter _ fun x => decide (0 < x), paid_row])) fun cn H7 ncn e7 hcn => ?_
    · obtain ⟨c, hc, rfl⟩ := nv_get hx
      have eg : (paidL (kp f m s) m).getD i 0 = c := by rw [List.getD_eq_getElem?_getD, hc]; rfl
      rw [eg]
      exact et_is (et_test (ev_op (x := .int (c : Int)) (y := .int 0) (ev_var rfl) ev_c rv_I0)) (decide_eq_decide.mpr (by omega))
    · obtain ⟨c, hc, rfl⟩ := nv_get hx
      have eg : (paidL (kp f m s) m).getD i 0 = c := by rw [List.getD_eq_getElem?_getD, hc]; rfl
      rw [eg]
      exact ev_var rfl
    have rl := row_len (kp f m s) m
    refine q_held (K := K) (cs := rowOf (kp f m s) m) (fun Q q => lc_keys (K := K) (cs := rowOf (kp f m s) m) (ev_var rfl) (sq_of hcn) (by omega) (fun x => rfl) (fun x => rfl) H7 (Ex.refl H7) Q q) fun hd ne kvs H8 nhd nne hdne e8 hhd hkeys hne => ?_
    have hne0 : H8 ne = some (.lst (nv (((rowOf (kp f m s) m).take 0).filter fun c => decide (c ∈ gens (kp f m s) last first)))) := hne
    refine q_forLn (K := K) (a := cn) (xs := nv (rowOf (kp f m s) m)) (ev_var rfl) (sq_of (e8 _ _ hcn))
      (fun i σ' H' => ∃ a b, σ' = [some (.ref h), some (.int f), some (.int m), some (.int s), some (.ref lo), some (.ref hi), some (.ref sy), some (.ref pd), some (.ref cn), some (.ref hd), some (.ref ne), a, b, none, none, none, none, none, none, none] ∧ Ex H7 H' ∧ H' hd = some (.dK kvs) ∧ H' ne = some (.lst (nv (((rowOf (kp f m s) m).take i).filter fun c => decide (c ∈ gens (kp f m s) last first)))))
      (fun H9 e9 => ⟨none, none, rfl, e8.trans e9, e9 _ _ hhd, e9 _ _ hne0⟩) (fun i σ' H' _ ⟨_, _, _, e, _⟩ => sq_of (e _ _ hcn)) (fun i x σ' H' hx hp' => ?_) (fun σ' H' hp' => ?_)
    · obtain ⟨a, b, rfl, e, h3, h4⟩ := hp'
      obtain ⟨c', hcc, rfl⟩ := nv_get hx
      have hany := held_any D hkeys hcc
      have tk : ((rowOf (kp f m s) m).take (i + 1)).filter (fun c => decide (c ∈ gens (kp f m s) last first)) = ((rowOf (kp f m s) m).take i).filter (fun c => decide (c ∈ gens (kp f m s) last first)) ++ (if decide (c' ∈ gens (kp f m s) last first) = true then [c'] else []) := by
        rw [take_next hcc, List.filter_append]
        congr 1
        by_cases z : c' ∈ gens (kp f m s) last first
        · simp [z]
        · simp [z]
      have gl : (((rowOf (kp f m s) m).take i).filter fun c => decide (c ∈ gens (kp f m s) last first)).length ≤ m := by
        have := List.length_filter_le (fun c => decide (c ∈ gens (kp f m s) last first)) ((rowOf (kp f m s) m).take i)
        rw [List.length_take] at this
        omega
      rw [tk]
      generalize ((rowOf (kp f m s) m).take i).filter (fun c => decide (c ∈ gens (kp f m s) last first)) = G at h4 hany gl
      refine q_asg (v := .bl (!decide (c' ∈ gens (kp f m s) last first))) (ev_is (ev_anyN (K := K) (bs := (List.range G.length).map fun j => (valV kvs (Sum.inl ((c' : Int) - ((G.getD j 0 : Nat) : Int)))).isSome) (el_is (el_lcL (K := K) (a := ne) (xs := nv G) (fun _ => true) (fun j => V.bl (valV kvs (Sum.inl ((c' : Int) - ((G.getD j 0 : Nat) : Int)))).isSome) (ev_var rfl) (sq_of h4) (by rw [nv_len]; omega) (fun x => rfl) (fun j x Hj ej hx => et_yes) (fun j x Hj ej hx _ => ?_)) ?_)) ?_) fun H9 e9 => ?_
      · obtain ⟨d, hd', rfl⟩ := nv_get hx
        have eg : G.getD j 0 = d := by rw [List.getD_eq_getElem?_getD, hd']; rfl
        rw [eg]
        exact ev_din (ev_op (x := .int (c' : Int)) (y := .int (d : Int)) (ev_var rfl) (ev_var rfl) rv_I0) (ev_var rfl) (ej _ _ h3)
      · rw [given_all, nv_len, List.map_map]
        rfl
      · rw [any_range 0 (fun g => (valV kvs (Sum.inl ((c' : Int) - ((g : Nat) : Int)))).isSome) G, hany]
      · refine s_ext (K := K) (l := ne) (xs := nv G) (ys := nv (if decide (c' ∈ gens (kp f m s) last first) = true then [c'] else [])) (e9 _ _ h4) (ev_var rfl) (el_if (b := !decide (c' ∈ gens (kp f m s) last first)) (et_B (ev_var rfl)) (fun hb => ?_) (fun hb => ?_)) ?_ fun H10 e10 => ⟨_, _, rfl, ((e.trans e9).trans e10).mut nne, ?_, ?_⟩
        · have : decide (c' ∈ gens (kp f m s) last first) = false := by simpa using hb
          rw [this]
          exact el_lst ea_nil (by show 0 ≤ 100000; decide)
        · have : decide (c' ∈ gens (kp f m s) last first) = true := by simpa using hb
          rw [this]
          exact el_lst (ea_cons (ev_var rfl) ea_nil) (by show 1 ≤ 100000; decide)
        · rw [nv_len, nv_len]
          have : (if decide (c' ∈ gens (kp f m s) last first) = true then [c'] else []).length ≤ 1 := by split <;> simp
          omega
        · rw [upd_ne hdne]
          exact e10 _ _ (e9 _ _ h3)
        · rw [upd_same, nv_app]
    · obtain ⟨a, b, rfl, e, h3, h4⟩ := hp'
      rw [nv_len, List.take_length, drw_row D] at h4
      have sy10 := (((((hsy.ex e4).ex e5).ex e6).ex e7).ex e)
      have flo10 := ((flo6.ex e7).ex e)
      have fhi10 := ((fhi6.ex e7).ex e)
      have hcn10 := e _ _ hcn
      have hh10 := hh.ex (((((e03.trans e4).trans e5).trans e6).trans e7).trans e)
      have ex10 := ((((e03.trans e4).trans e5).trans e6).trans e7).trans e
      obtain ⟨m', tl', W', gE, sA⟩ := id sy10
      have cl : Cls K T.a_System := T.i_System.cl
      obtain ⟨dx, b1, c1, a1, i1, i2, i3⟩ := sA.at_
      refine q_if (b := false) (et_test (ev_neSame1 (K := K) (el_is (el_listOfT (ev_fld (ev_var rfl) i1 cl T.n_System_needed_coins (sysF_need _ _ _)) (st_of i2)) (congrArg nv gE)) (ev_var rfl) (sq_of h4))) (fun z => by cases z) fun _ H11 e11 => ?_
      have lk := D.ll
      have fk := D.fl
      have hcn11 := e11 _ _ hcn10
      have h411 := e11 _ _ h4
      have gz := gens_len D.kept
      refine q_if (b := false) (et_is (et_or (a := false) (b := false) (et_test (ev_is (ev_op (x := .int (first : Nat)) (y := .int (first : Nat)) (ev_call (ea_cons (ev_var rfl) (ea_cons (ev_var rfl) (ea_cons (ev_var rfl) ea_nil))) (sv_least_kept R (by omega) D.kept.pos (by omega) D.kept.one D.kept.low)) (ev_ixL (K := K) (j := 0) (xs := nv (rowOf (kp f m s) m)) (v := .int (first : Nat)) (ev_var rfl) (sq_of hcn11) ev_c ?_) (rv_ne rfl)) ?_)) fun _ => et_is (et_not (a := true) (et_B (ev_is (ev_allN (K := K) (bs := (List.range (gens (kp f m s) last first).length).map fun _ => true) (el_is (el_lcL (K := K) (a := ne) (xs := nv (gens (kp f m s) last first)) (fun _ => true) (fun _ => V.bl true) (ev_var rfl) (sq_of h411) (by rw [nv_len]; omega) (fun x => rfl) (fun j x Hj ej hx => et_yes) (fun j x Hj ej hx _ => ?_)) ?_)) ?_))) rfl) rfl) (fun z => by cases z) fun _ H12 e12 => ?_
      · have := row_head (N := m) D.kept.pos (by omega) D.kept.one D.kept.low
        unfold nv
        rw [List.getElem?_map, this]
        rfl
      · simp
      · obtain ⟨g, hg, rfl⟩ := nv_get hx
        exact ev_inChain D (ev_var rfl) (ea_cons (ev_var rfl) (ea_cons (ev_var rfl) ea_nil)) ((flo10.ex e11).ex ej) ((fhi10.ex e11).ex ej) (List.mem_of_getElem? hg)
      · rw [given_all, nv_len, List.map_map]
        rfl
      · simp
      have flo12 := (flo10.ex e11).ex e12
      have fhi12 := (fhi10.ex e11).ex e12
      have sy12 := (sy10.ex e11).ex e12
      have hh12 := (hh10.ex e11).ex e12
      have ex12 := (ex10.trans e11).trans e12
      refine q_forR1 (n := 4) (ea_cons ev_c ea_nil) ⟨by omega, by omega⟩
        (fun i σ' H' => ∃ x y z, σ' = [some (.ref h), some (.int f), some (.int m), some (.int s), some (.ref lo), some (.ref hi), some (.ref sy), some (.ref pd), some (.ref cn), some (.ref hd), some (.ref ne), a, b, x, y, z, none, none, none, none] ∧ Bt h H12 H' ∧ HandC H' h c cells)
        (fun H13 e13 => ⟨none, none, none, rfl, .of e13, hh12.ex e13⟩) (fun i σ' H' hi' hp' => ?_) (fun σ' H' hp' => ?_)
      · obtain ⟨x, y, z, rfl, bt, hhc⟩ := hp'
        refine ⟨_, rfl, (ed_draw (many := 3 * m) rfl (fun Hj => ev_is (ev_op ev_c (ev_var rfl) (rv_mul (.inl ⟨by omega, by omega⟩))) (congrArg V.int (by omega))) (by omega) (by omega)) _ hhc _ fun v1 H13 w1 b13 hh13 => (ed_draw (many := 1000000000000) rfl (fun Hj => ev_op ev_c ev_c (rv_I ⟨by decide, by decide, by decide⟩)) (by omega) (by omega)) _ hh13 _ fun v2 H14 w2 b14 hh14 => ?_⟩
        refine (ev_op (x := .int (m : Int)) (y := .int 1) (ev_var rfl) ev_c rv_I0 : Ev _ _ H14 _) H14 (Ex.refl H14) _ fun H15 e15 => ⟨by show 3 ≤ sizeLine; decide, fun l nl => ?_⟩
        have lne : l ≠ h := ((hh14.ex e15).ref nl).1
        refine ⟨h, c, l, cells, _, rfl, (hh14.ex e15).ex (Ex.new nl), upd_same, lne, by show 0 < 3; decide, by show 3 ≤ 1000; decide, fun r v H16 hv b16 hh16 => ?_⟩
        have btt : Bt h H12 H16 := ((((bt.trans b13).trans b14).ex e15).ex (Ex.new nl)).trans b16
        obtain ⟨n, rfl, hn⟩ : ∃ n : Nat, v = .int (n : Int) ∧ n ≤ 1000000000000 := by
          obtain ⟨r1, rfl, l1⟩ := w1
          obtain ⟨r2, rfl, l2⟩ := w2
          match r, hv with
          | 0, hv => exact ⟨r1, (Option.some.inj hv).symm, by omega⟩
          | 1, hv => exact ⟨r2, (Option.some.inj hv).symm, by omega⟩
          | 2, hv => exact ⟨m - 1, by rw [← Option.some.inj hv]; exact congrArg V.int (by omega), by omega⟩
        have flo16 := flo12.bt hh12 btt
        have fhi16 := fhi12.bt hh12 btt
        have sy16 := sy12.bt hh12 btt
        refine q_asg (v := .bl (kp f m s n)) (ev_call (ea_cons (ev_var rfl) (ea_cons (ev_var rfl) (ea_cons (ev_var rfl) (ea_cons (ev_var rfl) ea_nil)))) (sv_law_keeps (by omega) (by omega))) fun H17 e17 => ?_
        have spv : SpV sp_span_pays [.ref lo, .ref hi, .int (n : Int)] H17 (.bl (kp f m s n)) := by
          rw [← D.btw n]
          exact sv_in_span (flo16.ex e17) (fhi16.ex e17) D.span (by omega)
        refine q_if (b := false) (et_test (ev_neLL (K := K) (xs := [.bl (kp f m s n), .bl (kp f m s n)]) (ds := [.bool (kp f m s n), .bool (kp f m s n)]) (el_lst (ea_cons (ev_call (ea_cons (ev_var rfl) (ea_cons (ev_var rfl) (ea_cons (ev_var rfl) (ea_cons (ev_var rfl) ea_nil)))) (sv_rule_holds R (by omega))) (ea_cons (ev_call (ea_cons (ev_var rfl) (ea_cons (ev_var rfl) (ea_cons (ev_var rfl) ea_nil))) spv) ea_nil)) (by show 2 ≤ 100000; decide)) (el_lst (ea_cons (ev_var rfl) (ea_cons (ev_var rfl) ea_nil)) (by show 2 ≤ 100000; decide)) (fun Hj => .cons (.bl _) (.cons (.bl _) .nil)) rfl)) (fun z => by cases z) fun _ H18 e18 => ?_
        obtain ⟨m2, tl2, W2, gE2, sA2⟩ := id (sy16.ex (e17.trans e18))
        have pv2 : pbI (m2 :: tl2) (n : Int) = kp f m s n := by
          rw [pbI_nat, gE2, Bool.eq_iff_iff, pb_iff]
          exact gens_pay D.kept n
        refine s_if (b := false) (et_test (ev_is (ev_op (x := .bl (kp f m s n)) (y := .bl (kp f m s n)) (ev_call (ea_cons (ev_var rfl) (ea_cons (ev_var rfl) ea_nil)) (pv2 ▸ sv_pays_of sA2 (n : Int))) (ev_var rfl) (rv_ne rfl)) (by simp))) (fun z => by cases z) fun _ H19 e19 => ?_
        exact ⟨_, _, _, rfl, ((btt.ex e17).ex e18).ex e19, ((hh16.ex e17).ex e18).ex e19⟩
      · obtain ⟨x, y, z, rfl, bt, hhc⟩ := hp'
        refine q_asgD (W := fun v => ∃ o : Nat, v = .int (o : Int) ∧ 2 ≤ o ∧ o ≤ 6) (ed_op (ed_of fun Hj => ev_c) (ed_draw (many := 5) rfl (fun Hj => ev_c) (by omega) (by omega)) fun u v hu hv => ?_) hhc fun v H13 hv b13 hh13 => ?_
        · obtain ⟨r, rfl, hr⟩ := hv
          exact ⟨2, r, hu, rfl, 2 + r, congrArg V.int (by omega), by omega, by omega⟩
        obtain ⟨o, rfl, o2, o6⟩ := hv
        have sy13 := sy12.bt hh12 (bt.trans b13)
        have hB : ∀ H', Ex H13 H' → Bt h H H' := fun H' e' => (Bt.ex1 ex12 (bt.trans b13)).ex e'
        have om : o * m ≤ 6 * m := Nat.mul_le_mul_right _ o6
        have mo : ((o : Int) * (m : Int)) = ((o * m : Nat) : Int) := (Int.natCast_mul o m).symm
        have kmore : kp (f + o * m) m s = kp f m s := funext fun n => kp_more f m s o n
        refine q_if (b := false) (et_test (ev_neCall1 (y := .ref sy) (ea_cons (ev_is (ev_op (ev_var rfl) (ev_op (x := .int (o : Int)) (y := .int (m : Int)) (ev_var rfl) (ev_var rfl) (rv_mul (.inr ⟨by omega, by omega⟩))) rv_I0) (congrArg V.int (show (f : Int) + (o : Int) * (m : Int) = ((f + o * m : Nat) : Int) by omega))) (ea_cons (ev_var rfl) (ea_cons (ev_var rfl) ea_nil))) (fun Hj Q ej kk => ⟨f + o * m, m, s, last, first, rfl, ⟨by omega, by omega, by omega, by omega, by omega, by omega⟩, by omega, kmore ▸ D.kept, D.ll, D.fl, fun x' Hk ek hx => kk (.ref x') Hk ek fun H3 e3 => sys_ins (hx.ex e3) ((sy13.ex (ej.trans ek)).ex e3) fun n => kp_more f m s o n⟩) (ev_var rfl))) (fun z => by cases z) fun _ H14 e14 => ?_
        have sy14 := sy13.ex e14
        refine q_if (b := decide (1 < s)) (et_is (et_test (ev_op (x := .int (s : Int)) (y := .int 1) (ev_var rfl) ev_c rv_I0)) (decide_eq_decide.mpr (by omega))) (fun hb H15 e15 => ?_) fun hb H15 e15 => ?_
        · have sy15 := sy14.ex e15
          have ktimes : kp (o * f) (o * m) (o * s) = kp f m s := funext fun n => kp_times (by omega) f m s n
          have so := of_decide_eq_true hb
          have fo : ((o : Int) * (f : Int)) = ((o * f : Nat) : Int) := (Int.natCast_mul o f).symm
          have os : ((o : Int) * (s : Int)) = ((o * s : Nat) : Int) := (Int.natCast_mul o s).symm
          have f1 : o * f ≤ 6 * f := Nat.mul_le_mul_right _ o6
          have f2' : 1 * f ≤ o * f := Nat.mul_le_mul_right _ (by omega)
          have s1' : o * s ≤ 6 * s := Nat.mul_le_mul_right _ o6
          have s2' : 1 * s ≤ o * s := Nat.mul_le_mul_right _ (by omega)
          have m2' : 1 * m ≤ o * m := Nat.mul_le_mul_right _ (by omega)
          refine s_ret (v := .bl true) (ev_is (ev_orV (a := decide (600 < o * m)) (b := true) (ev_is (ev_op (ev_op (x := .int (o : Int)) (y := .int (m : Int)) (ev_var rfl) (ev_var rfl) (rv_mul (.inr ⟨by omega, by omega⟩))) ev_c rv_I0) (congrArg V.bl (decide_eq_decide.mpr (by omega)))) fun ha => ?_) (by simp)) fun H16 e16 => k H16 (hB H16 ((e14.trans e15).trans e16)) ⟨c, cells, ((hh13.ex e14).ex e15).ex e16⟩
          have hle := of_decide_eq_false ha
          exact ev_eqCall1 (y := .ref sy) (ea_cons (ev_is (ev_op (x := .int (o : Int)) (y := .int (f : Int)) (ev_var rfl) (ev_var rfl) (rv_mul (.inr ⟨by omega, by omega⟩))) (congrArg V.int fo)) (ea_cons (ev_is (ev_op (x := .int (o : Int)) (y := .int (m : Int)) (ev_var rfl) (ev_var rfl) (rv_mul (.inr ⟨by omega, by omega⟩))) (congrArg V.int mo)) (ea_cons (ev_is (ev_op (x := .int (o : Int)) (y := .int (s : Int)) (ev_var rfl) (ev_var rfl) (rv_mul (.inr ⟨by omega, by omega⟩))) (congrArg V.int os)) ea_nil))) (fun Hj Q ej kk => ⟨o * f, o * m, o * s, last, first, rfl, ⟨by omega, by omega, by omega, by omega, by omega, by omega⟩, by omega, ktimes ▸ D.kept, by have := D.ll; omega, by have := D.fl; omega, fun x' Hk ek hx => kk (.ref x') Hk ek fun H3 e3 => sys_ins (hx.ex e3) ((sy15.ex (ej.trans ek)).ex e3) fun n => kp_times (by omega) f m s n⟩) (ev_var rfl)
        · have so := of_decide_eq_false hb
          obtain rfl : s = 1 := by omega
          have sy15 := sy14.ex e15
          have cf : (f : Int) - 1 = ((f - 1 : Nat) : Int) := by omega
          have tmod : (m + 1 - f) % m = m + 1 - f := Nat.mod_eq_of_lt (by omega)
          generalize hM : (((m : Int) + 1 - ((Nat.gcd f m : Nat) : Int) - ((Nat.gcd (f - 1) m : Nat) : Int)) / 2) = M
          refine q_asg (v := .int M) (ev_is (ev_op (ev_op (ev_op (ev_op (x := .int (m : Int)) (y := .int 1) (ev_var rfl) ev_c rv_I0) (ev_call (ea_cons (ev_var rfl) (ea_cons (ev_var rfl) ea_nil)) (sv_common f m)) rv_I0) (ev_call (ea_cons (ev_is (ev_op (ev_var rfl) ev_c rv_I0) (congrArg V.int cf)) (ea_cons (ev_var rfl) ea_nil)) (sv_common (f - 1) m)) rv_I0) ev_c (rv_I ⟨by decide, by decide⟩)) (congrArg V.int hM)) fun H16 e16 => ?_
          refine q_asg (ev_call (ea_cons (ev_var rfl) (ea_cons (ev_var rfl) ea_nil)) (sv_twin_factor R (by omega))) fun H17 e17 => ?_
          obtain ⟨m2, tl2, W2, gE2, sA2⟩ := id ((sy15.ex e16).ex e17)
          have m2z : m2 ≤ 40000 := by
            have : m2 ∈ gens (kp f m 1) last first := by rw [← gE2]; simp
            have := gens_mem this
            omega
          have gn : SpV (sp_gaps_number T.a_System) [.ref sy] H17 (.int M) := by
            have z := sv_gaps_number sA2 m2z (gE2 ▸ drw_last D)
            rw [gE2, drw_gaps D, hM] at z
            exact z
          have rg := sv_rule_gaps (H := H17) R f2 fm
          rw [hM] at rg
          have tw : (((m + 1 - f) % m : Nat) : Int) = ((m : Int) + 1 - (f : Int)) % (m : Int) := by
            rw [Int.natCast_emod]
            congr 1
            omega
          refine q_if (b := false) (et_is (et_or (a := false) (b := false) (et_test (ev_neLL (K := K) (xs := [.int M, .int M]) (ds := [.int M, .int M]) (el_lst (ea_cons (ev_call (ea_cons (ev_var rfl) (ea_cons (ev_var rfl) ea_nil)) rg) (ea_cons (ev_call (ea_cons (ev_var rfl) ea_nil) gn) ea_nil)) (by show 2 ≤ 100000; decide)) (el_lst (ea_cons (ev_var rfl) (ea_cons (ev_var rfl) ea_nil)) (by show 2 ≤ 100000; decide)) (fun Hj => .cons (.int _) (.cons (.int _) .nil)) rfl)) fun _ => et_test (ev_is (ev_op (ev_var rfl) (ev_op (ev_intI (ev_op (ev_op (x := .int (m : Int)) (y := .int 1) (ev_var rfl) ev_c rv_I0) (ev_var rfl) rv_I0)) (ev_var rfl) (rv_I (show (0 : Int) < (m : Int) by omega))) (rv_ne rfl)) (by rw [tw]; simp))) rfl) (fun z => by cases z) fun _ H18 e18 => ?_
          rw [tmod]
          refine q_asg (v := .int ((m + 1 - f : Nat) : Int)) (ev_if (b := true) (et_is (et_test (ev_op (ev_var rfl) ev_c rv_I0)) (decide_eq_true (by omega))) (fun _ => ev_var rfl) (fun z => by cases z)) fun H19 e19 => ?_
          have e1319 := (((((e14.trans e15).trans e16).trans e17).trans e18).trans e19)
          have ktwin : ∀ n, kp (m + 1 - f) m 1 n = kp f m 1 n := fun n => kp_twin (by omega) (by omega)
          have R2 : RuleOk (m + 1 - f) m 1 := ⟨by omega, by omega, by omega, by omega, by omega, by omega⟩
          refine s_ret (v := .bl true) (ev_is (ev_andV (a := true) (b := true) (ev_eqCall1 (y := .ref sy) (ea_cons (ev_var rfl) (ea_cons (ev_var rfl) (ea_cons ev_c ea_nil))) (fun Hj Q ej kk => ⟨m + 1 - f, m, 1, last, first, rfl, R2, by omega, (funext ktwin : kp (m + 1 - f) m 1 = kp f m 1) ▸ D.kept, D.ll, D.fl, fun x' Hk ek hx => kk (.ref x') Hk ek fun H3 e3 => sys_ins (hx.ex e3) (((sy13.ex e1319).ex (ej.trans ek)).ex e3) ktwin⟩) (ev_var rfl)) fun _ => ev_is (ev_isB (ev_call (ea_cons (ev_var rfl) (ea_cons (ev_var rfl) (ea_cons (ev_var rfl) ea_nil))) (sv_same_rule R R2 (by omega) fun n => (ktwin n).symm)) ev_c) rfl) rfl) fun H20 e20 => k H20 (hB H20 (e1319.trans e20)) ⟨c, cells, (hh13.ex e1319).ex e20⟩
end
end Pd

/-! k05: the law. -/
namespace Pd
open PySem PySem.Spec PyProof.Rows L2 Evl PpSet
section
variable {K : PySem.W.Frag} {σ : L2.St} {H H' : Hp} {ta tb te tx tl : TE} {tA : TA} {x y z v : V} {t u : TT} {h c : Addr} {cells : List Int}
theorem ed_drawA {E : XK} {many : Nat} (hA : ∀ H, EvA tA σ H [.ref h, .int (many : Nat)]) (h0 : 0 < many) (h1 : many ≤ 10000000000000) : EvD (tCall sp__law_draw [] E tA) σ h c cells (fun x => ∃ r : Nat, x = .int (r : Nat) ∧ r < many) := fun H hh Q q =>
  hA H H (Ex.refl H) _ fun H1 e1 => ⟨h, c, cells, many, rfl, hh.ex e1, h0, h1, fun r H' hr b hh' => q _ H' ⟨r, rfl, hr⟩ (Bt.ex1 e1 b) hh'⟩
theorem ed_some {E : XK} {xs : List V} {i : Nat} (hσ : σ[i]? = some (some (.ref h))) (hl : ∀ H, EvL tl σ H xs) (h0 : 0 < xs.length) (h1 : xs.length ≤ 1000) : EvD (tCall sp__law_some [] E (tCons (tVar i) (tCons tl tNil))) σ h c cells (fun x => ∃ r : Nat, xs[r]? = some x) := fun H hh Q q =>
  ⟨_, hσ, hl H H (Ex.refl H) _ fun l H1 nl e1 hl1 => ⟨h, c, l, cells, xs, rfl, hh.ex e1, hl1, (hh.ref nl).1, h0, h1, fun r v H' hv b hh' => q v H' ⟨r, hv⟩ (Bt.ex1 e1 b) hh'⟩⟩
theorem ed_drawD {E : XK} {W : V → Prop} {M i : Nat} (hσ : σ[i]? = some (some (.ref h))) (hm : EvD tb σ h c cells W) (hW : ∀ v, W v → ∃ many : Nat, v = .int (many : Nat) ∧ 0 < many ∧ many ≤ M) (hM : M ≤ 10000000000000) : EvD (tCall sp__law_draw [] E (tCons (tVar i) (tCons tb tNil))) σ h c cells (fun x => ∃ r : Nat, x = .int (r : Nat) ∧ r < M) := fun H hh Q q =>
  ⟨_, hσ, hm H hh _ fun v H1 w b1 hh1 => by
    obtain ⟨many, rfl, m0, mm⟩ := hW v w
    exact ⟨h, c, cells, many, rfl, hh1, m0, by omega, fun r H' hr b hh' => q _ H' ⟨r, rfl, by omega⟩ (b1.trans b) hh'⟩⟩
/-- if a and b and not f(..): .., where f(..) is True and draws -/
theorem s_if3 {t1 t2 t3 : TT} {a b : Bool} {tu : TS} {D : L2.Ends} {P : Hp → Prop} (h1 : EvT t1 σ H a) (h2 : EvT t2 σ H b) (h3 : a = true → b = true → ∀ H1, Ex H H1 → ∀ Q : Bool → Hp → Prop, (∀ H2, P H2 → Q false H2) → t3 σ H1 Q) (hP : ∀ H1, Ex H H1 → P H1) (k : ∀ H2, P H2 → D.nx σ H2) :
    tIfS (tAnd t1 (tAnd t2 t3)) tu tNext D σ H := h1 H (Ex.refl H) _ fun H1 e1 => by
  cases a with
  | false => exact k H1 (hP H1 e1)
  | true =>
    exact h2 H1 e1 _ fun H2 e2 => by
      cases b with
      | false => exact k H2 (hP H2 (e1.trans e2))
      | true => exact h3 rfl rfl H2 (e1.trans e2) _ fun H3 p => k H3 p
theorem ev_min2 {i j : Int} (ha : Ev ta σ H (.int i)) (hb : Ev tb σ H (.int j)) : Ev (tCB (fun xs H Q => ∃ i j, xs = [.int i, .int j] ∧ Q (.int (if j < i then j else i)) H) (tCons ta (tCons tb tNil))) σ H (.int (if j < i then j else i)) := fun H1 e Q q =>
  ha H1 e _ fun H2 e2 => hb H2 (e.trans e2) _ fun H3 e3 => ⟨i, j, rfl, q H3 (e2.trans e3)⟩
end
section
variable {P : Program} {w : World} {K : PySem.W.Frag} {mg : Str → Option Value} {base : Heap}
def sp_law (K : PySem.W.Frag) : Sp := fun vs H Q _ => ∃ (a : Addr) (ns : List Int), vs = [.ref a] ∧ SqL K H a (ns.map V.int) ∧ ns.length ≤ 63 ∧ ∀ H', Q (.bl true) H'
theorem ok_law (T : Top K mg) : FnOk P w K mg base CX0 10 T.a_law T.fd_law ["script"] (sp_law K) := by
  refine T.F_law.ok sc_law (fun vs H Q E h => ?_) (fun cdv A outer s H vs Q E hr h => ?_)
  · obtain ⟨a, ns, rfl, _⟩ := h
    rfl
  · obtain ⟨a, ns, rfl, ha, hl, k⟩ := h
    have nd := sc_law.nd
    refine ⟨_, (pss_cons (ps_set (i := 1) nd rfl (Or.inl rfl) (pe_call (ok_law_hand T) (hr.mono (by decide)) (by rfl) T.g__law_hand T.F__law_hand.kp T.b__law_hand .nil pass0 (pa_cons (pv 0) pa_nil))) (pss_cons (ps_for PassesOwn.never rfl (pi_range1 rfl T.z_range (pa_cons pe_int pa_nil)) (pg_name (i := 2) nd rfl (Or.inl rfl)) (pss_cons (ps_set (i := 3) nd rfl (Or.inl rfl) (pe_op op_add pe_int (pe_call (ok_law_draw T) (hr.mono (by decide)) (by rfl) T.g__law_draw T.F__law_draw.kp T.b__law_draw .nil pass0 (pa_cons (pv 1) (pa_cons (pe_ix ix_list (pe_lst (pa_cons pe_int (pa_cons pe_int (pa_cons pe_int (pa_cons pe_int pa_nil))))) (pv 2) (fun _ _ => rfl)) pa_nil))))) (pss_cons (ps_set (i := 4) nd rfl (Or.inl rfl) (pe_op op_add pe_int (pe_call (ok_law_draw T) (hr.mono (by decide)) (by rfl) T.g__law_draw T.F__law_draw.kp T.b__law_draw .nil pass0 (pa_cons (pv 1) (pa_cons (pe_op op_sub (pv 3) pe_int) pa_nil))))) (pss_cons (ps_set (i := 5) nd rfl (Or.inl rfl) (pe_op op_add pe_int (pe_call (ok_law_draw T) (hr.mono (by decide)) (by rfl) T.g__law_draw T.F__law_draw.kp T.b__law_draw .nil pass0 (pa_cons (pv 1) (pa_cons (pe_call (ok_law_some T) (hr.mono (by decide)) (by rfl) T.g__law_some T.F__law_some.kp T.b__law_some .nil pass0 (pa_cons (pv 1) (pa_cons (pe_lst (pa_cons pe_int (pa_cons (pe_callB (call_min2 rfl) (by rfl) T.z_min (by decide +kernel) (pa_cons pe_int (pa_cons (pe_op op_sub (pv 4) pe_int) pa_nil))) (pa_cons (pe_op op_sub (pv 4) pe_int) pa_nil)))) pa_nil))) pa_nil))))) (pss_one (ps_if (PW.pt (pw_and (pt_cmpR op_lt (pv 4) (pv 3) (nomark _)) (pw_and (pt_cmpR op_lt (pv 5) (pv 4) (nomark _)) (pw_and1 (pt_not (pt_val (pe_call (ok_law_is_right T) (hr.mono (by decide)) (by rfl) T.g__law_is_right T.F__law_is_right.kp T.b__law_is_right .nil pass0 (pa_cons (pv 1) (pa_cons (pv 4) (pa_cons (pv 3) (pa_cons (pv 5) pa_nil))))))))))) (pss_one (ps_ret pe_bl)) pss_nil)))))) (pss_one (ps_ret pe_bl)))), ?_⟩
    refine q_asgCall (ea_cons (ev_var rfl) ea_nil) fun H1 e1 => ⟨a, ns, rfl, ex_l e1 ha, hl, fun h c cells H2 nh e2 hh => ?_⟩
    refine q_forR1 (n := 4) (ea_cons ev_c ea_nil) ⟨by omega, by omega⟩
      (fun i σ' H' => ∃ x y z u, σ' = [some (.ref a), some (.ref h), x, y, z, u] ∧ ∃ c cells, HandC H' h c cells)
      (fun H3 e3 => ⟨none, none, none, none, rfl, c, cells, hh.ex e3⟩) (fun i σ' H' hi' hp' => ?_) (fun σ' H' hp' => s_ret ev_c fun H3 e3 => k H3)
    obtain ⟨x, y, z, u, rfl, c, cells, hh⟩ := hp'
    obtain ⟨b, hb, b0, bz⟩ : ∃ b : Nat, [V.int 20, V.int 80, V.int 300, V.int 560][i]? = some (.int (b : Int)) ∧ 0 < b ∧ b ≤ 560 := by
      match i, hi' with
      | 0, _ => exact ⟨20, rfl, by omega, by omega⟩
      | 1, _ => exact ⟨80, rfl, by omega, by omega⟩
      | 2, _ => exact ⟨300, rfl, by omega, by omega⟩
      | 3, _ => exact ⟨560, rfl, by omega, by omega⟩
      | (j + 4), hi' => exact absurd hi' (by omega)
    refine q_asgD (W := fun v => ∃ m : Nat, v = .int (m : Int) ∧ 4 ≤ m ∧ m ≤ 563) (ed_op (ed_of fun Hj => ev_c) (ed_drawA (many := b) (fun Hj => ea_cons (ev_var rfl) (ea_cons (ev_opL1 (el_lst (ea_cons ev_c (ea_cons ev_c (ea_cons ev_c (ea_cons ev_c ea_nil)))) (by show 4 ≤ 100000; decide)) (fun H1 _ => ev_var rfl) (fun p H1 hp _ => rv_ixL (sq_of hp) (atI_nat hb))) ea_nil)) b0 (by omega)) fun u v hu hv => ?_) hh fun v H3 hv b3 hh3 => ?_
    · obtain ⟨r, rfl, hr⟩ := hv
      exact ⟨4, r, hu, rfl, 4 + r, congrArg V.int (by omega), by omega, by omega⟩
    obtain ⟨m, rfl, m4, mz⟩ := hv
    refine q_asgD (W := fun v => ∃ f : Nat, v = .int (f : Int) ∧ 2 ≤ f ∧ f < m) (ed_op (ed_of fun Hj => ev_c) (ed_drawA (many := m - 2) (fun Hj => ea_cons (ev_var rfl) (ea_cons (ev_is (ev_op (ev_var rfl) ev_c rv_I0) (congrArg V.int (show (m : Int) - 2 = ((m - 2 : Nat) : Int) by omega))) ea_nil)) (by omega) (by omega)) fun u v hu hv => ?_) hh3 fun v H4 hv b4 hh4 => ?_
    · obtain ⟨r, rfl, hr⟩ := hv
      exact ⟨2, r, hu, rfl, 2 + r, congrArg V.int (by omega), by omega, by omega⟩
    obtain ⟨f, rfl, f2, fm⟩ := hv
    refine q_asgD (W := fun v => ∃ s : Nat, v = .int (s : Int) ∧ 1 ≤ s ∧ s ≤ 1000) (ed_op (ed_of fun Hj => ev_c) (ed_drawD (M := 600) rfl (ed_some (xs := [.int 1, .int (if (f : Int) - 1 < 6 then (f : Int) - 1 else 6), .int ((f : Int) - 1)]) rfl (fun Hj => el_lst (ea_cons ev_c (ea_cons (ev_min2 ev_c (ev_op (ev_var rfl) ev_c rv_I0)) (ea_cons (ev_op (ev_var rfl) ev_c rv_I0) ea_nil))) (by show 3 ≤ 100000; decide)) (by show 0 < 3; decide) (by show 3 ≤ 1000; decide)) (fun v hv => ?_) (by omega)) fun u v hu hv => ?_) hh4 fun v H5 hv b5 hh5 => ?_
    · obtain ⟨r, hr⟩ := hv
      match r, hr with
      | 0, hr => exact ⟨1, (Option.some.inj hr).symm, by omega, by omega⟩
      | 1, hr => 
        rw [← Option.some.inj hr]
        split
        · exact ⟨f - 1, congrArg V.int (by omega), by omega, by omega⟩
        · exact ⟨6, rfl, by omega, by omega⟩
      | 2, hr => exact ⟨f - 1, by rw [← Option.some.inj hr]; exact congrArg V.int (by omega), by omega, by omega⟩
    · obtain ⟨r, rfl, hr⟩ := hv
      exact ⟨1, r, hu, rfl, 1 + r, congrArg V.int (by omega), by omega, by omega⟩
    obtain ⟨s', rfl, s1, sz⟩ := hv
    refine s_if3 (a := decide (f < m)) (b := decide (s' < f)) (P := fun H' => ∃ c cells, HandC H' h c cells) (et_is (et_test (ev_op (x := .int (f : Int)) (y := .int (m : Int)) (ev_var rfl) (ev_var rfl) rv_I0)) (decide_eq_decide.mpr (by omega))) (et_is (et_test (ev_op (x := .int (s' : Int)) (y := .int (f : Int)) (ev_var rfl) (ev_var rfl) rv_I0)) (decide_eq_decide.mpr (by omega))) (fun h1 h2 H6 e6 Q q => ?_) (fun H6 e6 => ⟨c, cells, hh5.ex e6⟩) (fun H6 p => ⟨_, _, _, _, rfl, p⟩)
    have fm' := of_decide_eq_true h1
    have sf' := of_decide_eq_true h2
    exact ⟨_, rfl, _, rfl, _, rfl, _, rfl, h, c, cells, f, m, s', rfl, hh5.ex e6, f2, fm', s1, sf', m4, mz, fun H7 b7 hh7 => ⟨true, rfl, q H7 hh7⟩⟩
end
end Pd

/-! What the top leaves, the head. Printed by end_k22.py. -/
namespace Pd
open PySem PySem.Spec PyProof.Rows L2
theorem kit_self (K : PySem.W.Frag) (C : Addr) : PySem.W.kitOne K (.ref C) (.ref C) = some true := by
  unfold PySem.W.kitOne
  rw [if_pos (by simp)]
theorem all_mk {l : PySem.W.OpenLaw} {w : World} {K : PySem.W.Frag} {h : Heap} {mg : Str → Option Value} {fa : Addr} (X : K.In h) (G : h.Ns mainGlobals mg) (hfa : mg "law" = some (.ref fa))
    {f_is_integer f_is_within f_is_tuple_of f_common f_common_of f_frac f_is_fraction f_round_up f_built f_check_coins f_System_init f_System_eq f_check_system f_check_sum f_pays_of f_pays f_gaps_number_of f_gaps_number f_least_coins f_check_rule f_rule_holds f_rule_system f_rule_gaps f_least_kept f_same_rule f_twin_factor f_check_span f_in_span f_span_pays f_span_system_of f_span_system f_chain_of f_next_in_chain f_left_neighbour f_across f_chain_coins f__law_hand f__law_draw f__law_some f__law_divisor f__law_fraction f__law_keeps f__law_is_in_span f__law_is_right f_law : Addr}
    {od_is_integer an_is_integer od_is_within an_is_within od_is_tuple_of an_is_tuple_of od_common an_common od_common_of an_common_of od_frac an_frac od_is_fraction an_is_fraction od_round_up an_round_up od_built an_built od_check_coins an_check_coins od_System_init an_System_init od_System_eq an_System_eq od_check_system an_check_system od_check_sum an_check_sum od_pays_of an_pays_of od_pays an_pays od_gaps_number_of an_gaps_number_of od_gaps_number an_gaps_number od_least_coins an_least_coins od_check_rule an_check_rule od_rule_holds an_rule_holds od_rule_system an_rule_system od_rule_gaps an_rule_gaps od_least_kept an_least_kept od_same_rule an_same_rule od_twin_factor an_twin_factor od_check_span an_check_span od_in_span an_in_span od_span_pays an_span_pays od_span_system_of an_span_system_of od_span_system an_span_system od_chain_of an_chain_of od_next_in_chain an_next_in_chain od_left_neighbour an_left_neighbour od_across an_across od_chain_coins an_chain_coins od__law_hand an__law_hand od__law_draw an__law_draw od__law_some an__law_some od__law_divisor an__law_divisor od__law_fraction an__law_fraction od__law_keeps an__law_keeps od__law_is_in_span an__law_is_in_span od__law_is_right an__law_is_right od_law an_law : Option Addr}
    {sl_is_integer sl_is_within sl_is_tuple_of sl_common sl_common_of sl_frac sl_is_fraction sl_round_up sl_built sl_check_coins sl_System_init sl_System_eq sl_check_system sl_check_sum sl_pays_of sl_pays sl_gaps_number_of sl_gaps_number sl_least_coins sl_check_rule sl_rule_holds sl_rule_system sl_rule_gaps sl_least_kept sl_same_rule sl_twin_factor sl_check_span sl_in_span sl_span_pays sl_span_system_of sl_span_system sl_chain_of sl_next_in_chain sl_left_neighbour sl_across sl_chain_coins sl__law_hand sl__law_draw sl__law_some sl__law_divisor sl__law_fraction sl__law_keeps sl__law_is_in_span sl__law_is_right sl_law : Array (Option Value)}
    {oc_is_integer kV_is_integer dc_is_integer pm_is_integer cd_is_integer ct_is_integer oc_is_within kV_is_within dc_is_within pm_is_within cd_is_within ct_is_within oc_is_tuple_of kV_is_tuple_of dc_is_tuple_of pm_is_tuple_of cd_is_tuple_of ct_is_tuple_of oc_common kV_common dc_common pm_common cd_common ct_common oc_common_of kV_common_of dc_common_of pm_common_of cd_common_of ct_common_of oc_frac kV_frac dc_frac pm_frac cd_frac ct_frac oc_is_fraction kV_is_fraction dc_is_fraction pm_is_fraction cd_is_fraction ct_is_fraction oc_round_up kV_round_up dc_round_up pm_round_up cd_round_up ct_round_up oc_built kV_built dc_built pm_built cd_built ct_built oc_check_coins kV_check_coins dc_check_coins pm_check_coins cd_check_coins ct_check_coins oc_System_init kV_System_init dc_System_init pm_System_init cd_System_init ct_System_init oc_System_eq kV_System_eq dc_System_eq pm_System_eq cd_System_eq ct_System_eq oc_check_system kV_check_system dc_check_system pm_check_system cd_check_system ct_check_system oc_check_sum kV_check_sum dc_check_sum pm_check_sum cd_check_sum ct_check_sum oc_pays_of kV_pays_of dc_pays_of pm_pays_of cd_pays_of ct_pays_of oc_pays kV_pays dc_pays pm_pays cd_pays ct_pays oc_gaps_number_of kV_gaps_number_of dc_gaps_number_of pm_gaps_number_of cd_gaps_number_of ct_gaps_number_of oc_gaps_number kV_gaps_number dc_gaps_number pm_gaps_number cd_gaps_number ct_gaps_number oc_least_coins kV_least_coins dc_least_coins pm_least_coins cd_least_coins ct_least_coins oc_check_rule kV_check_rule dc_check_rule pm_check_rule cd_check_rule ct_check_rule oc_rule_holds kV_rule_holds dc_rule_holds pm_rule_holds cd_rule_holds ct_rule_holds oc_rule_system kV_rule_system dc_rule_system pm_rule_system cd_rule_system ct_rule_system oc_rule_gaps kV_rule_gaps dc_rule_gaps pm_rule_gaps cd_rule_gaps ct_rule_gaps oc_least_kept kV_least_kept dc_least_kept pm_least_kept cd_least_kept ct_least_kept oc_same_rule kV_same_rule dc_same_rule pm_same_rule cd_same_rule ct_same_rule oc_twin_factor kV_twin_factor dc_twin_factor pm_twin_factor cd_twin_factor ct_twin_factor oc_check_span kV_check_span dc_check_span pm_check_span cd_check_span ct_check_span oc_in_span kV_in_span dc_in_span pm_in_span cd_in_span ct_in_span oc_span_pays kV_span_pays dc_span_pays pm_span_pays cd_span_pays ct_span_pays oc_span_system_of kV_span_system_of dc_span_system_of pm_span_system_of cd_span_system_of ct_span_system_of oc_span_system kV_span_system dc_span_system pm_span_system cd_span_system ct_span_system oc_chain_of kV_chain_of dc_chain_of pm_chain_of cd_chain_of ct_chain_of oc_next_in_chain kV_next_in_chain dc_next_in_chain pm_next_in_chain cd_next_in_chain ct_next_in_chain oc_left_neighbour kV_left_neighbour dc_left_neighbour pm_left_neighbour cd_left_neighbour ct_left_neighbour oc_across kV_across dc_across pm_across cd_across ct_across oc_chain_coins kV_chain_coins dc_chain_coins pm_chain_coins cd_chain_coins ct_chain_coins oc__law_hand kV__law_hand dc__law_hand pm__law_hand cd__law_hand ct__law_hand oc__law_draw kV__law_draw dc__law_draw pm__law_draw cd__law_draw ct__law_draw oc__law_some kV__law_some dc__law_some pm__law_some cd__law_some ct__law_some oc__law_divisor kV__law_divisor dc__law_divisor pm__law_divisor cd__law_divisor ct__law_divisor oc__law_fraction kV__law_fraction dc__law_fraction pm__law_fraction cd__law_fraction ct__law_fraction oc__law_keeps kV__law_keeps dc__law_keeps pm__law_keeps cd__law_keeps ct__law_keeps oc__law_is_in_span kV__law_is_in_span dc__law_is_in_span pm__law_is_in_span cd__law_is_in_span ct__law_is_in_span oc__law_is_right kV__law_is_right dc__law_is_right pm__law_is_right cd__law_is_right ct__law_is_right oc_law kV_law dc_law pm_law cd_law ct_law : Value}
    {C_System : Addr} {t_MOST_COIN t_MOST_LEAST t_MOST_COINS t_MOST_MODULUS t_MOST_SIZE t_MOST_PART t_MOST_GREAT : Tok}
    (aC_System : PySem.W.nsIn K mainGlobals "System" = some (some (.ref C_System)))
    (a_is_integer : PySem.W.nsIn K mainGlobals "is_integer" = some (some (.ref f_is_integer)))
    (l_is_integer : K.lookup f_is_integer = some ⟨oc_is_integer, od_is_integer, .func (PySem.W.fnOf "is_integer" "is_integer" (defArgs s_is_integer) (defBody s_is_integer) (defScope s_is_integer) .none kV_is_integer dc_is_integer pm_is_integer an_is_integer cd_is_integer ct_is_integer), sl_is_integer⟩)
    (c_is_integer : PySem.W.codeIn K cd_is_integer "is_integer" = true)
    (k_is_integer : PySem.W.keepIn K (.ref f_is_integer) = true)
    (a_is_within : PySem.W.nsIn K mainGlobals "is_within" = some (some (.ref f_is_within)))
    (l_is_within : K.lookup f_is_within = some ⟨oc_is_within, od_is_within, .func (PySem.W.fnOf "is_within" "is_within" (defArgs s_is_within) (defBody s_is_within) (defScope s_is_within) .none kV_is_within dc_is_within pm_is_within an_is_within cd_is_within ct_is_within), sl_is_within⟩)
    (c_is_within : PySem.W.codeIn K cd_is_within "is_within" = true)
    (k_is_within : PySem.W.keepIn K (.ref f_is_within) = true)
    (a_is_tuple_of : PySem.W.nsIn K mainGlobals "is_tuple_of" = some (some (.ref f_is_tuple_of)))
    (l_is_tuple_of : K.lookup f_is_tuple_of = some ⟨oc_is_tuple_of, od_is_tuple_of, .func (PySem.W.fnOf "is_tuple_of" "is_tuple_of" (defArgs s_is_tuple_of) (defBody s_is_tuple_of) (defScope s_is_tuple_of) .none kV_is_tuple_of dc_is_tuple_of pm_is_tuple_of an_is_tuple_of cd_is_tuple_of ct_is_tuple_of), sl_is_tuple_of⟩)
    (c_is_tuple_of : PySem.W.codeIn K cd_is_tuple_of "is_tuple_of" = true)
    (k_is_tuple_of : PySem.W.keepIn K (.ref f_is_tuple_of) = true)
    (a_common : PySem.W.nsIn K mainGlobals "common" = some (some (.ref f_common)))
    (l_common : K.lookup f_common = some ⟨oc_common, od_common, .func (PySem.W.fnOf "common" "common" (defArgs s_common) (defBody s_common) (defScope s_common) .none kV_common dc_common pm_common an_common cd_common ct_common), sl_common⟩)
    (c_common : PySem.W.codeIn K cd_common "common" = true)
    (k_common : PySem.W.keepIn K (.ref f_common) = true)
    (a_common_of : PySem.W.nsIn K mainGlobals "common_of" = some (some (.ref f_common_of)))
    (l_common_of : K.lookup f_common_of = some ⟨oc_common_of, od_common_of, .func (PySem.W.fnOf "common_of" "common_of" (defArgs s_common_of) (defBody s_common_of) (defScope s_common_of) .none kV_common_of dc_common_of pm_common_of an_common_of cd_common_of ct_common_of), sl_common_of⟩)
    (c_common_of : PySem.W.codeIn K cd_common_of "common_of" = true)
    (k_common_of : PySem.W.keepIn K (.ref f_common_of) = true)
    (a_frac : PySem.W.nsIn K mainGlobals "frac" = some (some (.ref f_frac)))
    (l_frac : K.lookup f_frac = some ⟨oc_frac, od_frac, .func (PySem.W.fnOf "frac" "frac" (defArgs s_frac) (defBody s_frac) (defScope s_frac) .none kV_frac dc_frac pm_frac an_frac cd_frac ct_frac), sl_frac⟩)
    (c_frac : PySem.W.codeIn K cd_frac "frac" = true)
    (k_frac : PySem.W.keepIn K (.ref f_frac) = true)
    (a_is_fraction : PySem.W.nsIn K mainGlobals "is_fraction" = some (some (.ref f_is_fraction)))
    (l_is_fraction : K.lookup f_is_fraction = some ⟨oc_is_fraction, od_is_fraction, .func (PySem.W.fnOf "is_fraction" "is_fraction" (defArgs s_is_fraction) (defBody s_is_fraction) (defScope s_is_fraction) .none kV_is_fraction dc_is_fraction pm_is_fraction an_is_fraction cd_is_fraction ct_is_fraction), sl_is_fraction⟩)
    (c_is_fraction : PySem.W.codeIn K cd_is_fraction "is_fraction" = true)
    (k_is_fraction : PySem.W.keepIn K (.ref f_is_fraction) = true)
    (a_round_up : PySem.W.nsIn K mainGlobals "round_up" = some (some (.ref f_round_up)))
    (l_round_up : K.lookup f_round_up = some ⟨oc_round_up, od_round_up, .func (PySem.W.fnOf "round_up" "round_up" (defArgs s_round_up) (defBody s_round_up) (defScope s_round_up) .none kV_round_up dc_round_up pm_round_up an_round_up cd_round_up ct_round_up), sl_round_up⟩)
    (c_round_up : PySem.W.codeIn K cd_round_up "round_up" = true)
    (k_round_up : PySem.W.keepIn K (.ref f_round_up) = true)
    (a_built : PySem.W.nsIn K mainGlobals "built" = some (some (.ref f_built)))
    (l_built : K.lookup f_built = some ⟨oc_built, od_built, .func (PySem.W.fnOf "built" "built" (defArgs s_built) (defBody s_built) (defScope s_built) .none kV_built dc_built pm_built an_built cd_built ct_built), sl_built⟩)
    (c_built : PySem.W.codeIn K cd_built "built" = true)
    (k_built : PySem.W.keepIn K (.ref f_built) = true)
    (a_check_coins : PySem.W.nsIn K mainGlobals "check_coins" = some (some (.ref f_check_coins)))
    (l_check_coins : K.lookup f_check_coins = some ⟨oc_check_coins, od_check_coins, .func (PySem.W.fnOf "check_coins" "check_coins" (defArgs s_check_coins) (defBody s_check_coins) (defScope s_check_coins) .none kV_check_coins dc_check_coins pm_check_coins an_check_coins cd_check_coins ct_check_coins), sl_check_coins⟩)
    (c_check_coins : PySem.W.codeIn K cd_check_coins "check_coins" = true)
    (k_check_coins : PySem.W.keepIn K (.ref f_check_coins) = true)
    (a_System_init : PySem.W.findIn K (.ref C_System) "__init__" = some (some (.ref f_System_init)))
    (i_System_init : PySem.W.isFn K (.ref f_System_init) = true)
    (l_System_init : K.lookup f_System_init = some ⟨oc_System_init, od_System_init, .func (PySem.W.fnOf "__init__" "System.__init__" (defArgs s_System_init) (defBody s_System_init) (defScope s_System_init) .none kV_System_init dc_System_init pm_System_init an_System_init cd_System_init ct_System_init), sl_System_init⟩)
    (c_System_init : PySem.W.codeIn K cd_System_init "System.__init__" = true)
    (k_System_init : PySem.W.keepIn K (.ref f_System_init) = true)
    (a_System_eq : PySem.W.findIn K (.ref C_System) "__eq__" = some (some (.ref f_System_eq)))
    (i_System_eq : PySem.W.isFn K (.ref f_System_eq) = true)
    (l_System_eq : K.lookup f_System_eq = some ⟨oc_System_eq, od_System_eq, .func (PySem.W.fnOf "__eq__" "System.__eq__" (defArgs s_System_eq) (defBody s_System_eq) (defScope s_System_eq) .none kV_System_eq dc_System_eq pm_System_eq an_System_eq cd_System_eq ct_System_eq), sl_System_eq⟩)
    (c_System_eq : PySem.W.codeIn K cd_System_eq "System.__eq__" = true)
    (k_System_eq : PySem.W.keepIn K (.ref f_System_eq) = true)
    (a_check_system : PySem.W.nsIn K mainGlobals "check_system" = some (some (.ref f_check_system)))
    (l_check_system : K.lookup f_check_system = some ⟨oc_check_system, od_check_system, .func (PySem.W.fnOf "check_system" "check_system" (defArgs s_check_system) (defBody s_check_system) (defScope s_check_system) .none kV_check_system dc_check_system pm_check_system an_check_system cd_check_system ct_check_system), sl_check_system⟩)
    (c_check_system : PySem.W.codeIn K cd_check_system "check_system" = true)
    (k_check_system : PySem.W.keepIn K (.ref f_check_system) = true)
    (a_check_sum : PySem.W.nsIn K mainGlobals "check_sum" = some (some (.ref f_check_sum)))
    (l_check_sum : K.lookup f_check_sum = some ⟨oc_check_sum, od_check_sum, .func (PySem.W.fnOf "check_sum" "check_sum" (defArgs s_check_sum) (defBody s_check_sum) (defScope s_check_sum) .none kV_check_sum dc_check_sum pm_check_sum an_check_sum cd_check_sum ct_check_sum), sl_check_sum⟩)
    (c_check_sum : PySem.W.codeIn K cd_check_sum "check_sum" = true)
    (k_check_sum : PySem.W.keepIn K (.ref f_check_sum) = true)
    (a_pays_of : PySem.W.nsIn K mainGlobals "pays_of" = some (some (.ref f_pays_of)))
    (l_pays_of : K.lookup f_pays_of = some ⟨oc_pays_of, od_pays_of, .func (PySem.W.fnOf "pays_of" "pays_of" (defArgs s_pays_of) (defBody s_pays_of) (defScope s_pays_of) .none kV_pays_of dc_pays_of pm_pays_of an_pays_of cd_pays_of ct_pays_of), sl_pays_of⟩)
    (c_pays_of : PySem.W.codeIn K cd_pays_of "pays_of" = true)
    (k_pays_of : PySem.W.keepIn K (.ref f_pays_of) = true)
    (a_pays : PySem.W.nsIn K mainGlobals "pays" = some (some (.ref f_pays)))
    (l_pays : K.lookup f_pays = some ⟨oc_pays, od_pays, .func (PySem.W.fnOf "pays" "pays" (defArgs s_pays) (defBody s_pays) (defScope s_pays) .none kV_pays dc_pays pm_pays an_pays cd_pays ct_pays), sl_pays⟩)
    (c_pays : PySem.W.codeIn K cd_pays "pays" = true)
    (k_pays : PySem.W.keepIn K (.ref f_pays) = true)
    (a_gaps_number_of : PySem.W.nsIn K mainGlobals "gaps_number_of" = some (some (.ref f_gaps_number_of)))
    (l_gaps_number_of : K.lookup f_gaps_number_of = some ⟨oc_gaps_number_of, od_gaps_number_of, .func (PySem.W.fnOf "gaps_number_of" "gaps_number_of" (defArgs s_gaps_number_of) (defBody s_gaps_number_of) (defScope s_gaps_number_of) .none kV_gaps_number_of dc_gaps_number_of pm_gaps_number_of an_gaps_number_of cd_gaps_number_of ct_gaps_number_of), sl_gaps_number_of⟩)
    (c_gaps_number_of : PySem.W.codeIn K cd_gaps_number_of "gaps_number_of" = true)
    (k_gaps_number_of : PySem.W.keepIn K (.ref f_gaps_number_of) = true)
    (a_gaps_number : PySem.W.nsIn K mainGlobals "gaps_number" = some (some (.ref f_gaps_number)))
    (l_gaps_number : K.lookup f_gaps_number = some ⟨oc_gaps_number, od_gaps_number, .func (PySem.W.fnOf "gaps_number" "gaps_number" (defArgs s_gaps_number) (defBody s_gaps_number) (defScope s_gaps_number) .none kV_gaps_number dc_gaps_number pm_gaps_number an_gaps_number cd_gaps_number ct_gaps_number), sl_gaps_number⟩)
    (c_gaps_number : PySem.W.codeIn K cd_gaps_number "gaps_number" = true)
    (k_gaps_number : PySem.W.keepIn K (.ref f_gaps_number) = true)
    (a_least_coins : PySem.W.nsIn K mainGlobals "least_coins" = some (some (.ref f_least_coins)))
    (l_least_coins : K.lookup f_least_coins = some ⟨oc_least_coins, od_least_coins, .func (PySem.W.fnOf "least_coins" "least_coins" (defArgs s_least_coins) (defBody s_least_coins) (defScope s_least_coins) .none kV_least_coins dc_least_coins pm_least_coins an_least_coins cd_least_coins ct_least_coins), sl_least_coins⟩)
    (c_least_coins : PySem.W.codeIn K cd_least_coins "least_coins" = true)
    (k_least_coins : PySem.W.keepIn K (.ref f_least_coins) = true)
    (a_check_rule : PySem.W.nsIn K mainGlobals "check_rule" = some (some (.ref f_check_rule)))
    (l_check_rule : K.lookup f_check_rule = some ⟨oc_check_rule, od_check_rule, .func (PySem.W.fnOf "check_rule" "check_rule" (defArgs s_check_rule) (defBody s_check_rule) (defScope s_check_rule) .none kV_check_rule dc_check_rule pm_check_rule an_check_rule cd_check_rule ct_check_rule), sl_check_rule⟩)
    (c_check_rule : PySem.W.codeIn K cd_check_rule "check_rule" = true)
    (k_check_rule : PySem.W.keepIn K (.ref f_check_rule) = true)
    (a_rule_holds : PySem.W.nsIn K mainGlobals "rule_holds" = some (some (.ref f_rule_holds)))
    (l_rule_holds : K.lookup f_rule_holds = some ⟨oc_rule_holds, od_rule_holds, .func (PySem.W.fnOf "rule_holds" "rule_holds" (defArgs s_rule_holds) (defBody s_rule_holds) (defScope s_rule_holds) .none kV_rule_holds dc_rule_holds pm_rule_holds an_rule_holds cd_rule_holds ct_rule_holds), sl_rule_holds⟩)
    (c_rule_holds : PySem.W.codeIn K cd_rule_holds "rule_holds" = true)
    (k_rule_holds : PySem.W.keepIn K (.ref f_rule_holds) = true)
    (a_rule_system : PySem.W.nsIn K mainGlobals "rule_system" = some (some (.ref f_rule_system)))
    (l_rule_system : K.lookup f_rule_system = some ⟨oc_rule_system, od_rule_system, .func (PySem.W.fnOf "rule_system" "rule_system" (defArgs s_rule_system) (defBody s_rule_system) (defScope s_rule_system) .none kV_rule_system dc_rule_system pm_rule_system an_rule_system cd_rule_system ct_rule_system), sl_rule_system⟩)
    (c_rule_system : PySem.W.codeIn K cd_rule_system "rule_system" = true)
    (k_rule_system : PySem.W.keepIn K (.ref f_rule_system) = true)
    (a_rule_gaps : PySem.W.nsIn K mainGlobals "rule_gaps" = some (some (.ref f_rule_gaps)))
    (l_rule_gaps : K.lookup f_rule_gaps = some ⟨oc_rule_gaps, od_rule_gaps, .func (PySem.W.fnOf "rule_gaps" "rule_gaps" (defArgs s_rule_gaps) (defBody s_rule_gaps) (defScope s_rule_gaps) .none kV_rule_gaps dc_rule_gaps pm_rule_gaps an_rule_gaps cd_rule_gaps ct_rule_gaps), sl_rule_gaps⟩)
    (c_rule_gaps : PySem.W.codeIn K cd_rule_gaps "rule_gaps" = true)
    (k_rule_gaps : PySem.W.keepIn K (.ref f_rule_gaps) = true)
    (a_least_kept : PySem.W.nsIn K mainGlobals "least_kept" = some (some (.ref f_least_kept)))
    (l_least_kept : K.lookup f_least_kept = some ⟨oc_least_kept, od_least_kept, .func (PySem.W.fnOf "least_kept" "least_kept" (defArgs s_least_kept) (defBody s_least_kept) (defScope s_least_kept) .none kV_least_kept dc_least_kept pm_least_kept an_least_kept cd_least_kept ct_least_kept), sl_least_kept⟩)
    (c_least_kept : PySem.W.codeIn K cd_least_kept "least_kept" = true)
    (k_least_kept : PySem.W.keepIn K (.ref f_least_kept) = true)
    (a_same_rule : PySem.W.nsIn K mainGlobals "same_rule" = some (some (.ref f_same_rule)))
    (l_same_rule : K.lookup f_same_rule = some ⟨oc_same_rule, od_same_rule, .func (PySem.W.fnOf "same_rule" "same_rule" (defArgs s_same_rule) (defBody s_same_rule) (defScope s_same_rule) .none kV_same_rule dc_same_rule pm_same_rule an_same_rule cd_same_rule ct_same_rule), sl_same_rule⟩)
    (c_same_rule : PySem.W.codeIn K cd_same_rule "same_rule" = true)
    (k_same_rule : PySem.W.keepIn K (.ref f_same_rule) = true)
    (a_twin_factor : PySem.W.nsIn K mainGlobals "twin_factor" = some (some (.ref f_twin_factor)))
    (l_twin_factor : K.lookup f_twin_factor = some ⟨oc_twin_factor, od_twin_factor, .func (PySem.W.fnOf "twin_factor" "twin_factor" (defArgs s_twin_factor) (defBody s_twin_factor) (defScope s_twin_factor) .none kV_twin_factor dc_twin_factor pm_twin_factor an_twin_factor cd_twin_factor ct_twin_factor), sl_twin_factor⟩)
    (c_twin_factor : PySem.W.codeIn K cd_twin_factor "twin_factor" = true)
    (k_twin_factor : PySem.W.keepIn K (.ref f_twin_factor) = true)
    (a_check_span : PySem.W.nsIn K mainGlobals "check_span" = some (some (.ref f_check_span)))
    (l_check_span : K.lookup f_check_span = some ⟨oc_check_span, od_check_span, .func (PySem.W.fnOf "check_span" "check_span" (defArgs s_check_span) (defBody s_check_span) (defScope s_check_span) .none kV_check_span dc_check_span pm_check_span an_check_span cd_check_span ct_check_span), sl_check_span⟩)
    (c_check_span : PySem.W.codeIn K cd_check_span "check_span" = true)
    (k_check_span : PySem.W.keepIn K (.ref f_check_span) = true)
    (a_in_span : PySem.W.nsIn K mainGlobals "in_span" = some (some (.ref f_in_span)))
    (l_in_span : K.lookup f_in_span = some ⟨oc_in_span, od_in_span, .func (PySem.W.fnOf "in_span" "in_span" (defArgs s_in_span) (defBody s_in_span) (defScope s_in_span) .none kV_in_span dc_in_span pm_in_span an_in_span cd_in_span ct_in_span), sl_in_span⟩)
    (c_in_span : PySem.W.codeIn K cd_in_span "in_span" = true)
    (k_in_span : PySem.W.keepIn K (.ref f_in_span) = true)
    (a_span_pays : PySem.W.nsIn K mainGlobals "span_pays" = some (some (.ref f_span_pays)))
    (l_span_pays : K.lookup f_span_pays = some ⟨oc_span_pays, od_span_pays, .func (PySem.W.fnOf "span_pays" "span_pays" (defArgs s_span_pays) (defBody s_span_pays) (defScope s_span_pays) .none kV_span_pays dc_span_pays pm_span_pays an_span_pays cd_span_pays ct_span_pays), sl_span_pays⟩)
    (c_span_pays : PySem.W.codeIn K cd_span_pays "span_pays" = true)
    (k_span_pays : PySem.W.keepIn K (.ref f_span_pays) = true)
    (a_span_system_of : PySem.W.nsIn K mainGlobals "span_system_of" = some (some (.ref f_span_system_of)))
    (l_span_system_of : K.lookup f_span_system_of = some ⟨oc_span_system_of, od_span_system_of, .func (PySem.W.fnOf "span_system_of" "span_system_of" (defArgs s_span_system_of) (defBody s_span_system_of) (defScope s_span_system_of) .none kV_span_system_of dc_span_system_of pm_span_system_of an_span_system_of cd_span_system_of ct_span_system_of), sl_span_system_of⟩)
    (c_span_system_of : PySem.W.codeIn K cd_span_system_of "span_system_of" = true)
    (k_span_system_of : PySem.W.keepIn K (.ref f_span_system_of) = true)
    (a_span_system : PySem.W.nsIn K mainGlobals "span_system" = some (some (.ref f_span_system)))
    (l_span_system : K.lookup f_span_system = some ⟨oc_span_system, od_span_system, .func (PySem.W.fnOf "span_system" "span_system" (defArgs s_span_system) (defBody s_span_system) (defScope s_span_system) .none kV_span_system dc_span_system pm_span_system an_span_system cd_span_system ct_span_system), sl_span_system⟩)
    (c_span_system : PySem.W.codeIn K cd_span_system "span_system" = true)
    (k_span_system : PySem.W.keepIn K (.ref f_span_system) = true)
    (a_chain_of : PySem.W.nsIn K mainGlobals "chain_of" = some (some (.ref f_chain_of)))
    (l_chain_of : K.lookup f_chain_of = some ⟨oc_chain_of, od_chain_of, .func (PySem.W.fnOf "chain_of" "chain_of" (defArgs s_chain_of) (defBody s_chain_of) (defScope s_chain_of) .none kV_chain_of dc_chain_of pm_chain_of an_chain_of cd_chain_of ct_chain_of), sl_chain_of⟩)
    (c_chain_of : PySem.W.codeIn K cd_chain_of "chain_of" = true)
    (k_chain_of : PySem.W.keepIn K (.ref f_chain_of) = true)
    (a_next_in_chain : PySem.W.nsIn K mainGlobals "next_in_chain" = some (some (.ref f_next_in_chain)))
    (l_next_in_chain : K.lookup f_next_in_chain = some ⟨oc_next_in_chain, od_next_in_chain, .func (PySem.W.fnOf "next_in_chain" "next_in_chain" (defArgs s_next_in_chain) (defBody s_next_in_chain) (defScope s_next_in_chain) .none kV_next_in_chain dc_next_in_chain pm_next_in_chain an_next_in_chain cd_next_in_chain ct_next_in_chain), sl_next_in_chain⟩)
    (c_next_in_chain : PySem.W.codeIn K cd_next_in_chain "next_in_chain" = true)
    (k_next_in_chain : PySem.W.keepIn K (.ref f_next_in_chain) = true)
    (a_left_neighbour : PySem.W.nsIn K mainGlobals "left_neighbour" = some (some (.ref f_left_neighbour)))
    (l_left_neighbour : K.lookup f_left_neighbour = some ⟨oc_left_neighbour, od_left_neighbour, .func (PySem.W.fnOf "left_neighbour" "left_neighbour" (defArgs s_left_neighbour) (defBody s_left_neighbour) (defScope s_left_neighbour) .none kV_left_neighbour dc_left_neighbour pm_left_neighbour an_left_neighbour cd_left_neighbour ct_left_neighbour), sl_left_neighbour⟩)
    (c_left_neighbour : PySem.W.codeIn K cd_left_neighbour "left_neighbour" = true)
    (k_left_neighbour : PySem.W.keepIn K (.ref f_left_neighbour) = true)
    (a_across : PySem.W.nsIn K mainGlobals "across" = some (some (.ref f_across)))
    (l_across : K.lookup f_across = some ⟨oc_across, od_across, .func (PySem.W.fnOf "across" "across" (defArgs s_across) (defBody s_across) (defScope s_across) .none kV_across dc_across pm_across an_across cd_across ct_across), sl_across⟩)
    (c_across : PySem.W.codeIn K cd_across "across" = true)
    (k_across : PySem.W.keepIn K (.ref f_across) = true)
    (a_chain_coins : PySem.W.nsIn K mainGlobals "chain_coins" = some (some (.ref f_chain_coins)))
    (l_chain_coins : K.lookup f_chain_coins = some ⟨oc_chain_coins, od_chain_coins, .func (PySem.W.fnOf "chain_coins" "chain_coins" (defArgs s_chain_coins) (defBody s_chain_coins) (defScope s_chain_coins) .none kV_chain_coins dc_chain_coins pm_chain_coins an_chain_coins cd_chain_coins ct_chain_coins), sl_chain_coins⟩)
    (c_chain_coins : PySem.W.codeIn K cd_chain_coins "chain_coins" = true)
    (k_chain_coins : PySem.W.keepIn K (.ref f_chain_coins) = true)
    (a__law_hand : PySem.W.nsIn K mainGlobals "_law_hand" = some (some (.ref f__law_hand)))
    (l__law_hand : K.lookup f__law_hand = some ⟨oc__law_hand, od__law_hand, .func (PySem.W.fnOf "_law_hand" "_law_hand" (defArgs s_law_hand) (defBody s_law_hand) (defScope s_law_hand) .none kV__law_hand dc__law_hand pm__law_hand an__law_hand cd__law_hand ct__law_hand), sl__law_hand⟩)
    (c__law_hand : PySem.W.codeIn K cd__law_hand "_law_hand" = true)
    (k__law_hand : PySem.W.keepIn K (.ref f__law_hand) = true)
    (a__law_draw : PySem.W.nsIn K mainGlobals "_law_draw" = some (some (.ref f__law_draw)))
    (l__law_draw : K.lookup f__law_draw = some ⟨oc__law_draw, od__law_draw, .func (PySem.W.fnOf "_law_draw" "_law_draw" (defArgs s_law_draw) (defBody s_law_draw) (defScope s_law_draw) .none kV__law_draw dc__law_draw pm__law_draw an__law_draw cd__law_draw ct__law_draw), sl__law_draw⟩)
    (c__law_draw : PySem.W.codeIn K cd__law_draw "_law_draw" = true)
    (k__law_draw : PySem.W.keepIn K (.ref f__law_draw) = true)
    (a__law_some : PySem.W.nsIn K mainGlobals "_law_some" = some (some (.ref f__law_some)))
    (l__law_some : K.lookup f__law_some = some ⟨oc__law_some, od__law_some, .func (PySem.W.fnOf "_law_some" "_law_some" (defArgs s_law_some) (defBody s_law_some) (defScope s_law_some) .none kV__law_some dc__law_some pm__law_some an__law_some cd__law_some ct__law_some), sl__law_some⟩)
    (c__law_some : PySem.W.codeIn K cd__law_some "_law_some" = true)
    (k__law_some : PySem.W.keepIn K (.ref f__law_some) = true)
    (a__law_divisor : PySem.W.nsIn K mainGlobals "_law_divisor" = some (some (.ref f__law_divisor)))
    (l__law_divisor : K.lookup f__law_divisor = some ⟨oc__law_divisor, od__law_divisor, .func (PySem.W.fnOf "_law_divisor" "_law_divisor" (defArgs s_law_divisor) (defBody s_law_divisor) (defScope s_law_divisor) .none kV__law_divisor dc__law_divisor pm__law_divisor an__law_divisor cd__law_divisor ct__law_divisor), sl__law_divisor⟩)
    (c__law_divisor : PySem.W.codeIn K cd__law_divisor "_law_divisor" = true)
    (k__law_divisor : PySem.W.keepIn K (.ref f__law_divisor) = true)
    (a__law_fraction : PySem.W.nsIn K mainGlobals "_law_fraction" = some (some (.ref f__law_fraction)))
    (l__law_fraction : K.lookup f__law_fraction = some ⟨oc__law_fraction, od__law_fraction, .func (PySem.W.fnOf "_law_fraction" "_law_fraction" (defArgs s_law_fraction) (defBody s_law_fraction) (defScope s_law_fraction) .none kV__law_fraction dc__law_fraction pm__law_fraction an__law_fraction cd__law_fraction ct__law_fraction), sl__law_fraction⟩)
    (c__law_fraction : PySem.W.codeIn K cd__law_fraction "_law_fraction" = true)
    (k__law_fraction : PySem.W.keepIn K (.ref f__law_fraction) = true)
    (a__law_keeps : PySem.W.nsIn K mainGlobals "_law_keeps" = some (some (.ref f__law_keeps)))
    (l__law_keeps : K.lookup f__law_keeps = some ⟨oc__law_keeps, od__law_keeps, .func (PySem.W.fnOf "_law_keeps" "_law_keeps" (defArgs s_law_keeps) (defBody s_law_keeps) (defScope s_law_keeps) .none kV__law_keeps dc__law_keeps pm__law_keeps an__law_keeps cd__law_keeps ct__law_keeps), sl__law_keeps⟩)
    (c__law_keeps : PySem.W.codeIn K cd__law_keeps "_law_keeps" = true)
    (k__law_keeps : PySem.W.keepIn K (.ref f__law_keeps) = true)
    (a__law_is_in_span : PySem.W.nsIn K mainGlobals "_law_is_in_span" = some (some (.ref f__law_is_in_span)))
    (l__law_is_in_span : K.lookup f__law_is_in_span = some ⟨oc__law_is_in_span, od__law_is_in_span, .func (PySem.W.fnOf "_law_is_in_span" "_law_is_in_span" (defArgs s_law_is_in_span) (defBody s_law_is_in_span) (defScope s_law_is_in_span) .none kV__law_is_in_span dc__law_is_in_span pm__law_is_in_span an__law_is_in_span cd__law_is_in_span ct__law_is_in_span), sl__law_is_in_span⟩)
    (c__law_is_in_span : PySem.W.codeIn K cd__law_is_in_span "_law_is_in_span" = true)
    (k__law_is_in_span : PySem.W.keepIn K (.ref f__law_is_in_span) = true)
    (a__law_is_right : PySem.W.nsIn K mainGlobals "_law_is_right" = some (some (.ref f__law_is_right)))
    (l__law_is_right : K.lookup f__law_is_right = some ⟨oc__law_is_right, od__law_is_right, .func (PySem.W.fnOf "_law_is_right" "_law_is_right" (defArgs s_law_is_right) (defBody s_law_is_right) (defScope s_law_is_right) .none kV__law_is_right dc__law_is_right pm__law_is_right an__law_is_right cd__law_is_right ct__law_is_right), sl__law_is_right⟩)
    (c__law_is_right : PySem.W.codeIn K cd__law_is_right "_law_is_right" = true)
    (k__law_is_right : PySem.W.keepIn K (.ref f__law_is_right) = true)
    (a_law : PySem.W.nsIn K mainGlobals "law" = some (some (.ref f_law)))
    (l_law : K.lookup f_law = some ⟨oc_law, od_law, .func (PySem.W.fnOf "law" "law" (defArgs s_law) (defBody s_law) (defScope s_law) .none kV_law dc_law pm_law an_law cd_law ct_law), sl_law⟩)
    (c_law : PySem.W.codeIn K cd_law "law" = true)
    (k_law : PySem.W.keepIn K (.ref f_law) = true)
    (pg_System : PySem.W.plainGet K C_System Str.empty = true)
    (hd_System : PySem.W.hasDictIn K C_System = true)
    (po_System : PySem.W.plainOver K C_System = true)
    (sa_System : PySem.W.findIn K (.ref C_System) "__setattr__" = some (some (.builtin "object.__setattr__")))
    (mk_System : PySem.W.makesIn K C_System = true)
    (kc_System : PySem.W.keepIn K (.ref C_System) = true)
    (ha_System : PySem.W.findIn K (.ref C_System) "__class__" = some (some (.builtin "object.__class__")))
    (hn_System : PySem.W.specialIn K (.builtin "object.__class__") "__get__" = some (some (.builtin "getset_descriptor.__get__")))
    (ht_System : PySem.W.takesIn K (.builtin "object.__class__") = some true)
    (hm_System : PySem.W.mroIn K C_System (.type "object") = some true)
    (ne_System : PySem.W.findIn K (.ref C_System) "__ne__" = some (some (.builtin "object.__ne__")))
    (n_System_coins : PySem.W.findIn K (.ref C_System) "coins" = some none)
    (n_System_needed_coins : PySem.W.findIn K (.ref C_System) "needed_coins" = some none)
    (n_System_rests : PySem.W.findIn K (.ref C_System) "rests" = some none)
    (z_isinstance : PySem.W.nsIn K mainGlobals "isinstance" = some none)
    (z_int : PySem.W.nsIn K mainGlobals "int" = some none)
    (z_bool : PySem.W.nsIn K mainGlobals "bool" = some none)
    (z_tuple : PySem.W.nsIn K mainGlobals "tuple" = some none)
    (z_abs : PySem.W.nsIn K mainGlobals "abs" = some none)
    (z_range : PySem.W.nsIn K mainGlobals "range" = some none)
    (z_len : PySem.W.nsIn K mainGlobals "len" = some none)
    (z_enumerate : PySem.W.nsIn K mainGlobals "enumerate" = some none)
    (z_min : PySem.W.nsIn K mainGlobals "min" = some none)
    (z_max : PySem.W.nsIn K mainGlobals "max" = some none)
    (z_sum : PySem.W.nsIn K mainGlobals "sum" = some none)
    (z_sorted : PySem.W.nsIn K mainGlobals "sorted" = some none)
    (z_list : PySem.W.nsIn K mainGlobals "list" = some none)
    (z_dict : PySem.W.nsIn K mainGlobals "dict" = some none)
    (z_all : PySem.W.nsIn K mainGlobals "all" = some none)
    (z_any : PySem.W.nsIn K mainGlobals "any" = some none)
    (q_MOST_COIN : PySem.W.nsIn K mainGlobals "MOST_COIN" = some (some (.int 1000000 t_MOST_COIN)))
    (q_MOST_LEAST : PySem.W.nsIn K mainGlobals "MOST_LEAST" = some (some (.int 2000 t_MOST_LEAST)))
    (q_MOST_COINS : PySem.W.nsIn K mainGlobals "MOST_COINS" = some (some (.int 700 t_MOST_COINS)))
    (q_MOST_MODULUS : PySem.W.nsIn K mainGlobals "MOST_MODULUS" = some (some (.int 600 t_MOST_MODULUS)))
    (q_MOST_SIZE : PySem.W.nsIn K mainGlobals "MOST_SIZE" = some (some (.int 1000000000000000000000000000000 t_MOST_SIZE)))
    (q_MOST_PART : PySem.W.nsIn K mainGlobals "MOST_PART" = some (some (.int 2000 t_MOST_PART)))
    (q_MOST_GREAT : PySem.W.nsIn K mainGlobals "MOST_GREAT" = some (some (.int 2000 t_MOST_GREAT)))
    : ∃ fd : FuncData, (∀ (s : Shared) (v : Value), BindsTo s fd ⟨[v], []⟩ [("script", v)]) ∧ ∀ base : Heap, K.In base → base.Ns mainGlobals mg → FnOk l.prog w K mg base CX0 10 fa fd ["script"] (sp_law K) := by
  have e := hfa.symm.trans (PySem.W.mg_of X G a_law)
  cases e
  have F_is_integer := fun_mk (st := s_is_integer) l_is_integer c_is_integer k_is_integer
  have b_is_integer := F_is_integer.binds (ps := ["thing"]) fun _ _ _ _ _ _ us hl => match us, hl with | [_], _ => rfl
  have F_is_within := fun_mk (st := s_is_within) l_is_within c_is_within k_is_within
  have b_is_within := F_is_within.binds (ps := ["thing", "low", "high"]) fun _ _ _ _ _ _ us hl => match us, hl with | [_, _, _], _ => rfl
  have F_is_tuple_of := fun_mk (st := s_is_tuple_of) l_is_tuple_of c_is_tuple_of k_is_tuple_of
  have b_is_tuple_of := F_is_tuple_of.binds (ps := ["thing", "many"]) fun _ _ _ _ _ _ us hl => match us, hl with | [_, _], _ => rfl
  have F_common := fun_mk (st := s_common) l_common c_common k_common
  have b_common := F_common.binds (ps := ["one", "other"]) fun _ _ _ _ _ _ us hl => match us, hl with | [_, _], _ => rfl
  have F_common_of := fun_mk (st := s_common_of) l_common_of c_common_of k_common_of
  have b_common_of := F_common_of.binds (ps := ["some"]) fun _ _ _ _ _ _ us hl => match us, hl with | [_], _ => rfl
  have F_frac := fun_mk (st := s_frac) l_frac c_frac k_frac
  have b_frac := F_frac.binds (ps := ["top", "bottom"]) fun _ _ _ _ _ _ us hl => match us, hl with | [_, _], _ => rfl
  have F_is_fraction := fun_mk (st := s_is_fraction) l_is_fraction c_is_fraction k_is_fraction
  have b_is_fraction := F_is_fraction.binds (ps := ["thing"]) fun _ _ _ _ _ _ us hl => match us, hl with | [_], _ => rfl
  have F_round_up := fun_mk (st := s_round_up) l_round_up c_round_up k_round_up
  have b_round_up := F_round_up.binds (ps := ["found", "coin", "step", "modulus"]) fun _ _ _ _ _ _ us hl => match us, hl with | [_, _, _, _], _ => rfl
  have F_built := fun_mk (st := s_built) l_built c_built k_built
  have b_built := F_built.binds (ps := ["coins"]) fun _ _ _ _ _ _ us hl => match us, hl with | [_], _ => rfl
  have F_check_coins := fun_mk (st := s_check_coins) l_check_coins c_check_coins k_check_coins
  have b_check_coins := F_check_coins.binds (ps := ["coins"]) fun _ _ _ _ _ _ us hl => match us, hl with | [_], _ => rfl
  have F_System_init := fun_mk (st := s_System_init) l_System_init c_System_init k_System_init
  have b_System_init := F_System_init.binds (ps := ["self", "coins"]) fun _ _ _ _ _ _ us hl => match us, hl with | [_, _], _ => rfl
  have F_System_eq := fun_mk (st := s_System_eq) l_System_eq c_System_eq k_System_eq
  have b_System_eq := F_System_eq.binds (ps := ["self", "other"]) fun _ _ _ _ _ _ us hl => match us, hl with | [_, _], _ => rfl
  have F_check_system := fun_mk (st := s_check_system) l_check_system c_check_system k_check_system
  have b_check_system := F_check_system.binds (ps := ["system"]) fun _ _ _ _ _ _ us hl => match us, hl with | [_], _ => rfl
  have F_check_sum := fun_mk (st := s_check_sum) l_check_sum c_check_sum k_check_sum
  have b_check_sum := F_check_sum.binds (ps := ["system", "number"]) fun _ _ _ _ _ _ us hl => match us, hl with | [_, _], _ => rfl
  have F_pays_of := fun_mk (st := s_pays_of) l_pays_of c_pays_of k_pays_of
  have b_pays_of := F_pays_of.binds (ps := ["system", "number"]) fun _ _ _ _ _ _ us hl => match us, hl with | [_, _], _ => rfl
  have F_pays := fun_mk (st := s_pays) l_pays c_pays k_pays
  have b_pays := F_pays.binds (ps := ["system", "number"]) fun _ _ _ _ _ _ us hl => match us, hl with | [_, _], _ => rfl
  have F_gaps_number_of := fun_mk (st := s_gaps_number_of) l_gaps_number_of c_gaps_number_of k_gaps_number_of
  have b_gaps_number_of := F_gaps_number_of.binds (ps := ["system"]) fun _ _ _ _ _ _ us hl => match us, hl with | [_], _ => rfl
  have F_gaps_number := fun_mk (st := s_gaps_number) l_gaps_number c_gaps_number k_gaps_number
  have b_gaps_number := F_gaps_number.binds (ps := ["system"]) fun _ _ _ _ _ _ us hl => match us, hl with | [_], _ => rfl
  have F_least_coins := fun_mk (st := s_least_coins) l_least_coins c_least_coins k_least_coins
  have b_least_coins := F_least_coins.binds (ps := ["coins"]) fun _ _ _ _ _ _ us hl => match us, hl with | [_], _ => rfl
  have F_check_rule := fun_mk (st := s_check_rule) l_check_rule c_check_rule k_check_rule
  have b_check_rule := F_check_rule.binds (ps := ["factor", "modulus", "share"]) fun _ _ _ _ _ _ us hl => match us, hl with | [_, _, _], _ => rfl
  have F_rule_holds := fun_mk (st := s_rule_holds) l_rule_holds c_rule_holds k_rule_holds
  have b_rule_holds := F_rule_holds.binds (ps := ["factor", "modulus", "share", "number"]) fun _ _ _ _ _ _ us hl => match us, hl with | [_, _, _, _], _ => rfl
  have F_rule_system := fun_mk (st := s_rule_system) l_rule_system c_rule_system k_rule_system
  have b_rule_system := F_rule_system.binds (ps := ["factor", "modulus", "share"]) fun _ _ _ _ _ _ us hl => match us, hl with | [_, _, _], _ => rfl
  have F_rule_gaps := fun_mk (st := s_rule_gaps) l_rule_gaps c_rule_gaps k_rule_gaps
  have b_rule_gaps := F_rule_gaps.binds (ps := ["factor", "modulus"]) fun _ _ _ _ _ _ us hl => match us, hl with | [_, _], _ => rfl
  have F_least_kept := fun_mk (st := s_least_kept) l_least_kept c_least_kept k_least_kept
  have b_least_kept := F_least_kept.binds (ps := ["factor", "modulus", "share"]) fun _ _ _ _ _ _ us hl => match us, hl with | [_, _, _], _ => rfl
  have F_same_rule := fun_mk (st := s_same_rule) l_same_rule c_same_rule k_same_rule
  have b_same_rule := F_same_rule.binds (ps := ["one", "other", "modulus"]) fun _ _ _ _ _ _ us hl => match us, hl with | [_, _, _], _ => rfl
  have F_twin_factor := fun_mk (st := s_twin_factor) l_twin_factor c_twin_factor k_twin_factor
  have b_twin_factor := F_twin_factor.binds (ps := ["factor", "modulus"]) fun _ _ _ _ _ _ us hl => match us, hl with | [_, _], _ => rfl
  have F_check_span := fun_mk (st := s_check_span) l_check_span c_check_span k_check_span
  have b_check_span := F_check_span.binds (ps := ["low", "high"]) fun _ _ _ _ _ _ us hl => match us, hl with | [_, _], _ => rfl
  have F_in_span := fun_mk (st := s_in_span) l_in_span c_in_span k_in_span
  have b_in_span := F_in_span.binds (ps := ["low", "high", "number"]) fun _ _ _ _ _ _ us hl => match us, hl with | [_, _, _], _ => rfl
  have F_span_pays := fun_mk (st := s_span_pays) l_span_pays c_span_pays k_span_pays
  have b_span_pays := F_span_pays.binds (ps := ["low", "high", "number"]) fun _ _ _ _ _ _ us hl => match us, hl with | [_, _, _], _ => rfl
  have F_span_system_of := fun_mk (st := s_span_system_of) l_span_system_of c_span_system_of k_span_system_of
  have b_span_system_of := F_span_system_of.binds (ps := ["low", "high"]) fun _ _ _ _ _ _ us hl => match us, hl with | [_, _], _ => rfl
  have F_span_system := fun_mk (st := s_span_system) l_span_system c_span_system k_span_system
  have b_span_system := F_span_system.binds (ps := ["low", "high"]) fun _ _ _ _ _ _ us hl => match us, hl with | [_, _], _ => rfl
  have F_chain_of := fun_mk (st := s_chain_of) l_chain_of c_chain_of k_chain_of
  have b_chain_of := F_chain_of.binds (ps := ["low", "high"]) fun _ _ _ _ _ _ us hl => match us, hl with | [_, _], _ => rfl
  have F_next_in_chain := fun_mk (st := s_next_in_chain) l_next_in_chain c_next_in_chain k_next_in_chain
  have b_next_in_chain := F_next_in_chain.binds (ps := ["here", "high"]) fun _ _ _ _ _ _ us hl => match us, hl with | [_, _], _ => rfl
  have F_left_neighbour := fun_mk (st := s_left_neighbour) l_left_neighbour c_left_neighbour k_left_neighbour
  have b_left_neighbour := F_left_neighbour.binds (ps := ["here"]) fun _ _ _ _ _ _ us hl => match us, hl with | [_], _ => rfl
  have F_across := fun_mk (st := s_across) l_across c_across k_across
  have b_across := F_across.binds (ps := ["one", "other"]) fun _ _ _ _ _ _ us hl => match us, hl with | [_, _], _ => rfl
  have F_chain_coins := fun_mk (st := s_chain_coins) l_chain_coins c_chain_coins k_chain_coins
  have b_chain_coins := F_chain_coins.binds (ps := ["low", "high"]) fun _ _ _ _ _ _ us hl => match us, hl with | [_, _], _ => rfl
  have F__law_hand := fun_mk (st := s_law_hand) l__law_hand c__law_hand k__law_hand
  have b__law_hand := F__law_hand.binds (ps := ["script"]) fun _ _ _ _ _ _ us hl => match us, hl with | [_], _ => rfl
  have F__law_draw := fun_mk (st := s_law_draw) l__law_draw c__law_draw k__law_draw
  have b__law_draw := F__law_draw.binds (ps := ["hand", "many"]) fun _ _ _ _ _ _ us hl => match us, hl with | [_, _], _ => rfl
  have F__law_some := fun_mk (st := s_law_some) l__law_some c__law_some k__law_some
  have b__law_some := F__law_some.binds (ps := ["hand", "things"]) fun _ _ _ _ _ _ us hl => match us, hl with | [_, _], _ => rfl
  have F__law_divisor := fun_mk (st := s_law_divisor) l__law_divisor c__law_divisor k__law_divisor
  have b__law_divisor := F__law_divisor.binds (ps := ["one", "other"]) fun _ _ _ _ _ _ us hl => match us, hl with | [_, _], _ => rfl
  have F__law_fraction := fun_mk (st := s_law_fraction) l__law_fraction c__law_fraction k__law_fraction
  have b__law_fraction := F__law_fraction.binds (ps := ["top", "bottom"]) fun _ _ _ _ _ _ us hl => match us, hl with | [_, _], _ => rfl
  have F__law_keeps := fun_mk (st := s_law_keeps) l__law_keeps c__law_keeps k__law_keeps
  have b__law_keeps := F__law_keeps.binds (ps := ["factor", "modulus", "share", "number"]) fun _ _ _ _ _ _ us hl => match us, hl with | [_, _, _, _], _ => rfl
  have F__law_is_in_span := fun_mk (st := s_law_is_in_span) l__law_is_in_span c__law_is_in_span k__law_is_in_span
  have b__law_is_in_span := F__law_is_in_span.binds (ps := ["low", "high", "number"]) fun _ _ _ _ _ _ us hl => match us, hl with | [_, _, _], _ => rfl
  have F__law_is_right := fun_mk (st := s_law_is_right) l__law_is_right c__law_is_right k__law_is_right
  have b__law_is_right := F__law_is_right.binds (ps := ["hand", "factor", "modulus", "share"]) fun _ _ _ _ _ _ us hl => match us, hl with | [_, _, _, _], _ => rfl
  have F_law := fun_mk (st := s_law) l_law c_law k_law
  have b_law := F_law.binds (ps := ["script"]) fun _ _ _ _ _ _ us hl => match us, hl with | [_], _ => rfl
  let T : Top K mg := {
    a_is_integer := f_is_integer
    fd_is_integer := _
    F_is_integer := F_is_integer
    g_is_integer := PySem.W.mg_of X G a_is_integer
    b_is_integer := b_is_integer
    a_is_within := f_is_within
    fd_is_within := _
    F_is_within := F_is_within
    g_is_within := PySem.W.mg_of X G a_is_within
    b_is_within := b_is_within
    a_is_tuple_of := f_is_tuple_of
    fd_is_tuple_of := _
    F_is_tuple_of := F_is_tuple_of
    g_is_tuple_of := PySem.W.mg_of X G a_is_tuple_of
    b_is_tuple_of := b_is_tuple_of
    a_common := f_common
    fd_common := _
    F_common := F_common
    g_common := PySem.W.mg_of X G a_common
    b_common := b_common
    a_common_of := f_common_of
    fd_common_of := _
    F_common_of := F_common_of
    g_common_of := PySem.W.mg_of X G a_common_of
    b_common_of := b_common_of
    a_frac := f_frac
    fd_frac := _
    F_frac := F_frac
    g_frac := PySem.W.mg_of X G a_frac
    b_frac := b_frac
    a_is_fraction := f_is_fraction
    fd_is_fraction := _
    F_is_fraction := F_is_fraction
    g_is_fraction := PySem.W.mg_of X G a_is_fraction
    b_is_fraction := b_is_fraction
    a_round_up := f_round_up
    fd_round_up := _
    F_round_up := F_round_up
    g_round_up := PySem.W.mg_of X G a_round_up
    b_round_up := b_round_up
    a_built := f_built
    fd_built := _
    F_built := F_built
    g_built := PySem.W.mg_of X G a_built
    b_built := b_built
    a_check_coins := f_check_coins
    fd_check_coins := _
    F_check_coins := F_check_coins
    g_check_coins := PySem.W.mg_of X G a_check_coins
    b_check_coins := b_check_coins
    a_System_init := f_System_init
    fd_System_init := _
    F_System_init := F_System_init
    b_System_init := b_System_init
    a_System_eq := f_System_eq
    fd_System_eq := _
    F_System_eq := F_System_eq
    b_System_eq := b_System_eq
    a_check_system := f_check_system
    fd_check_system := _
    F_check_system := F_check_system
    g_check_system := PySem.W.mg_of X G a_check_system
    b_check_system := b_check_system
    a_check_sum := f_check_sum
    fd_check_sum := _
    F_check_sum := F_check_sum
    g_check_sum := PySem.W.mg_of X G a_check_sum
    b_check_sum := b_check_sum
    a_pays_of := f_pays_of
    fd_pays_of := _
    F_pays_of := F_pays_of
    g_pays_of := PySem.W.mg_of X G a_pays_of
    b_pays_of := b_pays_of
    a_pays := f_pays
    fd_pays := _
    F_pays := F_pays
    g_pays := PySem.W.mg_of X G a_pays
    b_pays := b_pays
    a_gaps_number_of := f_gaps_number_of
    fd_gaps_number_of := _
    F_gaps_number_of := F_gaps_number_of
    g_gaps_number_of := PySem.W.mg_of X G a_gaps_number_of
    b_gaps_number_of := b_gaps_number_of
    a_gaps_number := f_gaps_number
    fd_gaps_number := _
    F_gaps_number := F_gaps_number
    g_gaps_number := PySem.W.mg_of X G a_gaps_number
    b_gaps_number := b_gaps_number
    a_least_coins := f_least_coins
    fd_least_coins := _
    F_least_coins := F_least_coins
    g_least_coins := PySem.W.mg_of X G a_least_coins
    b_least_coins := b_least_coins
    a_check_rule := f_check_rule
    fd_check_rule := _
    F_check_rule := F_check_rule
    g_check_rule := PySem.W.mg_of X G a_check_rule
    b_check_rule := b_check_rule
    a_rule_holds := f_rule_holds
    fd_rule_holds := _
    F_rule_holds := F_rule_holds
    g_rule_holds := PySem.W.mg_of X G a_rule_holds
    b_rule_holds := b_rule_holds
    a_rule_system := f_rule_system
    fd_rule_system := _
    F_rule_system := F_rule_system
    g_rule_system := PySem.W.mg_of X G a_rule_system
    b_rule_system := b_rule_system
    a_rule_gaps := f_rule_gaps
    fd_rule_gaps := _
    F_rule_gaps := F_rule_gaps
    g_rule_gaps := PySem.W.mg_of X G a_rule_gaps
    b_rule_gaps := b_rule_gaps
    a_least_kept := f_least_kept
    fd_least_kept := _
    F_least_kept := F_least_kept
    g_least_kept := PySem.W.mg_of X G a_least_kept
    b_least_kept := b_least_kept
    a_same_rule := f_same_rule
    fd_same_rule := _
    F_same_rule := F_same_rule
    g_same_rule := PySem.W.mg_of X G a_same_rule
    b_same_rule := b_same_rule
    a_twin_factor := f_twin_factor
    fd_twin_factor := _
    F_twin_factor := F_twin_factor
    g_twin_factor := PySem.W.mg_of X G a_twin_factor
    b_twin_factor := b_twin_factor
    a_check_span := f_check_span
    fd_check_span := _
    F_check_span := F_check_span
    g_check_span := PySem.W.mg_of X G a_check_span
    b_check_span := b_check_span
    a_in_span := f_in_span
    fd_in_span := _
    F_in_span := F_in_span
    g_in_span := PySem.W.mg_of X G a_in_span
    b_in_span := b_in_span
    a_span_pays := f_span_pays
    fd_span_pays := _
    F_span_pays := F_span_pays
    g_span_pays := PySem.W.mg_of X G a_span_pays
    b_span_pays := b_span_pays
    a_span_system_of := f_span_system_of
    fd_span_system_of := _
    F_span_system_of := F_span_system_of
    g_span_system_of := PySem.W.mg_of X G a_span_system_of
    b_span_system_of := b_span_system_of
    a_span_system := f_span_system
    fd_span_system := _
    F_span_system := F_span_system
    g_span_system := PySem.W.mg_of X G a_span_system
    b_span_system := b_span_system
    a_chain_of := f_chain_of
    fd_chain_of := _
    F_chain_of := F_chain_of
    g_chain_of := PySem.W.mg_of X G a_chain_of
    b_chain_of := b_chain_of
    a_next_in_chain := f_next_in_chain
    fd_next_in_chain := _
    F_next_in_chain := F_next_in_chain
    g_next_in_chain := PySem.W.mg_of X G a_next_in_chain
    b_next_in_chain := b_next_in_chain
    a_left_neighbour := f_left_neighbour
    fd_left_neighbour := _
    F_left_neighbour := F_left_neighbour
    g_left_neighbour := PySem.W.mg_of X G a_left_neighbour
    b_left_neighbour := b_left_neighbour
    a_across := f_across
    fd_across := _
    F_across := F_across
    g_across := PySem.W.mg_of X G a_across
    b_across := b_across
    a_chain_coins := f_chain_coins
    fd_chain_coins := _
    F_chain_coins := F_chain_coins
    g_chain_coins := PySem.W.mg_of X G a_chain_coins
    b_chain_coins := b_chain_coins
    a__law_hand := f__law_hand
    fd__law_hand := _
    F__law_hand := F__law_hand
    g__law_hand := PySem.W.mg_of X G a__law_hand
    b__law_hand := b__law_hand
    a__law_draw := f__law_draw
    fd__law_draw := _
    F__law_draw := F__law_draw
    g__law_draw := PySem.W.mg_of X G a__law_draw
    b__law_draw := b__law_draw
    a__law_some := f__law_some
    fd__law_some := _
    F__law_some := F__law_some
    g__law_some := PySem.W.mg_of X G a__law_some
    b__law_some := b__law_some
    a__law_divisor := f__law_divisor
    fd__law_divisor := _
    F__law_divisor := F__law_divisor
    g__law_divisor := PySem.W.mg_of X G a__law_divisor
    b__law_divisor := b__law_divisor
    a__law_fraction := f__law_fraction
    fd__law_fraction := _
    F__law_fraction := F__law_fraction
    g__law_fraction := PySem.W.mg_of X G a__law_fraction
    b__law_fraction := b__law_fraction
    a__law_keeps := f__law_keeps
    fd__law_keeps := _
    F__law_keeps := F__law_keeps
    g__law_keeps := PySem.W.mg_of X G a__law_keeps
    b__law_keeps := b__law_keeps
    a__law_is_in_span := f__law_is_in_span
    fd__law_is_in_span := _
    F__law_is_in_span := F__law_is_in_span
    g__law_is_in_span := PySem.W.mg_of X G a__law_is_in_span
    b__law_is_in_span := b__law_is_in_span
    a__law_is_right := f__law_is_right
    fd__law_is_right := _
    F__law_is_right := F__law_is_right
    g__law_is_right := PySem.W.mg_of X G a__law_is_right
    b__law_is_right := b__law_is_right
    a_law := fa
    fd_law := _
    F_law := F_law
    g_law := PySem.W.mg_of X G a_law
    b_law := b_law
    a_System := C_System
    g_System := PySem.W.mg_of X G aC_System
    m_System := ⟨mk_System, a_System_init, i_System_init, kc_System⟩
    i_System := ⟨⟨pg_System, hd_System, po_System, sa_System⟩, ha_System, hn_System, ht_System, hm_System, kit_self _ _⟩
    eq_System := a_System_eq
    ne_System := ne_System
    fn_System_eq := i_System_eq
    n_System_coins := n_System_coins
    n_System_needed_coins := n_System_needed_coins
    n_System_rests := n_System_rests
    z_isinstance := PySem.W.mg_none_of X G z_isinstance
    z_int := PySem.W.mg_none_of X G z_int
    z_bool := PySem.W.mg_none_of X G z_bool
    z_tuple := PySem.W.mg_none_of X G z_tuple
    z_abs := PySem.W.mg_none_of X G z_abs
    z_range := PySem.W.mg_none_of X G z_range
    z_len := PySem.W.mg_none_of X G z_len
    z_enumerate := PySem.W.mg_none_of X G z_enumerate
    z_min := PySem.W.mg_none_of X G z_min
    z_max := PySem.W.mg_none_of X G z_max
    z_sum := PySem.W.mg_none_of X G z_sum
    z_sorted := PySem.W.mg_none_of X G z_sorted
    z_list := PySem.W.mg_none_of X G z_list
    z_dict := PySem.W.mg_none_of X G z_dict
    z_all := PySem.W.mg_none_of X G z_all
    z_any := PySem.W.mg_none_of X G z_any
    t_MOST_COIN := t_MOST_COIN
    c_MOST_COIN := PySem.W.mg_of X G q_MOST_COIN
    t_MOST_LEAST := t_MOST_LEAST
    c_MOST_LEAST := PySem.W.mg_of X G q_MOST_LEAST
    t_MOST_COINS := t_MOST_COINS
    c_MOST_COINS := PySem.W.mg_of X G q_MOST_COINS
    t_MOST_MODULUS := t_MOST_MODULUS
    c_MOST_MODULUS := PySem.W.mg_of X G q_MOST_MODULUS
    t_MOST_SIZE := t_MOST_SIZE
    c_MOST_SIZE := PySem.W.mg_of X G q_MOST_SIZE
    t_MOST_PART := t_MOST_PART
    c_MOST_PART := PySem.W.mg_of X G q_MOST_PART
    t_MOST_GREAT := t_MOST_GREAT
    c_MOST_GREAT := PySem.W.mg_of X G q_MOST_GREAT
  }
  exact ⟨_, fun s v => .of_eq rfl, fun base _ _ => ok_law T⟩
theorem walk {l : PySem.W.OpenLaw} {q : Program} {loose : List Str} {XP : (Str → Option Value) → Heap → Prop} {YP : World → Heap → Prop} {d : DefRec} {K : Params → PySem.W.Frag} (hn : l.most = some 63) (hdf : d.params.defaults = [])
    (hY : ∀ (w : World) (h : Heap), YP w h → (K w.params).In h)
    (F : ∀ (w : World) (mg : Str → Option Value) (fa : Addr) (h : Heap), (K w.params).In h → h.Ns mainGlobals mg → mg d.name = some (.ref fa) →
      ∃ fd : FuncData, (∀ (s : Shared) (u : Value), BindsTo s fd ⟨[u], []⟩ [("script", u)]) ∧ ∀ base : Heap, (K w.params).In base → base.Ns mainGlobals mg → FnOk l.prog w (K w.params) mg base CX0 10 fa fd ["script"] (sp_law (K w.params))) :
    PySem.W.WalkO q loose XP YP l.row.toRowW d [] (fun f vs => PySem.call f vs) :=
  L2.walk_of (n := 63) (k := 10) (x := "script") (CX := fun _ => CX0) (sp := fun w => sp_law (K w.params)) hn (by decide) hdf ⟨rfl, by decide, by decide⟩ hY F (fun _ _ a ns hl _ hS => ⟨a, ns, rfl, hS, hl, fun _ => rfl⟩) fun _ _ _ _ _ z => z
end Pd

open PySem PySem.W PyProof.Rows in
set_option maxRecDepth 100000 in
set_option maxHeartbeats 0 in
theorem PySem.Challenge.cw_paidornot_k05_whole_rules_by_one_rest_ar_holds : PySem.Challenge.rw_paidornot_k05_whole_rules_by_one_rest_ar.Holds := by
  w_on; o_law; k_head; (case hw => w_witness2)
  k_fill
  refine Pd.walk (l := PySem.Challenge.rw_paidornot_k05_whole_rules_by_one_rest_ar) rfl rfl (fun w h Y => PySem.W.kIn_of Y) ?F
  case F =>
    intro w mg fa h KX G hmg
    refine' Pd.all_mk KX G hmg ?aC_System ?a_is_integer ?l_is_integer ?c_is_integer ?k_is_integer ?a_is_within ?l_is_within ?c_is_within ?k_is_within ?a_is_tuple_of ?l_is_tuple_of ?c_is_tuple_of ?k_is_tuple_of ?a_common ?l_common ?c_common ?k_common ?a_common_of ?l_common_of ?c_common_of ?k_common_of ?a_frac ?l_frac ?c_frac ?k_frac ?a_is_fraction ?l_is_fraction ?c_is_fraction ?k_is_fraction ?a_round_up ?l_round_up ?c_round_up ?k_round_up ?a_built ?l_built ?c_built ?k_built ?a_check_coins ?l_check_coins ?c_check_coins ?k_check_coins ?a_System_init ?i_System_init ?l_System_init ?c_System_init ?k_System_init ?a_System_eq ?i_System_eq ?l_System_eq ?c_System_eq ?k_System_eq ?a_check_system ?l_check_system ?c_check_system ?k_check_system ?a_check_sum ?l_check_sum ?c_check_sum ?k_check_sum ?a_pays_of ?l_pays_of ?c_pays_of ?k_pays_of ?a_pays ?l_pays ?c_pays ?k_pays ?a_gaps_number_of ?l_gaps_number_of ?c_gaps_number_of ?k_gaps_number_of ?a_gaps_number ?l_gaps_number ?c_gaps_number ?k_gaps_number ?a_least_coins ?l_least_coins ?c_least_coins ?k_least_coins ?a_check_rule ?l_check_rule ?c_check_rule ?k_check_rule ?a_rule_holds ?l_rule_holds ?c_rule_holds ?k_rule_holds ?a_rule_system ?l_rule_system ?c_rule_system ?k_rule_system ?a_rule_gaps ?l_rule_gaps ?c_rule_gaps ?k_rule_gaps ?a_least_kept ?l_least_kept ?c_least_kept ?k_least_kept ?a_same_rule ?l_same_rule ?c_same_rule ?k_same_rule ?a_twin_factor ?l_twin_factor ?c_twin_factor ?k_twin_factor ?a_check_span ?l_check_span ?c_check_span ?k_check_span ?a_in_span ?l_in_span ?c_in_span ?k_in_span ?a_span_pays ?l_span_pays ?c_span_pays ?k_span_pays ?a_span_system_of ?l_span_system_of ?c_span_system_of ?k_span_system_of ?a_span_system ?l_span_system ?c_span_system ?k_span_system ?a_chain_of ?l_chain_of ?c_chain_of ?k_chain_of ?a_next_in_chain ?l_next_in_chain ?c_next_in_chain ?k_next_in_chain ?a_left_neighbour ?l_left_neighbour ?c_left_neighbour ?k_left_neighbour ?a_across ?l_across ?c_across ?k_across ?a_chain_coins ?l_chain_coins ?c_chain_coins ?k_chain_coins ?a__law_hand ?l__law_hand ?c__law_hand ?k__law_hand ?a__law_draw ?l__law_draw ?c__law_draw ?k__law_draw ?a__law_some ?l__law_some ?c__law_some ?k__law_some ?a__law_divisor ?l__law_divisor ?c__law_divisor ?k__law_divisor ?a__law_fraction ?l__law_fraction ?c__law_fraction ?k__law_fraction ?a__law_keeps ?l__law_keeps ?c__law_keeps ?k__law_keeps ?a__law_is_in_span ?l__law_is_in_span ?c__law_is_in_span ?k__law_is_in_span ?a__law_is_right ?l__law_is_right ?c__law_is_right ?k__law_is_right ?a_law ?l_law ?c_law ?k_law ?pg_System ?hd_System ?po_System ?sa_System ?mk_System ?kc_System ?ha_System ?hn_System ?ht_System ?hm_System ?ne_System ?n_System_coins ?n_System_needed_coins ?n_System_rests ?z_isinstance ?z_int ?z_bool ?z_tuple ?z_abs ?z_range ?z_len ?z_enumerate ?z_min ?z_max ?z_sum ?z_sorted ?z_list ?z_dict ?z_all ?z_any ?q_MOST_COIN ?q_MOST_LEAST ?q_MOST_COINS ?q_MOST_MODULUS ?q_MOST_SIZE ?q_MOST_PART ?q_MOST_GREAT
    (case aC_System => k_is)
    (case a_is_integer => k_is)
    (case l_is_integer => k_is)
    (case c_is_integer => k_is)
    (case k_is_integer => k_is)
    (case a_is_within => k_is)
    (case l_is_within => k_is)
    (case c_is_within => k_is)
    (case k_is_within => k_is)
    (case a_is_tuple_of => k_is)
    (case l_is_tuple_of => k_is)
    (case c_is_tuple_of => k_is)
    (case k_is_tuple_of => k_is)
    (case a_common => k_is)
    (case l_common => k_is)
    (case c_common => k_is)
    (case k_common => k_is)
    (case a_common_of => k_is)
    (case l_common_of => k_is)
    (case c_common_of => k_is)
    (case k_common_of => k_is)
    (case a_frac => k_is)
    (case l_frac => k_is)
    (case c_frac => k_is)
    (case k_frac => k_is)
    (case a_is_fraction => k_is)
    (case l_is_fraction => k_is)
    (case c_is_fraction => k_is)
    (case k_is_fraction => k_is)
    (case a_round_up => k_is)
    (case l_round_up => k_is)
    (case c_round_up => k_is)
    (case k_round_up => k_is)
    (case a_built => k_is)
    (case l_built => k_is)
    (case c_built => k_is)
    (case k_built => k_is)
    (case a_check_coins => k_is)
    (case l_check_coins => k_is)
    (case c_check_coins => k_is)
    (case k_check_coins => k_is)
    (case a_System_init => k_is)
    (case i_System_init => k_is)
    (case l_System_init => k_is)
    (case c_System_init => k_is)
    (case k_System_init => k_is)
    (case a_System_eq => k_is)
    (case i_System_eq => k_is)
    (case l_System_eq => k_is)
    (case c_System_eq => k_is)
    (case k_System_eq => k_is)
    (case a_check_system => k_is)
    (case l_check_system => k_is)
    (case c_check_system => k_is)
    (case k_check_system => k_is)
    (case a_check_sum => k_is)
    (case l_check_sum => k_is)
    (case c_check_sum => k_is)
    (case k_check_sum => k_is)
    (case a_pays_of => k_is)
    (case l_pays_of => k_is)
    (case c_pays_of => k_is)
    (case k_pays_of => k_is)
    (case a_pays => k_is)
    (case l_pays => k_is)
    (case c_pays => k_is)
    (case k_pays => k_is)
    (case a_gaps_number_of => k_is)
    (case l_gaps_number_of => k_is)
    (case c_gaps_number_of => k_is)
    (case k_gaps_number_of => k_is)
    (case a_gaps_number => k_is)
    (case l_gaps_number => k_is)
    (case c_gaps_number => k_is)
    (case k_gaps_number => k_is)
    (case a_least_coins => k_is)
    (case l_least_coins => k_is)
    (case c_least_coins => k_is)
    (case k_least_coins => k_is)
    (case a_check_rule => k_is)
    (case l_check_rule => k_is)
    (case c_check_rule => k_is)
    (case k_check_rule => k_is)
    (case a_rule_holds => k_is)
    (case l_rule_holds => k_is)
    (case c_rule_holds => k_is)
    (case k_rule_holds => k_is)
    (case a_rule_system => k_is)
    (case l_rule_system => k_is)
    (case c_rule_system => k_is)
    (case k_rule_system => k_is)
    (case a_rule_gaps => k_is)
    (case l_rule_gaps => k_is)
    (case c_rule_gaps => k_is)
    (case k_rule_gaps => k_is)
    (case a_least_kept => k_is)
    (case l_least_kept => k_is)
    (case c_least_kept => k_is)
    (case k_least_kept => k_is)
    (case a_same_rule => k_is)
    (case l_same_rule => k_is)
    (case c_same_rule => k_is)
    (case k_same_rule => k_is)
    (case a_twin_factor => k_is)
    (case l_twin_factor => k_is)
    (case c_twin_factor => k_is)
    (case k_twin_factor => k_is)
    (case a_check_span => k_is)
    (case l_check_span => k_is)
    (case c_check_span => k_is)
    (case k_check_span => k_is)
    (case a_in_span => k_is)
    (case l_in_span => k_is)
    (case c_in_span => k_is)
    (case k_in_span => k_is)
    (case a_span_pays => k_is)
    (case l_span_pays => k_is)
    (case c_span_pays => k_is)
    (case k_span_pays => k_is)
    (case a_span_system_of => k_is)
    (case l_span_system_of => k_is)
    (case c_span_system_of => k_is)
    (case k_span_system_of => k_is)
    (case a_span_system => k_is)
    (case l_span_system => k_is)
    (case c_span_system => k_is)
    (case k_span_system => k_is)
    (case a_chain_of => k_is)
    (case l_chain_of => k_is)
    (case c_chain_of => k_is)
    (case k_chain_of => k_is)
    (case a_next_in_chain => k_is)
    (case l_next_in_chain => k_is)
    (case c_next_in_chain => k_is)
    (case k_next_in_chain => k_is)
    (case a_left_neighbour => k_is)
    (case l_left_neighbour => k_is)
    (case c_left_neighbour => k_is)
    (case k_left_neighbour => k_is)
    (case a_across => k_is)
    (case l_across => k_is)
    (case c_across => k_is)
    (case k_across => k_is)
    (case a_chain_coins => k_is)
    (case l_chain_coins => k_is)
    (case c_chain_coins => k_is)
    (case k_chain_coins => k_is)
    (case a__law_hand => k_is)
    (case l__law_hand => k_is)
    (case c__law_hand => k_is)
    (case k__law_hand => k_is)
    (case a__law_draw => k_is)
    (case l__law_draw => k_is)
    (case c__law_draw => k_is)
    (case k__law_draw => k_is)
    (case a__law_some => k_is)
    (case l__law_some => k_is)
    (case c__law_some => k_is)
    (case k__law_some => k_is)
    (case a__law_divisor => k_is)
    (case l__law_divisor => k_is)
    (case c__law_divisor => k_is)
    (case k__law_divisor => k_is)
    (case a__law_fraction => k_is)
    (case l__law_fraction => k_is)
    (case c__law_fraction => k_is)
    (case k__law_fraction => k_is)
    (case a__law_keeps => k_is)
    (case l__law_keeps => k_is)
    (case c__law_keeps => k_is)
    (case k__law_keeps => k_is)
    (case a__law_is_in_span => k_is)
    (case l__law_is_in_span => k_is)
    (case c__law_is_in_span => k_is)
    (case k__law_is_in_span => k_is)
    (case a__law_is_right => k_is)
    (case l__law_is_right => k_is)
    (case c__law_is_right => k_is)
    (case k__law_is_right => k_is)
    (case a_law => k_is)
    (case l_law => k_is)
    (case c_law => k_is)
    (case k_law => k_is)
    (case pg_System => k_is)
    (case hd_System => k_is)
    (case po_System => k_is)
    (case sa_System => k_is)
    (case mk_System => k_is)
    (case kc_System => k_is)
    (case ha_System => k_is)
    (case hn_System => k_is)
    (case ht_System => k_is)
    (case hm_System => k_is)
    (case ne_System => k_is)
    (case n_System_coins => k_is)
    (case n_System_needed_coins => k_is)
    (case n_System_rests => k_is)
    (case z_isinstance => k_is)
    (case z_int => k_is)
    (case z_bool => k_is)
    (case z_tuple => k_is)
    (case z_abs => k_is)
    (case z_range => k_is)
    (case z_len => k_is)
    (case z_enumerate => k_is)
    (case z_min => k_is)
    (case z_max => k_is)
    (case z_sum => k_is)
    (case z_sorted => k_is)
    (case z_list => k_is)
    (case z_dict => k_is)
    (case z_all => k_is)
    (case z_any => k_is)
    (case q_MOST_COIN => k_is)
    (case q_MOST_LEAST => k_is)
    (case q_MOST_COINS => k_is)
    (case q_MOST_MODULUS => k_is)
    (case q_MOST_SIZE => k_is)
    (case q_MOST_PART => k_is)
    (case q_MOST_GREAT => k_is)
