import PyProof.Rows.All
import Wide.All
import OpenK.AllK
import Wide.FinOn
import HandS.ForMost
import HandS.Codes
import HandS.IsInst
import HandS.Style
import PyProof.Rows.StrMul
import PySem.Challenge.RW_wholewalks_k02_whole_least_contents
set_option Elab.async false
set_option linter.all false
/-! K2Math -/
namespace K2
/-! ### lists repeated -/
theorem flat_len (l : List Nat) : ∀ m : Nat, (List.replicate m l).flatten.length = m * l.length
  | 0 => by simp
  | m + 1 => by
    rw [List.replicate_succ, List.flatten_cons, List.length_append, flat_len l m, Nat.succ_mul, Nat.add_comm]
theorem flat_get (l : List Nat) (hl : l ≠ []) : ∀ (m i : Nat), i < m * l.length → (List.replicate m l).flatten[i]? = l[i % l.length]?
  | 0, i, h => by simp at h
  | m + 1, i, h => by
    have hp : 0 < l.length := List.length_pos_iff.mpr hl
    rw [List.replicate_succ, List.flatten_cons]
    by_cases hi : i < l.length
    · rw [List.getElem?_append_left hi, Nat.mod_eq_of_lt hi]
    · have hi' : l.length ≤ i := Nat.le_of_not_lt hi
      rw [Nat.succ_mul] at h
      rw [List.getElem?_append_right hi', flat_get l hl m (i - l.length) (by omega), ← Nat.mod_eq_sub_mod hi']

/-! ### signs of a content -/
abbrev Con := List Nat × List Nat
def sgn (c : Con) (n : Nat) : Option Nat :=
  if n < c.1.length then c.1[n]? else if c.2 = [] then none else c.2[(n - c.1.length) % c.2.length]?
def SameS (c d : Con) : Prop := ∀ n, sgn c n = sgn d n
theorem SameS.refl (c : Con) : SameS c c := fun _ => rfl
theorem SameS.symm {c d : Con} (h : SameS c d) : SameS d c := fun n => (h n).symm
theorem SameS.trans {c d e : Con} (h : SameS c d) (k : SameS d e) : SameS c e := fun n => (h n).trans (k n)
theorem sgn_lt {h r : List Nat} {n : Nat} (hn : n < h.length) : sgn (h, r) n = h[n]? := by
  unfold sgn; rw [if_pos hn]
theorem sgn_ge {h r : List Nat} {n : Nat} (hn : h.length ≤ n) (hr : r ≠ []) : sgn (h, r) n = r[(n - h.length) % r.length]? := by
  unfold sgn; rw [if_neg (Nat.not_lt.mpr hn), if_neg hr]
theorem sgn_end {h : List Nat} {n : Nat} (hn : h.length ≤ n) : sgn (h, []) n = none := by
  unfold sgn; rw [if_neg (Nat.not_lt.mpr hn), if_pos rfl]
theorem sgn_some {h r : List Nat} (hr : r ≠ []) (n : Nat) : ∃ c, sgn (h, r) n = some c := by
  by_cases hn : n < h.length
  · exact ⟨_, (sgn_lt hn).trans (List.getElem?_eq_getElem hn)⟩
  · have hp : 0 < r.length := List.length_pos_iff.mpr hr
    exact ⟨_, (sgn_ge (Nat.le_of_not_lt hn) hr).trans (List.getElem?_eq_getElem (Nat.mod_lt _ hp))⟩
theorem sgn_mem {h r : List Nat} {n c : Nat} (e : sgn (h, r) n = some c) : c ∈ h ∨ c ∈ r := by
  unfold sgn at e
  split at e
  · exact .inl (List.mem_of_getElem? e)
  · split at e
    · cases e
    · exact .inr (List.mem_of_getElem? e)

/-! ### eventual periods -/
def EP (x : Nat → Option Nat) (N p : Nat) : Prop := ∀ n, N ≤ n → x (n + p) = x n
theorem EP.mul {x : Nat → Option Nat} {N p : Nat} (e : EP x N p) {n : Nat} (hn : N ≤ n) : ∀ k : Nat, x (n + k * p) = x n
  | 0 => by rw [Nat.zero_mul, Nat.add_zero]
  | k + 1 => by
    have h := e (n + k * p) (Nat.le_trans hn (Nat.le_add_right _ _))
    rw [Nat.succ_mul, ← Nat.add_assoc, h]
    exact EP.mul e hn k
theorem EP.mono {x : Nat → Option Nat} {N M p : Nat} (e : EP x N p) (h : N ≤ M) : EP x M p := fun n hn => e n (Nat.le_trans h hn)
theorem EP.gcd {x : Nat → Option Nat} {N : Nat} (p q : Nat) : EP x N p → EP x N q → EP x N (Nat.gcd p q) := by
  induction p, q using Nat.gcd.induction with
  | H0 n => intro _ h; rw [Nat.gcd_zero_left]; exact h
  | H1 m n hm ih =>
    intro h1 h2
    rw [Nat.gcd_rec]
    refine ih (fun k hk => ?_) h1
    have a := EP.mul h1 (n := k + n % m) (Nat.le_trans hk (Nat.le_add_right _ _)) (n / m)
    have b := h2 k hk
    have c : k + n % m + n / m * m = k + n := by
      have := Nat.mod_add_div n m
      rw [Nat.mul_comm] at this
      omega
    rw [c] at a
    exact a.symm.trans b
theorem EP.ext {x y : Nat → Option Nat} {N p : Nat} (e : EP x N p) (h : ∀ n, x n = y n) : EP y N p := fun n hn => by
  rw [← h, ← h]; exact e n hn
/-- two sequences, each with its own period from N on, are one where they agree long enough -/
theorem EP.window {x y : Nat → Option Nat} {N p q : Nat} (hp : 0 < p) (hq : 0 < q) (ex : EP x N p) (ey : EP y N q) (h : ∀ n, n < N + p + q → x n = y n) : ∀ n, x n = y n := by
  intro n
  induction n using Nat.strongRecOn with
  | _ n ih =>
    by_cases hn : n < N + p + q
    · exact h n hn
    · have e1 := ex (n - p) (by omega)
      have e2 := ey (n - p - q) (by omega)
      have e3 := ex (n - q - p) (by omega)
      have e4 := ey (n - q) (by omega)
      have i1 := ih (n - p) (by omega)
      have i2 := ih (n - p - q) (by omega)
      have i3 := ih (n - q) (by omega)
      rw [show n - p + p = n by omega] at e1
      rw [show n - p - q + q = n - p by omega] at e2
      rw [show n - q - p + p = n - q by omega] at e3
      rw [show n - q + q = n by omega] at e4
      rw [show n - q - p = n - p - q by omega] at e3
      rw [e1, i1, e2, ← i2, ← e3, i3, e4]
theorem sgn_EP {h r : List Nat} (hr : r ≠ []) : EP (sgn (h, r)) h.length r.length := fun n hn => by
  rw [sgn_ge (Nat.le_trans hn (Nat.le_add_right _ _)) hr, sgn_ge hn hr]
  rw [show n + r.length - h.length = (n - h.length) + r.length by omega, Nat.add_mod_right]

/-! ### powers, primitive rounds -/
def Pow (r : List Nat) (d : Nat) : Prop := (List.replicate (r.length / d) (r.take d)).flatten = r
def Prim (r : List Nat) : Prop := ∀ d, 0 < d → d < r.length → r.length % d = 0 → ¬ Pow r d
theorem div_mul {n d : Nat} (h : n % d = 0) : n / d * d = n := by
  have := Nat.mod_add_div n d
  rw [Nat.mul_comm] at this
  omega
theorem pow_get {r : List Nat} {d : Nat} (hd : 0 < d) (hl : d ≤ r.length) (hm : r.length % d = 0) : Pow r d ↔ ∀ i, i < r.length → r[i]? = r[i % d]? := by
  have tl : (r.take d).length = d := by rw [List.length_take]; omega
  have tne : r.take d ≠ [] := fun e => by rw [e] at tl; simp at tl; omega
  have key : ∀ i, i < r.length → (List.replicate (r.length / d) (r.take d)).flatten[i]? = r[i % d]? := fun i hi => by
    rw [flat_get _ tne _ _ (by rw [tl, div_mul hm]; exact hi), tl, List.getElem?_take_of_lt (Nat.mod_lt _ hd)]
  constructor
  · intro h i hi
    have := key i hi
    unfold Pow at h
    rw [h] at this
    exact this
  · intro h
    unfold Pow
    apply List.ext_getElem?
    intro i
    by_cases hi : i < r.length
    · rw [key i hi, h i hi]
    · rw [List.getElem?_eq_none, List.getElem?_eq_none]
      · omega
      · rw [flat_len, tl, div_mul hm]; omega
/-- a period of the signs, from wherever on, is one of the round -/
theorem pow_of_EP {h r : List Nat} {d N : Nat} (hr : r ≠ []) (hd : 0 < d) (hl : d ≤ r.length) (hm : r.length % d = 0) (e : EP (sgn (h, r)) N d) : Pow r d := by
  have hp : 0 < r.length := List.length_pos_iff.mpr hr
  refine (pow_get hd hl hm).mpr fun i hi => ?_
  have big : N ≤ N * r.length := Nat.le_mul_of_pos_right _ hp
  have a := EP.mul (sgn_EP (h := h) hr) (n := h.length + i) (by omega) N
  have lt : i % d < r.length := Nat.lt_of_le_of_lt (Nat.mod_le _ _) hi
  have b := EP.mul (sgn_EP (h := h) hr) (n := h.length + i % d) (by omega) N
  have c := EP.mul e (n := h.length + i % d + N * r.length) (by omega) (i / d)
  have s : h.length + i % d + N * r.length + i / d * d = h.length + i + N * r.length := by
    have := Nat.mod_add_div i d
    rw [Nat.mul_comm] at this
    omega
  rw [s, a, b] at c
  rw [sgn_ge (by omega) hr, sgn_ge (by omega) hr, Nat.add_sub_cancel_left, Nat.add_sub_cancel_left, Nat.mod_eq_of_lt hi, Nat.mod_eq_of_lt lt] at c
  exact c
theorem EP_of_pow {h r : List Nat} {d : Nat} (hr : r ≠ []) (hd : 0 < d) (hl : d ≤ r.length) (hm : r.length % d = 0) (e : Pow r d) : EP (sgn (h, r)) h.length d := fun n hn => by
  have hp : 0 < r.length := List.length_pos_iff.mpr hr
  have g := (pow_get hd hl hm).mp e
  have dv : d ∣ r.length := Nat.dvd_of_mod_eq_zero hm
  rw [sgn_ge (by omega) hr, sgn_ge hn hr, g _ (Nat.mod_lt _ hp), g ((n - h.length) % r.length) (Nat.mod_lt _ hp), Nat.mod_mod_of_dvd _ dv, Nat.mod_mod_of_dvd _ dv]
  rw [show n + d - h.length = n - h.length + d by omega, Nat.add_mod_right]
theorem prim_same {c d : Con} (h : SameS c d) (hc : c.2 ≠ []) (hd : d.2 ≠ []) (hl : c.2.length = d.2.length) (p : Prim c.2) : Prim d.2 := fun e he hlt hm hp => by
  have a := EP_of_pow (h := d.1) hd he (Nat.le_of_lt hlt) hm hp
  exact p e he (by omega) (by rw [hl]; exact hm) (pow_of_EP (h := c.1) hc he (by omega) (by rw [hl]; exact hm) (a.ext fun n => (h n).symm))

/-! ### the normal form -/
structure Norm (c : Con) : Prop where
  ne : c.2 ≠ []
  prim : Prim c.2
  last : c.1 = [] ∨ c.1.getLast? ≠ c.2.getLast?
theorem norm_len {c d : Con} (a : Norm c) (b : Norm d) (h : SameS c d) : c.2.length = d.2.length := by
  have pc : 0 < c.2.length := List.length_pos_iff.mpr a.ne
  have pd : 0 < d.2.length := List.length_pos_iff.mpr b.ne
  have e1 : EP (sgn c) (max c.1.length d.1.length) c.2.length := (sgn_EP a.ne).mono (Nat.le_max_left _ _)
  have e2 : EP (sgn c) (max c.1.length d.1.length) d.2.length := ((sgn_EP b.ne).mono (Nat.le_max_right _ _)).ext fun n => (h n).symm
  have g := EP.gcd _ _ e1 e2
  have gp : 0 < Nat.gcd c.2.length d.2.length := Nat.gcd_pos_of_pos_left _ pc
  have d1 : Nat.gcd c.2.length d.2.length ∣ c.2.length := Nat.gcd_dvd_left _ _
  have d2 : Nat.gcd c.2.length d.2.length ∣ d.2.length := Nat.gcd_dvd_right _ _
  have l1 := Nat.le_of_dvd pc d1
  have l2 := Nat.le_of_dvd pd d2
  have q1 : ¬ Nat.gcd c.2.length d.2.length < c.2.length := fun lt =>
    a.prim _ gp lt (Nat.mod_eq_zero_of_dvd d1) (pow_of_EP a.ne gp l1 (Nat.mod_eq_zero_of_dvd d1) g)
  have q2 : ¬ Nat.gcd c.2.length d.2.length < d.2.length := fun lt =>
    b.prim _ gp lt (Nat.mod_eq_zero_of_dvd d2) (pow_of_EP b.ne gp l2 (Nat.mod_eq_zero_of_dvd d2) (g.ext h))
  omega
theorem norm_head {c d : Con} (a : Norm c) (b : Norm d) (h : SameS c d) : ¬ c.1.length < d.1.length := fun lt => by
  have e := norm_len a b h
  have pd : 0 < d.2.length := List.length_pos_iff.mpr b.ne
  have hne : d.1 ≠ [] := fun z => by rw [z] at lt; simp at lt
  rcases b.last with z | z
  · exact hne z
  · refine z ?_
    have k1 : sgn d (d.1.length - 1) = d.1[d.1.length - 1]? := sgn_lt (by omega)
    have k2 := sgn_EP a.ne (n := d.1.length - 1) (h := c.1) (by omega)
    have k3 : sgn d (d.1.length - 1 + c.2.length) = d.2[d.2.length - 1]? := by
      rw [show sgn d = sgn (d.1, d.2) from rfl, sgn_ge (by omega) b.ne, e]
      rw [show d.1.length - 1 + d.2.length - d.1.length = d.2.length - 1 by omega, Nat.mod_eq_of_lt (by omega)]
    rw [List.getLast?_eq_getElem?, List.getLast?_eq_getElem?, ← k1, ← k3, ← h, ← h]
    exact k2.symm
theorem norm_uniq {c d : Con} (a : Norm c) (b : Norm d) (h : SameS c d) : c = d := by
  have e := norm_len a b h
  have n1 := norm_head a b h
  have n2 := norm_head b a h.symm
  have e1 : c.1.length = d.1.length := by omega
  have pc : 0 < c.2.length := List.length_pos_iff.mpr a.ne
  have h1 : c.1 = d.1 := by
    apply List.ext_getElem?
    intro i
    by_cases hi : i < c.1.length
    · have x : sgn c i = c.1[i]? := sgn_lt hi
      have y : sgn d i = d.1[i]? := sgn_lt (by omega)
      rw [← x, ← y]; exact h i
    · rw [List.getElem?_eq_none (by omega), List.getElem?_eq_none (by omega)]
  have h2 : c.2 = d.2 := by
    apply List.ext_getElem?
    intro i
    by_cases hi : i < c.2.length
    · have x : sgn c (c.1.length + i) = c.2[i]? := by
        rw [show sgn c = sgn (c.1, c.2) from rfl, sgn_ge (by omega) a.ne, Nat.add_sub_cancel_left, Nat.mod_eq_of_lt hi]
      have y : sgn d (c.1.length + i) = d.2[i]? := by
        rw [show sgn d = sgn (d.1, d.2) from rfl, e1, sgn_ge (by omega) b.ne, Nat.add_sub_cancel_left, Nat.mod_eq_of_lt (by omega)]
      rw [← x, ← y]; exact h _
    · rw [List.getElem?_eq_none (by omega), List.getElem?_eq_none (by omega)]
  exact Prod.ext h1 h2

/-- d is the least content of c -/
def NF (c d : Con) : Prop := SameS c d ∧ ((c.2 = [] ∧ d = c) ∨ (c.2 ≠ [] ∧ Norm d))
theorem same_nil {c d : Con} (h : SameS c d) (hc : c.2 = []) : d.2 = [] := by
  cases c with
  | mk h1 r1 =>
    cases d with
    | mk h2 r2 =>
      have hc : r1 = [] := hc
      subst hc
      show r2 = []
      by_cases e : r2 = []
      · exact e
      · have x := h (max h1.length h2.length)
        rw [sgn_end (Nat.le_max_left _ _)] at x
        obtain ⟨c, hc⟩ := sgn_some (h := h2) e (max h1.length h2.length)
        rw [hc] at x
        cases x
theorem same_eq_nil {c d : Con} (h : SameS c d) (hc : c.2 = []) : c = d := by
  have hd := same_nil h hc
  cases c with
  | mk h1 r1 =>
    cases d with
    | mk h2 r2 =>
      have hc : r1 = [] := hc
      have hd : r2 = [] := hd
      subst hc hd
      have : h1 = h2 := by
        apply List.ext_getElem?
        intro i
        have x := h i
        by_cases h1' : i < h1.length
        · rw [sgn_lt h1'] at x
          by_cases h2' : i < h2.length
          · rw [sgn_lt h2'] at x; exact x
          · rw [sgn_end (Nat.le_of_not_lt h2'), List.getElem?_eq_getElem h1'] at x; cases x
        · rw [sgn_end (Nat.le_of_not_lt h1')] at x
          by_cases h2' : i < h2.length
          · rw [sgn_lt h2', List.getElem?_eq_getElem h2'] at x; cases x
          · rw [List.getElem?_eq_none (Nat.le_of_not_lt h1'), List.getElem?_eq_none (Nat.le_of_not_lt h2')]
      rw [this]
theorem NF.uniq {c c' d d' : Con} (a : NF c d) (b : NF c' d') (h : SameS c c') : d = d' := by
  obtain ⟨s1, k1⟩ := a
  obtain ⟨s2, k2⟩ := b
  have sd : SameS d d' := s1.symm.trans (h.trans s2)
  rcases k1 with ⟨e1, e1'⟩ | ⟨e1, n1⟩
  · exact same_eq_nil sd (by rw [e1']; exact e1)
  · rcases k2 with ⟨e2, e2'⟩ | ⟨e2, n2⟩
    · exact absurd (same_nil h.symm e2) e1
    · exact norm_uniq n1 n2 sd
theorem NF.iff {c c' d d' : Con} (a : NF c d) (b : NF c' d') : d = d' ↔ SameS c c' := by
  refine ⟨fun e => ?_, a.uniq b⟩
  have h1 := a.1
  have h2 := b.1
  rw [e] at h1
  exact h1.trans h2.symm
theorem NF.self {c d : Con} (a : NF c d) : NF d d := by
  obtain ⟨s, k⟩ := a
  refine ⟨.refl _, ?_⟩
  rcases k with ⟨e, e'⟩ | ⟨_, n⟩
  · exact .inl ⟨by rw [e']; exact e, rfl⟩
  · exact .inr ⟨n.ne, n⟩
theorem NF.of_same {c c' d : Con} (a : NF c d) (h : SameS c' c) : NF c' d := by
  obtain ⟨s, k⟩ := a
  refine ⟨h.trans s, ?_⟩
  rcases k with ⟨e, e'⟩ | ⟨e, n⟩
  · have e2 := same_eq_nil h.symm e
    exact .inl ⟨by rw [← e2]; exact e, by rw [← e2]; exact e'⟩
  · exact .inr ⟨fun z => e (same_nil h z), n⟩

/-! ### the program's least round -/
def IsRoot (r u : List Nat) : Prop := (r = [] ∧ u = []) ∨ (r ≠ [] ∧ u ≠ [] ∧ Prim u ∧ ∃ m, 0 < m ∧ r = (List.replicate m u).flatten)
def Good (r : List Nat) (d : Nat) : Prop := r.length % d = 0 ∧ Pow r d
theorem root_found {r : List Nat} {d : Nat} (hd : 0 < d) (hl : d < r.length) (g : Good r d) (less : ∀ e, 0 < e → e < d → ¬ Good r e) : IsRoot r (r.take d) := by
  have hr : r ≠ [] := fun z => by rw [z] at hl; simp at hl
  have tl : (r.take d).length = d := by rw [List.length_take]; omega
  have tne : r.take d ≠ [] := fun e => by rw [e] at tl; simp at tl; omega
  refine .inr ⟨hr, tne, fun e he hlt hm hp => ?_, r.length / d, Nat.div_pos (Nat.le_of_lt hl) hd, g.2.symm⟩
  rw [tl] at hlt hm
  have dv : e ∣ d := Nat.dvd_of_mod_eq_zero hm
  have dv2 : d ∣ r.length := Nat.dvd_of_mod_eq_zero g.1
  have m2 : r.length % e = 0 := Nat.mod_eq_zero_of_dvd (Nat.dvd_trans dv dv2)
  refine less e he hlt ⟨m2, (pow_get he (by omega) m2).mpr fun i hi => ?_⟩
  have g1 := (pow_get hd (by omega) g.1).mp g.2
  have g2 := (pow_get he (by rw [tl]; omega) (by rw [tl]; exact hm)).mp hp (i % d) (by rw [tl]; exact Nat.mod_lt _ hd)
  rw [List.getElem?_take_of_lt (Nat.mod_lt _ hd), Nat.mod_mod_of_dvd _ dv, List.getElem?_take_of_lt (Nat.lt_trans (Nat.mod_lt _ he) hlt)] at g2
  rw [g1 i hi, g2]
theorem root_none {r : List Nat} (less : ∀ e, 0 < e → e < r.length → ¬ Good r e) : IsRoot r r := by
  by_cases hr : r = []
  · exact .inl ⟨hr, hr⟩
  · exact .inr ⟨hr, hr, fun e he hlt hm hp => less e he hlt ⟨hm, hp⟩, 1, by decide, by simp⟩
/-- rounds repeated -/
theorem same_rep (h u : List Nat) {m : Nat} (hm : 0 < m) : SameS (h, (List.replicate m u).flatten) (h, u) := fun n => by
  by_cases hu : u = []
  · subst hu
    have : (List.replicate m ([] : List Nat)).flatten = [] := List.length_eq_zero_iff.mp (by rw [flat_len]; simp)
    rw [this]
  · have pu : 0 < u.length := List.length_pos_iff.mpr hu
    have hf : (List.replicate m u).flatten ≠ [] := fun z => by
      have := flat_len u m
      rw [z] at this
      have := Nat.mul_pos hm pu
      simp at *
      omega
    by_cases hn : n < h.length
    · rw [sgn_lt hn, sgn_lt hn]
    · have hn := Nat.le_of_not_lt hn
      rw [sgn_ge hn hf, sgn_ge hn hu, flat_get u hu m _ (by rw [flat_len]; exact Nat.mod_lt _ (Nat.mul_pos hm pu)), flat_len, Nat.mod_mod_of_dvd _ (Nat.dvd_mul_left _ _)]
/-- letters of the round put to the head -/
theorem same_rot (h r : List Nat) {k : Nat} (hk : k ≤ r.length) : SameS (h ++ r.take k, r.drop k ++ r.take k) (h, r) := fun n => by
  by_cases hr : r = []
  · subst hr; simp
  · have pr : 0 < r.length := List.length_pos_iff.mpr hr
    have tl : (r.take k).length = k := by rw [List.length_take]; omega
    have dl : (r.drop k).length = r.length - k := List.length_drop
    have rl : (r.drop k ++ r.take k).length = r.length := by rw [List.length_append, tl, dl]; omega
    have rn : r.drop k ++ r.take k ≠ [] := fun z => by rw [z] at rl; simp at rl; omega
    have hl : (h ++ r.take k).length = h.length + k := by rw [List.length_append, tl]
    by_cases h1 : n < h.length
    · rw [sgn_lt (by omega), sgn_lt h1, List.getElem?_append_left h1]
    · have h1 := Nat.le_of_not_lt h1
      rw [sgn_ge h1 hr]
      by_cases h2 : n < h.length + k
      · rw [sgn_lt (by omega), List.getElem?_append_right h1, List.getElem?_take_of_lt (by omega), Nat.mod_eq_of_lt (by omega)]
      · have h2 := Nat.le_of_not_lt h2
        rw [sgn_ge (by omega) rn, rl, hl]
        have lt := Nat.mod_lt (n - (h.length + k)) pr
        have e : (n - h.length) % r.length = (k + (n - (h.length + k)) % r.length) % r.length := by
          rw [Nat.add_mod_mod, show k + (n - (h.length + k)) = n - h.length by omega]
        rw [e]
        generalize (n - (h.length + k)) % r.length = j at lt
        by_cases hj : j < r.length - k
        · rw [List.getElem?_append_left (by omega), List.getElem?_drop, Nat.mod_eq_of_lt (by omega)]
        · rw [List.getElem?_append_right (by omega), dl, List.getElem?_take_of_lt (by omega)]
          rw [show k + j = (j - (r.length - k)) + r.length by omega, Nat.add_mod_right, Nat.mod_eq_of_lt (by omega)]
theorem root_same {h r u : List Nat} (i : IsRoot r u) : SameS (h, r) (h, u) := by
  rcases i with ⟨e1, e2⟩ | ⟨_, _, _, m, hm, e⟩
  · rw [e1, e2]; exact .refl _
  · rw [e]; exact same_rep h u hm
/-- one turn of the program's loop -/
theorem back_same (h r : List Nat) (a : Nat) : SameS (h ++ [a], r ++ [a]) (h, a :: r) := by
  have := same_rot h (a :: r) (k := 1) (by simp)
  simpa using this
theorem back_prim {r : List Nat} {a : Nat} (p : Prim (r ++ [a])) : Prim (a :: r) :=
  prim_same (c := ([] ++ [a], r ++ [a])) (d := ([], a :: r)) (back_same [] r a) (by simp) (by simp) (by simp) p

/-! ### the law's least content -/
def line (x : Nat → Option Nat) (n : Nat) : List Nat := (List.range n).map fun i => (x i).getD 0
def cutAt (x : Nat → Option Nat) (l s : Nat) : Con := ((line x (l + s)).take l, (line x (l + s)).drop l)
theorem line_len (x : Nat → Option Nat) (n : Nat) : (line x n).length = n := by simp [line]
theorem line_get {x : Nat → Option Nat} {n i : Nat} (hi : i < n) : (line x n)[i]? = some ((x i).getD 0) := by
  unfold line
  rw [List.getElem?_map, List.getElem?_range hi]
  rfl
theorem cut_len1 (x : Nat → Option Nat) (l s : Nat) : (cutAt x l s).1.length = l := by
  show ((line x (l + s)).take l).length = l
  rw [List.length_take, line_len]; omega
theorem cut_len2 (x : Nat → Option Nat) (l s : Nat) : (cutAt x l s).2.length = s := by
  show ((line x (l + s)).drop l).length = s
  rw [List.length_drop, line_len]; omega
theorem cut_ne {x : Nat → Option Nat} {l s : Nat} (hs : 0 < s) : (cutAt x l s).2 ≠ [] := fun z => by
  have := cut_len2 x l s
  rw [z] at this
  simp at this
  omega
theorem cut_sgn {x : Nat → Option Nat} {l s : Nat} (hs : 0 < s) (hx : ∀ n, ∃ c, x n = some c) (n : Nat) : sgn (cutAt x l s) n = if n < l then x n else x (l + (n - l) % s) := by
  have l1 := cut_len1 x l s
  have l2 := cut_len2 x l s
  have some_get : ∀ n, some ((x n).getD 0) = x n := fun n => by obtain ⟨c, e⟩ := hx n; rw [e]; rfl
  by_cases hn : n < l
  · rw [if_pos hn, show cutAt x l s = ((cutAt x l s).1, (cutAt x l s).2) from rfl, sgn_lt (by omega)]
    show ((line x (l + s)).take l)[n]? = x n
    rw [List.getElem?_take_of_lt hn, line_get (by omega), some_get]
  · rw [if_neg hn, show cutAt x l s = ((cutAt x l s).1, (cutAt x l s).2) from rfl, sgn_ge (by omega) (cut_ne hs), l1, l2]
    show ((line x (l + s)).drop l)[(n - l) % s]? = _
    rw [List.getElem?_drop, line_get (by have := Nat.mod_lt (n - l) hs; omega), some_get]
theorem cut_of_EP {x : Nat → Option Nat} {l s : Nat} (hs : 0 < s) (hx : ∀ n, ∃ c, x n = some c) (e : EP x l s) (n : Nat) : sgn (cutAt x l s) n = x n := by
  rw [cut_sgn hs hx]
  by_cases hn : n < l
  · rw [if_pos hn]
  · rw [if_neg hn]
    have k := EP.mul e (n := l + (n - l) % s) (by omega) ((n - l) / s)
    have := Nat.mod_add_div (n - l) s
    rw [Nat.mul_comm] at this
    rw [show l + (n - l) % s + (n - l) / s * s = n by omega] at k
    exact k.symm
/-- the law's test: the first sixty signs -/
def T60 (c d : Con) : Prop := ∀ n, n < 60 → sgn c n = sgn d n
theorem t60_same {c d : Con} (hc : c.2 ≠ []) (hd : d.2 ≠ []) (hb : max c.1.length d.1.length + c.2.length + d.2.length ≤ 60) (t : T60 c d) : SameS c d :=
  EP.window (N := max c.1.length d.1.length) (List.length_pos_iff.mpr hc) (List.length_pos_iff.mpr hd) ((sgn_EP (h := c.1) hc).mono (Nat.le_max_left _ _)) ((sgn_EP (h := d.1) hd).mono (Nat.le_max_right _ _)) fun n hn => t n (by omega)
/-- .. whatever the rounds are -/
theorem t60_iff {c d : Con} (hc : c.1.length < 60) (hd : d.1.length < 60) (hb : max c.1.length d.1.length + c.2.length + d.2.length ≤ 60) : T60 c d ↔ SameS c d := by
  refine ⟨fun t => ?_, fun s n _ => s n⟩
  by_cases e1 : c.2 = []
  · by_cases e2 : d.2 = []
    · intro n
      by_cases hn : n < 60
      · exact t n hn
      · have a : sgn c n = none := by
          rw [show sgn c n = sgn (c.1, c.2) n from rfl, e1, sgn_end (by omega)]
        have b : sgn d n = none := by
          rw [show sgn d n = sgn (d.1, d.2) n from rfl, e2, sgn_end (by omega)]
        rw [a, b]
    · have a : sgn c 59 = none := by
        rw [show sgn c 59 = sgn (c.1, c.2) 59 from rfl, e1, sgn_end (by omega)]
      obtain ⟨z, b⟩ := sgn_some (h := d.1) e2 59
      have k := t 59 (by decide)
      rw [a, show sgn d 59 = some z from b] at k
      cases k
  · by_cases e2 : d.2 = []
    · have a : sgn d 59 = none := by
        rw [show sgn d 59 = sgn (d.1, d.2) 59 from rfl, e2, sgn_end (by omega)]
      obtain ⟨z, b⟩ := sgn_some (h := c.1) e1 59
      have k := t 59 (by decide)
      rw [a, show sgn c 59 = some z from b] at k
      cases k
    · exact t60_same e1 e2 hb t
/-- what the law's search finds first is the least content -/
theorem law_NF {c : Con} {l s : Nat} (hc : c.2 ≠ []) (hb : c.1.length + 3 * c.2.length ≤ 60) (hs : 0 < s) (hs2 : s ≤ c.2.length) (hl : l ≤ c.1.length + c.2.length)
    (t : T60 (cutAt (sgn c) l s) c) (n1 : ∀ s' l', 0 < s' → s' < s → l' ≤ c.1.length + c.2.length → ¬ T60 (cutAt (sgn c) l' s') c) (n2 : ∀ l', l' < l → ¬ T60 (cutAt (sgn c) l' s) c) : NF c (cutAt (sgn c) l s) := by
  have hx : ∀ n, ∃ a, sgn c n = some a := sgn_some hc
  have cl1 := cut_len1 (sgn c) l s
  have cl2 := cut_len2 (sgn c) l s
  have cne : (cutAt (sgn c) l s).2 ≠ [] := cut_ne hs
  have sm : SameS (cutAt (sgn c) l s) c := t60_same cne hc (by rw [cl1, cl2]; omega) t
  have ep : EP (sgn c) l s := by
    have := sgn_EP (h := (cutAt (sgn c) l s).1) cne
    rw [cl1, cl2] at this
    exact this.ext sm
  refine ⟨sm.symm, .inr ⟨hc, cne, fun e he hlt hm hp => ?_, ?_⟩⟩
  · have q := EP_of_pow (h := (cutAt (sgn c) l s).1) cne he (Nat.le_of_lt hlt) hm hp
    rw [cl1] at q
    rw [cl2] at hlt
    have q2 : EP (sgn c) l e := q.ext sm
    exact n1 e l he hlt hl fun n _ => cut_of_EP he hx q2 n
  · by_cases h0 : l = 0
    · exact .inl (List.length_eq_zero_iff.mp (by rw [cl1]; exact h0))
    · refine .inr fun eq => ?_
      rw [List.getLast?_eq_getElem?, List.getLast?_eq_getElem?, cl1, cl2] at eq
      have a : sgn (cutAt (sgn c) l s) (l - 1) = (cutAt (sgn c) l s).1[l - 1]? := sgn_lt (h := (cutAt (sgn c) l s).1) (r := (cutAt (sgn c) l s).2) (by rw [cl1]; omega)
      have b : sgn (cutAt (sgn c) l s) (l - 1 + s) = (cutAt (sgn c) l s).2[s - 1]? := by
        rw [show cutAt (sgn c) l s = ((cutAt (sgn c) l s).1, (cutAt (sgn c) l s).2) from rfl, sgn_ge (by omega) cne, cl1, cl2, show l - 1 + s - l = s - 1 by omega, Nat.mod_eq_of_lt (by omega)]
      rw [← a, ← b, sm, sm] at eq
      have q2 : EP (sgn c) (l - 1) s := fun n hn => by
        by_cases hl' : l ≤ n
        · exact ep n hl'
        · have : n = l - 1 := by omega
          rw [this]; exact eq.symm
      exact n2 (l - 1) (by omega) fun n _ => cut_of_EP hs hx q2 n
/-- it is found at the latest as it is written -/
theorem law_there {c : Con} (hc : c.2 ≠ []) : T60 (cutAt (sgn c) c.1.length c.2.length) c := fun n _ =>
  cut_of_EP (List.length_pos_iff.mpr hc) (sgn_some hc) (sgn_EP hc) n

/-! ### letters -/
theorem sgn_has {d : Con} {x : Nat} (h : x ∈ d.1 ∨ x ∈ d.2) : ∃ n, sgn d n = some x := by
  rcases h with h | h
  · obtain ⟨i, hi, e⟩ := List.mem_iff_getElem.mp h
    exact ⟨i, (sgn_lt (h := d.1) (r := d.2) hi).trans (by rw [List.getElem?_eq_getElem hi, e])⟩
  · obtain ⟨i, hi, e⟩ := List.mem_iff_getElem.mp h
    have hne : d.2 ≠ [] := fun z => by rw [z] at hi; simp at hi
    refine ⟨d.1.length + i, (sgn_ge (h := d.1) (r := d.2) (Nat.le_add_right _ _) hne).trans ?_⟩
    rw [Nat.add_sub_cancel_left, Nat.mod_eq_of_lt hi, List.getElem?_eq_getElem hi, e]
theorem SameS.mem {c d : Con} (s : SameS c d) {x : Nat} (h : x ∈ d.1 ∨ x ∈ d.2) : x ∈ c.1 ∨ x ∈ c.2 := by
  obtain ⟨n, e⟩ := sgn_has h
  rw [← s n] at e
  exact sgn_mem (h := c.1) (r := c.2) e

end K2

/-! K2Lib -/
set_option maxRecDepth 100000
set_option maxHeartbeats 4000000
namespace K2
open PySem PySem.Spec PyProof.Rows L2

/-! ### texts by their letters -/
abbrev S (l : List Nat) : Str := ⟨l.toArray⟩
theorem S_len (a : List Nat) : (S a).length = a.length := SX.S_len a
theorem S_inj {a b : List Nat} (h : S a = S b) : a = b := SX.S_inj h
theorem S_cat (a b : List Nat) : S a ++ S b = S (a ++ b) := SX.S_cat a b
theorem S_small {a : List Nat} (h : a.length ≤ 1000) : (S a).length ≤ sizeLine := by
  rw [S_len]; exact Nat.le_of_lt (small1000 h)
theorem S_dec (a b : List Nat) : decide (V.str (S a) = V.str (S b)) = decide (a = b) := by
  by_cases e : a = b
  · rw [e, decide_eq_true rfl, decide_eq_true rfl]
  · rw [decide_eq_false e, decide_eq_false fun h => e (S_inj (V.str.inj h))]
theorem foldA (c : Array Nat) : ∀ (k : Nat) (acc : Array Nat), ((List.replicate k c).foldl (· ++ ·) acc).toList = acc.toList ++ (List.replicate k c.toList).flatten
  | 0, acc => by simp
  | k + 1, acc => by
    rw [List.replicate_succ, List.foldl_cons, foldA c k, List.replicate_succ, List.flatten_cons, Array.toList_append, List.append_assoc]
theorem mul_S (a : List Nat) {k : Int} : Txt.mul (S a) k = S (List.replicate k.toNat a).flatten := by
  refine TL.ext_tl ?_
  unfold Txt.mul
  by_cases h1 : k < 1
  · rw [if_pos h1, show k.toNat = 0 by omega]
    rfl
  · rw [if_neg h1]
    split
    · rename_i hc
      rw [Bool.or_eq_true, beq_iff_eq, beq_iff_eq] at hc
      rcases hc with h | h
      · rw [h]
        show a = (List.replicate 1 a).flatten
        simp
      · rw [S_len] at h
        have e : a = [] := List.eq_nil_of_length_eq_zero h
        rw [e]
        show ([] : List Nat) = (List.replicate k.toNat []).flatten
        simp
    · show ((List.replicate k.toNat a.toArray).foldl (· ++ ·) #[]).toList = _
      rw [foldA]
      simp
/-- z * k, z a text -/
theorem op_mulS {X : Cx} : OpR X (binaryOp .Mult) (fun x y H Q => ∃ (a : List Nat) (k : Int), x = .str (S a) ∧ y = .int k ∧ a.length ≤ 1000 ∧ (-(2 ^ 63) ≤ k ∧ k ≤ 1000) ∧ Q (.str (S (List.replicate k.toNat a).flatten)) H) := by
  intro pins s σ H x y v u Q I rx ry h
  obtain ⟨z, k, rfl, rfl, hz, ⟨h1, h2⟩, q⟩ := h
  obtain ⟨t, rfl⟩ := rx
  obtain ⟨t', rfl⟩ := ry
  refine PySem.SB.mul (mulOk_of 1000 1000 (by rw [S_len]; exact hz) (by omega) h1 (by decide) (by decide)) fun t' k' => ?_
  exact ⟨.str (S (List.replicate k.toNat z).flatten), H, I.tok _, ⟨t', by rw [mul_S]⟩, q⟩

/-! ### slices and places of texts -/
/-- a[lo:hi] -/
theorem cut_to {a : List Nat} {n : Nat} : cutS (S a) none (some (n : Int)) = S (a.take n) := by
  rw [C8.cutS_slice]
  have := SX.slice_to (a := a) (i := (n : Int)) (by omega)
  rw [Int.toNat_natCast] at this
  exact this
theorem cut_from {a : List Nat} {n : Nat} : cutS (S a) (some (n : Int)) none = S (a.drop n) := by
  rw [C8.cutS_slice]
  have := SX.slice_from (a := a) (i := (n : Int)) (by omega)
  rw [Int.toNat_natCast] at this
  exact this
theorem cut_butlast (a : List Nat) (c : Nat) : cutS (S (a ++ [c])) none (some (-1)) = S a := by
  rw [C8.cutS_slice]; exact SX.butlast_snoc a c
theorem cut_last (a : List Nat) (c : Nat) : cutS (S (a ++ [c])) (some (-1)) none = S [c] := by
  rw [C8.cutS_slice]; exact SX.last_snoc a c
/-- a[lo:hi], with the answer by letters -/
def rSl (x : V) (lo hi : Option Int) (H : Hp) (Q : VK) : Prop := ∃ a b : List Nat, x = .str (S a) ∧ a.length ≤ 1000 ∧ cutS (S a) lo hi = S b ∧ Q (.str (S b)) H
theorem sl_S {X : Cx} : SlR X rSl := by
  intro pins s σ H x v vl vu lo hi sl Q I rx hs pl pu h
  obtain ⟨a, b, hx, hz, e, q⟩ := h
  exact sl_str pins s σ H x v vl vu lo hi sl Q I rx hs pl pu ⟨S a, hx, S_small hz, by rw [e]; exact q⟩
def rIxA (x y : V) (H : Hp) (Q : VK) : Prop := ∃ (a : List Nat) (i : Int) (c : Nat), x = .str (S a) ∧ y = .int i ∧ a.length ≤ 1000 ∧ atI a i = some c ∧ Q (.str (S [c])) H
theorem ix_S {X : Cx} : IxR X rIxA := by
  intro value slice pins s σ H x y v u Q I rx ry h hs
  obtain ⟨a, i, c, rfl, rfl, hz, e, q⟩ := h
  exact ix_str value slice pins s σ H _ _ v u Q I rx ry ⟨S a, i, c, rfl, rfl, S_small hz, e, q⟩ hs
theorem at_nat {α : Type} {xs : List α} {n : Nat} {z : Int} {v : α} (e : z = (n : Int)) (h : xs[n]? = some v) : atI xs z = some v := by
  rw [e]; exact atI_nat h

/-! ### join of texts of no separator -/
theorem joinL_nil : ∀ ys : List (List Nat), TL.joinL [] ys = ys.flatten
  | [] => rfl
  | [p] => by simp [TL.joinL]
  | p :: q :: r => by
    show p ++ ([] ++ TL.joinL [] (q :: r)) = _
    rw [joinL_nil (q :: r), List.nil_append, List.flatten_cons, List.flatten_cons, List.flatten_cons]
theorem join_S (ys : List (List Nat)) : Txt.join (S []) (ys.map S) = S ys.flatten := by
  have := SX.join_S [] ys
  rw [joinL_nil] at this
  exact this
theorem flat1 : ∀ l : List Nat, (l.map fun c => [c]).flatten = l
  | [] => rfl
  | c :: l => by rw [List.map_cons, List.flatten_cons, flat1 l]; rfl
theorem sum1 : ∀ l : List Nat, ((l.map fun c => [c]).map (·.length)).sum = l.length
  | [] => rfl
  | c :: l => by
    rw [List.map_cons, List.map_cons, List.sum_cons, sum1 l, List.length_cons, List.length_cons, List.length_nil]
    omega
/-- "".join(the signs of l, one by one) -/
theorem join1 (l : List Nat) : Txt.join (S []) ((l.map fun c => [c]).map S) = S l := by rw [join_S, flat1]
theorem join1_sz {l : List Nat} (h : l.length ≤ 1000) : ((((l.map fun c => [c]).map S).map (·.length)).sum + ((l.map fun c => [c]).map S).length * (S []).length ≤ 16777216) := by
  rw [SX.lens, sum1, S_len]
  simp
  omega

/-! ### == of data -/
theorem eqv_strs : ∀ xs ys : List Str, PyData.eqvAll (xs.map PyData.str) (ys.map PyData.str) = decide (xs = ys)
  | [], [] => by simp [PyData.eqvAll]
  | [], y :: ys => by simp [PyData.eqvAll]
  | x :: xs, [] => by simp [PyData.eqvAll]
  | x :: xs, y :: ys => by
    show (x == y && PyData.eqvAll (xs.map PyData.str) (ys.map PyData.str)) = _
    rw [eqv_strs xs ys]
    by_cases h : x = y
    · subst h
      by_cases h2 : xs = ys
      · subst h2; simp
      · simp [h2]
    · have : (x == y) = false := by
        cases e : x == y
        · rfl
        · exact absurd (eq_of_beq e) h
      simp [this, h]
/-- letters of the first three -/
def Let (l : List Nat) : Prop := ∀ c ∈ l, c = 97 ∨ c = 98 ∨ c = 99
theorem Let.nil : Let [] := fun _ h => nomatch h
theorem Let.app {a b : List Nat} (ha : Let a) (hb : Let b) : Let (a ++ b) := fun c h => (List.mem_append.mp h).elim (ha c) (hb c)
theorem Let.sub {a b : List Nat} (hb : Let b) (h : ∀ c ∈ a, c ∈ b) : Let a := fun c m => hb c (h c m)
theorem Let.flat {a : List Nat} (h : Let a) (m : Nat) : Let (List.replicate m a).flatten := fun c hc => by
  obtain ⟨l, hl, hm⟩ := List.mem_flatten.mp hc
  rw [List.eq_of_mem_replicate hl] at hm
  exact h c hm
theorem Let.ok {l : List Nat} (h : Let l) : PyData.strOk (S l) = true := by
  unfold PyData.strOk
  rw [← Array.all_toList]
  refine List.all_eq_true.mpr fun c hc => decide_eq_true ?_
  rcases h c hc with e | e | e <;> rw [e] <;> decide
theorem canL : ∀ xs : List Str, (∀ x ∈ xs, PyData.strOk x = true) → PyData.canLayAll0 (xs.map PyData.str) = true
  | [], _ => rfl
  | x :: xs, h => by
    show (PyData.canLay0 (PyData.str x) && PyData.canLayAll0 (xs.map PyData.str)) = true
    rw [canL xs fun y hy => h y (List.mem_cons_of_mem _ hy), Bool.and_true]
    exact h x List.mem_cons_self
theorem depL : ∀ xs : List Str, PyData.depthAll (xs.map PyData.str) = 0
  | [] => rfl
  | x :: xs => by
    show max (PyData.depth (PyData.str x)) (PyData.depthAll (xs.map PyData.str)) = 0
    rw [depL xs]
    rfl
theorem shaped_list {xs : List Str} (h : ∀ x ∈ xs, PyData.strOk x = true) : SeqAt.shaped (.list (xs.map PyData.str)) = true := by
  unfold SeqAt.shaped
  rw [show PyData.canLay0 (.list (xs.map PyData.str)) = PyData.canLayAll0 (xs.map PyData.str) from rfl, canL xs h,
    show PyData.depth (.list (xs.map PyData.str)) = PyData.depthAll (xs.map PyData.str) + 1 from rfl, depL]
  rfl
theorem shaped_tup {xs : List Str} (h : ∀ x ∈ xs, PyData.strOk x = true) : SeqAt.shaped (.tuple (xs.map PyData.str)) = true := by
  unfold SeqAt.shaped
  rw [show PyData.canLay0 (.tuple (xs.map PyData.str)) = PyData.canLayAll0 (xs.map PyData.str) from rfl, canL xs h,
    show PyData.depth (.tuple (xs.map PyData.str)) = PyData.depthAll (xs.map PyData.str) + 1 from rfl, depL]
  rfl
theorem dps {K : PySem.W.Frag} {H : Hp} : ∀ xs : List Str, DpAll K H (xs.map V.str) (xs.map PyData.str)
  | [] => .nil
  | x :: xs => .cons (.str x) (dps xs)

/-! ### contents on the heap -/
def CtAt (H : Hp) (p : Addr) (c : Con) : Prop := H p = some (.tup [.str (S c.1), .str (S c.2)])
structure Okc (c : Con) : Prop where
  l1 : Let c.1
  l2 : Let c.2
  n1 : c.1.length ≤ 200
  n2 : c.2.length ≤ 200
theorem CtAt.dp {K : PySem.W.Frag} {H : Hp} {p : Addr} {c : Con} (h : CtAt H p c) : Dp K H (.ref p) (.tuple ([S c.1, S c.2].map PyData.str)) := .tup (SqT.of h) (dps [S c.1, S c.2])
theorem Okc.sh {c : Con} (h1 : Let c.1) (h2 : Let c.2) : SeqAt.shaped (.tuple ([S c.1, S c.2].map PyData.str)) = true := shaped_tup fun x hx => by
  rcases List.mem_cons.mp hx with e | hx
  · rw [e]; exact h1.ok
  · rcases List.mem_cons.mp hx with e | hx
    · rw [e]; exact h2.ok
    · cases hx
theorem con_eqv (c d : Con) : PyData.eqv (.tuple ([S c.1, S c.2].map PyData.str)) (.tuple ([S d.1, S d.2].map PyData.str)) = decide (c = d) := by
  show PyData.eqvAll _ _ = _
  rw [eqv_strs]
  by_cases e : c = d
  · rw [e, decide_eq_true rfl, decide_eq_true rfl]
  · refine (decide_eq_false fun h => e ?_).trans (decide_eq_false e).symm
    have h1 := S_inj (List.cons.inj h).1
    have h2 := S_inj (List.cons.inj (List.cons.inj h).2).1
    exact Prod.ext h1 h2
/-- == and != of two contents -/
theorem op_eqC {X : Cx} (hu : X.A.units + 64 < cLine) : OpR X (compareOp .Eq) (fun x y H Q => ∃ p q c d, x = .ref p ∧ y = .ref q ∧ CtAt H p c ∧ CtAt H q d ∧ (Let c.1 ∧ Let c.2) ∧ (Let d.1 ∧ Let d.2) ∧ Q (.bl (decide (c = d))) H) := by
  intro pins s σ H x y v u Q I rx ry h
  obtain ⟨p, q, c, d, rfl, rfl, h1, h2, ⟨a, b⟩, ⟨a', b'⟩, k⟩ := h
  exact op_eqD hu pins s σ H _ _ v u Q I rx ry ⟨_, _, h1.dp, h2.dp, Okc.sh a b, Okc.sh a' b', by rw [con_eqv]; exact k⟩
theorem op_neC {X : Cx} (hu : X.A.units + 64 < cLine) : OpR X (compareOp .NotEq) (fun x y H Q => ∃ p q c d, x = .ref p ∧ y = .ref q ∧ CtAt H p c ∧ CtAt H q d ∧ (Let c.1 ∧ Let c.2) ∧ (Let d.1 ∧ Let d.2) ∧ Q (.bl (!decide (c = d))) H) := by
  intro pins s σ H x y v u Q I rx ry h
  obtain ⟨p, q, c, d, rfl, rfl, h1, h2, ⟨a, b⟩, ⟨a', b'⟩, k⟩ := h
  exact op_neD hu pins s σ H _ _ v u Q I rx ry ⟨_, _, h1.dp, h2.dp, Okc.sh a b, Okc.sh a' b', by rw [con_eqv]; exact k⟩
theorem same_upd {H : Hp} {p : Addr} {o : HO} (h : H p = none) : Same H (upd H p o) := fun b x e => by
  rw [upd_ne (ne_of_none e h)]
  exact e

/-! ### words -/
theorem pe_txt {X : Cx} {x : Str} {j : Nat} {pos : Pos} {l : List Nat} (h : x = S l) : PE X (.Constant (.str x) j pos) (tC (.str (S l))) := by
  subst h; exact pe_str
theorem decT {p : Prop} [Decidable p] (h : p) {Q : VK} {H : Hp} (q : Q (.bl true) H) : Q (.bl (decide p)) H := by rw [decide_eq_true h]; exact q
theorem decF {p : Prop} [Decidable p] (h : ¬ p) {Q : VK} {H : Hp} (q : Q (.bl false) H) : Q (.bl (decide p)) H := by rw [decide_eq_false h]; exact q
theorem blT {p : Prop} [Decidable p] (h : p) : V.bl (decide p) = V.bl true := congrArg V.bl (decide_eq_true h)
theorem blF {p : Prop} [Decidable p] (h : ¬ p) : V.bl (decide p) = V.bl false := congrArg V.bl (decide_eq_false h)
theorem nbT {p : Prop} [Decidable p] (h : ¬ p) : V.bl (!decide p) = V.bl true := by rw [decide_eq_false h]; rfl
theorem nbF {p : Prop} [Decidable p] (h : p) : V.bl (!decide p) = V.bl false := by rw [decide_eq_true h]; rfl
theorem S_ne {a b : List Nat} (h : a ≠ b) : ¬ V.str (S a) = V.str (S b) := fun e => h (S_inj (V.str.inj e))
/-- for sign in a text -/
theorem for_str {x : Str} {g : TG} {tb : TS} {D : Ends} {σ : L2.St} {H : Hp} (Pv : Nat → L2.St → Hp → Prop) (h0 : Pv 0 σ H)
    (hs : ∀ i c σ H, x.cps[i]? = some c → Pv i σ H → g (.str ⟨#[c]⟩) σ H fun σ2 H2 => tb { D with nx := Pv (i + 1), ct := Pv (i + 1), bk := D.nx } σ2 H2) (hd : ∀ σ H, Pv x.cps.size σ H → D.nx σ H) :
    ∃ W : Nat → Nat → L2.St → Hp → Prop, (∃ m, W 0 m σ H) ∧ ∀ i m σ H, W i m σ H →
      ((Its x).stop i H ∧ D.nx σ H) ∨ ((Its x).go i H ∧ ∃ N : L2.St → Hp → Prop, (∀ σ' H', N σ' H' → ∃ m', m' < m ∧ W (i + 1) m' σ' H') ∧ ∀ v H', (Its x).yld i H v H' → g v σ H' fun σ2 H2 => tb { D with nx := N, ct := N, bk := D.nx } σ2 H2) := by
  refine ⟨fun i m σ H => m = x.cps.size - i ∧ i ≤ x.cps.size ∧ Pv i σ H, ⟨x.cps.size, by simp, Nat.zero_le _, h0⟩, ?_⟩
  rintro i m σ H ⟨rfl, hi, p⟩
  by_cases hlt : i < x.cps.size
  · refine .inr ⟨hlt, Pv (i + 1), fun σ' H' p' => ⟨x.cps.size - (i + 1), by omega, rfl, hlt, p'⟩, fun v H' y => ?_⟩
    obtain ⟨e, c, hc, y⟩ := y
    subst e y
    exact hs i c σ _ hc p
  · have e : i = x.cps.size := by omega
    subst e
    exact .inl ⟨Nat.le_refl _, hd σ H p⟩
end K2

/-! K2Prog -/
set_option maxRecDepth 100000
set_option maxHeartbeats 4000000
namespace K2
open PySem PySem.Spec PyProof.Rows L2
/-! ### the text -/
def top (i : Nat) : Stmt := PySem.Challenge.pw_wholewalks_k02_whole_least_contents.main.body.getD i (.Pass ⟨0, 0, 0, 0⟩)
abbrev sPair : Stmt := top 5
abbrev sStrOf : Stmt := top 6
abbrev sLetters : Stmt := top 7
abbrev sContOf : Stmt := top 9
abbrev sCont : Stmt := top 10
abbrev sCheck : Stmt := top 11
abbrev sRound : Stmt := top 12
abbrev sShort : Stmt := top 13
abbrev sLeast : Stmt := top 14
abbrev sSame : Stmt := top 15
abbrev sPot : Stmt := top 17
abbrev sDraw : Stmt := top 18
abbrev sString : Stmt := top 19
abbrev sSign : Stmt := top 20
abbrev sFirst : Stmt := top 21
abbrev sLLeast : Stmt := top 22
abbrev sWritten : Stmt := top 23
abbrev sLong : Stmt := top 24
abbrev sLaw : Stmt := top 25
/-- the built-in names are still the built-ins; the module's text -/
structure Txt (mg : Str → Option Value) : Prop where
  isi : mg "isinstance" = none
  tuple : mg "tuple" = none
  str : mg "str" = none
  bool : mg "bool" = none
  int : mg "int" = none
  len : mg "len" = none
  range : mg "range" = none
  abs : mg "abs" = none
  sum : mg "sum" = none
  letters : ∃ u, mg "LETTERS" = some u ∧ RelV (.str (S [97, 98, 99])) u
section
variable {P : Program} {w : World} {K : PySem.W.Frag} {mg : Str → Option Value} {base : Heap}
/-! ### is_pair -/
def spPair : Sp := fun vs H Q _ => ∃ p c, vs = [.ref p] ∧ CtAt H p c ∧ Q (.bl true) H
theorem scPair : FnScope ["thing"] ["thing"] (defScope sPair) := ⟨rfl, rfl, rfl, by decide +kernel, rfl, by decide +kernel, by decide +kernel⟩
theorem ok_pair {f : Addr} {fd : FuncData} (F : Fun K "is_pair" "is_pair" sPair f fd) (T : Txt mg) : FnOk P w K mg base CX0 1 f fd ["thing"] spPair := by
  refine F.ok scPair (fun vs H Q E h => ?_) (fun cdv A outer s H vs Q E hr h => ?_)
  · obtain ⟨p, c, rfl, _⟩ := h
    rfl
  · obtain ⟨p, c, rfl, hp, q⟩ := h
    refine ⟨_, pss_one (ps_ret (pe_and (pe_callB call_isi (by rfl) T.isi (by decide +kernel) (pa_cons (pv 0) (pa_cons (pe_bltn (v := .ty "tuple") (u := .type "tuple") (by rfl) T.tuple (by decide +kernel) rfl) pa_nil)))
      (pe_one (pe_cmpR op_eq (pe_callB call_len (by rfl) T.len PySem.boot_len (pa_cons (pv 0) pa_nil)) pe_int (nomark _))))), ?_⟩
    refine ⟨.ref p, rfl, .ref p, .ty "tuple", .type "tuple", .type "tuple", true, rfl, .ty "tuple", .base (.tup hp), kit_ty (by decide +kernel), true, rfl, iteT ?_⟩
    refine ⟨.ref p, rfl, .ref p, 2, rfl, .inr ⟨_, SqT.of hp, rfl⟩, rfl, decT rfl q⟩
/-! ### is_string_of -/
def spStrOf : Sp := fun vs H Q _ => ∃ l, vs = [.str (S l), .str (S [97, 98, 99])] ∧ Let l ∧ l.length ≤ 1000 ∧ Q (.bl true) H
theorem scStrOf : FnScope ["thing", "signs", "sign"] ["thing", "signs"] (defScope sStrOf) := ⟨rfl, rfl, rfl, by decide +kernel, rfl, by decide +kernel, by decide +kernel⟩
theorem ok_strOf {f : Addr} {fd : FuncData} (F : Fun K "is_string_of" "is_string_of" sStrOf f fd) (T : Txt mg) : FnOk P w K mg base CX0 1 f fd ["thing", "signs"] spStrOf := by
  refine F.ok scStrOf (fun vs H Q E h => ?_) (fun cdv A outer s H vs Q E hr h => ?_)
  · obtain ⟨l, rfl, _⟩ := h
    rfl
  · obtain ⟨l, rfl, hl, hn, q⟩ := h
    refine ⟨_, pss_cons (ps_if (pt_not (pt_val (pe_callB call_isi (by rfl) T.isi (by decide +kernel) (pa_cons (pv 0) (pa_cons (pe_bltn (v := .ty "str") (u := .type "str") (by rfl) T.str (by decide +kernel) rfl) pa_nil))))) (pss_one (ps_ret pe_bl)) pss_nil)
      (pss_cons (ps_for PassesOwn.never rfl (pi_str (pv 0)) (pg_name (i := 2) scStrOf.nd rfl (Or.inl rfl))
        (pss_one (ps_if (pt_cmpR op_notIn_sign (pv 2) (pv 1) (by with_unfolding_all rfl)) (pss_one (ps_ret pe_bl)) pss_nil)))
      (pss_one (ps_ret pe_bl))), ?_⟩
    refine ⟨.str (S l), rfl, .str (S l), .ty "str", .type "str", .type "str", true, rfl, .ty "str", .base (.str _), kit_ty (by decide +kernel), true, rfl, iteF ?_⟩
    refine ⟨.str (S l), rfl, S l, rfl, for_str (x := S l) (fun i σ H2 => ∃ v, σ = [some (.str (S l)), some (.str (S [97, 98, 99])), v] ∧ H2 = H) ⟨none, rfl, rfl⟩ ?_ ?_⟩
    · rintro i c σ H2 hc ⟨v, rfl, rfl⟩
      refine ⟨_, rfl, _, rfl, c, S [97, 98, 99], rfl, rfl, _, rfl, ?_⟩
      have hm : c ∈ l := by
        have h2 : l[i]? = some c := by simpa using hc
        exact List.mem_of_getElem? h2
      have e : decide (c ∈ (S [97, 98, 99]).cps.toList) = true := decide_eq_true (by
        show c ∈ [97, 98, 99]
        rcases hl c hm with e | e | e <;> rw [e] <;> decide)
      rw [e]
      exact iteF ⟨_, rfl, rfl⟩
    · rintro σ H2 ⟨v, rfl, rfl⟩
      exact q
/-! ### is_letters -/
def spLetters : Sp := fun vs H Q _ => ∃ l, vs = [.str (S l), .int 3] ∧ Let l ∧ l.length ≤ 1000 ∧ Q (.bl true) H
theorem scLetters : FnScope ["thing", "letters"] ["thing", "letters"] (defScope sLetters) := ⟨rfl, rfl, rfl, by decide +kernel, rfl, by decide +kernel, by decide +kernel⟩
theorem ok_letters {f f1 : Addr} {fd fd1 : FuncData} (F : Fun K "is_letters" "is_letters" sLetters f fd) (T : Txt mg) (F1 : Fun K "is_string_of" "is_string_of" sStrOf f1 fd1) (b1 : Binds K fd1 ["thing", "signs"] []) (g1 : mg "is_string_of" = some (.ref f1)) :
    FnOk P w K mg base CX0 2 f fd ["thing", "letters"] spLetters := by
  have G1 : FnOk P w K mg base CX0 1 f1 fd1 ["thing", "signs"] spStrOf := ok_strOf F1 T
  refine F.ok scLetters (fun vs H Q E h => ?_) (fun cdv A outer s H vs Q E hr h => ?_)
  · obtain ⟨l, rfl, _⟩ := h
    rfl
  · obtain ⟨l, rfl, hl, hn, q⟩ := h
    refine ⟨_, pss_one (ps_ret (pe_call G1 hr rfl g1 F1.kp b1 .nil pass0 (pa_cons (pv 0) (pa_cons (pe_slice sl_S (C8.pe_gc (by rfl) T.letters) po_none (po_some (pv 1))) pa_nil)))), ?_⟩
    refine ⟨.str (S l), rfl, ?_⟩
    refine ⟨_, rfl, 3, rfl, [97, 98, 99], [97, 98, 99], rfl, by decide, cut_to (n := 3), l, rfl, hl, hn, q⟩
/-! ### is_content_of -/
def spContOf : Sp := fun vs H Q _ => ∃ p c, vs = [.ref p, .int 3] ∧ CtAt H p c ∧ Okc c ∧ Q (.bl true) H
theorem scContOf : FnScope ["thing", "letters"] ["thing", "letters"] (defScope sContOf) := ⟨rfl, rfl, rfl, by decide +kernel, rfl, by decide +kernel, by decide +kernel⟩
theorem ok_contOf {f f1 f2 : Addr} {fd fd1 fd2 : FuncData} (F : Fun K "is_content_of" "is_content_of" sContOf f fd) (G1 : FnOk P w K mg base CX0 1 f1 fd1 ["thing"] spPair) (k1 : PySem.W.keepIn K (.ref f1) = true) (b1 : Binds K fd1 ["thing"] []) (g1 : mg "is_pair" = some (.ref f1))
    (G2 : FnOk P w K mg base CX0 2 f2 fd2 ["thing", "letters"] spLetters) (k2 : PySem.W.keepIn K (.ref f2) = true) (b2 : Binds K fd2 ["thing", "letters"] []) (g2 : mg "is_letters" = some (.ref f2)) :
    FnOk P w K mg base CX0 3 f fd ["thing", "letters"] spContOf := by
  refine F.ok scContOf (fun vs H Q E h => ?_) (fun cdv A outer s H vs Q E hr h => ?_)
  · obtain ⟨p, c, rfl, _⟩ := h
    rfl
  · obtain ⟨p, c, rfl, hp, ok, q⟩ := h
    refine ⟨_, pss_one (ps_ret (pe_and (pe_call G1 (hr.mono (by decide)) rfl g1 k1 b1 .nil pass0 (pa_cons (pv 0) pa_nil))
      (pe_and (pe_call G2 hr rfl g2 k2 b2 .nil pass0 (pa_cons (pe_ix ix_tup (pv 0) pe_int (fun _ _ => rfl)) (pa_cons (pv 1) pa_nil)))
        (pe_one (pe_call G2 hr rfl g2 k2 b2 .nil pass0 (pa_cons (pe_ix ix_tup (pv 0) pe_int (fun _ _ => rfl)) (pa_cons (pv 1) pa_nil))))))), ?_⟩
    refine ⟨_, rfl, p, c, rfl, hp, true, rfl, iteT ?_⟩
    refine ⟨_, rfl, p, _, 0, _, rfl, rfl, SqT.of hp, atI_nat (j := 0) rfl, _, rfl, c.1, rfl, ok.l1, Nat.le_trans ok.n1 (by decide), true, rfl, iteT ?_⟩
    exact ⟨_, rfl, p, _, 1, _, rfl, rfl, SqT.of hp, atI_nat (j := 1) rfl, _, rfl, c.2, rfl, ok.l2, Nat.le_trans ok.n2 (by decide), q⟩
/-! ### is_content, check_content -/
def spCont : Sp := fun vs H Q _ => ∃ p c, vs = [.ref p] ∧ CtAt H p c ∧ Okc c ∧ Q (.bl true) H
theorem scCont : FnScope ["thing"] ["thing"] (defScope sCont) := ⟨rfl, rfl, rfl, by decide +kernel, rfl, by decide +kernel, by decide +kernel⟩
theorem ok_cont {f f1 : Addr} {fd fd1 : FuncData} (F : Fun K "is_content" "is_content" sCont f fd) (T : Txt mg) (G1 : FnOk P w K mg base CX0 3 f1 fd1 ["thing", "letters"] spContOf) (k1 : PySem.W.keepIn K (.ref f1) = true) (b1 : Binds K fd1 ["thing", "letters"] []) (g1 : mg "is_content_of" = some (.ref f1)) :
    FnOk P w K mg base CX0 4 f fd ["thing"] spCont := by
  refine F.ok scCont (fun vs H Q E h => ?_) (fun cdv A outer s H vs Q E hr h => ?_)
  · obtain ⟨p, c, rfl, _⟩ := h
    rfl
  · obtain ⟨p, c, rfl, hp, ok, q⟩ := h
    refine ⟨_, pss_one (ps_ret (pe_call G1 hr rfl g1 k1 b1 .nil pass0 (pa_cons (pv 0) (pa_cons (pe_callB call_len (by rfl) T.len PySem.boot_len (pa_cons (C8.pe_gc (by rfl) T.letters) pa_nil)) pa_nil)))), ?_⟩
    exact ⟨_, rfl, _, 3, rfl, ⟨by decide, rfl⟩, p, c, rfl, hp, ok, q⟩
def spCheck : Sp := fun vs H Q _ => ∃ p c, vs = [.ref p] ∧ CtAt H p c ∧ Okc c ∧ Q .non H
theorem scCheck : FnScope ["thing"] ["thing"] (defScope sCheck) := ⟨rfl, rfl, rfl, by decide +kernel, rfl, by decide +kernel, by decide +kernel⟩
theorem ok_check {f f1 : Addr} {fd fd1 : FuncData} (F : Fun K "check_content" "check_content" sCheck f fd) (G1 : FnOk P w K mg base CX0 4 f1 fd1 ["thing"] spCont) (k1 : PySem.W.keepIn K (.ref f1) = true) (b1 : Binds K fd1 ["thing"] []) (g1 : mg "is_content" = some (.ref f1)) :
    FnOk P w K mg base CX0 5 f fd ["thing"] spCheck := by
  refine F.ok scCheck (fun vs H Q E h => ?_) (fun cdv A outer s H vs Q E hr h => ?_)
  · obtain ⟨p, c, rfl, _⟩ := h
    rfl
  · obtain ⟨p, c, rfl, hp, ok, q⟩ := h
    refine ⟨_, pss_one (ps_if (pt_not (pt_val (pe_call G1 hr rfl g1 k1 b1 .nil pass0 (pa_cons (pv 0) pa_nil)))) (pss_one ps_never) pss_nil), ?_⟩
    exact ⟨_, rfl, p, c, rfl, hp, ok, true, rfl, iteF q⟩
/-! ### least_round -/
def spRound : Sp := fun vs H Q _ => ∃ r, vs = [.str (S r)] ∧ r.length ≤ 1000 ∧ ∀ u, IsRoot r u → Q (.str (S u)) H
theorem scRound : FnScope ["again", "many"] ["again"] (defScope sRound) := ⟨rfl, rfl, rfl, by decide +kernel, rfl, by decide +kernel, by decide +kernel⟩
theorem ok_round {f : Addr} {fd : FuncData} (F : Fun K "least_round" "least_round" sRound f fd) (T : Txt mg) : FnOk P w K mg base CX0 1 f fd ["again"] spRound := by
  refine F.ok scRound (fun vs H Q E h => ?_) (fun cdv A outer s H vs Q E hr h => ?_)
  · obtain ⟨r, rfl, _⟩ := h
    rfl
  · obtain ⟨r, rfl, hn, q⟩ := h
    refine ⟨_, pss_cons (ps_for PassesOwn.never rfl (pi_range2 (by rfl) T.range (pa_cons pe_int (pa_cons (pe_callB call_len (by rfl) T.len PySem.boot_len (pa_cons (pv 0) pa_nil)) pa_nil))) (pg_name (i := 1) scRound.nd rfl (Or.inl rfl))
        (pss_one (ps_if (PW.pt (pw_and (pt_cmpR op_eq (pe_op op_mod (pe_callB call_len (by rfl) T.len PySem.boot_len (pa_cons (pv 0) pa_nil)) (pv 1)) pe_int (nomark _))
            (pw_and1 (pt_cmpR op_eq (pe_op op_mulS (pe_slice sl_S (pv 0) po_none (po_some (pv 1))) (pe_op op_fdiv (pe_callB call_len (by rfl) T.len PySem.boot_len (pa_cons (pv 0) pa_nil)) (pv 1))) (pv 0) (nomark _)))))
          (pss_one (ps_ret (pe_slice sl_S (pv 0) po_none (po_some (pv 1))))) pss_nil)))
      (pss_one (ps_ret (pv 0))), ?_⟩
    have hlen : LenV K (.str (S r)) H r.length := ⟨S_small hn, (S_len r).symm⟩
    refine ⟨_, rfl, _, r.length, rfl, hlen, 1, (r.length : Int), rfl, by omega, for_range (lo := 1) (n := ((r.length : Int) - 1).toNat)
      (fun i σ H2 => ∃ v, σ = [some (.str (S r)), v] ∧ H2 = H ∧ ∀ e, 0 < e → e < i + 1 → ¬ Good r e) ⟨none, rfl, rfl, fun e h0 h1 => by omega⟩ ?_ ?_⟩
    · rintro i σ H2 hi ⟨v, rfl, rfl, less⟩
      have hd : 0 < i + 1 := Nat.succ_pos i
      have hl : i + 1 < r.length := by omega
      have e1 : (1 : Int) + (i : Nat) = ((i + 1 : Nat) : Int) := by omega
      have em : ((r.length : Nat) : Int) % (((i + 1 : Nat)) : Int) = ((r.length % (i + 1) : Nat) : Int) := by omega
      have ed : (((r.length : Nat) : Int) / (((i + 1 : Nat)) : Int)).toNat = r.length / (i + 1) := by
        rw [← Int.natCast_ediv, Int.toNat_natCast]
      rw [e1]
      by_cases h1 : r.length % (i + 1) = 0
      · refine ⟨_, rfl, _, r.length, rfl, hlen, _, rfl, _, _, rfl, rfl, by omega, rfl, true, blT (by show V.int (((r.length : Nat) : Int) % (((i + 1 : Nat)) : Int)) = V.int 0; rw [em, h1]; rfl), iteT ?_⟩
        have hk : r.length / (i + 1) ≤ r.length := Nat.div_le_self _ _
        have lt : (r.take (i + 1)).length ≤ 1000 := by rw [List.length_take]; omega
        have bd : -(2 ^ 63) ≤ ((r.length : Nat) : Int) / (((i + 1 : Nat)) : Int) ∧ ((r.length : Nat) : Int) / (((i + 1 : Nat)) : Int) ≤ 1000 := by
          rw [← Int.natCast_ediv]; omega
        by_cases h2 : Pow r (i + 1)
        · refine ⟨_, rfl, _, rfl, _, rfl, r, r.take (i + 1), rfl, hn, cut_to, _, rfl, _, r.length, rfl, hlen, _, rfl, _, _, rfl, rfl, ⟨by omega, by omega⟩, r.take (i + 1), _, rfl, rfl, lt, bd, _, rfl, rfl, true, blT ?_, iteT ?_⟩
          · show V.str (S (List.replicate (((r.length : Nat) : Int) / (((i + 1 : Nat)) : Int)).toNat (r.take (i + 1))).flatten) = V.str (S r)
            rw [ed]; exact congrArg (fun z => V.str (S z)) h2
          · refine ⟨_, rfl, _, rfl, _, rfl, r, r.take (i + 1), rfl, hn, cut_to, ?_⟩
            exact q _ (root_found hd hl ⟨h1, h2⟩ fun e h0 hlt => less e h0 hlt)
        · refine ⟨_, rfl, _, rfl, _, rfl, r, r.take (i + 1), rfl, hn, cut_to, _, rfl, _, r.length, rfl, hlen, _, rfl, _, _, rfl, rfl, ⟨by omega, by omega⟩, r.take (i + 1), _, rfl, rfl, lt, bd, _, rfl, rfl, false, blF (S_ne ?_), iteF ?_⟩
          · rw [ed]; exact h2
          · refine ⟨_, rfl, rfl, fun e h0 hlt g => ?_⟩
            by_cases he : e = i + 1
            · rw [he] at g; exact h2 g.2
            · exact less e h0 (by omega) g
      · have hne : ¬ V.int (((r.length : Nat) : Int) % (((i + 1 : Nat)) : Int)) = V.int 0 := fun e => by
          rw [em] at e
          have := V.int.inj e
          omega
        refine ⟨_, rfl, _, r.length, rfl, hlen, _, rfl, _, _, rfl, rfl, by omega, rfl, false, blF hne, iteF (iteF ?_)⟩
        refine ⟨_, rfl, rfl, fun e h0 hlt g => ?_⟩
        by_cases he : e = i + 1
        · rw [he] at g; exact h1 g.1
        · exact less e h0 (by omega) g
    · rintro σ H2 ⟨v, rfl, rfl, less⟩
      exact ⟨_, rfl, q _ (root_none fun e h0 hlt => less e h0 (by omega))⟩
end
end K2

/-! K2Prog2 -/
set_option maxRecDepth 100000
set_option maxHeartbeats 4000000
namespace K2
open PySem PySem.Spec PyProof.Rows L2
theorem root_len {r u : List Nat} (h : IsRoot r u) : u.length ≤ r.length := by
  rcases h with ⟨e1, e2⟩ | ⟨_, _, _, m, hm, e⟩
  · rw [e1, e2]; exact Nat.le_refl _
  · rw [e, flat_len]; exact Nat.le_mul_of_pos_left _ hm
theorem snoc_cases (l : List Nat) : l = [] ∨ ∃ a x, l = a ++ [x] := by
  rcases List.eq_nil_or_concat l with e | ⟨a, x, e⟩
  · exact .inl e
  · exact .inr ⟨a, x, by rw [e, List.concat_eq_append]⟩
theorem getLast_snoc (a : List Nat) (x : Nat) : (a ++ [x]).getLast? = some x := by simp
section
variable {P : Program} {w : World} {K : PySem.W.Frag} {mg : Str → Option Value} {base : Heap}
/-! ### shortest -/
def spShort : Sp := fun vs H Q _ => ∃ h r, vs = [.str (S h), .str (S r)] ∧ h.length ≤ 1000 ∧ r.length ≤ 1000 ∧
  ∀ d : Con, NF (h, r) d → d.1.length ≤ h.length → d.2.length ≤ r.length → ∀ p, H p = none → Q (.ref p) (upd H p (.tup [.str (S d.1), .str (S d.2)]))
theorem scShort : FnScope ["first", "again"] ["first", "again"] (defScope sShort) := ⟨rfl, rfl, rfl, by decide +kernel, rfl, by decide +kernel, by decide +kernel⟩
theorem ok_short {f f1 : Addr} {fd fd1 : FuncData} (F : Fun K "shortest" "shortest" sShort f fd) (T : Txt mg) (G1 : FnOk P w K mg base CX0 1 f1 fd1 ["again"] spRound) (k1 : PySem.W.keepIn K (.ref f1) = true) (b1 : Binds K fd1 ["again"] []) (g1 : mg "least_round" = some (.ref f1)) :
    FnOk P w K mg base CX0 2 f fd ["first", "again"] spShort := by
  refine F.ok scShort (fun vs H Q E h => ?_) (fun cdv A outer s H vs Q E hr h => ?_)
  · obtain ⟨h, r, rfl, _⟩ := h
    rfl
  · obtain ⟨h, r, rfl, hh, hn, q⟩ := h
    refine ⟨_, pss_cons (ps_set (i := 1) scShort.nd rfl (Or.inl rfl) (pe_call G1 hr rfl g1 k1 b1 .nil pass0 (pa_cons (pv 1) pa_nil)))
      (pss_cons (ps_while PassesOwn.never (PW.pt (pw_and (pt_cmpR op_gt (pe_callB call_len (by rfl) T.len PySem.boot_len (pa_cons (pv 0) pa_nil)) pe_int (nomark _))
          (pw_and (pt_cmpR op_gt (pe_callB call_len (by rfl) T.len PySem.boot_len (pa_cons (pv 1) pa_nil)) pe_int (nomark _))
            (pw_and1 (pt_cmpR op_eq (pe_ix ix_S (pv 0) (pe_un un_neg pe_int) (fun _ _ => rfl)) (pe_ix ix_S (pv 1) (pe_un un_neg pe_int) (fun _ _ => rfl)) (nomark _))))))
        (pss_cons (ps_set (i := 0) scShort.nd rfl (Or.inl rfl) (pe_slice sl_S (pv 0) po_none (po_some (pe_un un_neg pe_int))))
        (pss_one (ps_set (i := 1) scShort.nd rfl (Or.inl rfl) (pe_op op_add_str (pe_slice sl_S (pv 1) (po_some (pe_un un_neg pe_int)) po_none) (pe_slice sl_S (pv 1) po_none (po_some (pe_un un_neg pe_int))))))))
      (pss_one (ps_ret (pe_tup (pa_cons (pv 0) (pa_cons (pv 1) pa_nil)))))), ?_⟩
    refine ⟨_, rfl, r, rfl, hn, fun u hu => ?_⟩
    refine ⟨fun m σ H2 => ∃ h' r', σ = [some (.str (S h')), some (.str (S r'))] ∧ H2 = H ∧ m = h'.length ∧ h'.length ≤ h.length ∧ r'.length ≤ r.length ∧ SameS (h, r) (h', r') ∧
      ((r = [] ∧ r' = [] ∧ h' = h) ∨ (r ≠ [] ∧ r' ≠ [] ∧ Prim r')), ⟨_, h, u, rfl, rfl, rfl, Nat.le_refl _, root_len hu, root_same hu, ?_⟩, ?_⟩
    · rcases hu with ⟨e1, e2⟩ | ⟨e1, e2, e3, _⟩
      · exact .inl ⟨e1, e2, rfl⟩
      · exact .inr ⟨e1, e2, e3⟩
    · rintro m σ H2 ⟨h', r', rfl, rfl, rfl, lh, lr, sm, k⟩
      have fin : (h' = [] ∨ r' = [] ∨ h'.getLast? ≠ r'.getLast?) → ∀ p, H2 p = none → Q (.ref p) (upd H2 p (.tup [.str (S h'), .str (S r')])) := fun last => by
        refine q (h', r') ⟨sm, ?_⟩ lh lr
        rcases k with ⟨e1, e2, e3⟩ | ⟨e1, e2, e3⟩
        · exact .inl ⟨e1, by rw [e1, e2, e3]⟩
        · refine .inr ⟨e1, e2, e3, ?_⟩
          rcases last with z | z | z
          · exact .inl z
          · exact absurd z e2
          · exact .inr z
      have lenH : LenV K (.str (S h')) H2 h'.length := ⟨S_small (Nat.le_trans lh hh), (S_len h').symm⟩
      have lenR : LenV K (.str (S r')) H2 r'.length := ⟨S_small (Nat.le_trans lr hn), (S_len r').symm⟩
      rcases snoc_cases h' with e | ⟨a, x, e⟩
      · refine ⟨_, rfl, _, h'.length, rfl, lenH, _, _, rfl, rfl, false, blF (by rw [e]; decide), iteF (iteF ?_)⟩
        exact ⟨_, rfl, _, rfl, (by show 2 ≤ sizeLine; decide), fun p hp => fin (.inl e) p hp⟩
      · refine ⟨_, rfl, _, h'.length, rfl, lenH, _, _, rfl, rfl, true, blT (by rw [e, List.length_append]; show (0 : Int) < ((a.length + 1 : Nat) : Int); omega), iteT ?_⟩
        rcases snoc_cases r' with e2 | ⟨b, y, e2⟩
        · refine ⟨_, rfl, _, r'.length, rfl, lenR, _, _, rfl, rfl, false, blF (by rw [e2]; decide), iteF (iteF ?_)⟩
          exact ⟨_, rfl, _, rfl, (by show 2 ≤ sizeLine; decide), fun p hp => fin (.inr (.inl e2)) p hp⟩
        · refine ⟨_, rfl, _, r'.length, rfl, lenR, _, _, rfl, rfl, true, blT (by rw [e2, List.length_append]; show (0 : Int) < ((b.length + 1 : Nat) : Int); omega), iteT ?_⟩
          subst e e2
          have n1 : (a ++ [x]).length ≤ 1000 := Nat.le_trans lh hh
          have n2 : (b ++ [y]).length ≤ 1000 := Nat.le_trans lr hn
          by_cases exy : x = y
          · subst exy
            refine ⟨_, rfl, _, rfl, _, -1, x, rfl, rfl, n1, atI_last _ _, _, rfl, _, rfl, _, -1, x, rfl, rfl, n2, atI_last _ _, rfl, true, blT rfl, iteT ?_⟩
            refine ⟨fun σ' H' => σ' = [some (.str (S a)), some (.str (S (x :: b)))] ∧ H' = H2, fun σ' H' => ?_, ?_⟩
            · rintro ⟨rfl, rfl⟩
              refine ⟨a.length, by simp, a, x :: b, rfl, rfl, rfl, ?_, ?_, sm.trans (back_same a b x), ?_⟩
              · rw [List.length_append] at lh; omega
              · rw [List.length_append] at lr; simp at lr ⊢; omega
              · rcases k with ⟨e1, e2, e3⟩ | ⟨e1, e2, e3⟩
                · exact absurd e2 (by simp)
                · exact .inr ⟨e1, by simp, back_prim e3⟩
            · refine ⟨_, rfl, _, rfl, -1, rfl, _, a, rfl, n1, cut_butlast a x, ?_⟩
              refine ⟨_, rfl, _, rfl, -1, rfl, _, [x], rfl, n2, cut_last b x, _, rfl, _, rfl, -1, rfl, _, b, rfl, n2, cut_butlast b x, _, _, rfl, rfl, ?_, ?_⟩
              · rw [S_len, S_len]
                rw [List.length_append] at n2
                exact Nat.le_of_lt (small1000 (by simp at n2 ⊢; omega))
              · refine ⟨?_, rfl⟩
                rw [S_cat]
                rfl
          · refine ⟨_, rfl, _, rfl, _, -1, x, rfl, rfl, n1, atI_last _ _, _, rfl, _, rfl, _, -1, y, rfl, rfl, n2, atI_last _ _, rfl, false, blF (S_ne fun z => exy (List.cons.inj z).1), iteF ?_⟩
            exact ⟨_, rfl, _, rfl, (by show 2 ≤ sizeLine; decide), fun p hp => fin (.inr (.inr (by rw [getLast_snoc, getLast_snoc]; exact fun z => exy (Option.some.inj z)))) p hp⟩
/-! ### least_content -/
theorem NF.okc {c d : Con} (a : NF c d) (h : Okc c) (l1 : d.1.length ≤ c.1.length) (l2 : d.2.length ≤ c.2.length) : Okc d :=
  ⟨fun x hx => (a.1.mem (.inl hx)).elim (h.l1 x) (h.l2 x), fun x hx => (a.1.mem (.inr hx)).elim (h.l1 x) (h.l2 x), Nat.le_trans l1 h.n1, Nat.le_trans l2 h.n2⟩
def spLeast : Sp := fun vs H Q _ => ∃ p c, vs = [.ref p] ∧ CtAt H p c ∧ Okc c ∧ ∀ d q, NF c d → Okc d → H q = none → Q (.ref q) (upd H q (.tup [.str (S d.1), .str (S d.2)]))
theorem scLeast : FnScope ["content"] ["content"] (defScope sLeast) := ⟨rfl, rfl, rfl, by decide +kernel, rfl, by decide +kernel, by decide +kernel⟩
theorem ok_least {f f1 f2 : Addr} {fd fd1 fd2 : FuncData} (F : Fun K "least_content" "least_content" sLeast f fd) (G1 : FnOk P w K mg base CX0 5 f1 fd1 ["thing"] spCheck) (k1 : PySem.W.keepIn K (.ref f1) = true) (b1 : Binds K fd1 ["thing"] []) (g1 : mg "check_content" = some (.ref f1))
    (G2 : FnOk P w K mg base CX0 2 f2 fd2 ["first", "again"] spShort) (k2 : PySem.W.keepIn K (.ref f2) = true) (b2 : Binds K fd2 ["first", "again"] []) (g2 : mg "shortest" = some (.ref f2)) :
    FnOk P w K mg base CX0 6 f fd ["content"] spLeast := by
  refine F.ok scLeast (fun vs H Q E h => ?_) (fun cdv A outer s H vs Q E hr h => ?_)
  · obtain ⟨p, c, rfl, _⟩ := h
    rfl
  · obtain ⟨p, c, rfl, hp, ok, q⟩ := h
    refine ⟨_, pss_cons (ps_expr (pe_call G1 hr rfl g1 k1 b1 .nil pass0 (pa_cons (pv 0) pa_nil)))
      (pss_one (ps_ret (pe_call G2 (hr.mono (by decide)) rfl g2 k2 b2 .nil pass0 (pa_cons (pe_ix ix_tup (pv 0) pe_int (fun _ _ => rfl)) (pa_cons (pe_ix ix_tup (pv 0) pe_int (fun _ _ => rfl)) pa_nil))))), ?_⟩
    refine ⟨_, rfl, p, c, rfl, hp, ok, ?_⟩
    refine ⟨_, rfl, p, _, 0, _, rfl, rfl, SqT.of hp, atI_nat (j := 0) rfl, _, rfl, p, _, 1, _, rfl, rfl, SqT.of hp, atI_nat (j := 1) rfl, c.1, c.2, rfl, Nat.le_trans ok.n1 (by decide), Nat.le_trans ok.n2 (by decide), fun d nf l1 l2 x hx => ?_⟩
    exact q d x nf (nf.okc ok l1 l2) hx
/-! ### same_signs -/
def spSame : Sp := fun vs H Q _ => ∃ p q c d, vs = [.ref p, .ref q] ∧ CtAt H p c ∧ CtAt H q d ∧ Okc c ∧ Okc d ∧ ∀ b H', (b = true ↔ SameS c d) → Same H H' → Q (.bl b) H'
theorem scSame : FnScope ["content", "second"] ["content", "second"] (defScope sSame) := ⟨rfl, rfl, rfl, by decide +kernel, rfl, by decide +kernel, by decide +kernel⟩
theorem ok_same {f f1 f2 : Addr} {fd fd1 fd2 : FuncData} (F : Fun K "same_signs" "same_signs" sSame f fd) (G1 : FnOk P w K mg base CX0 5 f1 fd1 ["thing"] spCheck) (k1 : PySem.W.keepIn K (.ref f1) = true) (b1 : Binds K fd1 ["thing"] []) (g1 : mg "check_content" = some (.ref f1))
    (G2 : FnOk P w K mg base CX0 2 f2 fd2 ["first", "again"] spShort) (k2 : PySem.W.keepIn K (.ref f2) = true) (b2 : Binds K fd2 ["first", "again"] []) (g2 : mg "shortest" = some (.ref f2)) :
    FnOk P w K mg base CX0 6 f fd ["content", "second"] spSame := by
  refine F.ok scSame (fun vs H Q E h => ?_) (fun cdv A outer s H vs Q E hr h => ?_)
  · obtain ⟨p, q, c, d, rfl, _⟩ := h
    rfl
  · obtain ⟨p, p2, c, c2, rfl, hp, hp2, ok, ok2, q⟩ := h
    have hr2 : Room 2 _ := hr.mono (by decide)
    refine ⟨_, pss_cons (ps_expr (pe_call G1 hr rfl g1 k1 b1 .nil pass0 (pa_cons (pv 0) pa_nil)))
      (pss_cons (ps_expr (pe_call G1 hr rfl g1 k1 b1 .nil pass0 (pa_cons (pv 1) pa_nil)))
      (pss_one (ps_ret (pe_cmpR (op_eqC hr.units)
        (pe_call G2 hr2 rfl g2 k2 b2 .nil pass0 (pa_cons (pe_ix ix_tup (pv 0) pe_int (fun _ _ => rfl)) (pa_cons (pe_ix ix_tup (pv 0) pe_int (fun _ _ => rfl)) pa_nil)))
        (pe_call G2 hr2 rfl g2 k2 b2 .nil pass0 (pa_cons (pe_ix ix_tup (pv 1) pe_int (fun _ _ => rfl)) (pa_cons (pe_ix ix_tup (pv 1) pe_int (fun _ _ => rfl)) pa_nil))) (nomark _))))), ?_⟩
    refine ⟨_, rfl, p, c, rfl, hp, ok, ?_⟩
    refine ⟨_, rfl, p2, c2, rfl, hp2, ok2, ?_⟩
    refine ⟨_, rfl, p, _, 0, _, rfl, rfl, SqT.of hp, atI_nat (j := 0) rfl, _, rfl, p, _, 1, _, rfl, rfl, SqT.of hp, atI_nat (j := 1) rfl, c.1, c.2, rfl, Nat.le_trans ok.n1 (by decide), Nat.le_trans ok.n2 (by decide), fun d nf l1 l2 x hx => ?_⟩
    have s1 : Same H (upd H x (.tup [.str (S d.1), .str (S d.2)])) := same_upd hx
    have hp2' := s1 _ _ hp2
    refine ⟨_, rfl, p2, _, 0, _, rfl, rfl, SqT.of hp2', atI_nat (j := 0) rfl, _, rfl, p2, _, 1, _, rfl, rfl, SqT.of hp2', atI_nat (j := 1) rfl, c2.1, c2.2, rfl, Nat.le_trans ok2.n1 (by decide), Nat.le_trans ok2.n2 (by decide), fun d2 nf2 m1 m2 y hy => ?_⟩
    have s2 := same_upd (o := .tup [.str (S d2.1), .str (S d2.2)]) hy
    have o1 := nf.okc ok l1 l2
    have o2 := nf2.okc ok2 m1 m2
    refine ⟨x, y, d, d2, rfl, rfl, s2 _ _ upd_same, upd_same, ⟨o1.l1, o1.l2⟩, ⟨o2.l1, o2.l2⟩, ?_⟩
    exact q _ _ (by rw [decide_eq_true_iff]; exact nf.iff nf2) (s1.trans s2)
end
end K2

/-! K2Law1 -/
set_option maxRecDepth 100000
set_option maxHeartbeats 4000000
namespace K2
open PySem PySem.Spec PyProof.Rows L2
theorem same_upd2 {H H2 : Hp} {D : Addr} {o : HO} (s : Same H H2) (h : H D = none) : Same H (L2.upd H2 D o) := fun b x e => by
  rw [upd_ne (ne_of_none e h)]
  exact s b x e
/-- all that stands but the pot and its great numbers -/
def Kp (p g : Addr) (H H' : Hp) : Prop := ∀ b o, H b = some o → b ≠ p → b ≠ g → H' b = some o
theorem Kp.refl {p g : Addr} {H : Hp} : Kp p g H H := fun _ _ h _ _ => h
theorem Kp.of {p g : Addr} {H H' : Hp} (s : Same H H') : Kp p g H H' := fun b o h _ _ => s b o h
theorem Kp.trans {p g : Addr} {H H1 H2 : Hp} (a : Kp p g H H1) (b : Kp p g H1 H2) : Kp p g H H2 := fun c o h h1 h2 => b c o (a c o h h1 h2) h1 h2
structure PotAt (p g s : Addr) (H : Hp) : Prop where
  pg : p ≠ g
  ps : p ≠ s
  gs : g ≠ s
  ex : ∃ (gl sl : List Int) (t c : Int), sl ≠ [] ∧ H p = some (.lst [.ref g, .ref s, .int t, .int c]) ∧ H g = some (.lst (gl.map V.int)) ∧ H s = some (.lst (sl.map V.int))
theorem PotAt.same {p g s : Addr} {H H' : Hp} (a : PotAt p g s H) (h : Same H H') : PotAt p g s H' := by
  obtain ⟨gl, sl, t, c, e, h1, h2, h3⟩ := a.ex
  exact ⟨a.pg, a.ps, a.gs, gl, sl, t, c, e, h _ _ h1, h _ _ h2, h _ _ h3⟩
/-- a content is neither the pot nor its numbers -/
theorem Kp.ct {p g s : Addr} {H H' : Hp} (a : Kp p g H H') (P : PotAt p g s H) {q : Addr} {xs : List V} (h : H q = some (.tup xs)) : H' q = some (.tup xs) := by
  obtain ⟨gl, sl, t, c, e, h1, h2, h3⟩ := P.ex
  exact a _ _ h (ne_of h h1 fun z => by cases z) (ne_of h h2 fun z => by cases z)
theorem Kp.new {p g s : Addr} {H H' : Hp} (a : Kp p g H H') (P : PotAt p g s H) {D : Addr} (n : H D = none) {H1 : Hp} {o : HO} (h : H1 D = some o) (b : Kp p g H1 H') : H' D = some o := by
  obtain ⟨gl, sl, t, c, e, h1, h2, h3⟩ := P.ex
  exact b _ _ h (ne_of_none h1 n).symm (ne_of_none h2 n).symm
theorem int_at {ns : List Int} {i : Nat} {y : V} (h : (ns.map V.int)[i]? = some y) : ∃ z, y = V.int z := by
  rw [List.getElem?_map] at h
  cases e : ns[i]? with
  | none => rw [e] at h; cases h
  | some z => rw [e] at h; exact ⟨z, (Option.some.inj h).symm⟩
theorem cut_ints (ns : List Int) (lo hi : Option Int) : ∃ ms : List Int, cutV (ns.map V.int) lo hi = ms.map V.int ∧ ms.length ≤ ns.length := by
  unfold cutV
  refine ⟨(ns.drop _).take _, by rw [List.map_take, List.map_drop], ?_⟩
  rw [List.length_take, List.length_drop]
  omega
theorem map_snoc (cs : List Int) (z : Int) : cs.map V.int ++ [V.int z] = (cs ++ [z]).map V.int := by rw [List.map_append]; rfl
section
variable {P : Program} {w : World} {K : PySem.W.Frag} {mg : Str → Option Value} {base : Heap}
/-! ### _law_pot -/
abbrev nPot : List Str := ["_law_script", "_law_cells", "_law_greats", "_law_smalls", "_law_item"]
def spPot (K : PySem.W.Frag) : Sp := fun vs H Q _ => ∃ (a : Addr) (ns : List Int), vs = [.ref a] ∧ SqL K H a (ns.map V.int) ∧ ns.length ≤ 63 ∧ ∀ p g s H', Same H H' → PotAt p g s H' → Q (.ref p) H'
theorem scPot : FnScope nPot ["_law_script"] (defScope sPot) := ⟨rfl, rfl, rfl, by decide +kernel, rfl, by decide +kernel, by decide +kernel⟩
theorem ok_pot {f : Addr} {fd : FuncData} (F : Fun K "_law_pot" "_law_pot" sPot f fd) (T : Txt mg) : FnOk P w K mg base CX0 1 f fd ["_law_script"] (spPot K) := by
  refine F.ok scPot (fun vs H Q E h => ?_) (fun cdv A outer s H vs Q E hr h => ?_)
  · obtain ⟨a, ns, rfl, _⟩ := h
    rfl
  · obtain ⟨a, ns, rfl, hS, hn, q⟩ := h
    refine ⟨_, pss_cons (ps_setLc (i := 1) (own := [("_law_item", 4)]) (g := gName 4) (tt := tYes) rfl scPot.nd rfl rfl (sw_true rfl rfl rfl (by decide +kernel)) (pi_list (pe_slice sl_list (pv 0) po_none (po_some pe_int)))
          (blkOk_by (N := nPot) (sc := defScope sPot) (by decide +kernel)) (fun _ _ _ _ _ => pg_name (i := 4) scPot.nd rfl (Or.inl rfl)) (fun _ _ _ _ _ => pts_nil) (fun _ _ _ _ _ => pe_callTy call_int1 (by rfl) T.int (by decide +kernel) (pa_cons (pv 4) pa_nil)))
      (pss_cons (ps_setLc (i := 2) (own := [("_law_item", 4)]) (g := gName 4) rfl scPot.nd rfl rfl (sw_true rfl rfl rfl (by decide +kernel)) (pi_list (pv 1))
          (blkOk_by (N := nPot) (sc := defScope sPot) (by decide +kernel)) (fun _ _ _ _ _ => pg_name (i := 4) scPot.nd rfl (Or.inl rfl))
          (fun _ _ _ _ _ => pts_one (pt_cmpR op_ge (pe_callB call_abs (by rfl) T.abs (by decide +kernel) (pa_cons (pv 4) pa_nil)) (pe_op op_pow pe_int pe_int) (nomark _)))
          (fun _ _ _ _ _ => pe_callB call_abs (by rfl) T.abs (by decide +kernel) (pa_cons (pv 4) pa_nil)))
      (pss_cons (ps_set (i := 3) scPot.nd rfl (Or.inl rfl) (pe_op op_cat
          (pe_lc (own := [("_law_item", 4)]) (g := gName 4) rfl scPot.nd (pi_list (pv 1)) (blkOk_by (N := nPot) (sc := defScope sPot) (by decide +kernel)) (fun _ _ _ _ _ => pg_name (i := 4) scPot.nd rfl (Or.inl rfl))
            (fun _ _ _ _ _ => pts_one (pt_cmpR op_lt (pe_callB call_abs (by rfl) T.abs (by decide +kernel) (pa_cons (pv 4) pa_nil)) (pe_op op_pow pe_int pe_int) (nomark _)))
            (fun _ _ _ _ _ => pe_op op_mod (pe_callTy call_int1 (by rfl) T.int (by decide +kernel) (pa_cons (pv 4) pa_nil)) pe_int))
          (pe_lst (pa_cons (pe_op op_add (pe_callB call_len (by rfl) T.len PySem.boot_len (pa_cons (pv 1) pa_nil)) pe_int) pa_nil))))
      (pss_one (ps_ret (pe_lst (pa_cons (pv 2) (pa_cons (pv 3) (pa_cons pe_int (pa_cons (pe_op op_mod (pe_callTy call_int1 (by rfl) T.int (by decide +kernel) (pa_cons (pe_callB (cr_sum rfl) (by rfl) T.sum (by decide +kernel) (pa_cons (pv 3) pa_nil)) pa_nil)) pe_int) pa_nil))))))))), ?_⟩
    -- the cells
    obtain ⟨ms, em, lm⟩ := cut_ints ns none (some 63)
    refine ⟨_, rfl, 63, rfl, a, _, rfl, hS, fun b nb => ?_⟩
    rw [em]
    have s1 : Same H (upd H b (.lst (ms.map V.int))) := same_upd nb
    refine ⟨b, rfl, ⟨_, SqL.of upd_same⟩, fun c nc => ?_⟩
    refine lc_list (K := K) (a := b) (xs := ms.map V.int) (fun i H2 => Same (upd H b (.lst (ms.map V.int))) H2 ∧ ∃ cs : List Int, cs.length ≤ i ∧ H2 c = some (.lst (cs.map V.int)))
      ⟨same_upd nc, [], Nat.le_refl _, upd_same⟩ (fun i H2 _ ⟨s2, _⟩ => s2.seq (SqL.of upd_same)) ?_ ?_
    · rintro i x H2 hi ⟨s2, cs, hc, e⟩
      obtain ⟨z, rfl⟩ := int_at hi
      have hil : i < (ms.map V.int).length := (List.getElem?_eq_some_iff.mp hi).1
      rw [List.length_map] at hil
      refine ⟨rfl, _, rfl, .inl ⟨z, rfl, cs.map V.int, e, ?_, same_upd2 s2 nc, cs ++ [z], ?_, ?_⟩⟩
      · rw [List.length_map]; exact small1000 (by omega)
      · rw [List.length_append]; simp; omega
      · rw [upd_same, map_snoc]
    · rintro H2 ⟨s2, cs, hc, e⟩
      rw [List.length_map] at hc
      -- the great ones
      refine ⟨_, rfl, c, rfl, ⟨_, SqL.of e⟩, fun d nd => ?_⟩
      refine lc_list (K := K) (a := c) (xs := cs.map V.int) (fun i H3 => Same H2 H3 ∧ ∃ gl : List Int, gl.length ≤ i ∧ H3 d = some (.lst (gl.map V.int)))
        ⟨same_upd nd, [], Nat.le_refl _, upd_same⟩ (fun i H3 _ ⟨s3, _⟩ => s3.seq (SqL.of e)) ?_ ?_
      · rintro i x H3 hi ⟨s3, gl, hg, eg⟩
        obtain ⟨z, rfl⟩ := int_at hi
        have hil : i < (cs.map V.int).length := (List.getElem?_eq_some_iff.mp hi).1
        rw [List.length_map] at hil
        refine ⟨rfl, _, rfl, z, rfl, 10, 18, rfl, rfl, ⟨by decide, by decide, by decide⟩, _, _, rfl, rfl, _, rfl, ite2 (fun _ => ?_) (fun _ => ?_)⟩
        · refine ⟨_, rfl, z, rfl, gl.map V.int, eg, ?_, same_upd2 s3 nd, gl ++ [if z < 0 then -z else z], ?_, ?_⟩
          · rw [List.length_map]; exact small1000 (by omega)
          · rw [List.length_append]; simp; omega
          · rw [upd_same, map_snoc]
        · exact ⟨s3, gl, by omega, eg⟩
      · rintro H3 ⟨s3, gl, hg, eg⟩
        have e3 := s3 _ _ e
        -- the small ones
        refine ⟨_, rfl, c, rfl, ⟨_, SqL.of e3⟩, fun t nt => ?_⟩
        refine lc_list (K := K) (a := c) (xs := cs.map V.int) (fun i H4 => Same H3 H4 ∧ ∃ sl : List Int, sl.length ≤ i ∧ H4 t = some (.lst (sl.map V.int)))
          ⟨same_upd nt, [], Nat.le_refl _, upd_same⟩ (fun i H4 _ ⟨s4, _⟩ => s4.seq (SqL.of e3)) ?_ ?_
        · rintro i x H4 hi ⟨s4, sl, hs, es⟩
          obtain ⟨z, rfl⟩ := int_at hi
          have hil : i < (cs.map V.int).length := (List.getElem?_eq_some_iff.mp hi).1
          rw [List.length_map] at hil
          refine ⟨rfl, _, rfl, z, rfl, 10, 18, rfl, rfl, ⟨by decide, by decide, by decide⟩, _, _, rfl, rfl, _, rfl, ite2 (fun _ => ?_) (fun _ => ?_)⟩
          · refine ⟨_, rfl, .inl ⟨z, rfl, _, _, rfl, rfl, (by show (0 : Int) < 1000000007; decide), sl.map V.int, es, ?_, same_upd2 s4 nt, sl ++ [z % 1000000007], ?_, ?_⟩⟩
            · rw [List.length_map]; exact small1000 (by omega)
            · rw [List.length_append]; simp; omega
            · rw [upd_same, map_snoc]
          · exact ⟨s4, sl, by omega, es⟩
        · rintro H4 ⟨s4, sl, hs, es⟩
          have e4 := s4 _ _ e3
          rw [List.length_map] at hs hg
          -- the length's list
          refine ⟨_, rfl, _, cs.length, rfl, .inl ⟨_, SqL.of e4, by rw [List.length_map]⟩, _, _, rfl, rfl, (by show 1 ≤ sizeLine; decide), fun u nu => ?_⟩
          have nut : t ≠ u := ne_of_none es nu
          have s5 := same_upd (o := .lst [V.int ((cs.length : Int) + 1)]) nu
          refine ⟨t, u, sl.map V.int, [.int ((cs.length : Int) + 1)], rfl, rfl, s5 _ _ es, upd_same, ?_, fun x nx => ?_⟩
          · rw [List.length_map]; exact Nat.le_of_lt (small1000 (by simp; omega))
          have s6 := same_upd (o := .lst (sl.map V.int ++ [V.int ((cs.length : Int) + 1)])) nx
          have ed := s6 _ _ (s5 _ _ (s4 _ _ eg))
          have ex : (upd (upd H4 u (.lst [V.int ((cs.length : Int) + 1)])) x (.lst (sl.map V.int ++ [V.int ((cs.length : Int) + 1)]))) x = some (.lst ((sl ++ [(cs.length : Int) + 1]).map V.int)) := by
            rw [upd_same, map_snoc]
          have hdx : d ≠ x := ne_of_none (s5 _ _ (s4 _ _ eg)) nx
          -- the pot
          refine ⟨_, rfl, _, rfl, _, rfl, x, _, rfl, SqL.of ex, .inl ⟨_, rfl, _, _, rfl, rfl, (by show (0 : Int) < 999983; decide), (by show 4 ≤ sizeLine; decide), fun p np => ?_⟩⟩
          have s7 := same_upd (o := .lst [V.ref d, V.ref x, V.int 0, V.int ((sl ++ [(cs.length : Int) + 1]).sum % 999983)]) np
          refine q p d x _ (s1.trans (s2.trans (s3.trans (s4.trans (s5.trans (s6.trans s7)))))) ⟨(ne_of_none ed np).symm, (ne_of_none ex np).symm, hdx, gl, sl ++ [(cs.length : Int) + 1], 0, _, by simp, upd_same, s7 _ _ ed, s7 _ _ ex⟩
end
end K2

/-! K2Law2 -/
set_option maxRecDepth 100000
set_option maxHeartbeats 4000000
namespace K2
open PySem PySem.Spec PyProof.Rows L2
section
variable {P : Program} {w : World} {K : PySem.W.Frag} {mg : Str → Option Value} {base : Heap}
/-! ### _law_draw -/
def spDraw : Sp := fun vs H Q _ => ∃ (p g s : Addr) (m : Int), vs = [.ref p, .int m] ∧ PotAt p g s H ∧ (0 < m ∧ m < 1000) ∧ ∀ r H', 0 ≤ r → r < m → PotAt p g s H' → Kp p g H H' → Q (.int r) H'
theorem scDraw : FnScope ["_law_pot_here", "_law_many", "_law_turn", "_law_number", "_law_seed"] ["_law_pot_here", "_law_many"] (defScope sDraw) := ⟨rfl, rfl, rfl, by decide +kernel, rfl, by decide +kernel, by decide +kernel⟩
theorem ok_draw {f : Addr} {fd : FuncData} (F : Fun K "_law_draw" "_law_draw" sDraw f fd) (T : Txt mg) : FnOk P w K mg base CX0 1 f fd ["_law_pot_here", "_law_many"] spDraw := by
  refine F.ok scDraw (fun vs H Q E h => ?_) (fun cdv A outer s H vs Q E hr h => ?_)
  · obtain ⟨p, g, s, m, rfl, _⟩ := h
    rfl
  · obtain ⟨p, g, s', m, rfl, pot, ⟨m0, m1⟩, q⟩ := h
    refine ⟨_, pss_cons (ps_set (i := 2) scDraw.nd rfl (Or.inl rfl) (pe_ix ix_list (pv 0) pe_int (fun _ _ => rfl)))
      (pss_cons (ps_asg (pe_op op_add (pv 2) pe_int) (pg_sub (pv 0) pe_int set_list))
      (pss_cons (ps_if (pt_cmpR op_gt (pe_callB call_len (by rfl) T.len PySem.boot_len (pa_cons (pe_ix ix_list (pv 0) pe_int (fun _ _ => rfl)) pa_nil)) pe_int (nomark _))
          (pss_cons (ps_set (i := 3) scDraw.nd rfl (Or.inl rfl) (pe_ix ix_list (pe_ix ix_list (pv 0) pe_int (fun _ _ => rfl)) pe_int (fun _ _ => rfl)))
          (pss_cons (ps_asg (pe_op op_fdiv (pv 3) (pv 1)) (pg_sub (pe_ix ix_list (pv 0) pe_int (fun _ _ => rfl)) pe_int set_list))
          (pss_cons (ps_if (pt_cmpR op_lt (pv 3) (pv 1) (nomark _))
              (pss_one (ps_expr (pe_bm PySem.F.plainAttrs_list PySem.F.slot_list_pop PySem.F.type_list_pop mt_popAt (pe_ix ix_list (pv 0) pe_int (fun _ _ => rfl)) (pa_cons pe_int pa_nil)))) pss_nil)
          (pss_one (ps_ret (pe_op op_mod (pe_callTy call_int1 (by rfl) T.int (by decide +kernel) (pa_cons (pv 3) pa_nil)) (pv 1)))))))
          pss_nil)
      (pss_cons (ps_set (i := 4) scDraw.nd rfl (Or.inl rfl) (pe_op op_add (pe_op op_add
          (pe_op op_mul (pe_ix ix_list (pe_ix ix_list (pv 0) pe_int (fun _ _ => rfl)) (pe_op op_mod (pe_callTy call_int1 (by rfl) T.int (by decide +kernel) (pa_cons (pv 2) pa_nil)) (pe_callB call_len (by rfl) T.len PySem.boot_len (pa_cons (pe_ix ix_list (pv 0) pe_int (fun _ _ => rfl)) pa_nil))) (fun _ _ => rfl)) pe_int)
          (pe_op op_mul pe_int (pv 2))) (pe_op op_mul (pe_ix ix_list (pv 0) pe_int (fun _ _ => rfl)) pe_int)))
      (pss_cons (ps_set (i := 3) scDraw.nd rfl (Or.inl rfl) (pe_op op_mod (pe_callTy call_int1 (by rfl) T.int (by decide +kernel) (pa_cons (pe_op op_add (pe_op op_mul (pv 4) pe_int) pe_int) pa_nil)) pe_int))
      (pss_cons (ps_set (i := 3) scDraw.nd rfl (Or.inl rfl) (pe_op op_mod (pe_callTy call_int1 (by rfl) T.int (by decide +kernel) (pa_cons (pe_op op_mul (pv 3) (pe_op op_add (pe_op op_fdiv (pv 3) pe_int) pe_int)) pa_nil)) pe_int))
      (pss_cons (ps_set (i := 3) scDraw.nd rfl (Or.inl rfl) (pe_op op_mod (pe_callTy call_int1 (by rfl) T.int (by decide +kernel) (pa_cons (pe_op op_add (pe_op op_mul (pv 3) (pe_op op_add (pe_op op_fdiv (pv 3) pe_int) pe_int)) (pv 2)) pa_nil)) pe_int))
      (pss_one (ps_ret (pe_op op_mod (pe_callTy call_int1 (by rfl) T.int (by decide +kernel) (pa_cons (pe_op op_fdiv (pv 3) pe_int) pa_nil)) (pv 1)))))))))), ?_⟩
    obtain ⟨npg, nps, ngs, gl, sl, t, c, hsl, hP, hG, hS⟩ := pot
    -- the turn
    refine ⟨_, rfl, p, _, 2, _, rfl, rfl, SqL.of hP, atI_nat (j := 2) rfl, ?_⟩
    refine ⟨_, rfl, _, _, rfl, rfl, _, rfl, p, _, 2, 2, rfl, rfl, hP, rfl, ?_⟩
    have hP1 : (upd H p (.lst [.ref g, .ref s', .int (t + 1), .int c])) p = some (.lst [.ref g, .ref s', .int (t + 1), .int c]) := upd_same
    have hG1 : (upd H p (.lst [.ref g, .ref s', .int (t + 1), .int c])) g = some (.lst (gl.map V.int)) := by rw [upd_ne npg.symm]; exact hG
    have hS1 : (upd H p (.lst [.ref g, .ref s', .int (t + 1), .int c])) s' = some (.lst (sl.map V.int)) := by rw [upd_ne nps.symm]; exact hS
    have k1 : Kp p g H (upd H p (.lst [.ref g, .ref s', .int (t + 1), .int c])) := fun b o e h1 _ => by rw [upd_ne h1]; exact e
    show tSeq _ _ _ _ (upd H p (.lst [.ref g, .ref s', .int (t + 1), .int c]))
    generalize upd H p (.lst [.ref g, .ref s', .int (t + 1), .int c]) = H1 at hP1 hG1 hS1 k1
    cases gl with
    | cons x xs =>
      refine ⟨_, rfl, p, _, 0, _, rfl, rfl, SqL.of hP1, atI_nat (j := 0) rfl, _, (x :: xs).length, rfl, .inl ⟨_, SqL.of hG1, by rw [List.length_map]⟩, _, _, rfl, rfl, true, blT (by simp), iteT ?_⟩
      refine ⟨_, rfl, p, _, 0, _, rfl, rfl, SqL.of hP1, atI_nat (j := 0) rfl, g, _, 0, _, rfl, rfl, SqL.of hG1, atI_nat (j := 0) rfl, ?_⟩
      refine ⟨_, rfl, _, rfl, _, _, rfl, rfl, ⟨m0, by omega⟩, _, rfl, p, _, 0, _, rfl, rfl, SqL.of hP1, atI_nat (j := 0) rfl, g, _, 0, 0, rfl, rfl, hG1, by simp [ixN], ?_⟩
      have hP2 : (upd H1 g (.lst ((x / m :: xs).map V.int))) p = some (.lst [.ref g, .ref s', .int (t + 1), .int c]) := by rw [upd_ne npg]; exact hP1
      have hS2 : (upd H1 g (.lst ((x / m :: xs).map V.int))) s' = some (.lst (sl.map V.int)) := by rw [upd_ne ngs.symm]; exact hS1
      have k2 : Kp p g H (upd H1 g (.lst ((x / m :: xs).map V.int))) := fun b o e h1 h2 => by rw [upd_ne h2]; exact k1 b o e h1 h2
      have mm : 0 ≤ x % m ∧ x % m < m := ⟨Int.emod_nonneg _ (by omega), Int.emod_lt_of_pos _ m0⟩
      refine ⟨_, rfl, _, rfl, _, _, rfl, rfl, _, rfl, ite2 (fun _ => ?_) (fun _ => ?_)⟩
      · refine ⟨_, rfl, p, _, 0, _, rfl, rfl, SqL.of hP2, atI_nat (j := 0) rfl, .inl ⟨rfl, _, SqL.of upd_same⟩, g, _, 0, 0, _, rfl, rfl, upd_same, by decide, by decide, seqIndex_of (by decide) (by simp), rfl, ?_⟩
        have hP3 : (upd (upd H1 g (.lst ((x / m :: xs).map V.int))) g (.lst (xs.map V.int))) p = some (.lst [.ref g, .ref s', .int (t + 1), .int c]) := by rw [upd_ne npg]; exact hP2
        have hS3 : (upd (upd H1 g (.lst ((x / m :: xs).map V.int))) g (.lst (xs.map V.int))) s' = some (.lst (sl.map V.int)) := by rw [upd_ne ngs.symm]; exact hS2
        refine ⟨_, rfl, .inl ⟨_, rfl, _, rfl, _, _, rfl, rfl, m0, ?_⟩⟩
        exact q _ _ mm.1 mm.2 ⟨npg, nps, ngs, xs, sl, t + 1, c, hsl, hP3, upd_same, hS3⟩ fun b o e h1 h2 => by rw [upd_ne h2]; exact k2 b o e h1 h2
      · refine ⟨_, rfl, .inl ⟨_, rfl, _, rfl, _, _, rfl, rfl, m0, ?_⟩⟩
        exact q _ _ mm.1 mm.2 ⟨npg, nps, ngs, x / m :: xs, sl, t + 1, c, hsl, hP2, upd_same, hS2⟩ k2
    | nil =>
      refine ⟨_, rfl, p, _, 0, _, rfl, rfl, SqL.of hP1, atI_nat (j := 0) rfl, _, 0, rfl, .inl ⟨_, SqL.of hG1, rfl⟩, _, _, rfl, rfl, false, blF (by decide), iteF ?_⟩
      have ls : 0 < sl.length := List.length_pos_iff.mpr hsl
      have i0 : 0 ≤ t % ((sl.length : Nat) : Int) := Int.emod_nonneg _ (by omega)
      have i1 : t % ((sl.length : Nat) : Int) < ((sl.length : Nat) : Int) := Int.emod_lt_of_pos _ (by omega)
      obtain ⟨n, en⟩ : ∃ n : Nat, t % ((sl.length : Nat) : Int) = n := ⟨(t % ((sl.length : Nat) : Int)).toNat, by omega⟩
      have hn : n < sl.length := by omega
      have ev : (sl.map V.int)[n]? = some (V.int sl[n]) := by rw [List.getElem?_map, List.getElem?_eq_getElem hn]; rfl
      refine ⟨_, rfl, p, _, 1, _, rfl, rfl, SqL.of hP1, atI_nat (j := 1) rfl, _, rfl, .inl ⟨_, rfl, _, rfl, p, _, 1, _, rfl, rfl, SqL.of hP1, atI_nat (j := 1) rfl, _, sl.length, rfl, .inl ⟨_, SqL.of hS1, by rw [List.length_map]⟩, _, _, rfl, rfl, by omega,
        s', _, _, _, rfl, rfl, SqL.of hS1, at_nat en ev, _, _, rfl, rfl, .inr ⟨by decide, by decide⟩, _, rfl, _, _, rfl, rfl, .inl ⟨by decide, by decide⟩, _, _, rfl, rfl,
        _, rfl, p, _, 3, _, rfl, rfl, SqL.of hP1, atI_nat (j := 3) rfl, _, _, rfl, rfl, .inr ⟨by decide, by decide⟩, _, _, rfl, rfl, ?_⟩⟩
      generalize sl[n] * 7919 + 104729 * t + c * 31 = seed
      refine ⟨_, rfl, _, _, rfl, rfl, .inr ⟨by decide, by decide⟩, _, _, rfl, rfl, .inl ⟨_, rfl, _, _, rfl, rfl, (by show (0 : Int) < 2147483647; decide), ?_⟩⟩
      have b1 : 0 ≤ (seed * 48271 + 11) % 2147483647 ∧ (seed * 48271 + 11) % 2147483647 < 2147483647 := ⟨Int.emod_nonneg _ (by decide), Int.emod_lt_of_pos _ (by decide)⟩
      generalize (seed * 48271 + 11) % 2147483647 = n1 at b1
      refine ⟨_, rfl, _, rfl, _, _, rfl, rfl, ⟨by decide, by decide⟩, _, _, rfl, rfl, _, _, rfl, rfl, .inl ⟨by omega, by omega⟩, .inl ⟨_, rfl, _, _, rfl, rfl, (by show (0 : Int) < 2147483629; decide), ?_⟩⟩
      have b2 : 0 ≤ n1 * (n1 / 1009 + 69621) % 2147483629 ∧ n1 * (n1 / 1009 + 69621) % 2147483629 < 2147483629 := ⟨Int.emod_nonneg _ (by decide), Int.emod_lt_of_pos _ (by decide)⟩
      generalize n1 * (n1 / 1009 + 69621) % 2147483629 = n2 at b2
      refine ⟨_, rfl, _, rfl, _, _, rfl, rfl, ⟨by decide, by decide⟩, _, _, rfl, rfl, _, _, rfl, rfl, .inl ⟨by omega, by omega⟩, _, rfl, _, _, rfl, rfl, .inl ⟨_, rfl, _, _, rfl, rfl, (by show (0 : Int) < 2147483399; decide), ?_⟩⟩
      generalize (n2 * (n2 / 2003 + 40692) + t) % 2147483399 = n3
      refine ⟨_, rfl, _, _, rfl, rfl, ⟨by decide, by decide⟩, .inl ⟨_, rfl, _, rfl, _, _, rfl, rfl, m0, ?_⟩⟩
      exact q _ _ (Int.emod_nonneg _ (by omega)) (Int.emod_lt_of_pos _ m0) ⟨npg, nps, ngs, [], sl, t + 1, c, hsl, hP1, hG1, hS1⟩ k1
/-! ### _law_string -/
abbrev nString : List Str := ["_law_pot_here", "_law_letters", "_law_most", "_law_k"]
def spString : Sp := fun vs H Q _ => ∃ (p g s : Addr) (n m : Int), vs = [.ref p, .int n, .int m] ∧ PotAt p g s H ∧ (0 < n ∧ n ≤ 3) ∧ (0 ≤ m ∧ m ≤ 100) ∧
  ∀ (l : List Nat) H', (∀ c ∈ l, 97 ≤ c ∧ (c : Int) < 97 + n) → (l.length : Int) ≤ m → PotAt p g s H' → Kp p g H H' → Q (.str (S l)) H'
theorem scString : FnScope nString ["_law_pot_here", "_law_letters", "_law_most"] (defScope sString) := ⟨rfl, rfl, rfl, by decide +kernel, rfl, by decide +kernel, by decide +kernel⟩
theorem ok_string {f f1 : Addr} {fd fd1 : FuncData} (F : Fun K "_law_string" "_law_string" sString f fd) (T : Txt mg) (G1 : FnOk P w K mg base CX0 1 f1 fd1 ["_law_pot_here", "_law_many"] spDraw) (k1 : PySem.W.keepIn K (.ref f1) = true) (b1 : Binds K fd1 ["_law_pot_here", "_law_many"] []) (g1 : mg "_law_draw" = some (.ref f1)) :
    FnOk P w K mg base CX0 2 f fd ["_law_pot_here", "_law_letters", "_law_most"] spString := by
  refine F.ok scString (fun vs H Q E h => ?_) (fun cdv A outer s H vs Q E hr h => ?_)
  · obtain ⟨p, g, s, n, m, rfl, _⟩ := h
    rfl
  · obtain ⟨p, g, s', n, m, rfl, pot, ⟨n0, n1⟩, ⟨m0, m1⟩, q⟩ := h
    refine ⟨_, pss_one (ps_ret (pe_join (pe_txt (l := []) (by decide +kernel)) (pe_lc (own := [("_law_k", 3)]) (g := gName 3) (tt := tYes) rfl scString.nd
        (pi_range1 (by rfl) T.range (pa_cons (pe_call G1 hr rfl g1 k1 b1 .nil pass0 (pa_cons (pv 0) (pa_cons (pe_op op_add (pv 2) pe_int) pa_nil))) pa_nil))
        (blkOk_by (N := nString) (sc := defScope sString) (by decide +kernel)) (fun _ _ _ _ _ => pg_name (i := 3) scString.nd rfl (Or.inl rfl)) (fun _ _ _ _ _ => pts_nil)
        (fun _ _ _ _ _ => pe_ix ix_S (pe_txt (l := [97, 98, 99]) (by decide +kernel)) (pe_call G1 hr rfl g1 k1 b1 .nil pass0 (pa_cons (pv 0) (pa_cons (pv 1) pa_nil))) (fun _ _ => rfl))))), ?_⟩
    refine ⟨⟨_, rfl⟩, _, rfl, _, rfl, _, _, rfl, rfl, p, g, s', _, rfl, pot, ⟨by omega, by omega⟩, fun r H1 r0 r1 pot1 kp1 => ?_⟩
    refine ⟨r, rfl, by omega, by omega, fun D nD => ?_⟩
    refine lc_range (lo := 0) (n := r.toNat) (fun i H2 => PotAt p g s' H2 ∧ Kp p g H H2 ∧ ∃ l : List Nat, l.length = i ∧ (∀ c ∈ l, 97 ≤ c ∧ (c : Int) < 97 + n) ∧ H2 D = some (.lst (((l.map fun c => [c]).map S).map V.str)))
      ⟨pot1.same (same_upd nD), kp1.trans (Kp.of (same_upd nD)), [], rfl, (fun _ h => nomatch h), upd_same⟩ ?_ ?_
    · rintro i H2 hi ⟨pot2, kp2, l, el, hl, eD⟩
      refine ⟨rfl, _, rfl, _, rfl, p, g, s', n, rfl, pot2, ⟨n0, by omega⟩, fun d H3 d0 d1 pot3 kp3 => ?_⟩
      have hd : atI [97, 98, 99] d = some (97 + d.toNat) := by
        have : d = 0 ∨ d = 1 ∨ d = 2 := by omega
        rcases this with e | e | e <;> subst e <;> rfl
      have eD3 : H3 D = some (.lst (((l.map fun c => [c]).map S).map V.str)) := kp3 _ _ eD (by
        obtain ⟨gl, sl, t, c, _, h1, h2, h3⟩ := pot1.ex
        exact (ne_of_none h1 nD).symm) (by
        obtain ⟨gl, sl, t, c, _, h1, h2, h3⟩ := pot1.ex
        exact (ne_of_none h2 nD).symm)
      have fp : p ≠ D ∧ g ≠ D ∧ s' ≠ D := by
        obtain ⟨gl, sl, t, c, _, h1, h2, h3⟩ := pot1.ex
        exact ⟨ne_of_none h1 nD, ne_of_none h2 nD, ne_of_none h3 nD⟩
      refine ⟨[97, 98, 99], d, _, rfl, rfl, by decide, hd, _, eD3, ?_, ?_, ?_, l ++ [97 + d.toNat], ?_, ?_, ?_⟩
      · rw [List.length_map, List.length_map, List.length_map]
        exact small1000 (by omega)
      · obtain ⟨gl, sl, t, c, e, h1, h2, h3⟩ := pot3.ex
        exact ⟨pot3.pg, pot3.ps, pot3.gs, gl, sl, t, c, e, by rw [upd_ne fp.1]; exact h1, by rw [upd_ne fp.2.1]; exact h2, by rw [upd_ne fp.2.2]; exact h3⟩
      · intro b o e h1 h2
        have z := kp1 b o e h1 h2
        rw [upd_ne (ne_of_none z nD)]
        exact kp3 b o (kp2 b o e h1 h2) h1 h2
      · rw [List.length_append]; simp; omega
      · intro c hc
        rcases List.mem_append.mp hc with h | h
        · exact hl c h
        · have e : c = 97 + d.toNat := by simpa using h
          omega
      · rw [upd_same]
        simp
    · rintro H2 ⟨pot2, kp2, l, el, hl, eD⟩
      refine ⟨S [], D, (l.map fun c => [c]).map S, rfl, rfl, .inl (SqL.of eD), join1_sz (by omega), ?_⟩
      rw [join1]
      exact q l H2 hl (by omega) pot2 kp2
/-! ### _law_sign, _law_first -/
def txt : Option Nat → Str
  | some c => S [c]
  | none => "end"
def spSign : Sp := fun vs H Q _ => ∃ (p : Addr) (c : Con) (n : Nat), vs = [.ref p, .int n] ∧ CtAt H p c ∧ Okc c ∧ Q (.str (txt (sgn c n))) H
theorem scSign : FnScope ["_law_content", "_law_place"] ["_law_content", "_law_place"] (defScope sSign) := ⟨rfl, rfl, rfl, by decide +kernel, rfl, by decide +kernel, by decide +kernel⟩
theorem ok_sign {f : Addr} {fd : FuncData} (F : Fun K "_law_sign" "_law_sign" sSign f fd) (T : Txt mg) : FnOk P w K mg base CX0 1 f fd ["_law_content", "_law_place"] spSign := by
  refine F.ok scSign (fun vs H Q E h => ?_) (fun cdv A outer s H vs Q E hr h => ?_)
  · obtain ⟨p, c, n, rfl, _⟩ := h
    rfl
  · obtain ⟨p, c, n, rfl, hp, ok, q⟩ := h
    refine ⟨_, pss_cons (ps_if (pt_cmpR op_lt (pv 1) (pe_callB call_len (by rfl) T.len PySem.boot_len (pa_cons (pe_ix ix_tup (pv 0) pe_int (fun _ _ => rfl)) pa_nil)) (nomark _))
          (pss_one (ps_ret (pe_ix ix_S (pe_ix ix_tup (pv 0) pe_int (fun _ _ => rfl)) (pv 1) (fun _ _ => rfl)))) pss_nil)
      (pss_cons (ps_if (pt_cmpR op_eq (pe_ix ix_tup (pv 0) pe_int (fun _ _ => rfl)) (pe_txt (l := []) (by decide +kernel)) (nomark _)) (pss_one (ps_ret pe_str)) pss_nil)
      (pss_one (ps_ret (pe_ix ix_S (pe_ix ix_tup (pv 0) pe_int (fun _ _ => rfl))
        (pe_op op_mod (pe_callTy call_int1 (by rfl) T.int (by decide +kernel) (pa_cons (pe_op op_sub (pv 1) (pe_callB call_len (by rfl) T.len PySem.boot_len (pa_cons (pe_ix ix_tup (pv 0) pe_int (fun _ _ => rfl)) pa_nil))) pa_nil))
          (pe_callB call_len (by rfl) T.len PySem.boot_len (pa_cons (pe_ix ix_tup (pv 0) pe_int (fun _ _ => rfl)) pa_nil))) (fun _ _ => rfl))))), ?_⟩
    have n1 : c.1.length ≤ 1000 := Nat.le_trans ok.n1 (by decide)
    have n2 : c.2.length ≤ 1000 := Nat.le_trans ok.n2 (by decide)
    have len1 : LenV K (.str (S c.1)) H c.1.length := ⟨S_small n1, (S_len c.1).symm⟩
    have len2 : LenV K (.str (S c.2)) H c.2.length := ⟨S_small n2, (S_len c.2).symm⟩
    by_cases h1 : n < c.1.length
    · refine ⟨_, rfl, _, rfl, p, _, 0, _, rfl, rfl, SqT.of hp, atI_nat (j := 0) rfl, _, c.1.length, rfl, len1, _, _, rfl, rfl, true, blT (by omega), iteT ?_⟩
      have e : c.1[n]? = some c.1[n] := List.getElem?_eq_getElem h1
      refine ⟨_, rfl, p, _, 0, _, rfl, rfl, SqT.of hp, atI_nat (j := 0) rfl, _, rfl, c.1, n, c.1[n], rfl, rfl, n1, atI_nat e, ?_⟩
      rw [show sgn c n = c.1[n]? from sgn_lt (h := c.1) (r := c.2) h1, e] at q
      exact q
    · refine ⟨_, rfl, _, rfl, p, _, 0, _, rfl, rfl, SqT.of hp, atI_nat (j := 0) rfl, _, c.1.length, rfl, len1, _, _, rfl, rfl, false, blF (by omega), iteF ?_⟩
      by_cases h2 : c.2 = []
      · refine ⟨_, rfl, p, _, 1, _, rfl, rfl, SqT.of hp, atI_nat (j := 1) rfl, rfl, true, blT (by rw [h2]), iteT ?_⟩
        have z : sgn c n = none := by
          rw [show sgn c n = sgn (c.1, c.2) n from rfl, h2, sgn_end (Nat.le_of_not_lt h1)]
        rw [z] at q
        exact q
      · refine ⟨_, rfl, p, _, 1, _, rfl, rfl, SqT.of hp, atI_nat (j := 1) rfl, rfl, false, blF (S_ne h2), iteF ?_⟩
        have pl : 0 < c.2.length := List.length_pos_iff.mpr h2
        have lt := Nat.mod_lt (n - c.1.length) pl
        have e : c.2[(n - c.1.length) % c.2.length]? = some c.2[(n - c.1.length) % c.2.length] := List.getElem?_eq_getElem lt
        have ei : ((n : Int) - ((c.1.length : Nat) : Int)) % ((c.2.length : Nat) : Int) = (((n - c.1.length) % c.2.length : Nat) : Int) := by
          rw [show (n : Int) - ((c.1.length : Nat) : Int) = ((n - c.1.length : Nat) : Int) by omega]
          rfl
        refine ⟨_, rfl, p, _, 1, _, rfl, rfl, SqT.of hp, atI_nat (j := 1) rfl, _, rfl, _, rfl, p, _, 0, _, rfl, rfl, SqT.of hp, atI_nat (j := 0) rfl, _, c.1.length, rfl, len1, _, _, rfl, rfl, .inl ⟨_, rfl,
          _, rfl, p, _, 1, _, rfl, rfl, SqT.of hp, atI_nat (j := 1) rfl, _, c.2.length, rfl, len2, _, _, rfl, rfl, by omega, c.2, _, _, rfl, rfl, n2, at_nat ei e, ?_⟩⟩
        rw [show sgn c n = _ from sgn_ge (h := c.1) (r := c.2) (Nat.le_of_not_lt h1) h2, e] at q
        exact q
abbrev nFirst : List Str := ["_law_content", "_law_many", "_law_place"]
def signs (c : Con) (n : Nat) : List Str := (List.range n).map fun i => txt (sgn c i)
def spFirst : Sp := fun vs H Q _ => ∃ (p : Addr) (c : Con) (n : Nat), vs = [.ref p, .int n] ∧ CtAt H p c ∧ Okc c ∧ n ≤ 1000 ∧ ∀ q H', Same H H' → H q = none → H' q = some (.lst ((signs c n).map V.str)) → Q (.ref q) H'
theorem scFirst : FnScope nFirst ["_law_content", "_law_many"] (defScope sFirst) := ⟨rfl, rfl, rfl, by decide +kernel, rfl, by decide +kernel, by decide +kernel⟩
theorem ok_first {f f1 : Addr} {fd fd1 : FuncData} (F : Fun K "_law_first" "_law_first" sFirst f fd) (T : Txt mg) (G1 : FnOk P w K mg base CX0 1 f1 fd1 ["_law_content", "_law_place"] spSign) (k1 : PySem.W.keepIn K (.ref f1) = true) (b1 : Binds K fd1 ["_law_content", "_law_place"] []) (g1 : mg "_law_sign" = some (.ref f1)) :
    FnOk P w K mg base CX0 2 f fd ["_law_content", "_law_many"] spFirst := by
  refine F.ok scFirst (fun vs H Q E h => ?_) (fun cdv A outer s H vs Q E hr h => ?_)
  · obtain ⟨p, c, n, rfl, _⟩ := h
    rfl
  · obtain ⟨p, c, n, rfl, hp, ok, hn, q⟩ := h
    refine ⟨_, pss_one (ps_ret (pe_lc (own := [("_law_place", 2)]) (g := gName 2) (tt := tYes) rfl scFirst.nd (pi_range1 (by rfl) T.range (pa_cons (pv 1) pa_nil))
        (blkOk_by (N := nFirst) (sc := defScope sFirst) (by decide +kernel)) (fun _ _ _ _ _ => pg_name (i := 2) scFirst.nd rfl (Or.inl rfl)) (fun _ _ _ _ _ => pts_nil)
        (fun _ _ _ _ _ => pe_call G1 hr rfl g1 k1 b1 .nil pass0 (pa_cons (pv 0) (pa_cons (pv 2) pa_nil))))), ?_⟩
    refine ⟨_, rfl, _, rfl, by omega, by omega, fun D nD => ?_⟩
    refine lc_range (lo := 0) (n := n) (fun i H2 => Same H H2 ∧ H2 D = some (.lst ((signs c i).map V.str))) ⟨same_upd nD, upd_same⟩ ?_ ?_
    · rintro i H2 hi ⟨s2, eD⟩
      refine ⟨rfl, _, rfl, _, rfl, p, c, i, by rw [Int.zero_add]; rfl, s2 _ _ hp, ok, _, eD, ?_, same_upd2 s2 nD, ?_⟩
      · rw [List.length_map, signs, List.length_map, List.length_range]
        exact small1000 (by omega)
      · rw [upd_same]
        unfold signs
        rw [List.range_succ, List.map_append, List.map_append]
        rfl
    · rintro H2 ⟨s2, eD⟩
      exact q D H2 s2 nD eD
end
end K2

/-! K2Law3 -/
set_option maxRecDepth 100000
set_option maxHeartbeats 4000000
namespace K2
open PySem PySem.Spec PyProof.Rows L2
/-! ### signs as texts -/
theorem endS : ("end" : Str) = S [101, 110, 100] := by decide +kernel
theorem txt_inj {a b : Option Nat} (h : txt a = txt b) : a = b := by
  cases a with
  | none =>
    cases b with
    | none => rfl
    | some y =>
      have e : S [101, 110, 100] = S [y] := endS.symm.trans h
      have := congrArg List.length (S_inj e)
      simp at this
  | some x =>
    cases b with
    | none =>
      have e : S [x] = S [101, 110, 100] := Eq.trans h endS
      have := congrArg List.length (S_inj e)
      simp at this
    | some y =>
      have e : S [x] = S [y] := h
      rw [(List.cons.inj (S_inj e)).1]
theorem signs_iff (c d : Con) : signs c 60 = signs d 60 ↔ T60 c d := by
  constructor
  · intro h n hn
    have e := congrArg (fun l => l[n]?) h
    unfold signs at e
    simp only [List.getElem?_map, List.getElem?_range hn, Option.map_some, Option.some.injEq] at e
    exact txt_inj e
  · intro h
    unfold signs
    refine List.map_congr_left fun n hn => ?_
    rw [h n (List.mem_range.mp hn)]
theorem signs_ok {c : Con} (h1 : Let c.1) (h2 : Let c.2) (n : Nat) : ∀ x ∈ signs c n, PyData.strOk x = true := fun x hx => by
  unfold signs at hx
  obtain ⟨i, _, e⟩ := List.mem_map.mp hx
  rw [← e]
  cases z : sgn c i with
  | none => decide +kernel
  | some y =>
    refine Let.ok (l := [y]) fun b hb => ?_
    have eb : b = y := by simpa using hb
    rw [eb]
    exact (sgn_mem (h := c.1) (r := c.2) z).elim (h1 y) (h2 y)
theorem signs_line {c : Con} (hc : c.2 ≠ []) (n : Nat) : signs c n = ((line (sgn c) n).map fun x => [x]).map S := by
  unfold signs line
  rw [List.map_map, List.map_map]
  refine List.map_congr_left fun i _ => ?_
  obtain ⟨x, e⟩ := sgn_some (h := c.1) hc i
  have e' : sgn c i = some x := e
  show txt (sgn c i) = S [(sgn c i).getD 0]
  rw [e']
  rfl
theorem line_let {c : Con} (h1 : Let c.1) (h2 : Let c.2) (hc : c.2 ≠ []) (n : Nat) : Let (line (sgn c) n) := fun x hx => by
  unfold line at hx
  obtain ⟨i, _, e⟩ := List.mem_map.mp hx
  obtain ⟨y, ey⟩ := sgn_some (h := c.1) hc i
  have ey' : sgn c i = some y := ey
  rw [ey'] at e
  have e2 : y = x := e
  rw [← e2]
  exact (sgn_mem (h := c.1) (r := c.2) ey').elim (h1 y) (h2 y)
theorem cut_okc {c : Con} (h1 : Let c.1) (h2 : Let c.2) (hc : c.2 ≠ []) {l s : Nat} (hl : l ≤ 200) (hs : s ≤ 200) : Okc (cutAt (sgn c) l s) :=
  ⟨(line_let h1 h2 hc (l + s)).sub fun _ m => List.mem_of_mem_take m, (line_let h1 h2 hc (l + s)).sub fun _ m => List.mem_of_mem_drop m, by rw [cut_len1]; exact hl, by rw [cut_len2]; exact hs⟩
/-- == of two lists of texts -/
theorem op_eqS {X : Cx} (hu : X.A.units + 64 < cLine) : OpR X (compareOp .Eq) (fun x y H Q => ∃ (p q : Addr) (xs ys : List Str), x = .ref p ∧ y = .ref q ∧ H p = some (.lst (xs.map V.str)) ∧ H q = some (.lst (ys.map V.str)) ∧ (∀ z ∈ xs, PyData.strOk z = true) ∧ (∀ z ∈ ys, PyData.strOk z = true) ∧ Q (.bl (decide (xs = ys))) H) := by
  intro pins s σ H x y v u Q I rx ry h
  obtain ⟨p, q, xs, ys, rfl, rfl, h1, h2, a, b, k⟩ := h
  refine op_eqD hu pins s σ H _ _ v u Q I rx ry ⟨_, _, .lst (SqL.of h1) (dps xs), .lst (SqL.of h2) (dps ys), shaped_list a, shaped_list b, ?_⟩
  have e : PyData.eqv (.list (xs.map PyData.str)) (.list (ys.map PyData.str)) = decide (xs = ys) := eqv_strs xs ys
  rw [e]
  exact k
section
variable {P : Program} {w : World} {K : PySem.W.Frag} {mg : Str → Option Value} {base : Heap}
/-! ### _law_least -/
abbrev nLLeast : List Str := ["_law_content", "_law_letters", "_law_size", "_law_long", "_law_line", "_law_found"]
def spLLeast : Sp := fun vs H Q _ => ∃ (p : Addr) (c : Con) (m : Int), vs = [.ref p, .int m] ∧ CtAt H p c ∧ Okc c ∧ (c.2 ≠ [] → c.1.length + 3 * c.2.length ≤ 60) ∧
  ∀ q d H', NF c d → Okc d → Same H H' → CtAt H' q d → Q (.ref q) H'
theorem scLLeast : FnScope nLLeast ["_law_content", "_law_letters"] (defScope sLLeast) := ⟨rfl, rfl, rfl, by decide +kernel, rfl, by decide +kernel, by decide +kernel⟩
theorem ok_lleast {f f1 : Addr} {fd fd1 : FuncData} (F : Fun K "_law_least" "_law_least" sLLeast f fd) (T : Txt mg) (G1 : FnOk P w K mg base CX0 2 f1 fd1 ["_law_content", "_law_many"] spFirst) (k1 : PySem.W.keepIn K (.ref f1) = true) (b1 : Binds K fd1 ["_law_content", "_law_many"] []) (g1 : mg "_law_first" = some (.ref f1)) :
    FnOk P w K mg base CX0 3 f fd ["_law_content", "_law_letters"] spLLeast := by
  refine F.ok scLLeast (fun vs H Q E h => ?_) (fun cdv A outer s H vs Q E hr h => ?_)
  · obtain ⟨p, c, m, rfl, _⟩ := h
    rfl
  · obtain ⟨p, c, m, rfl, hp, ok, hb, q⟩ := h
    refine ⟨_, pss_cons (ps_if (pt_cmpR op_eq (pe_ix ix_tup (pv 0) pe_int (fun _ _ => rfl)) (pe_txt (l := []) (by decide +kernel)) (nomark _)) (pss_one (ps_ret (pv 0))) pss_nil)
      (pss_cons (ps_for PassesOwn.never rfl (pi_range2 (by rfl) T.range (pa_cons pe_int (pa_cons (pe_op op_add (pe_callB call_len (by rfl) T.len PySem.boot_len (pa_cons (pe_ix ix_tup (pv 0) pe_int (fun _ _ => rfl)) pa_nil)) pe_int) pa_nil))) (pg_name (i := 2) scLLeast.nd rfl (Or.inl rfl))
        (pss_one (ps_for PassesOwn.never rfl (pi_range1 (by rfl) T.range (pa_cons (pe_op op_add (pe_op op_add (pe_callB call_len (by rfl) T.len PySem.boot_len (pa_cons (pe_ix ix_tup (pv 0) pe_int (fun _ _ => rfl)) pa_nil)) (pe_callB call_len (by rfl) T.len PySem.boot_len (pa_cons (pe_ix ix_tup (pv 0) pe_int (fun _ _ => rfl)) pa_nil))) pe_int) pa_nil)) (pg_name (i := 3) scLLeast.nd rfl (Or.inl rfl))
          (pss_cons (ps_set (i := 4) scLLeast.nd rfl (Or.inl rfl) (pe_join (pe_txt (l := []) (by decide +kernel)) (pe_call G1 hr rfl g1 k1 b1 .nil pass0 (pa_cons (pv 0) (pa_cons (pe_op op_add (pv 3) (pv 2)) pa_nil)))))
          (pss_cons (ps_set (i := 5) scLLeast.nd rfl (Or.inl rfl) (pe_tup (pa_cons (pe_slice sl_S (pv 4) po_none (po_some (pv 3))) (pa_cons (pe_slice sl_S (pv 4) (po_some (pv 3)) po_none) pa_nil))))
          (pss_one (ps_if (pt_cmpR (op_eqS hr.units) (pe_call G1 hr rfl g1 k1 b1 .nil pass0 (pa_cons (pv 5) (pa_cons pe_int pa_nil))) (pe_call G1 hr rfl g1 k1 b1 .nil pass0 (pa_cons (pv 0) (pa_cons pe_int pa_nil))) (nomark _)) (pss_one (ps_ret (pv 5))) pss_nil)))))))
      (pss_one (ps_ret (pv 0)))), ?_⟩
    by_cases hc : c.2 = []
    · refine ⟨_, rfl, p, _, 1, _, rfl, rfl, SqT.of hp, atI_nat (j := 1) rfl, rfl, true, blT (by rw [hc]), iteT ?_⟩
      exact ⟨_, rfl, q p c H ⟨.refl c, .inl ⟨hc, rfl⟩⟩ ok (Same.refl H) hp⟩
    · have bd := hb hc
      have n1 : c.1.length ≤ 1000 := Nat.le_trans ok.n1 (by decide)
      have n2 : c.2.length ≤ 1000 := Nat.le_trans ok.n2 (by decide)
      have len1 : ∀ H2, LenV K (.str (S c.1)) H2 c.1.length := fun _ => ⟨S_small n1, (S_len c.1).symm⟩
      have len2 : ∀ H2, LenV K (.str (S c.2)) H2 c.2.length := fun _ => ⟨S_small n2, (S_len c.2).symm⟩
      refine ⟨_, rfl, p, _, 1, _, rfl, rfl, SqT.of hp, atI_nat (j := 1) rfl, rfl, false, blF (S_ne hc), iteF ?_⟩
      refine ⟨_, rfl, p, _, 1, _, rfl, rfl, SqT.of hp, atI_nat (j := 1) rfl, _, c.2.length, rfl, len2 _, _, _, rfl, rfl, _, _, rfl, by omega, for_range (lo := 1) (n := (((c.2.length : Nat) : Int) + 1 - 1).toNat)
        (fun i σ H2 => ∃ v2 v3 v4 v5, σ = [some (.ref p), some (.int m), v2, v3, v4, v5] ∧ Same H H2 ∧ ∀ s' l', 0 < s' → s' < i + 1 → l' ≤ c.1.length + c.2.length → ¬ T60 (cutAt (sgn c) l' s') c)
        ⟨none, none, none, none, rfl, Same.refl H, fun s' l' h0 h1 => by omega⟩ ?_ ?_⟩
      · rintro i σ H2 hi ⟨v2, v3, v4, v5, rfl, s2, no⟩
        have e1 : (1 : Int) + (i : Nat) = ((i + 1 : Nat) : Int) := by omega
        rw [e1]
        have hp2 := s2 _ _ hp
        refine ⟨_, rfl, p, _, 0, _, rfl, rfl, SqT.of hp2, atI_nat (j := 0) rfl, _, c.1.length, rfl, len1 _, _, rfl, p, _, 1, _, rfl, rfl, SqT.of hp2, atI_nat (j := 1) rfl, _, c.2.length, rfl, len2 _, _, _, rfl, rfl, _, _, rfl, rfl, _, rfl, by omega, by omega,
          for_range (lo := 0) (n := (((c.1.length : Nat) : Int) + ((c.2.length : Nat) : Int) + 1).toNat)
          (fun j σ H3 => ∃ v3 v4 v5, σ = [some (.ref p), some (.int m), some (.int ((i + 1 : Nat) : Int)), v3, v4, v5] ∧ Same H H3 ∧ ∀ l', l' < j → ¬ T60 (cutAt (sgn c) l' (i + 1)) c)
          ⟨v3, v4, v5, rfl, s2, fun l' h0 => by omega⟩ ?_ ?_⟩
        · rintro j σ H3 hj ⟨v3, v4, v5, rfl, s3, no2⟩
          rw [Int.zero_add]
          have hp3 := s3 _ _ hp
          have hl : j ≤ c.1.length + c.2.length := by omega
          have hs : i + 1 ≤ c.2.length := by omega
          -- the line
          refine ⟨⟨_, rfl⟩, _, rfl, _, rfl, _, rfl, _, _, rfl, rfl, p, c, j + (i + 1), rfl, hp3, ok, by omega, fun D H4 s4 nD eD => ?_⟩
          rw [signs_line hc] at eD
          refine ⟨S [], D, _, rfl, rfl, .inl (SqL.of eD), join1_sz (by rw [line_len]; omega), ?_⟩
          rw [join1]
          -- found
          have ll : (line (sgn c) (j + (i + 1))).length ≤ 1000 := by rw [line_len]; omega
          refine ⟨_, rfl, _, rfl, _, rfl, _, _, rfl, ll, cut_to, _, rfl, _, rfl, _, rfl, _, _, rfl, ll, cut_from, (by show 2 ≤ sizeLine; decide), fun Fo nF => ?_⟩
          have okF : Okc (cutAt (sgn c) j (i + 1)) := cut_okc ok.l1 ok.l2 hc (by omega) (by omega)
          have s5 : Same H4 (upd H4 Fo (.tup [.str (S (cutAt (sgn c) j (i + 1)).1), .str (S (cutAt (sgn c) j (i + 1)).2)])) := same_upd nF
          have cF : CtAt (upd H4 Fo (.tup [.str (S (cutAt (sgn c) j (i + 1)).1), .str (S (cutAt (sgn c) j (i + 1)).2)])) Fo (cutAt (sgn c) j (i + 1)) := upd_same
          have sA := s3.trans (s4.trans s5)
          -- the test
          refine ⟨_, rfl, Fo, cutAt (sgn c) j (i + 1), 60, rfl, cF, okF, by decide, fun D1 H6 s6 nD1 eD1 => ?_⟩
          refine ⟨_, rfl, p, c, 60, rfl, s6 _ _ (sA _ _ hp), ok, by decide, fun D2 H7 s7 nD2 eD2 => ?_⟩
          by_cases t : T60 (cutAt (sgn c) j (i + 1)) c
          · refine ⟨D1, D2, _, _, rfl, rfl, s7 _ _ eD1, eD2, signs_ok okF.l1 okF.l2 60, signs_ok ok.l1 ok.l2 60, true, blT ((signs_iff _ _).mpr t), iteT ?_⟩
            refine ⟨_, rfl, q Fo _ H7 (law_NF hc bd (Nat.succ_pos i) hs hl t (fun s' l' h0 h1 h2 => no s' l' h0 h1 h2) fun l' h0 => no2 l' h0) okF (sA.trans (s6.trans s7)) (s7 _ _ (s6 _ _ cF))⟩
          · refine ⟨D1, D2, _, _, rfl, rfl, s7 _ _ eD1, eD2, signs_ok okF.l1 okF.l2 60, signs_ok ok.l1 ok.l2 60, false, blF (fun z => t ((signs_iff _ _).mp z)), iteF ?_⟩
            refine ⟨_, _, _, rfl, sA.trans (s6.trans s7), fun l' h0 t' => ?_⟩
            by_cases e : l' = j
            · rw [e] at t'; exact t t'
            · exact no2 l' (by omega) t'
        · rintro σ H3 ⟨v3, v4, v5, rfl, s3, no2⟩
          refine ⟨_, _, _, _, rfl, s3, fun s' l' h0 h1 h2 t' => ?_⟩
          by_cases e : s' = i + 1
          · rw [e] at t'
            exact no2 l' (by omega) t'
          · exact no s' l' h0 (by omega) h2 t'
      · rintro σ H2 ⟨v2, v3, v4, v5, rfl, s2, no⟩
        exact absurd (law_there hc) (no c.2.length c.1.length (List.length_pos_iff.mpr hc) (by omega) (by omega))
end
end K2

/-! K2Law4 -/
set_option maxRecDepth 100000
set_option maxHeartbeats 4000000
namespace K2
open PySem PySem.Spec PyProof.Rows L2
theorem kp_new {p g : Addr} {H H2 : Hp} {D : Addr} {o : HO} (k : Kp p g H H2) (n : H2 D = none) : Kp p g H (upd H2 D o) := k.trans (Kp.of (same_upd n))
theorem len_add (a b : List Nat) (ha : a.length ≤ 400) (hb : b.length ≤ 400) : (S a).length + (S b).length ≤ sizeLine := by
  rw [S_len, S_len]
  exact Nat.le_of_lt (small1000 (by omega))
section
variable {P : Program} {w : World} {K : PySem.W.Frag} {mg : Str → Option Value} {base : Heap}
/-! ### _law_written -/
abbrev nWritten : List Str := ["_law_pot_here", "_law_content", "_law_head", "_law_again", "_law_turn"]
def spWritten : Sp := fun vs H Q _ => ∃ (p g s q : Addr) (c : Con), vs = [.ref p, .ref q] ∧ PotAt p g s H ∧ CtAt H q c ∧ Okc c ∧ c.1.length ≤ 50 ∧ c.2.length ≤ 50 ∧
  ∀ q' d H', SameS d c → Okc d → PotAt p g s H' → Kp p g H H' → CtAt H' q' d → Q (.ref q') H'
theorem scWritten : FnScope nWritten ["_law_pot_here", "_law_content"] (defScope sWritten) := ⟨rfl, rfl, rfl, by decide +kernel, rfl, by decide +kernel, by decide +kernel⟩
theorem ok_written {f f1 : Addr} {fd fd1 : FuncData} (F : Fun K "_law_written" "_law_written" sWritten f fd) (T : Txt mg) (G1 : FnOk P w K mg base CX0 1 f1 fd1 ["_law_pot_here", "_law_many"] spDraw) (k1 : PySem.W.keepIn K (.ref f1) = true) (b1 : Binds K fd1 ["_law_pot_here", "_law_many"] []) (g1 : mg "_law_draw" = some (.ref f1)) :
    FnOk P w K mg base CX0 2 f fd ["_law_pot_here", "_law_content"] spWritten := by
  refine F.ok scWritten (fun vs H Q E h => ?_) (fun cdv A outer s H vs Q E hr h => ?_)
  · obtain ⟨p, g, s, q, c, rfl, _⟩ := h
    rfl
  · obtain ⟨p, g, s', q0, c, rfl, pot, hq, ok, l1, l2, q⟩ := h
    refine ⟨_, pss_cons (ps_asg (pv 1) (pg_tup (by rfl) (pgs_cons (pg_name (i := 2) scWritten.nd rfl (Or.inl rfl)) (pgs_cons (pg_name (i := 3) scWritten.nd rfl (Or.inl rfl)) pgs_nil))))
      (pss_cons (ps_if (pt_cmpR op_eq (pv 3) (pe_txt (l := []) (by decide +kernel)) (nomark _)) (pss_one (ps_ret (pv 1))) pss_nil)
      (pss_cons (ps_set (i := 3) scWritten.nd rfl (Or.inl rfl) (pe_op op_mulS (pv 3) (pe_op op_add pe_int (pe_call G1 hr rfl g1 k1 b1 .nil pass0 (pa_cons (pv 0) (pa_cons pe_int pa_nil))))))
      (pss_cons (ps_for PassesOwn.never rfl (pi_range1 (by rfl) T.range (pa_cons (pe_call G1 hr rfl g1 k1 b1 .nil pass0 (pa_cons (pv 0) (pa_cons pe_int pa_nil))) pa_nil)) (pg_name (i := 4) scWritten.nd rfl (Or.inl rfl))
        (pss_one (ps_par (i := 2) (j := 3) (by rfl) scWritten.nd rfl rfl (by decide) rfl rfl (pa_cons (pe_op op_add_str (pv 2) (pe_ix ix_S (pv 3) pe_int (fun _ _ => rfl)))
          (pa_cons (pe_op op_add_str (pe_slice sl_S (pv 3) (po_some pe_int) po_none) (pe_ix ix_S (pv 3) pe_int (fun _ _ => rfl))) pa_nil)) (by rfl))))
      (pss_one (ps_ret (pe_tup (pa_cons (pv 2) (pa_cons (pv 3) pa_nil)))))))), ?_⟩
    refine ⟨_, rfl, q0, _, rfl, SqT.of hq, rfl, _, _, rfl, _, _, rfl, rfl, ?_⟩
    by_cases hc : c.2 = []
    · refine ⟨_, rfl, rfl, true, blT (by rw [hc]), iteT ?_⟩
      exact ⟨_, rfl, q q0 c H (.refl c) ok pot Kp.refl hq⟩
    · refine ⟨_, rfl, rfl, false, blF (S_ne hc), iteF ?_⟩
      refine ⟨_, rfl, _, rfl, p, g, s', 3, rfl, pot, ⟨by decide, by decide⟩, fun r H1 r0 r1 pot1 kp1 => ?_⟩
      refine ⟨_, _, rfl, rfl, c.2, _, rfl, rfl, by omega, ⟨by omega, by omega⟩, ?_⟩
      have em : (1 + r).toNat ≤ 3 := by omega
      have em0 : 0 < (1 + r).toNat := by omega
      generalize (1 + r).toNat = m at em em0
      refine ⟨_, rfl, p, g, s', 5, rfl, pot1, ⟨by decide, by decide⟩, fun t H2 t0 t1 pot2 kp2 => ?_⟩
      have fl : (List.replicate m c.2).flatten.length ≤ 150 := by
        rw [flat_len]
        exact Nat.le_trans (Nat.mul_le_mul em l2) (by decide)
      refine ⟨t, rfl, by omega, by omega, for_range (lo := 0) (n := t.toNat)
        (fun i σ H3 => ∃ h a v, σ = [some (.ref p), some (.ref q0), some (.str (S h)), some (.str (S a)), v] ∧ PotAt p g s' H3 ∧ Kp p g H H3 ∧ SameS (h, a) c ∧ h.length ≤ 50 + i ∧ a.length ≤ 150)
        ⟨c.1, _, none, rfl, pot2, kp1.trans kp2, same_rep c.1 c.2 em0, by omega, fl⟩ ?_ ?_⟩
      · rintro i σ H3 hi ⟨h, a, v, rfl, pot3, kp3, sm, lh, la⟩
        have hn : a ≠ [] := fun e => hc (same_nil sm (by rw [e]))
        obtain ⟨x, b, e⟩ : ∃ x b, a = x :: b := by
          cases a with
          | nil => exact absurd rfl hn
          | cons x b => exact ⟨x, b, rfl⟩
        subst e
        have lb : b.length + 1 ≤ 150 := la
        refine ⟨_, rfl, _, rfl, x :: b, 0, x, rfl, rfl, Nat.le_trans la (by decide), at_nat (n := 0) rfl rfl, _, _, rfl, rfl, len_add _ _ (by omega) (by simp), ?_⟩
        refine ⟨_, rfl, 1, rfl, x :: b, b, rfl, Nat.le_trans la (by decide), cut_from (n := 1), _, rfl, x :: b, 0, x, rfl, rfl, Nat.le_trans la (by decide), at_nat (n := 0) rfl rfl, _, _, rfl, rfl, len_add _ _ (by omega) (by simp), _, _, rfl, ?_⟩
        refine ⟨h ++ [x], b ++ [x], some (.int (0 + (i : Nat))), ?_, pot3, kp3, (back_same h b x).trans sm, ?_, ?_⟩
        · rw [S_cat, S_cat]
          rfl
        · rw [List.length_append]; simp; omega
        · rw [List.length_append]; simp; omega
      · rintro σ H3 ⟨h, a, v, rfl, pot3, kp3, sm, lh, la⟩
        refine ⟨_, rfl, _, rfl, (by show 2 ≤ sizeLine; decide), fun D nD => ?_⟩
        refine q D (h, a) _ sm ⟨fun x hx => ?_, fun x hx => ?_, by show h.length ≤ 200; omega, by show a.length ≤ 200; omega⟩ (pot3.same (same_upd nD)) (kp_new kp3 nD) upd_same
        · exact (sm.symm.mem (.inl hx)).elim (ok.l1 x) (ok.l2 x)
        · exact (sm.symm.mem (.inr hx)).elim (ok.l1 x) (ok.l2 x)
end
end K2

/-! K2Law5 -/
set_option maxRecDepth 100000
set_option maxHeartbeats 4000000
namespace K2
open PySem PySem.Spec PyProof.Rows L2
/-! ### the mathematics of the long contents -/
theorem least_good (r : List Nat) : ∀ n : Nat, (∀ e, 0 < e → e < n → ¬ Good r e) ∨ ∃ d, 0 < d ∧ d < n ∧ Good r d ∧ ∀ e, 0 < e → e < d → ¬ Good r e
  | 0 => .inl fun _ _ h => absurd h (Nat.not_lt_zero _)
  | n + 1 => by
    rcases least_good r n with h | ⟨d, h0, h1, g, less⟩
    · by_cases z : 0 < n ∧ Good r n
      · exact .inr ⟨n, z.1, Nat.lt_succ_self n, z.2, h⟩
      · refine .inl fun e h0 h1 g => ?_
        by_cases en : e = n
        · rw [en] at h0 g; exact z ⟨h0, g⟩
        · exact h e h0 (by omega) g
    · exact .inr ⟨d, h0, Nat.lt_succ_of_lt h1, g, less⟩
theorem root_ex (r : List Nat) : ∃ u, IsRoot r u := by
  rcases least_good r r.length with h | ⟨d, h0, h1, g, less⟩
  · exact ⟨r, root_none h⟩
  · exact ⟨_, root_found h0 h1 g less⟩
theorem root_mem {r u : List Nat} (h : IsRoot r u) {x : Nat} (hx : x ∈ u) : x ∈ r := by
  rcases h with ⟨e1, e2⟩ | ⟨_, _, _, m, hm, e⟩
  · rw [e2] at hx; cases hx
  · rw [e]
    exact List.mem_flatten.mpr ⟨u, List.mem_replicate.mpr ⟨by omega, rfl⟩, hx⟩
theorem nf_root {r u : List Nat} (hr : r ≠ []) (h : IsRoot r u) {a : List Nat} (last : a = [] ∨ a.getLast? ≠ u.getLast?) : NF (a, r) (a, u) := by
  refine ⟨root_same h, .inr ⟨hr, ?_⟩⟩
  rcases h with ⟨e1, _⟩ | ⟨_, h1, h2, _⟩
  · exact absurd e1 hr
  · exact ⟨h1, h2, last⟩
/-- a head that ends in a letter that is not in the round -/
theorem nf_due {a r : List Nat} {x : Nat} (hr : r ≠ []) (hx : x ∉ r) {d : Con} (n : NF ([], r) d) : NF (a ++ [x], r) (a ++ [x], d.2) := by
  obtain ⟨u, hu⟩ := root_ex r
  have e : d = ([], u) := n.uniq (nf_root hr hu (.inl rfl)) (.refl _)
  rw [e]
  refine nf_root hr hu (.inr fun z => hx ?_)
  rw [getLast_snoc] at z
  exact root_mem hu (List.mem_of_getLast? z.symm)
theorem op_subZ {X : Cx} : OpR X (binaryOp .Sub) (fun x y H Q => ∃ i j z : Int, x = .int i ∧ y = .int j ∧ i - j = z ∧ Q (.int z) H) := by
  intro pins s σ H x y v u Q I rx ry h
  obtain ⟨i, j, z, rfl, rfl, rfl, q⟩ := h
  exact op_sub pins s σ H _ _ v u Q I rx ry ⟨i, j, rfl, rfl, q⟩
section
variable {P : Program} {w : World} {K : PySem.W.Frag} {mg : Str → Option Value} {base : Heap}
/-! ### _law_long_right -/
abbrev nLong : List Str := ["_law_pot_here", "_law_inner", "_law_again", "_law_due", "_law_other", "_law_at", "_law_least_here"]
def spLong : Sp := fun vs H Q _ => ∃ (p g s : Addr), vs = [.ref p] ∧ PotAt p g s H ∧ ∀ H', PotAt p g s H' → Q (.bl true) H'
theorem scLong : FnScope nLong ["_law_pot_here"] (defScope sLong) := ⟨rfl, rfl, rfl, by decide +kernel, rfl, by decide +kernel, by decide +kernel⟩
theorem ok_long {f fD fS fL fC fE : Addr} {fd dD dS dL dC dE : FuncData} (F : Fun K "_law_long_right" "_law_long_right" sLong f fd) (T : Txt mg)
    (GD : FnOk P w K mg base CX0 1 fD dD ["_law_pot_here", "_law_many"] spDraw) (kD : PySem.W.keepIn K (.ref fD) = true) (bD : Binds K dD ["_law_pot_here", "_law_many"] []) (gD : mg "_law_draw" = some (.ref fD))
    (GS : FnOk P w K mg base CX0 2 fS dS ["_law_pot_here", "_law_letters", "_law_most"] spString) (kS : PySem.W.keepIn K (.ref fS) = true) (bS : Binds K dS ["_law_pot_here", "_law_letters", "_law_most"] []) (gS : mg "_law_string" = some (.ref fS))
    (GL : FnOk P w K mg base CX0 3 fL dL ["_law_content", "_law_letters"] spLLeast) (kL : PySem.W.keepIn K (.ref fL) = true) (bL : Binds K dL ["_law_content", "_law_letters"] []) (gL : mg "_law_least" = some (.ref fL))
    (GC : FnOk P w K mg base CX0 6 fC dC ["content"] spLeast) (kC : PySem.W.keepIn K (.ref fC) = true) (bC : Binds K dC ["content"] []) (gC : mg "least_content" = some (.ref fC))
    (GE : FnOk P w K mg base CX0 6 fE dE ["content", "second"] spSame) (kE : PySem.W.keepIn K (.ref fE) = true) (bE : Binds K dE ["content", "second"] []) (gE : mg "same_signs" = some (.ref fE)) :
    FnOk P w K mg base CX0 7 f fd ["_law_pot_here"] spLong := by
  refine F.ok scLong (fun vs H Q E h => ?_) (fun cdv A outer s H vs Q E hr h => ?_)
  · obtain ⟨p, g, s, rfl, _⟩ := h
    rfl
  · obtain ⟨p, g, s', rfl, pot, q⟩ := h
    have hr1 : Room 1 _ := hr.mono (by decide)
    have hr2 : Room 2 _ := hr.mono (by decide)
    have hr3 : Room 3 _ := hr.mono (by decide)
    refine ⟨_, pss_cons (ps_par (i := 1) (j := 2) (by rfl) scLong.nd rfl rfl (by decide) rfl rfl
          (pa_cons (pe_op op_add_str (pe_call GS hr2 rfl gS kS bS .nil pass0 (pa_cons (pv 0) (pa_cons pe_int (pa_cons pe_int pa_nil)))) (pe_txt (l := [98]) (by decide +kernel)))
          (pa_cons (pe_op op_add pe_int (pe_call GD hr1 rfl gD kD bD .nil pass0 (pa_cons (pv 0) (pa_cons pe_int pa_nil)))) pa_nil)) (by rfl))
      (pss_cons (ps_set (i := 3) scLong.nd rfl (Or.inl rfl) (pe_tup (pa_cons (pe_op op_add_str (pe_op op_mulS (pe_txt (l := [97]) (by decide +kernel)) (pe_call GD hr1 rfl gD kD bD .nil pass0 (pa_cons (pv 0) (pa_cons pe_int pa_nil)))) (pe_txt (l := [99]) (by decide +kernel))) (pa_cons (pv 1) pa_nil))))
      (pss_cons (ps_set (i := 4) scLong.nd rfl (Or.inl rfl) (pe_tup (pa_cons (pe_op op_add_str (pe_ix ix_tup (pv 3) pe_int (fun _ _ => rfl))
            (pe_slice sl_S (pv 1) po_none (po_some (pe_call GD hr1 rfl gD kD bD .nil pass0 (pa_cons (pv 0) (pa_cons (pe_callB call_len (by rfl) T.len PySem.boot_len (pa_cons (pv 1) pa_nil)) pa_nil))))))
          (pa_cons (pe_txt (l := []) (by decide +kernel)) pa_nil))))
      (pss_cons (ps_set (i := 5) scLong.nd rfl (Or.inl rfl) (pe_op op_subZ (pe_callB call_len (by rfl) T.len PySem.boot_len (pa_cons (pe_ix ix_tup (pv 4) pe_int (fun _ _ => rfl)) pa_nil)) (pe_callB call_len (by rfl) T.len PySem.boot_len (pa_cons (pe_ix ix_tup (pv 3) pe_int (fun _ _ => rfl)) pa_nil))))
      (pss_cons (ps_set (i := 4) scLong.nd rfl (Or.inl rfl) (pe_tup (pa_cons (pe_ix ix_tup (pv 4) pe_int (fun _ _ => rfl))
          (pa_cons (pe_op op_mulS (pe_op op_add_str (pe_slice sl_S (pv 1) (po_some (pv 5)) po_none) (pe_slice sl_S (pv 1) po_none (po_some (pv 5)))) (pv 2)) pa_nil))))
      (C8.pss_cut (ps_set (i := 6) scLong.nd rfl (Or.inl rfl) (pe_ifExp (pt_cmpR op_lt (pe_callB call_len (by rfl) T.len PySem.boot_len (pa_cons (pe_ix ix_tup (pv 3) pe_int (fun _ _ => rfl)) pa_nil)) pe_int (nomark _))
          (pe_call GL hr3 rfl gL kL bL .nil pass0 (pa_cons (pv 3) (pa_cons pe_int pa_nil)))
          (pe_op op_catT (pe_slice sl_tup (pv 3) po_none (po_some pe_int)) (pe_tup (pa_cons (pe_ix ix_tup (pe_call GL hr3 rfl gL kL bL .nil pass0 (pa_cons (pe_tup (pa_cons (pe_txt (l := []) (by decide +kernel)) (pa_cons (pv 1) pa_nil))) (pa_cons pe_int pa_nil))) pe_int (fun _ _ => rfl)) pa_nil)))))
      (pss_cons (ps_if (PW.pt (pw_or (pt_cmpR (op_neC hr.units) (pe_call GC hr rfl gC kC bC .nil pass0 (pa_cons (pv 4) pa_nil)) (pv 6) (nomark _))
          (pw_or1 (pt_cmpR op_notBl (pe_call GE hr rfl gE kE bE .nil pass0 (pa_cons (pv 4) (pa_cons (pv 6) pa_nil))) pe_bl (nomark _))))) (pss_one (ps_ret pe_bl)) pss_nil)
      (pss_one (ps_ret (pe_and (pe_cmpR op_isBl (pe_call GE hr rfl gE kE bE .nil pass0 (pa_cons (pv 4) (pa_cons (pe_tup (pa_cons (pe_op op_add_str (pe_ix ix_tup (pv 4) pe_int (fun _ _ => rfl)) (pe_txt (l := [99]) (by decide +kernel))) (pa_cons (pe_ix ix_tup (pv 4) pe_int (fun _ _ => rfl)) pa_nil))) pa_nil))) pe_bl (nomark _))
        (pe_one (pe_cmpR op_isBl (pe_call GE hr rfl gE kE bE .nil pass0 (pa_cons (pv 4) (pa_cons (pe_tup (pa_cons (pe_ix ix_tup (pv 4) pe_int (fun _ _ => rfl)) (pa_cons (pe_txt (l := []) (by decide +kernel)) pa_nil))) pa_nil))) pe_bl (nomark _)))))))))))), ?_⟩
    -- inner, again
    refine ⟨_, rfl, p, g, s', 2, 9, rfl, pot, ⟨by decide, by decide⟩, ⟨by decide, by decide⟩, fun l H1 hl ln pot1 kp1 => ?_⟩
    refine ⟨_, _, rfl, rfl, len_add _ _ (by omega) (by decide), ?_⟩
    refine ⟨_, rfl, p, g, s', 5, rfl, pot1, ⟨by decide, by decide⟩, fun ag H2 a0 a1 pot2 kp2 => ?_⟩
    refine ⟨_, _, rfl, rfl, _, _, rfl, ?_⟩
    rw [S_cat]
    have inL : ∀ c ∈ l ++ [98], c = 97 ∨ c = 98 := fun c hc => by
      rcases List.mem_append.mp hc with h | h
      · have := hl c h
        omega
      · exact .inr (by simpa using h)
    have inN : (l ++ [98]).length ≤ 10 := by rw [List.length_append]; simp; omega
    have in0 : 0 < (l ++ [98]).length := by rw [List.length_append]; simp
    generalize l ++ [98] = inner at inL inN in0
    have inE : inner ≠ [] := List.length_pos_iff.mp in0
    have inLet : Let inner := fun c hc => (inL c hc).elim .inl fun e => .inr (.inl e)
    have in99 : 99 ∉ inner := fun hc => by have := inL 99 hc; omega
    -- due
    refine ⟨_, rfl, p, g, s', 30, rfl, pot2, ⟨by decide, by decide⟩, fun dn H3 d0 d1 pot3 kp3 => ?_⟩
    have rl : (List.replicate dn.toNat [97]).flatten.length ≤ 29 := by
      rw [flat_len]; simp; omega
    have rLet : Let (List.replicate dn.toNat [97]).flatten := Let.flat (a := [97]) (fun c hc => .inl (by simpa using hc)) _
    refine ⟨[97], dn, rfl, rfl, by decide, ⟨by omega, by omega⟩, _, _, rfl, rfl, len_add _ _ (by omega) (by decide), _, rfl, (by show 2 ≤ sizeLine; decide), fun pd npd => ?_⟩
    rw [S_cat]
    generalize (List.replicate dn.toNat [97]).flatten = hd at rl rLet
    have dueL : (hd ++ [99]).length ≤ 30 := by rw [List.length_append]; simp; omega
    have due0 : 0 < (hd ++ [99]).length := by rw [List.length_append]; simp
    have dueLet : Let (hd ++ [99]) := rLet.app fun c hc => .inr (.inr (by simpa using hc))
    have pot4 := pot3.same (same_upd (o := .tup [.str (S (hd ++ [99])), .str (S inner)]) npd)
    have cd4 : CtAt (upd H3 pd (.tup [.str (S (hd ++ [99])), .str (S inner)])) pd (hd ++ [99], inner) := upd_same
    generalize upd H3 pd (.tup [.str (S (hd ++ [99])), .str (S inner)]) = H4 at pot4 cd4
    have dueOk : Okc (hd ++ [99], inner) := ⟨dueLet, inLet, by show (hd ++ [99]).length ≤ 200; omega, by show inner.length ≤ 200; omega⟩
    -- other's head
    refine ⟨_, rfl, pd, _, 0, _, rfl, rfl, SqT.of cd4, atI_nat (j := 0) rfl, _, rfl, _, rfl, _, rfl, _, inner.length, rfl, ⟨S_small (by omega), (S_len inner).symm⟩, p, g, s', _, rfl, pot4, ⟨by omega, by omega⟩, fun kk H5 k0 k1 pot5 kp5 => ?_⟩
    obtain ⟨k, ek⟩ : ∃ k : Nat, kk = k := ⟨kk.toNat, by omega⟩
    subst ek
    have cd5 : CtAt H5 pd (hd ++ [99], inner) := kp5.ct pot4 cd4
    have tk : (inner.take k).length = k := by rw [List.length_take]; omega
    refine ⟨k, rfl, _, _, rfl, by omega, cut_to, _, _, rfl, rfl, len_add _ _ (by show (hd ++ [99]).length ≤ 400; omega) (by omega), (by show 2 ≤ sizeLine; decide), fun po npo => ?_⟩
    rw [S_cat]
    have ol : (hd ++ [99] ++ inner.take k).length = (hd ++ [99]).length + k := by rw [List.length_append, tk]
    have s6 := same_upd (o := .tup [.str (S (hd ++ [99] ++ inner.take k)), .str (S [])]) npo
    have pot6 := pot5.same s6
    have cd6 := s6 _ _ cd5
    have co6 : (upd H5 po (.tup [.str (S (hd ++ [99] ++ inner.take k)), .str (S [])])) po = some (.tup [.str (S (hd ++ [99] ++ inner.take k)), .str (S [])]) := upd_same
    generalize upd H5 po (.tup [.str (S (hd ++ [99] ++ inner.take k)), .str (S [])]) = H6 at pot6 cd6 co6
    -- at
    have n1 : (hd ++ [99] ++ inner.take k).length ≤ 1000 := by omega
    have n2 : (hd ++ [99]).length ≤ 1000 := by omega
    have eat : (((hd ++ [99] ++ inner.take k).length : Nat) : Int) - (((hd ++ [99]).length : Nat) : Int) = (k : Nat) := by omega
    refine ⟨_, rfl, po, _, 0, _, rfl, rfl, SqT.of co6, atI_nat (j := 0) rfl, _, _, rfl, ⟨S_small n1, (S_len _).symm⟩, _, rfl, pd, _, 0, _, rfl, rfl, SqT.of cd6, atI_nat (j := 0) rfl, _, _, rfl, ⟨S_small n2, (S_len _).symm⟩, _, _, _, rfl, rfl, eat, ?_⟩
    -- other
    have dk : (inner.drop k).length ≤ 10 := by rw [List.length_drop]; omega
    refine ⟨_, rfl, po, _, 0, _, rfl, rfl, SqT.of co6, atI_nat (j := 0) rfl, _, rfl, _, rfl, k, rfl, _, _, rfl, by omega, cut_from, _, rfl, _, rfl, k, rfl, _, _, rfl, by omega, cut_to, _, _, rfl, rfl, len_add _ _ (by omega) (by omega), _, rfl, inner.drop k ++ inner.take k, 1 + ag, ?_, rfl, ?_, ⟨by omega, by omega⟩, (by show 2 ≤ sizeLine; decide), fun pq npq => ?_⟩
    · exact congrArg V.str (S_cat _ _)
    · rw [List.length_append]; omega
    have ag0 : 0 < (1 + ag).toNat := by omega
    have ag1 : (1 + ag).toNat ≤ 5 := by omega
    generalize (1 + ag).toNat = m at ag0 ag1
    have rotL : (inner.drop k ++ inner.take k).length = inner.length := by rw [List.length_append, List.length_drop, tk]; omega
    have rotLet : Let (inner.drop k ++ inner.take k) := (inLet.sub fun _ h => List.mem_of_mem_drop h).app (inLet.sub fun _ h => List.mem_of_mem_take h)
    have oth : SameS (hd ++ [99] ++ inner.take k, (List.replicate m (inner.drop k ++ inner.take k)).flatten) (hd ++ [99], inner) :=
      (same_rep _ _ ag0).trans (same_rot (hd ++ [99]) inner (by omega))
    have ofl : (List.replicate m (inner.drop k ++ inner.take k)).flatten.length ≤ 50 := by
      rw [flat_len, rotL]
      exact Nat.le_trans (Nat.mul_le_mul ag1 inN) (by decide)
    have ofLet : Let (List.replicate m (inner.drop k ++ inner.take k)).flatten := rotLet.flat m
    have of0 : (List.replicate m (inner.drop k ++ inner.take k)).flatten ≠ [] := fun z => inE (same_nil oth z)
    have of99 : 99 ∉ (List.replicate m (inner.drop k ++ inner.take k)).flatten := fun h => by
      obtain ⟨y, hy, hm⟩ := List.mem_flatten.mp h
      rw [List.eq_of_mem_replicate hy] at hm
      rcases List.mem_append.mp hm with z | z
      · exact in99 (List.mem_of_mem_drop z)
      · exact in99 (List.mem_of_mem_take z)
    have ohLet : Let (hd ++ [99] ++ inner.take k) := dueLet.app (inLet.sub fun _ h => List.mem_of_mem_take h)
    have s7 := same_upd (o := .tup [.str (S (hd ++ [99] ++ inner.take k)), .str (S (List.replicate m (inner.drop k ++ inner.take k)).flatten)]) npq
    have co7 : CtAt (upd H6 pq (.tup [.str (S (hd ++ [99] ++ inner.take k)), .str (S (List.replicate m (inner.drop k ++ inner.take k)).flatten)])) pq (hd ++ [99] ++ inner.take k, (List.replicate m (inner.drop k ++ inner.take k)).flatten) := upd_same
    have pot7 := pot6.same s7
    have cd7 := s7 _ _ cd6
    generalize upd H6 pq (.tup [.str (S (hd ++ [99] ++ inner.take k)), .str (S (List.replicate m (inner.drop k ++ inner.take k)).flatten)]) = H7 at co7 pot7 cd7
    generalize (List.replicate m (inner.drop k ++ inner.take k)).flatten = ro at oth ofl ofLet of0 of99 co7
    generalize hd ++ [99] ++ inner.take k = ho at oth ol ohLet co7
    have othOk : Okc (ho, ro) := ⟨ohLet, ofLet, by show ho.length ≤ 200; omega, by show ro.length ≤ 200; omega⟩
    -- least_here
    refine ⟨fun σ' H' => ∃ (v1 v2 v5 : V) (ph : Addr) (d : Con), σ' = [some (.ref p), some v1, some v2, some (.ref pd), some (.ref pq), some v5, some (.ref ph)] ∧ PotAt p g s' H' ∧ CtAt H' pq (ho, ro) ∧ CtAt H' ph d ∧ NF (hd ++ [99], inner) d ∧ Okc d, ?_, ?_⟩
    · by_cases h12 : (hd ++ [99]).length < 12
      · refine ⟨_, rfl, pd, _, 0, _, rfl, rfl, SqT.of cd7, atI_nat (j := 0) rfl, _, (hd ++ [99]).length, rfl, ⟨S_small n2, (S_len _).symm⟩, _, _, rfl, rfl, true, blT (by omega), iteT ?_⟩
        refine ⟨_, rfl, pd, (hd ++ [99], inner), 3, rfl, cd7, dueOk, fun _ => (by show (hd ++ [99]).length + 3 * inner.length ≤ 60; omega), fun ph d H8 nf okd s8 cd => ?_⟩
        exact ⟨_, _, _, ph, d, rfl, pot7.same s8, s8 _ _ co7, cd, nf, okd⟩
      · refine ⟨_, rfl, pd, _, 0, _, rfl, rfl, SqT.of cd7, atI_nat (j := 0) rfl, _, (hd ++ [99]).length, rfl, ⟨S_small n2, (S_len _).symm⟩, _, _, rfl, rfl, false, blF (by omega), iteF ?_⟩
        refine ⟨_, rfl, 1, rfl, pd, _, rfl, SqT.of cd7, (by show ¬ (HT.sIx 2 0 none = 0 ∧ HT.sIx 2 2 (some 1) = 2); decide), fun a1 na1 => ?_⟩
        have t1 := same_upd (o := .tup (cutV [V.str (S (hd ++ [99])), V.str (S inner)] none (some 1))) na1
        refine ⟨_, rfl, (by show 2 ≤ sizeLine; decide), fun a2 na2 => ?_⟩
        have t2 := same_upd (o := .tup [V.str (S []), V.str (S inner)]) na2
        have okI : Okc ([], inner) := ⟨Let.nil, inLet, Nat.zero_le _, by show inner.length ≤ 200; omega⟩
        refine ⟨a2, ([], inner), 3, rfl, upd_same, okI, fun _ => (by show 0 + 3 * inner.length ≤ 60; omega), fun a3 d H8 nf okd s8 cd => ?_⟩
        refine ⟨a3, _, 1, _, rfl, rfl, SqT.of cd, atI_nat (j := 1) rfl, (by show 1 ≤ sizeLine; decide), fun a4 na4 => ?_⟩
        have t4 := same_upd (o := .tup [V.str (S d.2)]) na4
        refine ⟨a1, a4, [V.str (S (hd ++ [99]))], [V.str (S d.2)], rfl, rfl, SqT.of (t4 _ _ (s8 _ _ (t2 _ _ (upd_same.trans rfl)))), SqT.of upd_same, by simp, (by show 2 ≤ sizeLine; decide), fun z => by simp at z, fun _ ph nph => ?_⟩
        have t5 := same_upd (o := .tup ([V.str (S (hd ++ [99]))] ++ [V.str (S d.2)])) nph
        have tt := t1.trans (t2.trans (s8.trans (t4.trans t5)))
        exact ⟨_, _, _, ph, (hd ++ [99], d.2), rfl, pot7.same tt, tt _ _ co7, upd_same, nf_due inE in99 nf, ⟨dueLet, okd.l2, dueOk.n1, okd.n2⟩⟩
    · rintro σ' H8 ⟨v1, v2, v5, ph, d, rfl, pot8, co8, ch8, nf, okd⟩
      -- the first test
      refine ⟨_, rfl, pq, (ho, ro), rfl, co8, othOk, fun e pe nfe oke npe => ?_⟩
      have s9 := same_upd (o := .tup [V.str (S e.1), V.str (S e.2)]) npe
      have ed : e = d := nfe.uniq nf oth
      refine ⟨_, rfl, pe, ph, e, d, rfl, rfl, upd_same, s9 _ _ ch8, ⟨oke.l1, oke.l2⟩, ⟨okd.l1, okd.l2⟩, false, nbF ed, iteF ?_⟩
      refine ⟨_, rfl, _, rfl, pq, ph, (ho, ro), d, rfl, s9 _ _ co8, s9 _ _ ch8, othOk, okd, fun b H9 hb s10 => ?_⟩
      have bt : b = true := hb.mpr (oth.trans nf.1)
      refine ⟨b, true, rfl, rfl, false, nbF bt, iteF ?_⟩
      have co9 := s10 _ _ (s9 _ _ co8)
      have pot9 := (pot8.same s9).same s10
      -- the second
      refine ⟨_, rfl, _, rfl, pq, _, 0, _, rfl, rfl, SqT.of co9, atI_nat (j := 0) rfl, _, _, rfl, rfl, len_add _ _ (by show ho.length ≤ 400; omega) (by decide), _, rfl, pq, _, 1, _, rfl, rfl, SqT.of co9, atI_nat (j := 1) rfl, (by show 2 ≤ sizeLine; decide), fun a6 na6 => ?_⟩
      have t6 := same_upd (o := .tup [V.str (S ho ++ S [99]), V.str (S ro)]) na6
      have c6 : CtAt (upd H9 a6 (.tup [V.str (S ho ++ S [99]), V.str (S ro)])) a6 (ho ++ [99], ro) := by
        show (upd H9 a6 (.tup [V.str (S ho ++ S [99]), V.str (S ro)])) a6 = _
        rw [upd_same, S_cat]
      have ok6 : Okc (ho ++ [99], ro) := ⟨ohLet.app fun c hc => .inr (.inr (by simpa using hc)), ofLet, by show (ho ++ [99]).length ≤ 200; rw [List.length_append]; simp; omega, othOk.n2⟩
      refine ⟨pq, a6, (ho, ro), (ho ++ [99], ro), rfl, t6 _ _ co9, c6, othOk, ok6, fun b2 H10 hb2 s11 => ?_⟩
      have ro0 : 0 < ro.length := List.length_pos_iff.mpr of0
      have at1 : sgn (ho, ro) ho.length = ro[0]? := by
        rw [sgn_ge (Nat.le_refl _) of0, Nat.sub_self, Nat.zero_mod]
      have bf : b2 = false := by
        cases b2 with
        | false => rfl
        | true =>
          have z := hb2.mp rfl ho.length
          rw [at1, sgn_lt (h := ho ++ [99]) (by rw [List.length_append]; simp)] at z
          rw [show (ho ++ [99])[ho.length]? = some 99 by simp] at z
          exact absurd (List.mem_of_getElem? z) of99
      have co10 := s11 _ _ (t6 _ _ co9)
      refine ⟨b2, false, rfl, rfl, true, blT bf, iteT ?_⟩
      refine ⟨_, rfl, _, rfl, pq, _, 0, _, rfl, rfl, SqT.of co10, atI_nat (j := 0) rfl, (by show 2 ≤ sizeLine; decide), fun a7 na7 => ?_⟩
      have t7 := same_upd (o := .tup [V.str (S ho), V.str (S [])]) na7
      have ok7 : Okc (ho, []) := ⟨ohLet, Let.nil, othOk.n1, Nat.zero_le _⟩
      refine ⟨pq, a7, (ho, ro), (ho, []), rfl, t7 _ _ co10, upd_same, othOk, ok7, fun b3 H11 hb3 s12 => ?_⟩
      have bf3 : b3 = false := by
        cases b3 with
        | false => rfl
        | true => exact absurd (same_nil (hb3.mp rfl).symm rfl) of0
      refine ⟨b3, false, rfl, rfl, ?_⟩
      rw [decide_eq_true bf3]
      exact q H11 ((((pot9.same t6).same s11).same t7).same s12)
end
end K2

/-! K2Law6 -/
set_option maxRecDepth 100000
set_option maxHeartbeats 4000000
namespace K2
open PySem PySem.Spec PyProof.Rows L2
theorem let_of {l : List Nat} {n : Int} (hn : n ≤ 3) (h : ∀ c ∈ l, 97 ≤ c ∧ (c : Int) < 97 + n) : Let l := fun c hc => by
  have := h c hc
  omega
/-- the contents that the law draws -/
structure Small (c : Con) : Prop where
  ok : Okc c
  n1 : c.1.length ≤ 5
  n2 : c.2.length ≤ 4
theorem small_of {h r : List Nat} (a : Let h) (b : Let r) (n1 : h.length ≤ 5) (n2 : r.length ≤ 4) : Small (h, r) :=
  ⟨⟨a, b, Nat.le_trans n1 (by decide), Nat.le_trans n2 (by decide)⟩, n1, n2⟩
theorem small_iff {c d : Con} (a : Small c) (b : Small d) : T60 c d ↔ SameS c d := by
  have := a.n1
  have := a.n2
  have := b.n1
  have := b.n2
  exact t60_iff (by omega) (by omega) (by omega)
section
variable {P : Program} {w : World} {K : PySem.W.Frag} {mg : Str → Option Value} {base : Heap}
/-! ### law -/
abbrev nLaw : List Str := ["_law_script", "_law_pot_here", "_law_turn", "_law_letters", "_law_content", "_law_due", "_law_other", "_law_second", "_law_told"]
def spLaw (K : PySem.W.Frag) : Sp := fun vs H Q _ => ∃ (a : Addr) (ns : List Int), vs = [.ref a] ∧ SqL K H a (ns.map V.int) ∧ ns.length ≤ 63 ∧ ∀ H', Q (.bl true) H'
theorem scLaw : FnScope nLaw ["_law_script"] (defScope sLaw) := ⟨rfl, rfl, rfl, by decide +kernel, rfl, by decide +kernel, by decide +kernel⟩
theorem ok_law {f fP fD fS fF fL fW fG fC fE : Addr} {fd dP dD dS dF dL dW dG dC dE : FuncData} (F : Fun K "law" "law" sLaw f fd) (T : Txt mg)
    (GP : FnOk P w K mg base CX0 1 fP dP ["_law_script"] (spPot K)) (kP : PySem.W.keepIn K (.ref fP) = true) (bP : Binds K dP ["_law_script"] []) (gP : mg "_law_pot" = some (.ref fP))
    (GD : FnOk P w K mg base CX0 1 fD dD ["_law_pot_here", "_law_many"] spDraw) (kD : PySem.W.keepIn K (.ref fD) = true) (bD : Binds K dD ["_law_pot_here", "_law_many"] []) (gD : mg "_law_draw" = some (.ref fD))
    (GS : FnOk P w K mg base CX0 2 fS dS ["_law_pot_here", "_law_letters", "_law_most"] spString) (kS : PySem.W.keepIn K (.ref fS) = true) (bS : Binds K dS ["_law_pot_here", "_law_letters", "_law_most"] []) (gS : mg "_law_string" = some (.ref fS))
    (GF : FnOk P w K mg base CX0 2 fF dF ["_law_content", "_law_many"] spFirst) (kF : PySem.W.keepIn K (.ref fF) = true) (bF : Binds K dF ["_law_content", "_law_many"] []) (gF : mg "_law_first" = some (.ref fF))
    (GL : FnOk P w K mg base CX0 3 fL dL ["_law_content", "_law_letters"] spLLeast) (kL : PySem.W.keepIn K (.ref fL) = true) (bL : Binds K dL ["_law_content", "_law_letters"] []) (gL : mg "_law_least" = some (.ref fL))
    (GW : FnOk P w K mg base CX0 2 fW dW ["_law_pot_here", "_law_content"] spWritten) (kW : PySem.W.keepIn K (.ref fW) = true) (bW : Binds K dW ["_law_pot_here", "_law_content"] []) (gW : mg "_law_written" = some (.ref fW))
    (GG : FnOk P w K mg base CX0 7 fG dG ["_law_pot_here"] spLong) (kG : PySem.W.keepIn K (.ref fG) = true) (bG : Binds K dG ["_law_pot_here"] []) (gG : mg "_law_long_right" = some (.ref fG))
    (GC : FnOk P w K mg base CX0 6 fC dC ["content"] spLeast) (kC : PySem.W.keepIn K (.ref fC) = true) (bC : Binds K dC ["content"] []) (gC : mg "least_content" = some (.ref fC))
    (GE : FnOk P w K mg base CX0 6 fE dE ["content", "second"] spSame) (kE : PySem.W.keepIn K (.ref fE) = true) (bE : Binds K dE ["content", "second"] []) (gE : mg "same_signs" = some (.ref fE)) :
    FnOk P w K mg base CX0 8 f fd ["_law_script"] (spLaw K) := by
  refine F.ok scLaw (fun vs H Q E h => ?_) (fun cdv A outer s H vs Q E hr h => ?_)
  · obtain ⟨a, ns, rfl, _⟩ := h
    rfl
  · obtain ⟨a, ns, rfl, hS, hn, q⟩ := h
    have hr1 : Room 1 _ := hr.mono (by decide)
    have hr2 : Room 2 _ := hr.mono (by decide)
    have hr3 : Room 3 _ := hr.mono (by decide)
    have hr6 : Room 6 _ := hr.mono (by decide)
    refine ⟨_, pss_cons (ps_set (i := 1) scLaw.nd rfl (Or.inl rfl) (pe_call GP hr1 rfl gP kP bP .nil pass0 (pa_cons (pv 0) pa_nil)))
      (C8.pss_cut (ps_if (PW.pt (pw_and (pt_cmpR op_eq (pe_call GD hr1 rfl gD kD bD .nil pass0 (pa_cons (pv 1) (pa_cons pe_int pa_nil))) pe_int (nomark _))
          (pw_and1 (pt_not (pt_val (pe_call GG hr rfl gG kG bG .nil pass0 (pa_cons (pv 1) pa_nil))))))) (pss_one (ps_ret pe_bl)) pss_nil)
      (pss_cons (ps_for PassesOwn.never rfl (pi_range1 (by rfl) T.range (pa_cons pe_int pa_nil)) (pg_name (i := 2) scLaw.nd rfl (Or.inl rfl))
        (pss_cons (ps_set (i := 3) scLaw.nd rfl (Or.inl rfl) (pe_op op_add pe_int (pe_call GD hr1 rfl gD kD bD .nil pass0 (pa_cons (pv 1) (pa_cons pe_int pa_nil)))))
        (C8.pss_cut (ps_set (i := 4) scLaw.nd rfl (Or.inl rfl) (pe_tup (pa_cons (pe_call GS hr2 rfl gS kS bS .nil pass0 (pa_cons (pv 1) (pa_cons (pv 3) (pa_cons pe_int pa_nil))))
            (pa_cons (pe_ifExp (pt_cmpR op_gt (pe_call GD hr1 rfl gD kD bD .nil pass0 (pa_cons (pv 1) (pa_cons pe_int pa_nil))) pe_int (nomark _))
              (pe_call GS hr2 rfl gS kS bS .nil pass0 (pa_cons (pv 1) (pa_cons (pv 3) (pa_cons pe_int pa_nil)))) (pe_txt (l := []) (by decide +kernel))) pa_nil))))
        (pss_cons (ps_set (i := 5) scLaw.nd rfl (Or.inl rfl) (pe_call GL hr3 rfl gL kL bL .nil pass0 (pa_cons (pv 4) (pa_cons (pv 3) pa_nil))))
        (pss_cons (ps_set (i := 6) scLaw.nd rfl (Or.inl rfl) (pe_call GW hr2 rfl gW kW bW .nil pass0 (pa_cons (pv 1) (pa_cons (pv 4) pa_nil))))
        (pss_cons (ps_if (PW.pt (pw_or (pt_cmpR (op_neC hr.units) (pe_call GC hr6 rfl gC kC bC .nil pass0 (pa_cons (pv 4) pa_nil)) (pv 5) (nomark _))
            (pw_or (pt_cmpR (op_neC hr.units) (pe_call GC hr6 rfl gC kC bC .nil pass0 (pa_cons (pv 6) pa_nil)) (pv 5) (nomark _))
              (pw_or1 (pt_cmpR op_notBl (pe_call GE hr6 rfl gE kE bE .nil pass0 (pa_cons (pv 4) (pa_cons (pv 6) pa_nil))) pe_bl (nomark _)))))) (pss_one (ps_ret pe_bl)) pss_nil)
        (C8.pss_cut (ps_set (i := 7) scLaw.nd rfl (Or.inl rfl) (pe_tup (pa_cons (pe_call GS hr2 rfl gS kS bS .nil pass0 (pa_cons (pv 1) (pa_cons (pv 3) (pa_cons pe_int pa_nil))))
            (pa_cons (pe_ifExp (pt_cmpR op_gt (pe_call GD hr1 rfl gD kD bD .nil pass0 (pa_cons (pv 1) (pa_cons pe_int pa_nil))) pe_int (nomark _))
              (pe_call GS hr2 rfl gS kS bS .nil pass0 (pa_cons (pv 1) (pa_cons (pv 3) (pa_cons pe_int pa_nil)))) (pe_txt (l := []) (by decide +kernel))) pa_nil))))
        (pss_cons (ps_set (i := 8) scLaw.nd rfl (Or.inl rfl) (pe_call GE hr6 rfl gE kE bE .nil pass0 (pa_cons (pv 4) (pa_cons (pv 7) pa_nil))))
        (pss_cons (ps_if (PW.pt (pw_or (pt_not (pt_val (pe_callB call_isi (by rfl) T.isi (by decide +kernel) (pa_cons (pv 8) (pa_cons (pe_bltn (v := .ty "bool") (u := .type "bool") (by rfl) T.bool (by decide +kernel) rfl) pa_nil)))))
            (pw_or1 (pt_cmpR op_ne (pv 8) (pe_cmpR (op_eqS hr.units) (pe_call GF hr2 rfl gF kF bF .nil pass0 (pa_cons (pv 4) (pa_cons pe_int pa_nil))) (pe_call GF hr2 rfl gF kF bF .nil pass0 (pa_cons (pv 7) (pa_cons pe_int pa_nil))) (nomark _)) (nomark _))))) (pss_one (ps_ret pe_bl)) pss_nil)
        (pss_one (ps_if (pt_cmpR (op_neC hr.units) (pe_call GC hr6 rfl gC kC bC .nil pass0 (pa_cons (pv 5) pa_nil)) (pv 5) (nomark _)) (pss_one (ps_ret pe_bl)) pss_nil)))))))))))
      (pss_one (ps_ret pe_bl)))), ?_⟩
    -- the pot
    refine ⟨_, rfl, a, ns, rfl, hS, hn, fun p g s' H1 s1 pot1 => ?_⟩
    -- the long ones
    refine ⟨fun σ' H' => σ' = [some (.ref a), some (.ref p), none, none, none, none, none, none, none] ∧ PotAt p g s' H', ?_, ?_⟩
    · refine ⟨_, rfl, p, g, s', 8, rfl, pot1, ⟨by decide, by decide⟩, fun r H2 r0 r1 pot2 kp2 => ?_⟩
      by_cases e : V.int r = V.int 0
      · refine ⟨rfl, true, blT e, iteT ?_⟩
        exact ⟨_, rfl, p, g, s', rfl, pot2, fun H3 pot3 => ⟨true, rfl, iteF ⟨rfl, pot3⟩⟩⟩
      · exact ⟨rfl, false, blF e, iteF (iteF ⟨rfl, pot2⟩)⟩
    rintro σ' H2 ⟨rfl, pot2⟩
    refine ⟨4, rfl, by decide, by decide, for_range (lo := 0) (n := (4 : Int).toNat)
      (fun i σ H3 => ∃ v2 v3 v4 v5 v6 v7 v8, σ = [some (.ref a), some (.ref p), v2, v3, v4, v5, v6, v7, v8] ∧ PotAt p g s' H3) ⟨_, _, _, _, _, _, _, rfl, pot2⟩ ?_ ?_⟩
    · rintro i σ H3 hi ⟨v2, v3, v4, v5, v6, v7, v8, rfl, pot3⟩
      -- the letters
      refine ⟨_, rfl, p, g, s', 3, rfl, pot3, ⟨by decide, by decide⟩, fun r H4 r0 r1 pot4 kp4 => ?_⟩
      refine ⟨_, _, rfl, rfl, ?_⟩
      -- the content
      refine ⟨fun σ' H' => ∃ (w2 : V) (pc : Addr) (c : Con) (u5 u6 u7 u8 : Option V), σ' = [some (.ref a), some (.ref p), some w2, some (.int (1 + r)), some (.ref pc), u5, u6, u7, u8] ∧ PotAt p g s' H' ∧ CtAt H' pc c ∧ Small c, ?_, ?_⟩
      · refine ⟨_, rfl, _, rfl, p, g, s', 1 + r, 5, rfl, pot4, ⟨by omega, by omega⟩, ⟨by decide, by decide⟩, fun h H5 hh hl pot5 kp5 => ?_⟩
        refine ⟨_, rfl, p, g, s', 4, rfl, pot5, ⟨by decide, by decide⟩, fun t H6 t0 t1 pot6 kp6 => ?_⟩
        refine ⟨_, _, rfl, rfl, _, rfl, ite2 (fun _ => ?_) (fun _ => ?_)⟩
        · refine ⟨_, rfl, _, rfl, p, g, s', 1 + r, 4, rfl, pot6, ⟨by omega, by omega⟩, ⟨by decide, by decide⟩, fun ro H7 hr' rl pot7 kp7 => ?_⟩
          refine ⟨(by show 2 ≤ sizeLine; decide), fun pc npc => ?_⟩
          exact ⟨_, pc, (h, ro), _, _, _, _, rfl, pot7.same (same_upd npc), upd_same, small_of (let_of (by omega) hh) (let_of (by omega) hr') (by omega) (by omega)⟩
        · refine ⟨(by show 2 ≤ sizeLine; decide), fun pc npc => ?_⟩
          exact ⟨_, pc, (h, []), _, _, _, _, rfl, pot6.same (same_upd npc), upd_same, small_of (let_of (by omega) hh) Let.nil (by omega) (Nat.zero_le _)⟩
      rintro σ' H5 ⟨w2, pc, c, u5, u6, u7, u8, rfl, pot5, cc5, sc⟩
      have lc : c.2 ≠ [] → c.1.length + 3 * c.2.length ≤ 60 := fun _ => by
        have := sc.n1
        have := sc.n2
        omega
      -- due
      refine ⟨_, rfl, _, rfl, pc, c, _, rfl, cc5, sc.ok, lc, fun pd d H6 nfd okd s6 cd6 => ?_⟩
      -- other
      have cc6 := s6 _ _ cc5
      have pot6 := pot5.same s6
      refine ⟨_, rfl, _, rfl, p, g, s', pc, c, rfl, pot6, cc6, sc.ok, Nat.le_trans sc.n1 (by decide), Nat.le_trans sc.n2 (by decide), fun po o H7 sm oko pot7 kp7 co7 => ?_⟩
      have cc7 := kp7.ct pot6 cc6
      have cd7 := kp7.ct pot6 cd6
      -- the first test
      refine ⟨_, rfl, pc, c, rfl, cc7, sc.ok, fun e pe nfe oke npe => ?_⟩
      have s8 := same_upd (o := .tup [V.str (S e.1), V.str (S e.2)]) npe
      have cd8 := s8 _ _ cd7
      have co8 := s8 _ _ co7
      have cc8 := s8 _ _ cc7
      refine ⟨_, rfl, pe, pd, e, d, rfl, rfl, upd_same, cd8, ⟨oke.l1, oke.l2⟩, ⟨okd.l1, okd.l2⟩, false, nbF (nfe.uniq nfd (.refl c)), iteF ?_⟩
      refine ⟨_, rfl, po, o, rfl, co8, oko, fun e2 pe2 nfe2 oke2 npe2 => ?_⟩
      have s9 := same_upd (o := .tup [V.str (S e2.1), V.str (S e2.2)]) npe2
      have cd9 := s9 _ _ cd8
      have co9 := s9 _ _ co8
      have cc9 := s9 _ _ cc8
      refine ⟨_, rfl, pe2, pd, e2, d, rfl, rfl, upd_same, cd9, ⟨oke2.l1, oke2.l2⟩, ⟨okd.l1, okd.l2⟩, false, nbF (nfe2.uniq nfd sm), iteF ?_⟩
      refine ⟨_, rfl, _, rfl, pc, po, c, o, rfl, cc9, co9, sc.ok, oko, fun b H10 hb s10 => ?_⟩
      have bt : b = true := hb.mpr sm.symm
      refine ⟨b, true, rfl, rfl, false, nbF bt, iteF ?_⟩
      have pot10 := ((pot7.same s8).same s9).same s10
      have cc10 := s10 _ _ cc9
      have cd10 := s10 _ _ cd9
      -- the second
      refine ⟨fun σ' H' => ∃ (w6 : V) (ps : Addr) (c2 : Con) (u8 : Option V), σ' = [some (.ref a), some (.ref p), some w2, some (.int (1 + r)), some (.ref pc), some (.ref pd), some w6, some (.ref ps), u8] ∧ PotAt p g s' H' ∧ CtAt H' pc c ∧ CtAt H' pd d ∧ CtAt H' ps c2 ∧ Small c2, ?_, ?_⟩
      · refine ⟨_, rfl, _, rfl, p, g, s', 1 + r, 5, rfl, pot10, ⟨by omega, by omega⟩, ⟨by decide, by decide⟩, fun h H11 hh hl pot11 kp11 => ?_⟩
        refine ⟨_, rfl, p, g, s', 2, rfl, pot11, ⟨by decide, by decide⟩, fun t H12 t0 t1 pot12 kp12 => ?_⟩
        refine ⟨_, _, rfl, rfl, _, rfl, ite2 (fun _ => ?_) (fun _ => ?_)⟩
        · refine ⟨_, rfl, _, rfl, p, g, s', 1 + r, 4, rfl, pot12, ⟨by omega, by omega⟩, ⟨by decide, by decide⟩, fun ro H13 hr' rl pot13 kp13 => ?_⟩
          refine ⟨(by show 2 ≤ sizeLine; decide), fun ps nps => ?_⟩
          have kk := kp11.trans (kp12.trans (kp_new (o := .tup [V.str (S h), V.str (S ro)]) kp13 nps))
          exact ⟨_, ps, (h, ro), _, rfl, pot13.same (same_upd nps), kk.ct pot10 cc10, kk.ct pot10 cd10, upd_same, small_of (let_of (by omega) hh) (let_of (by omega) hr') (by omega) (by omega)⟩
        · refine ⟨(by show 2 ≤ sizeLine; decide), fun ps nps => ?_⟩
          have kk := kp11.trans (kp_new (o := .tup [V.str (S h), V.str (S [])]) kp12 nps)
          exact ⟨_, ps, (h, []), _, rfl, pot12.same (same_upd nps), kk.ct pot10 cc10, kk.ct pot10 cd10, upd_same, small_of (let_of (by omega) hh) Let.nil (by omega) (Nat.zero_le _)⟩
      rintro σ' H11 ⟨w6, ps, c2, u8', rfl, pot11, cc11, cd11, cs11, sc2⟩
      -- told
      refine ⟨_, rfl, _, rfl, pc, ps, c, c2, rfl, cc11, cs11, sc.ok, sc2.ok, fun b2 H12 hb2 s12 => ?_⟩
      have pot12 := pot11.same s12
      refine ⟨_, rfl, .bl b2, .ty "bool", .type "bool", .type "bool", true, rfl, .ty "bool", .base (.bl b2), kit_ty (by decide +kernel), true, rfl, iteF ?_⟩
      refine ⟨_, rfl, _, rfl, pc, c, 60, rfl, s12 _ _ cc11, sc.ok, by decide, fun D1 H13 s13 nD1 eD1 => ?_⟩
      refine ⟨_, rfl, ps, c2, 60, rfl, s13 _ _ (s12 _ _ cs11), sc2.ok, by decide, fun D2 H14 s14 nD2 eD2 => ?_⟩
      refine ⟨D1, D2, _, _, rfl, rfl, s14 _ _ eD1, eD2, signs_ok sc.ok.l1 sc.ok.l2 60, signs_ok sc2.ok.l1 sc2.ok.l2 60, rfl, false, nbF ?_, iteF ?_⟩
      · refine congrArg V.bl ?_
        have z : b2 = true ↔ signs c 60 = signs c2 60 := hb2.trans ((small_iff sc sc2).symm.trans (signs_iff c c2).symm)
        cases b2 with
        | true => exact (decide_eq_true (z.mp rfl)).symm
        | false => exact (decide_eq_false fun y => Bool.noConfusion (z.mpr y)).symm
      -- the least of the least
      have s1214 := s12.trans (s13.trans s14)
      refine ⟨_, rfl, pd, d, rfl, s1214 _ _ cd11, okd, fun e3 pe3 nfe3 oke3 npe3 => ?_⟩
      have s15 := same_upd (o := .tup [V.str (S e3.1), V.str (S e3.2)]) npe3
      refine ⟨_, rfl, pe3, pd, e3, d, rfl, rfl, upd_same, s15 _ _ (s1214 _ _ cd11), ⟨oke3.l1, oke3.l2⟩, ⟨okd.l1, okd.l2⟩, false, nbF (nfe3.uniq nfd.self (.refl d)), iteF ?_⟩
      exact ⟨_, _, _, _, _, _, _, rfl, ((pot12.same s13).same s14).same s15⟩
    · rintro σ H3 ⟨v2, v3, v4, v5, v6, v7, v8, rfl, pot3⟩
      exact q H3
end
end K2

/-! K2End -/
set_option maxRecDepth 100000
set_option maxHeartbeats 4000000
namespace K2
open PySem L2
/-! ### what the top has written, and the law's own head -/
theorem all_mk {l : PySem.W.OpenLaw} {w : World} {K : PySem.W.Frag} {h : Heap} {mg : Str → Option Value} {fa : Addr} (X : K.In h) (G : h.Ns mainGlobals mg) (hfa : mg "law" = some (.ref fa))
    {fPr fSo fLe fCo fCt fCh fRo fSh fLc fSm fPo fDr fSt fSi fFi fLl fWr fLo fLa : Addr} {odPr anPr odSo anSo odLe anLe odCo anCo odCt anCt odCh anCh odRo anRo odSh anSh odLc anLc odSm anSm odPo anPo odDr anDr odSt anSt odSi anSi odFi anFi odLl anLl odWr anWr odLo anLo odLa anLa : Option Addr} {slPr slSo slLe slCo slCt slCh slRo slSh slLc slSm slPo slDr slSt slSi slFi slLl slWr slLo slLa : Array (Option Value)} {ocPr kVPr dcPr pmPr cdPr ctPr ocSo kVSo dcSo pmSo cdSo ctSo ocLe kVLe dcLe pmLe cdLe ctLe ocCo kVCo dcCo pmCo cdCo ctCo ocCt kVCt dcCt pmCt cdCt ctCt ocCh kVCh dcCh pmCh cdCh ctCh ocRo kVRo dcRo pmRo cdRo ctRo ocSh kVSh dcSh pmSh cdSh ctSh ocLc kVLc dcLc pmLc cdLc ctLc ocSm kVSm dcSm pmSm cdSm ctSm ocPo kVPo dcPo pmPo cdPo ctPo ocDr kVDr dcDr pmDr cdDr ctDr ocSt kVSt dcSt pmSt cdSt ctSt ocSi kVSi dcSi pmSi cdSi ctSi ocFi kVFi dcFi pmFi cdFi ctFi ocLl kVLl dcLl pmLl cdLl ctLl ocWr kVWr dcWr pmWr cdWr ctWr ocLo kVLo dcLo pmLo cdLo ctLo ocLa kVLa dcLa pmLa cdLa ctLa : Value} {zL : Str} {tL : Tok}
    (aPr : PySem.W.nsIn K mainGlobals "is_pair" = some (some (.ref fPr))) (lPr : K.lookup fPr = some ⟨ocPr, odPr, .func (PySem.W.fnOf "is_pair" "is_pair" (defArgs sPair) (defBody sPair) (defScope sPair) .none kVPr dcPr pmPr anPr cdPr ctPr), slPr⟩) (cPr : PySem.W.codeIn K cdPr "is_pair" = true) (kPr : PySem.W.keepIn K (.ref fPr) = true)
    (aSo : PySem.W.nsIn K mainGlobals "is_string_of" = some (some (.ref fSo))) (lSo : K.lookup fSo = some ⟨ocSo, odSo, .func (PySem.W.fnOf "is_string_of" "is_string_of" (defArgs sStrOf) (defBody sStrOf) (defScope sStrOf) .none kVSo dcSo pmSo anSo cdSo ctSo), slSo⟩) (cSo : PySem.W.codeIn K cdSo "is_string_of" = true) (kSo : PySem.W.keepIn K (.ref fSo) = true)
    (aLe : PySem.W.nsIn K mainGlobals "is_letters" = some (some (.ref fLe))) (lLe : K.lookup fLe = some ⟨ocLe, odLe, .func (PySem.W.fnOf "is_letters" "is_letters" (defArgs sLetters) (defBody sLetters) (defScope sLetters) .none kVLe dcLe pmLe anLe cdLe ctLe), slLe⟩) (cLe : PySem.W.codeIn K cdLe "is_letters" = true) (kLe : PySem.W.keepIn K (.ref fLe) = true)
    (aCo : PySem.W.nsIn K mainGlobals "is_content_of" = some (some (.ref fCo))) (lCo : K.lookup fCo = some ⟨ocCo, odCo, .func (PySem.W.fnOf "is_content_of" "is_content_of" (defArgs sContOf) (defBody sContOf) (defScope sContOf) .none kVCo dcCo pmCo anCo cdCo ctCo), slCo⟩) (cCo : PySem.W.codeIn K cdCo "is_content_of" = true) (kCo : PySem.W.keepIn K (.ref fCo) = true)
    (aCt : PySem.W.nsIn K mainGlobals "is_content" = some (some (.ref fCt))) (lCt : K.lookup fCt = some ⟨ocCt, odCt, .func (PySem.W.fnOf "is_content" "is_content" (defArgs sCont) (defBody sCont) (defScope sCont) .none kVCt dcCt pmCt anCt cdCt ctCt), slCt⟩) (cCt : PySem.W.codeIn K cdCt "is_content" = true) (kCt : PySem.W.keepIn K (.ref fCt) = true)
    (aCh : PySem.W.nsIn K mainGlobals "check_content" = some (some (.ref fCh))) (lCh : K.lookup fCh = some ⟨ocCh, odCh, .func (PySem.W.fnOf "check_content" "check_content" (defArgs sCheck) (defBody sCheck) (defScope sCheck) .none kVCh dcCh pmCh anCh cdCh ctCh), slCh⟩) (cCh : PySem.W.codeIn K cdCh "check_content" = true) (kCh : PySem.W.keepIn K (.ref fCh) = true)
    (aRo : PySem.W.nsIn K mainGlobals "least_round" = some (some (.ref fRo))) (lRo : K.lookup fRo = some ⟨ocRo, odRo, .func (PySem.W.fnOf "least_round" "least_round" (defArgs sRound) (defBody sRound) (defScope sRound) .none kVRo dcRo pmRo anRo cdRo ctRo), slRo⟩) (cRo : PySem.W.codeIn K cdRo "least_round" = true) (kRo : PySem.W.keepIn K (.ref fRo) = true)
    (aSh : PySem.W.nsIn K mainGlobals "shortest" = some (some (.ref fSh))) (lSh : K.lookup fSh = some ⟨ocSh, odSh, .func (PySem.W.fnOf "shortest" "shortest" (defArgs sShort) (defBody sShort) (defScope sShort) .none kVSh dcSh pmSh anSh cdSh ctSh), slSh⟩) (cSh : PySem.W.codeIn K cdSh "shortest" = true) (kSh : PySem.W.keepIn K (.ref fSh) = true)
    (aLc : PySem.W.nsIn K mainGlobals "least_content" = some (some (.ref fLc))) (lLc : K.lookup fLc = some ⟨ocLc, odLc, .func (PySem.W.fnOf "least_content" "least_content" (defArgs sLeast) (defBody sLeast) (defScope sLeast) .none kVLc dcLc pmLc anLc cdLc ctLc), slLc⟩) (cLc : PySem.W.codeIn K cdLc "least_content" = true) (kLc : PySem.W.keepIn K (.ref fLc) = true)
    (aSm : PySem.W.nsIn K mainGlobals "same_signs" = some (some (.ref fSm))) (lSm : K.lookup fSm = some ⟨ocSm, odSm, .func (PySem.W.fnOf "same_signs" "same_signs" (defArgs sSame) (defBody sSame) (defScope sSame) .none kVSm dcSm pmSm anSm cdSm ctSm), slSm⟩) (cSm : PySem.W.codeIn K cdSm "same_signs" = true) (kSm : PySem.W.keepIn K (.ref fSm) = true)
    (aPo : PySem.W.nsIn K mainGlobals "_law_pot" = some (some (.ref fPo))) (lPo : K.lookup fPo = some ⟨ocPo, odPo, .func (PySem.W.fnOf "_law_pot" "_law_pot" (defArgs sPot) (defBody sPot) (defScope sPot) .none kVPo dcPo pmPo anPo cdPo ctPo), slPo⟩) (cPo : PySem.W.codeIn K cdPo "_law_pot" = true) (kPo : PySem.W.keepIn K (.ref fPo) = true)
    (aDr : PySem.W.nsIn K mainGlobals "_law_draw" = some (some (.ref fDr))) (lDr : K.lookup fDr = some ⟨ocDr, odDr, .func (PySem.W.fnOf "_law_draw" "_law_draw" (defArgs sDraw) (defBody sDraw) (defScope sDraw) .none kVDr dcDr pmDr anDr cdDr ctDr), slDr⟩) (cDr : PySem.W.codeIn K cdDr "_law_draw" = true) (kDr : PySem.W.keepIn K (.ref fDr) = true)
    (aSt : PySem.W.nsIn K mainGlobals "_law_string" = some (some (.ref fSt))) (lSt : K.lookup fSt = some ⟨ocSt, odSt, .func (PySem.W.fnOf "_law_string" "_law_string" (defArgs sString) (defBody sString) (defScope sString) .none kVSt dcSt pmSt anSt cdSt ctSt), slSt⟩) (cSt : PySem.W.codeIn K cdSt "_law_string" = true) (kSt : PySem.W.keepIn K (.ref fSt) = true)
    (aSi : PySem.W.nsIn K mainGlobals "_law_sign" = some (some (.ref fSi))) (lSi : K.lookup fSi = some ⟨ocSi, odSi, .func (PySem.W.fnOf "_law_sign" "_law_sign" (defArgs sSign) (defBody sSign) (defScope sSign) .none kVSi dcSi pmSi anSi cdSi ctSi), slSi⟩) (cSi : PySem.W.codeIn K cdSi "_law_sign" = true) (kSi : PySem.W.keepIn K (.ref fSi) = true)
    (aFi : PySem.W.nsIn K mainGlobals "_law_first" = some (some (.ref fFi))) (lFi : K.lookup fFi = some ⟨ocFi, odFi, .func (PySem.W.fnOf "_law_first" "_law_first" (defArgs sFirst) (defBody sFirst) (defScope sFirst) .none kVFi dcFi pmFi anFi cdFi ctFi), slFi⟩) (cFi : PySem.W.codeIn K cdFi "_law_first" = true) (kFi : PySem.W.keepIn K (.ref fFi) = true)
    (aLl : PySem.W.nsIn K mainGlobals "_law_least" = some (some (.ref fLl))) (lLl : K.lookup fLl = some ⟨ocLl, odLl, .func (PySem.W.fnOf "_law_least" "_law_least" (defArgs sLLeast) (defBody sLLeast) (defScope sLLeast) .none kVLl dcLl pmLl anLl cdLl ctLl), slLl⟩) (cLl : PySem.W.codeIn K cdLl "_law_least" = true) (kLl : PySem.W.keepIn K (.ref fLl) = true)
    (aWr : PySem.W.nsIn K mainGlobals "_law_written" = some (some (.ref fWr))) (lWr : K.lookup fWr = some ⟨ocWr, odWr, .func (PySem.W.fnOf "_law_written" "_law_written" (defArgs sWritten) (defBody sWritten) (defScope sWritten) .none kVWr dcWr pmWr anWr cdWr ctWr), slWr⟩) (cWr : PySem.W.codeIn K cdWr "_law_written" = true) (kWr : PySem.W.keepIn K (.ref fWr) = true)
    (aLo : PySem.W.nsIn K mainGlobals "_law_long_right" = some (some (.ref fLo))) (lLo : K.lookup fLo = some ⟨ocLo, odLo, .func (PySem.W.fnOf "_law_long_right" "_law_long_right" (defArgs sLong) (defBody sLong) (defScope sLong) .none kVLo dcLo pmLo anLo cdLo ctLo), slLo⟩) (cLo : PySem.W.codeIn K cdLo "_law_long_right" = true) (kLo : PySem.W.keepIn K (.ref fLo) = true)
    (aLa : PySem.W.nsIn K mainGlobals "law" = some (some (.ref fLa))) (lLa : K.lookup fLa = some ⟨ocLa, odLa, .func (PySem.W.fnOf "law" "law" (defArgs sLaw) (defBody sLaw) (defScope sLaw) .none kVLa dcLa pmLa anLa cdLa ctLa), slLa⟩) (cLa : PySem.W.codeIn K cdLa "law" = true) (kLa : PySem.W.keepIn K (.ref fLa) = true)
    (zisinstance : PySem.W.nsIn K mainGlobals "isinstance" = some none) (ztuple : PySem.W.nsIn K mainGlobals "tuple" = some none) (zstr : PySem.W.nsIn K mainGlobals "str" = some none) (zbool : PySem.W.nsIn K mainGlobals "bool" = some none) (zint : PySem.W.nsIn K mainGlobals "int" = some none) (zlen : PySem.W.nsIn K mainGlobals "len" = some none) (zrange : PySem.W.nsIn K mainGlobals "range" = some none) (zabs : PySem.W.nsIn K mainGlobals "abs" = some none) (zsum : PySem.W.nsIn K mainGlobals "sum" = some none)
    (aL : PySem.W.nsIn K mainGlobals "LETTERS" = some (some (.str zL tL))) (hL : zL = S [97, 98, 99]) :
    ∃ fd : FuncData, (∀ (s : Shared) (v : Value), BindsTo s fd ⟨[v], []⟩ [("_law_script", v)]) ∧ ∀ base : Heap, K.In base → base.Ns mainGlobals mg → FnOk l.prog w K mg base CX0 8 fa fd ["_law_script"] (spLaw K) := by
  have e := hfa.symm.trans (PySem.W.mg_of X G aLa)
  cases e
  have T : Txt mg := ⟨PySem.W.mg_none_of X G zisinstance, PySem.W.mg_none_of X G ztuple, PySem.W.mg_none_of X G zstr, PySem.W.mg_none_of X G zbool, PySem.W.mg_none_of X G zint, PySem.W.mg_none_of X G zlen, PySem.W.mg_none_of X G zrange, PySem.W.mg_none_of X G zabs, PySem.W.mg_none_of X G zsum, _, PySem.W.mg_of X G aL, ⟨tL, by rw [hL]⟩⟩
  have FPr := fun_mk (st := sPair) lPr cPr kPr
  have bPr := FPr.binds (ps := ["thing"]) fun _ _ _ _ _ _ us hl => match us, hl with | [_], _ => rfl
  have gPr := PySem.W.mg_of X G aPr
  have FSo := fun_mk (st := sStrOf) lSo cSo kSo
  have bSo := FSo.binds (ps := ["thing", "signs"]) fun _ _ _ _ _ _ us hl => match us, hl with | [_, _], _ => rfl
  have gSo := PySem.W.mg_of X G aSo
  have FLe := fun_mk (st := sLetters) lLe cLe kLe
  have bLe := FLe.binds (ps := ["thing", "letters"]) fun _ _ _ _ _ _ us hl => match us, hl with | [_, _], _ => rfl
  have gLe := PySem.W.mg_of X G aLe
  have FCo := fun_mk (st := sContOf) lCo cCo kCo
  have bCo := FCo.binds (ps := ["thing", "letters"]) fun _ _ _ _ _ _ us hl => match us, hl with | [_, _], _ => rfl
  have gCo := PySem.W.mg_of X G aCo
  have FCt := fun_mk (st := sCont) lCt cCt kCt
  have bCt := FCt.binds (ps := ["thing"]) fun _ _ _ _ _ _ us hl => match us, hl with | [_], _ => rfl
  have gCt := PySem.W.mg_of X G aCt
  have FCh := fun_mk (st := sCheck) lCh cCh kCh
  have bCh := FCh.binds (ps := ["thing"]) fun _ _ _ _ _ _ us hl => match us, hl with | [_], _ => rfl
  have gCh := PySem.W.mg_of X G aCh
  have FRo := fun_mk (st := sRound) lRo cRo kRo
  have bRo := FRo.binds (ps := ["again"]) fun _ _ _ _ _ _ us hl => match us, hl with | [_], _ => rfl
  have gRo := PySem.W.mg_of X G aRo
  have FSh := fun_mk (st := sShort) lSh cSh kSh
  have bSh := FSh.binds (ps := ["first", "again"]) fun _ _ _ _ _ _ us hl => match us, hl with | [_, _], _ => rfl
  have gSh := PySem.W.mg_of X G aSh
  have FLc := fun_mk (st := sLeast) lLc cLc kLc
  have bLc := FLc.binds (ps := ["content"]) fun _ _ _ _ _ _ us hl => match us, hl with | [_], _ => rfl
  have gLc := PySem.W.mg_of X G aLc
  have FSm := fun_mk (st := sSame) lSm cSm kSm
  have bSm := FSm.binds (ps := ["content", "second"]) fun _ _ _ _ _ _ us hl => match us, hl with | [_, _], _ => rfl
  have gSm := PySem.W.mg_of X G aSm
  have FPo := fun_mk (st := sPot) lPo cPo kPo
  have bPo := FPo.binds (ps := ["_law_script"]) fun _ _ _ _ _ _ us hl => match us, hl with | [_], _ => rfl
  have gPo := PySem.W.mg_of X G aPo
  have FDr := fun_mk (st := sDraw) lDr cDr kDr
  have bDr := FDr.binds (ps := ["_law_pot_here", "_law_many"]) fun _ _ _ _ _ _ us hl => match us, hl with | [_, _], _ => rfl
  have gDr := PySem.W.mg_of X G aDr
  have FSt := fun_mk (st := sString) lSt cSt kSt
  have bSt := FSt.binds (ps := ["_law_pot_here", "_law_letters", "_law_most"]) fun _ _ _ _ _ _ us hl => match us, hl with | [_, _, _], _ => rfl
  have gSt := PySem.W.mg_of X G aSt
  have FSi := fun_mk (st := sSign) lSi cSi kSi
  have bSi := FSi.binds (ps := ["_law_content", "_law_place"]) fun _ _ _ _ _ _ us hl => match us, hl with | [_, _], _ => rfl
  have gSi := PySem.W.mg_of X G aSi
  have FFi := fun_mk (st := sFirst) lFi cFi kFi
  have bFi := FFi.binds (ps := ["_law_content", "_law_many"]) fun _ _ _ _ _ _ us hl => match us, hl with | [_, _], _ => rfl
  have gFi := PySem.W.mg_of X G aFi
  have FLl := fun_mk (st := sLLeast) lLl cLl kLl
  have bLl := FLl.binds (ps := ["_law_content", "_law_letters"]) fun _ _ _ _ _ _ us hl => match us, hl with | [_, _], _ => rfl
  have gLl := PySem.W.mg_of X G aLl
  have FWr := fun_mk (st := sWritten) lWr cWr kWr
  have bWr := FWr.binds (ps := ["_law_pot_here", "_law_content"]) fun _ _ _ _ _ _ us hl => match us, hl with | [_, _], _ => rfl
  have gWr := PySem.W.mg_of X G aWr
  have FLo := fun_mk (st := sLong) lLo cLo kLo
  have bLo := FLo.binds (ps := ["_law_pot_here"]) fun _ _ _ _ _ _ us hl => match us, hl with | [_], _ => rfl
  have gLo := PySem.W.mg_of X G aLo
  have FLa := fun_mk (st := sLaw) lLa cLa kLa
  refine ⟨PySem.W.fnOf "law" "law" (defArgs sLaw) (defBody sLaw) (defScope sLaw) .none kVLa dcLa pmLa anLa cdLa ctLa, fun s v => .of_eq rfl, fun base _ _ => ?_⟩
  have GPr := ok_pair (P := l.prog) (w := w) (base := base) FPr T
  have GLe := ok_letters (P := l.prog) (w := w) (base := base) FLe T FSo bSo gSo
  have GCo := ok_contOf (P := l.prog) (w := w) (base := base) FCo GPr kPr bPr gPr GLe kLe bLe gLe
  have GCt := ok_cont (P := l.prog) (w := w) (base := base) FCt T GCo kCo bCo gCo
  have GCh := ok_check (P := l.prog) (w := w) (base := base) FCh GCt kCt bCt gCt
  have GRo := ok_round (P := l.prog) (w := w) (base := base) FRo T
  have GSh := ok_short (P := l.prog) (w := w) (base := base) FSh T GRo kRo bRo gRo
  have GLc := ok_least (P := l.prog) (w := w) (base := base) FLc GCh kCh bCh gCh GSh kSh bSh gSh
  have GSm := ok_same (P := l.prog) (w := w) (base := base) FSm GCh kCh bCh gCh GSh kSh bSh gSh
  have GPo := ok_pot (P := l.prog) (w := w) (base := base) FPo T
  have GDr := ok_draw (P := l.prog) (w := w) (base := base) FDr T
  have GSt := ok_string (P := l.prog) (w := w) (base := base) FSt T GDr kDr bDr gDr
  have GSi := ok_sign (P := l.prog) (w := w) (base := base) FSi T
  have GFi := ok_first (P := l.prog) (w := w) (base := base) FFi T GSi kSi bSi gSi
  have GLl := ok_lleast (P := l.prog) (w := w) (base := base) FLl T GFi kFi bFi gFi
  have GWr := ok_written (P := l.prog) (w := w) (base := base) FWr T GDr kDr bDr gDr
  have GLo := ok_long (P := l.prog) (w := w) (base := base) FLo T GDr kDr bDr gDr GSt kSt bSt gSt GLl kLl bLl gLl GLc kLc bLc gLc GSm kSm bSm gSm
  exact ok_law (P := l.prog) (w := w) (base := base) FLa T GPo kPo bPo gPo GDr kDr bDr gDr GSt kSt bSt gSt GFi kFi bFi gFi GLl kLl bLl gLl GWr kWr bWr gWr GLo kLo bLo gLo GLc kLc bLc gLc GSm kSm bSm gSm
theorem walk {l : PySem.W.OpenLaw} {q : Program} {loose : List Str} {XP : (Str → Option Value) → Heap → Prop} {YP : World → Heap → Prop} {d : DefRec} {K : Params → PySem.W.Frag} (hn : l.most = some 63) (hdf : d.params.defaults = [])
    (hY : ∀ (w : World) (h : Heap), YP w h → (K w.params).In h)
    (F : ∀ (w : World) (mg : Str → Option Value) (fa : Addr) (h : Heap), (K w.params).In h → h.Ns mainGlobals mg → mg d.name = some (.ref fa) →
      ∃ fd : FuncData, (∀ (s : Shared) (u : Value), BindsTo s fd ⟨[u], []⟩ [("_law_script", u)]) ∧ ∀ base : Heap, (K w.params).In base → base.Ns mainGlobals mg → FnOk l.prog w (K w.params) mg base CX0 8 fa fd ["_law_script"] (spLaw (K w.params))) :
    PySem.W.WalkO q loose XP YP l.row.toRowW d [] (fun f vs => PySem.call f vs) :=
  L2.walk_of (n := 63) (k := 8) (x := "_law_script") (CX := fun _ => CX0) (sp := fun w => spLaw (K w.params)) hn (by decide) hdf ⟨rfl, by decide, by decide⟩ hY F (fun _ _ a ns hl _ hS => ⟨a, ns, rfl, hS, hl, fun _ => rfl⟩) fun _ _ _ _ _ z => z
end K2
open PySem PySem.W PyProof.Rows
set_option maxRecDepth 100000 in
set_option maxHeartbeats 0 in
theorem PySem.Challenge.cw_wholewalks_k02_whole_least_contents_holds : PySem.Challenge.rw_wholewalks_k02_whole_least_contents.Holds := by
  w_on; o_law; k_head; (case hw => w_witness2)
  k_fill
  refine K2.walk (l := PySem.Challenge.rw_wholewalks_k02_whole_least_contents) rfl rfl (fun w h Y => PySem.W.kIn_of Y) ?F
  case F =>
    intro w mg fa h KX G hmg
    refine' K2.all_mk KX G hmg ?aPr ?lPr ?cPr ?kPr ?aSo ?lSo ?cSo ?kSo ?aLe ?lLe ?cLe ?kLe ?aCo ?lCo ?cCo ?kCo ?aCt ?lCt ?cCt ?kCt ?aCh ?lCh ?cCh ?kCh ?aRo ?lRo ?cRo ?kRo ?aSh ?lSh ?cSh ?kSh ?aLc ?lLc ?cLc ?kLc ?aSm ?lSm ?cSm ?kSm ?aPo ?lPo ?cPo ?kPo ?aDr ?lDr ?cDr ?kDr ?aSt ?lSt ?cSt ?kSt ?aSi ?lSi ?cSi ?kSi ?aFi ?lFi ?cFi ?kFi ?aLl ?lLl ?cLl ?kLl ?aWr ?lWr ?cWr ?kWr ?aLo ?lLo ?cLo ?kLo ?aLa ?lLa ?cLa ?kLa ?zisinstance ?ztuple ?zstr ?zbool ?zint ?zlen ?zrange ?zabs ?zsum ?aL ?hL
    (case aPr => k_is)
    (case lPr => k_is)
    (case cPr => k_is)
    (case kPr => k_is)
    (case aSo => k_is)
    (case lSo => k_is)
    (case cSo => k_is)
    (case kSo => k_is)
    (case aLe => k_is)
    (case lLe => k_is)
    (case cLe => k_is)
    (case kLe => k_is)
    (case aCo => k_is)
    (case lCo => k_is)
    (case cCo => k_is)
    (case kCo => k_is)
    (case aCt => k_is)
    (case lCt => k_is)
    (case cCt => k_is)
    (case kCt => k_is)
    (case aCh => k_is)
    (case lCh => k_is)
    (case cCh => k_is)
    (case kCh => k_is)
    (case aRo => k_is)
    (case lRo => k_is)
    (case cRo => k_is)
    (case kRo => k_is)
    (case aSh => k_is)
    (case lSh => k_is)
    (case cSh => k_is)
    (case kSh => k_is)
    (case aLc => k_is)
    (case lLc => k_is)
    (case cLc => k_is)
    (case kLc => k_is)
    (case aSm => k_is)
    (case lSm => k_is)
    (case cSm => k_is)
    (case kSm => k_is)
    (case aPo => k_is)
    (case lPo => k_is)
    (case cPo => k_is)
    (case kPo => k_is)
    (case aDr => k_is)
    (case lDr => k_is)
    (case cDr => k_is)
    (case kDr => k_is)
    (case aSt => k_is)
    (case lSt => k_is)
    (case cSt => k_is)
    (case kSt => k_is)
    (case aSi => k_is)
    (case lSi => k_is)
    (case cSi => k_is)
    (case kSi => k_is)
    (case aFi => k_is)
    (case lFi => k_is)
    (case cFi => k_is)
    (case kFi => k_is)
    (case aLl => k_is)
    (case lLl => k_is)
    (case cLl => k_is)
    (case kLl => k_is)
    (case aWr => k_is)
    (case lWr => k_is)
    (case cWr => k_is)
    (case kWr => k_is)
    (case aLo => k_is)
    (case lLo => k_is)
    (case cLo => k_is)
    (case kLo => k_is)
    (case aLa => k_is)
    (case lLa => k_is)
    (case cLa => k_is)
    (case kLa => k_is)
    (case zisinstance => k_is)
    (case ztuple => k_is)
    (case zstr => k_is)
    (case zbool => k_is)
    (case zint => k_is)
    (case zlen => k_is)
    (case zrange => k_is)
    (case zabs => k_is)
    (case zsum => k_is)
    (case aL => k_is)
    (case hL => rfl)
#print axioms PySem.Challenge.cw_wholewalks_k02_whole_least_contents_holds
