import PyProof.Rows.All
import Wide.All
import OpenK.AllK
import Wide.FinOn
import HandS.ForExc
import HandS.ForMost
import HandS.Defaults
import HandS.Gcd
import HandS.WideBits
import HandS.HeadHook2
import PySem.Challenge.RW_stepswithin_k09_whole_breaks_judged
import KE.KSuper
import KE.KExcSuper
import HandS.ExcInit
import HandS.Exc
import KE.KStateDown
import HandS.Head0
import HandS.Head1
import HandS.Head2
import HandS.Head3
import HandS.HeadHook4
import KE.KExcInit
import HandS.Walk
import HandS.Style
import HandS.IsInst
import HandS.TupAny
import HandS.Deep
import HandS.WordsExc
import HandS.Dict
import HandS.Words
import KE.GoesMore
import KE.GoesEnum
import HandS.Zip
import KE.KRevSl
import HandS.TryMany
import HandS.Lambda
import HandS.ExcIs
import HandS.EndBits
import HandS.EndTab
import HandS.HeadWalk
namespace K9M
/-! coefficients of a list; lists without noughts at the end -/
def coef (l : List Rat) (i : Nat) : Rat := l.getD i 0
theorem coef_nil (i : Nat) : coef [] i = 0 := by simp [coef]
theorem coef_of {l : List Rat} {i : Nat} {x : Rat} (h : l[i]? = some x) : coef l i = x := by simp [coef, List.getD, h]
theorem coef_out {l : List Rat} {i : Nat} (h : l.length ≤ i) : coef l i = 0 := by simp [coef, List.getD, List.getElem?_eq_none h]
theorem coef_lt {l : List Rat} {i : Nat} (h : i < l.length) : coef l i = l[i] := by simp [coef, List.getD, h]
/-- without noughts at the end -/
def trim : List Rat → List Rat
  | [] => []
  | x :: r => if x = 0 ∧ trim r = [] then [] else x :: trim r
theorem coef_trim : ∀ (l : List Rat) (i : Nat), coef (trim l) i = coef l i
  | [], i => rfl
  | x :: r, i => by
    have ih := coef_trim r
    unfold trim
    split
    · rename_i h
      rw [coef_nil]
      cases i with
      | zero => simp [coef, h.1]
      | succ j =>
        have := ih j
        rw [h.2, coef_nil] at this
        simpa [coef] using this
    · cases i with
      | zero => simp [coef]
      | succ j =>
        have := ih j
        simpa [coef] using this
/-- it ends by a number that is not 0, or is empty -/
def Tr (l : List Rat) : Prop := ∀ x, l.getLast? = some x → x ≠ 0
theorem tr_nil : Tr [] := fun x h => by simp at h
theorem tr_trim : ∀ l : List Rat, Tr (trim l)
  | [] => tr_nil
  | x :: r => by
    have ih := tr_trim r
    unfold trim
    split
    · exact tr_nil
    · rename_i h
      intro y hy
      cases hr : trim r with
      | nil =>
        rw [hr] at hy
        simp at hy
        intro z
        exact h ⟨hy.trans z, hr⟩
      | cons a b =>
        rw [hr, List.getLast?_cons_cons] at hy
        rw [hr] at ih
        exact ih y hy
theorem Tr.tail {x : Rat} {r : List Rat} (h : Tr (x :: r)) : Tr r := by
  cases r with
  | nil => exact tr_nil
  | cons a b =>
    intro y hy
    exact h y (by rw [List.getLast?_cons_cons]; exact hy)
theorem tr_eq : ∀ {l : List Rat}, Tr l → trim l = l
  | [], _ => rfl
  | x :: r, h => by
    have ih := tr_eq h.tail
    unfold trim
    rw [ih]
    split
    · rename_i q
      obtain ⟨q1, q2⟩ := q
      subst q2
      exact absurd q1 (h x (by simp))
    · rfl
theorem Tr.zero : ∀ {l : List Rat}, Tr l → (∀ i, coef l i = 0) → l = []
  | [], _, _ => rfl
  | x :: r, h, z => by
    have ih := Tr.zero h.tail (fun i => by simpa [coef] using z (i + 1))
    subst ih
    exact absurd (by simpa [coef] using z 0) (h x (by simp))
theorem Tr.ext : ∀ {l l' : List Rat}, Tr l → Tr l' → (∀ i, coef l i = coef l' i) → l = l'
  | [], l', _, h', e => (Tr.zero h' fun i => by rw [← e i, coef_nil]).symm
  | x :: r, [], h, _, e => Tr.zero h fun i => by rw [e i, coef_nil]
  | x :: r, y :: s, h, h', e => by
    have e0 : x = y := by simpa [coef] using e 0
    have ih := Tr.ext h.tail h'.tail (fun i => by simpa [coef] using e (i + 1))
    rw [e0, ih]
theorem trim_ext {l l' : List Rat} (e : ∀ i, coef l i = coef l' i) : trim l = trim l' :=
  Tr.ext (tr_trim l) (tr_trim l') fun i => by rw [coef_trim, coef_trim, e i]
theorem trim_trim (l : List Rat) : trim (trim l) = trim l := tr_eq (tr_trim l)
theorem trim_len (l : List Rat) : (trim l).length ≤ l.length := by
  induction l with
  | nil => exact Nat.le_refl _
  | cons x r ih =>
    unfold trim
    split
    · simp
    · simp only [List.length_cons]; omega
theorem trim_mem {l : List Rat} {x : Rat} (h : x ∈ trim l) : x ∈ l := by
  induction l with
  | nil => simp [trim] at h
  | cons y r ih =>
    unfold trim at h
    split at h
    · simp at h
    · rcases List.mem_cons.mp h with e | e
      · rw [e]; exact List.mem_cons_self
      · exact List.mem_cons_of_mem _ (ih e)
theorem trim_snoc_zero (l : List Rat) : trim (l ++ [0]) = trim l := trim_ext fun i => by
  unfold coef
  by_cases h : i < l.length
  · simp [List.getD, List.getElem?_append_left h]
  · simp only [List.getD]
    rw [List.getElem?_append_right (by omega), List.getElem?_eq_none (l := l) (by omega)]
    cases hk : i - l.length <;> simp
theorem trim_snoc {l : List Rat} {x : Rat} (h : x ≠ 0) : trim (l ++ [x]) = l ++ [x] := tr_eq fun y hy => by
  rw [List.getLast?_concat] at hy
  cases hy
  exact h
theorem trim_take (l : List Rat) : trim l = l.take (trim l).length := by
  induction l with
  | nil => rfl
  | cons x r ih =>
    unfold trim
    split
    · simp
    · simp only [List.length_cons, List.take_succ_cons]
      rw [← ih]
/-- sums -/
def addL : List Rat → List Rat → List Rat
  | [], m => m
  | l, [] => l
  | x :: l, y :: m => (x + y) :: addL l m
theorem coef_addL : ∀ (l m : List Rat) (i : Nat), coef (addL l m) i = coef l i + coef m i
  | [], m, i => by rw [coef_nil, Rat.zero_add]; rfl
  | x :: l, [], i => by rw [coef_nil, Rat.add_zero]; rfl
  | x :: l, y :: m, 0 => by simp [addL, coef]
  | x :: l, y :: m, i + 1 => by
    have := coef_addL l m i
    simpa [addL, coef] using this
theorem coef_set {l : List Rat} {k : Nat} {w : Rat} (h : k < l.length) (i : Nat) : coef (l.set k w) i = if i = k then w else coef l i := by
  unfold coef
  simp only [List.getD, List.getElem?_set]
  by_cases e : i = k
  · subst e; simp [h]
  · have : ¬ k = i := fun z => e z.symm
    simp [this, e]
theorem coef_mono (k : Nat) (w : Rat) (i : Nat) : coef (List.replicate k 0 ++ [w]) i = if i = k then w else 0 := by
  unfold coef
  simp only [List.getD]
  by_cases h : i < k
  · rw [List.getElem?_append_left (by simpa using h), List.getElem?_replicate]
    simp [h, Nat.ne_of_lt h]
  · rw [List.getElem?_append_right (by simpa using h), List.length_replicate]
    by_cases e : i = k
    · subst e; simp
    · have h2 : i - k ≠ 0 := by omega
      cases hk : i - k with
      | zero => exact absurd hk h2
      | succ j => simp [e]
/-- the quotient grows by one number -/
theorem trim_grow {f : List Rat} {k : Nat} {w : Rat} (h : k < f.length) (z : coef f k = 0) : trim (addL (trim f) (trim (List.replicate k 0 ++ [w]))) = trim (f.set k w) := trim_ext fun i => by
  rw [coef_addL, coef_trim, coef_trim, coef_mono, coef_set h]
  split
  · rename_i e
    rw [e, z]; grind
  · grind
end K9M

namespace K9M
/-! fractions in lowest terms -/
theorem as_div (q : Rat) : q = (q.num : Rat) / (q.den : Rat) := by
  have := Rat.mkRat_self q
  rw [Rat.mkRat_eq_div] at this
  exact this.symm
theorem den_pos (q : Rat) : (0 : Int) < (q.den : Int) := by
  have := q.den_nz
  omega
def gcdI (a b : Int) : Int := ((Nat.gcd a.natAbs b.natAbs : Nat) : Int)
theorem gcdI_pos {a b : Int} (hb : b ≠ 0) : 0 < gcdI a b := by
  unfold gcdI
  have : 0 < Nat.gcd a.natAbs b.natAbs := Nat.gcd_pos_of_pos_right _ (by omega)
  omega
theorem gcdI_dl (a b : Int) : gcdI a b ∣ a := by
  unfold gcdI
  exact Int.ofNat_dvd_left.mpr (Nat.gcd_dvd_left _ _)
theorem gcdI_dr (a b : Int) : gcdI a b ∣ b := by
  unfold gcdI
  exact Int.ofNat_dvd_left.mpr (Nat.gcd_dvd_right _ _)
theorem gcdI_le {a b : Int} (hb : b ≠ 0) : (gcdI a b).natAbs ≤ b.natAbs := by
  unfold gcdI
  rw [Int.natAbs_natCast]
  exact Nat.le_of_dvd (by omega) (Nat.gcd_dvd_right _ _)
/-- a / b in lowest terms, b positive -/
theorem frac_pos (a b : Int) (hb : 0 < b) : ((a : Rat) / (b : Rat)).num = a / gcdI a b ∧ (((a : Rat) / (b : Rat)).den : Int) = b / gcdI a b := by
  rw [← Rat.divInt_eq_div]
  constructor
  · rw [Rat.num_divInt, Int.sign_eq_one_of_pos hb, Int.one_mul]
    show a / ((Nat.gcd b.natAbs a.natAbs : Nat) : Int) = _
    rw [Nat.gcd_comm]; rfl
  · rw [Rat.den_divInt, if_neg (by omega)]
    show ((b.natAbs / Nat.gcd b.natAbs a.natAbs : Nat) : Int) = _
    rw [Nat.gcd_comm, Int.natCast_ediv]
    have : ((b.natAbs : Nat) : Int) = b := by omega
    rw [this]; rfl
/-- any b but 0: by floor division and a sign -/
def sgcd (a b : Int) : Int := if b < 0 then -gcdI a b else gcdI a b
theorem sgcd_ne {a b : Int} (hb : b ≠ 0) : sgcd a b ≠ 0 := by
  have := gcdI_pos (a := a) hb
  unfold sgcd
  split <;> omega
theorem fdiv_neg_of_dvd {a g : Int} (hg : 0 < g) (h : g ∣ a) : a.fdiv (-g) = -(a / g) := by
  obtain ⟨k, rfl⟩ := h
  rw [Int.mul_ediv_cancel_left _ (by omega)]
  rw [show g * k = (-g) * (-k) by rw [Int.neg_mul_neg]]
  exact Int.mul_fdiv_cancel_left _ (by omega)
theorem fdiv_pos_of {a g : Int} (hg : 0 < g) : a.fdiv g = a / g := Int.fdiv_eq_ediv_of_nonneg a (by omega)
theorem frac_any (a b : Int) (hb : b ≠ 0) : ((a : Rat) / (b : Rat)).num = a.fdiv (sgcd a b) ∧ (((a : Rat) / (b : Rat)).den : Int) = b.fdiv (sgcd a b) := by
  have hg := gcdI_pos (a := a) hb
  unfold sgcd
  split
  · rename_i h
    have e : ((a : Rat) / (b : Rat)) = (((-a : Int) : Rat) / ((-b : Int) : Rat)) := by
      have : (b : Rat) ≠ 0 := by
        intro z
        exact hb (Rat.intCast_eq_zero_iff.mp z)
      rw [Rat.intCast_neg, Rat.intCast_neg]
      grind
    have q := frac_pos (-a) (-b) (by omega)
    have eg : gcdI (-a) (-b) = gcdI a b := by unfold gcdI; rw [Int.natAbs_neg, Int.natAbs_neg]
    rw [e, q.1, q.2, eg, fdiv_neg_of_dvd hg (gcdI_dl a b), fdiv_neg_of_dvd hg (gcdI_dr a b)]
    exact ⟨Int.neg_ediv_of_dvd (gcdI_dl a b), Int.neg_ediv_of_dvd (gcdI_dr a b)⟩
  · rw [fdiv_pos_of hg, fdiv_pos_of hg]
    exact frac_pos a b (by omega)
/-! bounds: q times D is an integer below 2 ^ R in size -/
def Bd (R : Nat) (D : Int) (q : Rat) : Prop := ∃ z : Int, q * (D : Rat) = (z : Rat) ∧ z.natAbs < 2 ^ R
def SC (R : Nat) (D : Int) (l : List Rat) : Prop := ∀ q ∈ l, Bd R D q
theorem cast_ne {D : Int} (h : D ≠ 0) : (D : Rat) ≠ 0 := fun z => h (Rat.intCast_eq_zero_iff.mp z)
theorem Bd.num_mul {R : Nat} {D : Int} {q : Rat} {z : Int} (e : q * (D : Rat) = (z : Rat)) : q.num * D = z * (q.den : Int) := by
  have h := as_div q
  have hd : ((q.den : Int) : Rat) ≠ 0 := cast_ne (by have := den_pos q; omega)
  have h2 : (q.den : Rat) = (((q.den : Nat) : Int) : Rat) := rfl
  have : (((q.num * D : Int)) : Rat) = ((z * (q.den : Int) : Int) : Rat) := by
    rw [Rat.intCast_mul, Rat.intCast_mul, ← e]
    rw [h2] at h
    have h3 : (q.num : Rat) = q * ((q.den : Int) : Rat) := by
      have := Rat.div_mul_cancel (a := (q.num : Rat)) hd
      rw [← h] at this
      exact this.symm
    rw [h3]
    grind
  exact Rat.intCast_inj.mp this
theorem Bd.den_dvd {R : Nat} {D : Int} {q : Rat} (h : Bd R D q) : (q.den : Int) ∣ D := by
  obtain ⟨z, e, _⟩ := h
  have k := Bd.num_mul (R := R) e
  have cop : Nat.Coprime q.den q.num.natAbs := Nat.Coprime.symm q.reduced
  have : (q.den : Int) ∣ q.num * D := ⟨z, by rw [k, Int.mul_comm]⟩
  have h2 : q.den ∣ q.num.natAbs * D.natAbs := by
    have := Int.natAbs_dvd_natAbs.mpr this
    rw [Int.natAbs_mul, Int.natAbs_natCast] at this
    exact this
  exact Int.ofNat_dvd_left.mpr (Nat.Coprime.dvd_of_dvd_mul_left cop h2)
theorem Bd.den_le {R : Nat} {D : Int} {q : Rat} (h : Bd R D q) (hD : 0 < D) : (q.den : Int) ≤ D := Int.le_of_dvd hD h.den_dvd
theorem Bd.num_lt {R : Nat} {D : Int} {q : Rat} (h : Bd R D q) (hD : 0 < D) : q.num.natAbs < 2 ^ R := by
  obtain ⟨k, hk⟩ := h.den_dvd
  obtain ⟨z, e, hz⟩ := h
  have m := Bd.num_mul (R := R) e
  have hd := den_pos q
  have kp : 0 < k := by
    rcases Int.lt_or_le 0 k with h | h
    · exact h
    · have : (q.den : Int) * k ≤ 0 := Int.mul_nonpos_of_nonneg_of_nonpos (by omega) h
      omega
  have e2 : z = q.num * k := by
    rw [hk] at m
    have : (q.den : Int) * (q.num * k) = (q.den : Int) * z := by
      rw [Int.mul_comm (q.den : Int) z, ← m]
      grind
    exact (Int.eq_of_mul_eq_mul_left (by omega) this).symm
  have : q.num.natAbs ≤ z.natAbs := by
    rw [e2, Int.natAbs_mul]
    exact Nat.le_mul_of_pos_right _ (by omega)
  omega
theorem Bd.mono {R S : Nat} {D : Int} {q : Rat} (h : Bd R D q) (hs : R ≤ S) : Bd S D q := by
  obtain ⟨z, e, hz⟩ := h
  exact ⟨z, e, Nat.lt_of_lt_of_le hz (Nat.pow_le_pow_right (by omega) hs)⟩
theorem Bd.scale {R S : Nat} {D E : Int} {q : Rat} (h : Bd R D q) (hE : E.natAbs ≤ 2 ^ S) : Bd (R + S) (D * E) q := by
  obtain ⟨z, e, hz⟩ := h
  refine ⟨z * E, by rw [Rat.intCast_mul, Rat.intCast_mul, ← e]; grind, ?_⟩
  rw [Int.natAbs_mul, Nat.pow_add]
  exact Nat.lt_of_le_of_lt (Nat.mul_le_mul_left _ hE) (Nat.mul_lt_mul_of_pos_right hz (Nat.two_pow_pos S))
theorem Bd.add {R : Nat} {D : Int} {p q : Rat} (h : Bd R D p) (k : Bd R D q) : Bd (R + 1) D (p + q) := by
  obtain ⟨z, e, hz⟩ := h
  obtain ⟨y, f, hy⟩ := k
  refine ⟨z + y, by rw [Rat.intCast_add, ← e, ← f]; grind, ?_⟩
  rw [Nat.pow_succ]
  have := Int.natAbs_add_le z y
  omega
theorem Bd.sub {R : Nat} {D : Int} {p q : Rat} (h : Bd R D p) (k : Bd R D q) : Bd (R + 1) D (p - q) := by
  obtain ⟨z, e, hz⟩ := h
  obtain ⟨y, f, hy⟩ := k
  refine ⟨z - y, by rw [Rat.intCast_sub, ← e, ← f]; grind, ?_⟩
  rw [Nat.pow_succ]
  have := Int.natAbs_sub_le z y
  omega
theorem Bd.mul {R S : Nat} {D E : Int} {p q : Rat} (h : Bd R D p) (k : Bd S E q) : Bd (R + S) (D * E) (p * q) := by
  obtain ⟨z, e, hz⟩ := h
  obtain ⟨y, f, hy⟩ := k
  refine ⟨z * y, by rw [Rat.intCast_mul, Rat.intCast_mul, ← e, ← f]; grind, ?_⟩
  rw [Int.natAbs_mul, Nat.pow_add]
  exact Nat.mul_lt_mul'' hz hy
theorem Bd.zero (R : Nat) (D : Int) : Bd R D 0 := ⟨0, by rw [Rat.zero_mul]; rfl, by simpa using Nat.two_pow_pos R⟩
theorem Bd.neg {R : Nat} {D : Int} {q : Rat} (h : Bd R D q) : Bd R D (-q) := by
  obtain ⟨z, e, hz⟩ := h
  exact ⟨-z, by rw [Rat.intCast_neg, ← e, Rat.neg_mul], by rw [Int.natAbs_neg]; exact hz⟩
theorem Bd.int {R : Nat} {z : Int} (h : z.natAbs < 2 ^ R) : Bd R 1 (z : Rat) := ⟨z, by rw [Rat.intCast_one, Rat.mul_one], h⟩
theorem SC.mono {R S : Nat} {D : Int} {l : List Rat} (h : SC R D l) (hs : R ≤ S) : SC S D l := fun q hq => (h q hq).mono hs
theorem SC.scale {R S : Nat} {D E : Int} {l : List Rat} (h : SC R D l) (hE : E.natAbs ≤ 2 ^ S) : SC (R + S) (D * E) l := fun q hq => (h q hq).scale hE
theorem SC.trim {R : Nat} {D : Int} {l : List Rat} (h : SC R D l) : SC R D (trim l) := fun q hq => h q (trim_mem hq)
theorem SC.coef {R : Nat} {D : Int} {l : List Rat} (h : SC R D l) (i : Nat) : Bd R D (coef l i) := by
  by_cases k : i < l.length
  · rw [coef_lt k]
    exact h _ (List.getElem_mem k)
  · rw [coef_out (by omega)]
    exact Bd.zero R D
/-! a polynomial as the program has it: integers over a positive number, without a common divisor -/
structure IsP (ns : List Int) (b : Int) (P : List Rat) : Prop where
  pos : 0 < b
  val : ns.map (fun n : Int => (n : Rat) / (b : Rat)) = P
  low : ∀ c : Int, (∀ n ∈ ns, b ∣ c * n) → b ∣ c
theorem IsP.len {ns : List Int} {b : Int} {P : List Rat} (h : IsP ns b P) : ns.length = P.length := by rw [← h.val, List.length_map]
theorem IsP.get {ns : List Int} {b : Int} {P : List Rat} (h : IsP ns b P) {i : Nat} {n : Int} (e : ns[i]? = some n) : P[i]? = some ((n : Rat) / (b : Rat)) := by
  rw [← h.val, List.getElem?_map, e]; rfl
theorem IsP.bne {ns : List Int} {b : Int} {P : List Rat} (h : IsP ns b P) : (b : Rat) ≠ 0 := cast_ne (by have := h.pos; omega)
/-- the line's number divides every common denominator -/
theorem IsP.dvd {ns : List Int} {b : Int} {P : List Rat} (h : IsP ns b P) {R : Nat} {D : Int} (s : SC R D P) : b ∣ D := by
  refine h.low D fun n hn => ?_
  have hq : (n : Rat) / (b : Rat) ∈ P := by
    rw [← h.val]
    exact List.mem_map.mpr ⟨n, hn, rfl⟩
  obtain ⟨z, e, _⟩ := s _ hq
  refine ⟨z, ?_⟩
  have : ((D * n : Int) : Rat) = ((b * z : Int) : Rat) := by
    rw [Rat.intCast_mul, Rat.intCast_mul, ← e]
    have := h.bne
    grind
  exact Rat.intCast_inj.mp this
theorem IsP.le {ns : List Int} {b : Int} {P : List Rat} (h : IsP ns b P) {R : Nat} {D : Int} (s : SC R D P) (hD : 0 < D) : b ≤ D := Int.le_of_dvd hD (h.dvd s)
theorem IsP.lt {ns : List Int} {b : Int} {P : List Rat} (h : IsP ns b P) {R : Nat} {D : Int} (s : SC R D P) (hD : 0 < D) : ∀ n ∈ ns, n.natAbs < 2 ^ R := by
  intro n hn
  obtain ⟨k, hk⟩ := h.dvd s
  have hb := h.pos
  have kp : 0 < k := by
    rcases Int.lt_or_le 0 k with q | q
    · exact q
    · have : b * k ≤ 0 := Int.mul_nonpos_of_nonneg_of_nonpos (by omega) q
      omega
  have hq : (n : Rat) / (b : Rat) ∈ P := by
    rw [← h.val]
    exact List.mem_map.mpr ⟨n, hn, rfl⟩
  obtain ⟨z, e, hz⟩ := s _ hq
  have e2 : z = n * k := by
    have : ((n * k : Int) : Rat) = (z : Rat) := by
      rw [← e, hk, Rat.intCast_mul, Rat.intCast_mul]
      have := h.bne
      grind
    exact (Rat.intCast_inj.mp this).symm
  have : n.natAbs ≤ z.natAbs := by
    rw [e2, Int.natAbs_mul]
    exact Nat.le_mul_of_pos_right _ (by omega)
  omega
/-! taking out what is common -/
def gcdL (b : Int) : List Int → Int
  | [] => gcdI b 0
  | n :: ns => gcdI (gcdL b ns) n
def gfold (g : Int) : List Int → Int
  | [] => g
  | n :: ns => gfold (gcdI g n) ns
theorem gfold_spec : ∀ (ns : List Int) (g : Int), g ≠ 0 → 0 ≤ g → 0 < gfold g ns ∧ gfold g ns ∣ g ∧ (∀ n ∈ ns, gfold g ns ∣ n) ∧ ∀ x c : Int, x ∣ c * g → (∀ n ∈ ns, x ∣ c * n) → x ∣ c * gfold g ns
  | [], g, h, h0 => ⟨by show 0 < g; omega, Int.dvd_refl g, fun n hn => by simp at hn, fun x c hx _ => hx⟩
  | m :: ns, g, h, h0 => by
    have g1 : 0 < gcdI g m := by
      unfold gcdI
      have : 0 < Nat.gcd g.natAbs m.natAbs := Nat.gcd_pos_of_pos_left _ (by omega)
      omega
    obtain ⟨a, b, c, d⟩ := gfold_spec ns (gcdI g m) (by omega) (by omega)
    refine ⟨a, Int.dvd_trans b (gcdI_dl g m), fun n hn => ?_, fun x k hx hn => ?_⟩
    · rcases List.mem_cons.mp hn with e | e
      · rw [e]
        exact Int.dvd_trans b (gcdI_dr g m)
      · exact c n e
    · refine d x k ?_ fun n h => hn n (List.mem_cons_of_mem _ h)
      have h1 : x.natAbs ∣ k.natAbs * g.natAbs := by rw [← Int.natAbs_mul]; exact Int.natAbs_dvd_natAbs.mpr hx
      have h2 : x.natAbs ∣ k.natAbs * m.natAbs := by rw [← Int.natAbs_mul]; exact Int.natAbs_dvd_natAbs.mpr (hn m List.mem_cons_self)
      have h3 : x.natAbs ∣ k.natAbs * Nat.gcd g.natAbs m.natAbs := by
        rw [← Nat.gcd_mul_left]
        exact Nat.dvd_gcd h1 h2
      refine Int.natAbs_dvd_natAbs.mp ?_
      rw [Int.natAbs_mul]
      unfold gcdI
      rw [Int.natAbs_natCast]
      exact h3
theorem isP_of {ns : List Int} {b : Int} (hb : 0 < b) : IsP (ns.map (· / gfold b ns)) (b / gfold b ns) (ns.map fun n : Int => (n : Rat) / (b : Rat)) := by
  obtain ⟨g0, g1, g2, g3⟩ := gfold_spec ns b (by omega) (by omega)
  obtain ⟨k, hk⟩ := g1
  have kp : 0 < k := by
    rcases Int.lt_or_le 0 k with q | q
    · exact q
    · have : gfold b ns * k ≤ 0 := Int.mul_nonpos_of_nonneg_of_nonpos (by omega) q
      omega
  have eb : b / gfold b ns = k := by
    conv => lhs; lhs; rw [hk]
    exact Int.mul_ediv_cancel_left _ (by omega)
  rw [eb]
  have hg : (gfold b ns : Rat) ≠ 0 := cast_ne (by omega)
  have hkr : (k : Rat) ≠ 0 := cast_ne (by omega)
  refine ⟨kp, ?_, fun c hc => ?_⟩
  · rw [List.map_map]
    refine List.map_congr_left fun n hn => ?_
    obtain ⟨j, hj⟩ := g2 n hn
    have ej : n / gfold b ns = j := by
      conv => lhs; lhs; rw [hj]
      exact Int.mul_ediv_cancel_left _ (by omega)
    show ((n / gfold b ns : Int) : Rat) / (k : Rat) = (n : Rat) / (b : Rat)
    rw [ej]
    have e1 : (n : Rat) = (gfold b ns : Rat) * (j : Rat) := by rw [← Rat.intCast_mul, ← hj]
    have e2 : (b : Rat) = (gfold b ns : Rat) * (k : Rat) := by rw [← Rat.intCast_mul, ← hk]
    rw [e1, e2]
    grind
  · have h1 : b ∣ (c * gfold b ns) := by
      have := g3 b c (Int.dvd_mul_left ..) fun n hn => ?_
      · exact this
      · obtain ⟨j, hj⟩ := g2 n hn
        have ej : n / gfold b ns = j := by
          conv => lhs; lhs; rw [hj]
          exact Int.mul_ediv_cancel_left _ (by omega)
        obtain ⟨i, hi⟩ := hc (n / gfold b ns) (List.mem_map.mpr ⟨n, hn, rfl⟩)
        rw [ej] at hi
        refine ⟨i, ?_⟩
        calc c * n = c * (gfold b ns * j) := by rw [← hj]
          _ = gfold b ns * (c * j) := by grind
          _ = gfold b ns * (k * i) := by rw [hi]
          _ = (gfold b ns * k) * i := by grind
          _ = b * i := by rw [← hk]
    obtain ⟨i, hi⟩ := h1
    refine ⟨i, ?_⟩
    have : gfold b ns * c = gfold b ns * (k * i) := by
      rw [Int.mul_comm, hi]
      calc b * i = (gfold b ns * k) * i := by rw [← hk]
        _ = _ := by grind
    exact Int.eq_of_mul_eq_mul_left (by omega) this
/-- zeros at the end of the integers are zeros at the end of the numbers -/
def itrim : List Int → List Int
  | [] => []
  | x :: r => if x = 0 ∧ itrim r = [] then [] else x :: itrim r
theorem trim_map (b : Int) (hb : b ≠ 0) : ∀ ns : List Int, trim (ns.map fun n : Int => (n : Rat) / (b : Rat)) = (itrim ns).map fun n : Int => (n : Rat) / (b : Rat)
  | [] => rfl
  | x :: r => by
    have ih := trim_map b hb r
    have hz : ((x : Rat) / (b : Rat) = 0) ↔ x = 0 := by
      have := cast_ne hb
      constructor
      · intro h
        have : (x : Rat) = 0 := by grind
        exact Rat.intCast_eq_zero_iff.mp this
      · intro h
        rw [h]
        show ((0 : Int) : Rat) / (b : Rat) = 0
        rw [Rat.intCast_zero]
        grind
    show trim ((x : Rat) / (b : Rat) :: r.map fun n : Int => (n : Rat) / (b : Rat)) = _
    unfold trim itrim
    rw [ih]
    by_cases h : x = 0 ∧ itrim r = []
    · rw [if_pos h, if_pos ⟨hz.mpr h.1, by rw [h.2]; rfl⟩]; rfl
    · rw [if_neg h, if_neg (fun q => h ⟨hz.mp q.1, by simpa using q.2⟩)]; rfl
theorem itrim_take (ns : List Int) : itrim ns = ns.take (itrim ns).length := by
  induction ns with
  | nil => rfl
  | cons x r ih =>
    unfold itrim
    split
    · simp
    · simp only [List.length_cons, List.take_succ_cons]
      rw [← ih]
/-- how the loop of reduced finds the length: from m down while the last number is 0 -/
theorem itrim_len : ∀ (ns : List Int) (m : Nat), m ≤ ns.length → (∀ i x, m ≤ i → ns[i]? = some x → x = 0) → (m = 0 ∨ ∃ x, ns[m - 1]? = some x ∧ x ≠ 0) → (itrim ns).length = m
  | [], m, h, _, _ => by simp at h; subst h; rfl
  | x :: r, 0, _, h, _ => by
    have : itrim r = [] := List.length_eq_zero_iff.mp (itrim_len r 0 (by omega) (fun i y hi e => h (i + 1) y (by omega) (by simpa using e)) (.inl rfl))
    unfold itrim
    rw [if_pos ⟨h 0 x (by omega) rfl, this⟩]; rfl
  | x :: r, m + 1, hm, h, hx => by
    have hm' : m ≤ r.length := by simpa using hm
    obtain ⟨y, e, ne⟩ := hx.resolve_left (by omega)
    have ih : (itrim r).length = m := by
      refine itrim_len r m hm' (fun i z hi e => h (i + 1) z (by omega) (by simpa using e)) ?_
      cases m with
      | zero => exact .inl rfl
      | succ j => exact .inr ⟨y, by simpa using e, ne⟩
    unfold itrim
    rw [if_neg]
    · simp [ih]
    · intro q
      have hm0 : m = 0 := by rw [← ih, q.2]; rfl
      subst hm0
      simp at e
      exact ne (e ▸ q.1)
theorem isP_trim {ns : List Int} {b : Int} (hb : 0 < b) : IsP ((itrim ns).map (· / gfold b (itrim ns))) (b / gfold b (itrim ns)) (trim (ns.map fun n : Int => (n : Rat) / (b : Rat))) := by
  rw [trim_map b (by omega)]
  exact isP_of hb
theorem gfold_le {ns : List Int} {b : Int} (hb : 0 < b) : gfold b ns ≤ b := by
  obtain ⟨g0, g1, _, _⟩ := gfold_spec ns b (by omega) (by omega)
  exact Int.le_of_dvd hb g1
theorem gcdI_zero {b : Int} (hb : 0 < b) : gcdI b 0 = b := by
  unfold gcdI
  simp
  omega
end K9M

namespace K9M
/-! division by a list that ends by 1 -/
def lastQ (l : List Rat) : Rat := coef l (l.length - 1)
theorem lastQ_get {l : List Rat} (h : l ≠ []) : l[l.length - 1]? = some (lastQ l) := by
  have : l.length - 1 < l.length := by
    have := List.length_pos_iff.mpr h
    omega
  unfold lastQ
  rw [coef_lt this, List.getElem?_eq_getElem this]
theorem lastQ_ne {l : List Rat} (h : l ≠ []) (t : Tr l) : lastQ l ≠ 0 := t _ (by rw [List.getLast?_eq_getElem?]; exact lastQ_get h)
/-- r less w times the base, the base moved up to r's end -/
def less (w : Rat) (U r : List Rat) : List Rat := List.zipWith (fun x y => x - w * y) r (List.replicate (r.length - U.length) 0 ++ U)
def stepR (U r : List Rat) : List Rat := trim (less (lastQ r) U r)
/-- the found numbers, the rest; n: as many turns at most -/
def divF (U : List Rat) : Nat → List Rat → List Rat → List Rat × List Rat
  | 0, f, r => (f, r)
  | n + 1, f, r => if r.length < U.length then (f, r) else divF U n (f.set (r.length - U.length) (lastQ r)) (stepR U r)
def divQ (U P : List Rat) : List Rat × List Rat := divF U P.length (List.replicate (max 1 (P.length + 1 - U.length)) 0) P
theorem less_len {w : Rat} {U r : List Rat} (h : U.length ≤ r.length) : (less w U r).length = r.length := by
  unfold less
  simp
  omega
theorem trim_lt {l : List Rat} (h : l ≠ []) (z : lastQ l = 0) : (trim l).length < l.length := by
  rcases Nat.lt_or_ge (trim l).length l.length with q | q
  · exact q
  · exfalso
    have e := trim_take l
    rw [List.take_of_length_le q] at e
    have t := tr_trim l
    rw [e] at t
    exact lastQ_ne h t z
theorem less_last {U r : List Rat} (hU : U ≠ []) (h : U.length ≤ r.length) (m : lastQ U = 1) : lastQ (less (lastQ r) U r) = 0 := by
  have hr : r ≠ [] := by
    intro z
    subst z
    have := List.length_pos_iff.mpr hU
    simp at h
    exact hU h
  have hp := List.length_pos_iff.mpr hU
  refine coef_of (x := 0) ?_
  rw [less_len h]
  unfold less
  rw [List.getElem?_zipWith, lastQ_get hr]
  rw [List.getElem?_append_right (by simp; omega)]
  rw [List.length_replicate, show r.length - 1 - (r.length - U.length) = U.length - 1 by omega, lastQ_get hU, m]
  simp only [Option.some.injEq]
  grind
theorem stepR_lt {U r : List Rat} (hU : U ≠ []) (h : U.length ≤ r.length) (m : lastQ U = 1) : (stepR U r).length < r.length := by
  unfold stepR
  have hl := less_len (w := lastQ r) h
  rw [← hl]
  refine trim_lt (fun z => ?_) (by rw [← less_last hU h m])
  have := List.length_pos_iff.mpr hU
  rw [z] at hl
  simp at hl
  omega
theorem stepR_tr (U r : List Rat) : Tr (stepR U r) := tr_trim _
/-- enough turns: the rest is shorter than the base -/
theorem divF_short {U : List Rat} (hU : U ≠ []) (m : lastQ U = 1) : ∀ (n : Nat) (f r : List Rat), r.length ≤ n → (divF U n f r).2.length < U.length
  | 0, f, r, h => by
    have := List.length_pos_iff.mpr hU
    show r.length < _
    omega
  | n + 1, f, r, h => by
    unfold divF
    split
    · assumption
    · rename_i q
      have := stepR_lt hU (Nat.le_of_not_lt q) m
      exact divF_short hU m n _ _ (by omega)
theorem divF_tr {U : List Rat} : ∀ (n : Nat) (f r : List Rat), Tr r → Tr (divF U n f r).2
  | 0, f, r, h => h
  | n + 1, f, r, h => by
    unfold divF
    split
    · exact h
    · exact divF_tr n _ _ (stepR_tr _ _)
theorem divF_len {U : List Rat} : ∀ (n : Nat) (f r : List Rat), (divF U n f r).1.length = f.length
  | 0, f, r => rfl
  | n + 1, f, r => by
    unfold divF
    split
    · rfl
    · rw [divF_len n]; simp
/-- further turns change nothing once the rest is short -/
theorem divF_more {U : List Rat} (hU : U ≠ []) (m : lastQ U = 1) : ∀ (n k : Nat) (f r : List Rat), r.length ≤ n → r.length ≤ k → divF U n f r = divF U k f r
  | 0, 0, f, r, _, _ => rfl
  | 0, k + 1, f, r, h, _ => by
    have := List.length_pos_iff.mpr hU
    unfold divF
    rw [if_pos (by omega)]
  | n + 1, 0, f, r, _, h => by
    have := List.length_pos_iff.mpr hU
    unfold divF
    rw [if_pos (by omega)]
  | n + 1, k + 1, f, r, h1, h2 => by
    unfold divF
    split
    · rfl
    · rename_i q
      have := stepR_lt hU (Nat.le_of_not_lt q) m
      exact divF_more hU m n k _ _ (by omega) (by omega)
theorem divF_turn {U : List Rat} (hU : U ≠ []) (m : lastQ U = 1) {f r : List Rat} {n : Nat} (hn : r.length ≤ n) (h : U.length ≤ r.length) : divF U n f r = divF U n (f.set (r.length - U.length) (lastQ r)) (stepR U r) := by
  have hp := List.length_pos_iff.mpr hU
  cases n with
  | zero => omega
  | succ n =>
    conv => lhs; unfold divF
    rw [if_neg (by omega)]
    have := stepR_lt hU h m
    exact divF_more hU m n (n + 1) _ _ (by omega) (by omega)
theorem divF_end {U : List Rat} {f r : List Rat} {n : Nat} (h : r.length < U.length) : divF U n f r = (f, r) := by
  cases n with
  | zero => rfl
  | succ n =>
    unfold divF
    rw [if_pos h]
/-! bounds of a division -/
theorem less_SC {R S b c : Nat} {D B : Int} {w : Rat} {U r : List Rat} (hr : SC R D r) (hw : Bd R D w) (hU : SC S B U) (hB : B.natAbs ≤ 2 ^ b) (h1 : b ≤ c) (h2 : S ≤ c) : SC (R + (c + 1)) (D * B) (less w U r) := by
  intro q hq
  unfold less at hq
  obtain ⟨i, hi, e⟩ := List.mem_iff_getElem.mp hq
  rw [List.getElem_zipWith] at e
  have m1 : r[i]'(by simp at hi; omega) ∈ r := List.getElem_mem _
  have m2 := List.getElem_mem (l := List.replicate (r.length - U.length) 0 ++ U) (n := i) (by simp at hi ⊢; omega)
  have b2 : Bd S B ((List.replicate (r.length - U.length) 0 ++ U)[i]'(by simp at hi ⊢; omega)) := by
    rcases List.mem_append.mp m2 with z | z
    · rw [(List.mem_replicate.mp z).2]
      exact Bd.zero S B
    · exact hU _ z
  rw [← e]
  have q1 : Bd (R + c) (D * B) (r[i]'(by simp at hi; omega)) := ((hr _ m1).scale hB).mono (by omega)
  have q2 := (hw.mul b2).mono (S := R + c) (by omega)
  exact Bd.sub q1 q2
theorem pow_nat {B : Int} {b : Nat} (h : B.natAbs ≤ 2 ^ b) (k : Nat) : (B ^ k).natAbs ≤ 2 ^ (b * k) := by
  induction k with
  | zero => simp
  | succ k ih =>
    rw [Int.pow_succ, Int.natAbs_mul, Nat.mul_succ, Nat.pow_add]
    exact Nat.mul_le_mul ih h
theorem SC.set {R : Nat} {D : Int} {f : List Rat} (h : SC R D f) {k : Nat} {w : Rat} (hw : Bd R D w) : SC R D (f.set k w) := fun q hq => by
  rcases List.mem_or_eq_of_mem_set hq with z | z
  · exact h q z
  · rw [z]; exact hw
theorem divF_SC {S b c : Nat} {B : Int} {U : List Rat} (hU0 : U ≠ []) (m : lastQ U = 1) (hU : SC S B U) (hB : B.natAbs ≤ 2 ^ b) (h1 : b ≤ c) (h2 : S ≤ c) : ∀ (n k R : Nat) (D : Int) (f r : List Rat), SC R D f → SC R D r → r.length < U.length + k →
    SC (R + k * (c + 1)) (D * B ^ k) (divF U n f r).1 ∧ SC (R + k * (c + 1)) (D * B ^ k) (divF U n f r).2 := by
  have up : ∀ {k R : Nat} {D : Int} {l : List Rat}, SC R D l → SC (R + k * (c + 1)) (D * B ^ k) l := fun {k R D l} h =>
    (h.scale (pow_nat hB k)).mono (by
      have : b * k ≤ k * (c + 1) := by
        rw [Nat.mul_comm]
        exact Nat.mul_le_mul_left _ (by omega)
      omega)
  intro n
  induction n with
  | zero => exact fun k R D f r hf hr _ => ⟨up hf, up hr⟩
  | succ n ih =>
    intro k R D f r hf hr hk
    unfold divF
    split
    · exact ⟨up hf, up hr⟩
    · rename_i q
      have q := Nat.le_of_not_lt q
      cases k with
      | zero => omega
      | succ k =>
        have lt := stepR_lt hU0 q m
        have hw : Bd R D (lastQ r) := hr.coef _
        have a1 : SC (R + (c + 1)) (D * B) (stepR U r) := (less_SC hr hw hU hB h1 h2).trim
        have a2 : SC (R + (c + 1)) (D * B) (f.set (r.length - U.length) (lastQ r)) := ((hf.set hw).scale hB).mono (by omega)
        have z := ih k (R + (c + 1)) (D * B) _ _ a2 a1 (by omega)
        have e1 : R + (c + 1) + k * (c + 1) = R + (k + 1) * (c + 1) := by rw [Nat.succ_mul]; omega
        have e2 : D * B * B ^ k = D * B ^ (k + 1) := by rw [Int.pow_succ]; grind
        rw [e1, e2] at z
        exact z
/-! remainders in powers -/
def rems (U : List Rat) : Nat → List Rat → List (List Rat)
  | 0, _ => []
  | n + 1, P => if P = [] then [] else (divQ U P).2 :: rems U n (trim (divQ U P).1)
theorem quot_len (U P : List Rat) : (trim (divQ U P).1).length ≤ max 1 (P.length + 1 - U.length) := by
  have := trim_len (divQ U P).1
  unfold divQ at *
  rw [divF_len, List.length_replicate] at this
  exact this
theorem divF_id (U : List Rat) (n : Nat) (f r : List Rat) (h : r.length < U.length) : divF U n f r = (f, r) := divF_end h
theorem trim_zeros (k : Nat) : trim (List.replicate k 0) = [] := Tr.zero (tr_trim _) fun i => by
  rw [coef_trim]
  unfold coef
  simp [List.getD, List.getElem?_replicate]
  split <;> rfl
theorem quot_lt {U P : List Rat} (hU : 2 ≤ U.length) (hP : P ≠ []) : (trim (divQ U P).1).length < P.length := by
  have hp := List.length_pos_iff.mpr hP
  by_cases h : P.length < U.length
  · unfold divQ
    rw [divF_end h, trim_zeros]
    exact hp
  · have := quot_len U P
    omega
theorem quot_le {U P : List Rat} : (trim (divQ U P).1).length ≤ P.length + 1 - U.length := by
  by_cases h : P.length < U.length
  · unfold divQ
    rw [divF_end h, trim_zeros]
    exact Nat.zero_le _
  · have := quot_len U P
    omega
theorem rems_more {U : List Rat} (hU : 2 ≤ U.length) : ∀ (n k : Nat) (P : List Rat), P.length ≤ n → P.length ≤ k → rems U n P = rems U k P
  | 0, 0, P, _, _ => rfl
  | 0, k + 1, P, h, _ => by
    have : P = [] := List.length_eq_zero_iff.mp (by omega)
    unfold rems
    rw [if_pos this]
  | n + 1, 0, P, _, h => by
    have : P = [] := List.length_eq_zero_iff.mp (by omega)
    unfold rems
    rw [if_pos this]
  | n + 1, k + 1, P, h1, h2 => by
    unfold rems
    split
    · rfl
    · rename_i q
      have := quot_lt hU q
      rw [rems_more hU n k _ (by omega) (by omega)]
def remsQ (U P : List Rat) : List (List Rat) := rems U P.length P
theorem remsQ_nil (U : List Rat) : remsQ U [] = [] := rfl
theorem remsQ_cons {U P : List Rat} (hU : 2 ≤ U.length) (hP : P ≠ []) : remsQ U P = (divQ U P).2 :: remsQ U (trim (divQ U P).1) := by
  have hp := List.length_pos_iff.mpr hP
  obtain ⟨n, hn⟩ : ∃ n, P.length = n + 1 := ⟨P.length - 1, by omega⟩
  have h1 : remsQ U P = (divQ U P).2 :: rems U n (trim (divQ U P).1) := by
    show rems U P.length P = _
    rw [hn]
    show (if P = [] then [] else (divQ U P).2 :: rems U n (trim (divQ U P).1)) = _
    rw [if_neg hP]
  rw [h1]
  show _ = _ :: rems U (trim (divQ U P).1).length (trim (divQ U P).1)
  have := quot_lt hU hP
  rw [rems_more hU n _ _ (by omega) (Nat.le_refl _)]
theorem remsQ_short {U P : List Rat} (hU : 2 ≤ U.length) (hP : P ≠ []) (h : P.length < U.length) : remsQ U P = [P] := by
  rw [remsQ_cons hU hP]
  unfold divQ
  rw [divF_end h, trim_zeros, remsQ_nil]
/-- all the turns of all the divisions, d the degree of the base -/
def tot (d : Nat) : Nat → Nat → Nat
  | 0, _ => 0
  | n + 1, L => (L - d) + tot d n (L - d)
/-- how many remainders at most -/
def cnt (d : Nat) : Nat → Nat → Nat
  | 0, _ => 0
  | n + 1, L => if L = 0 then 0 else 1 + cnt d n (L - d)
theorem tot_mono (d : Nat) : ∀ (n L M : Nat), L ≤ M → tot d n L ≤ tot d n M
  | 0, _, _, _ => Nat.le_refl _
  | n + 1, L, M, h => by
    have := tot_mono d n (L - d) (M - d) (by omega)
    simp only [tot]
    omega
theorem cnt_mono (d : Nat) : ∀ (n L M : Nat), L ≤ M → cnt d n L ≤ cnt d n M
  | 0, _, _, _ => Nat.le_refl _
  | n + 1, L, M, h => by
    have := cnt_mono d n (L - d) (M - d) (by omega)
    simp only [cnt]
    split
    · omega
    · rw [if_neg (by omega)]
      omega
theorem tot_succ (d : Nat) : ∀ (n L : Nat), tot d n L ≤ tot d (n + 1) L
  | 0, L => Nat.zero_le _
  | n + 1, L => by
    have := tot_succ d n (L - d)
    show (L - d) + tot d n (L - d) ≤ (L - d) + tot d (n + 1) (L - d)
    omega
theorem cnt_succ (d : Nat) : ∀ (n L : Nat), cnt d n L ≤ cnt d (n + 1) L
  | 0, L => Nat.zero_le _
  | n + 1, L => by
    have := cnt_succ d n (L - d)
    show (if L = 0 then 0 else 1 + cnt d n (L - d)) ≤ (if L = 0 then 0 else 1 + cnt d (n + 1) (L - d))
    split <;> omega
theorem rems_SC {S b c : Nat} {B : Int} {U : List Rat} (hU2 : 2 ≤ U.length) (m : lastQ U = 1) (hU : SC S B U) (hB : B.natAbs ≤ 2 ^ b) (h1 : b ≤ c) (h2 : S ≤ c) : ∀ (n R : Nat) (D : Int) (P : List Rat), SC R D P →
    (∀ r ∈ rems U n P, SC (R + tot (U.length - 1) n P.length * (c + 1)) (D * B ^ tot (U.length - 1) n P.length) r) ∧ (rems U n P).length ≤ cnt (U.length - 1) n P.length := by
  intro n
  induction n with
  | zero => exact fun R D P _ => ⟨fun r hr => by simp [rems] at hr, Nat.zero_le _⟩
  | succ n ih =>
    intro R D P hP
    unfold rems
    split
    · exact ⟨fun r hr => by simp at hr, Nat.zero_le _⟩
    · rename_i hne
      have hU0 : U ≠ [] := fun z => by rw [z] at hU2; simp at hU2
      have hp := List.length_pos_iff.mpr hne
      have z0 : SC R D (List.replicate (max 1 (P.length + 1 - U.length)) 0) := fun q hq => by
        rw [(List.mem_replicate.mp hq).2]
        exact Bd.zero R D
      obtain ⟨d1, d2⟩ := divF_SC hU0 m hU hB h1 h2 P.length (P.length - (U.length - 1)) R D _ P z0 hP (by omega)
      have ql : (trim (divQ U P).1).length ≤ P.length - (U.length - 1) := by
        have := quot_le (U := U) (P := P)
        omega
      obtain ⟨i1, i2⟩ := ih _ _ _ (SC.trim d1)
      have tm := tot_mono (U.length - 1) n _ _ ql
      have up : ∀ {T R' : Nat} {D' : Int} {l : List Rat} (T' : Nat), T ≤ T' → SC (R' + T * (c + 1)) (D' * B ^ T) l → SC (R' + T' * (c + 1)) (D' * B ^ T') l := fun {T R' D' l} T' hT h => by
        have e : D' * B ^ T' = D' * B ^ T * B ^ (T' - T) := by
          rw [Int.mul_assoc, ← Int.pow_add, Nat.add_sub_cancel' hT]
        rw [e]
        refine (h.scale (pow_nat hB (T' - T))).mono ?_
        have e2 : T' * (c + 1) = T * (c + 1) + (T' - T) * (c + 1) := by rw [← Nat.add_mul, Nat.add_sub_cancel' hT]
        have e3 : b * (T' - T) ≤ (T' - T) * (c + 1) := by
          rw [Nat.mul_comm]
          exact Nat.mul_le_mul_left _ (by omega)
        omega
      refine ⟨fun r hr => ?_, ?_⟩
      · show SC (R + ((P.length - (U.length - 1)) + tot (U.length - 1) n (P.length - (U.length - 1))) * (c + 1)) (D * B ^ ((P.length - (U.length - 1)) + tot (U.length - 1) n (P.length - (U.length - 1)))) r
        rcases List.mem_cons.mp hr with e | e
        · rw [e]
          exact up _ (by omega) d2
        · have z := i1 r e
          have z2 := up (R' := R + (P.length - (U.length - 1)) * (c + 1)) (D' := D * B ^ (P.length - (U.length - 1))) _ tm z
          rw [Int.mul_assoc, ← Int.pow_add, Nat.add_assoc, ← Nat.add_mul] at z2
          exact z2
      · have cm := cnt_mono (U.length - 1) n _ _ ql
        show (rems U n (trim (divQ U P).1)).length + 1 ≤ cnt (U.length - 1) (n + 1) P.length
        show _ ≤ (if P.length = 0 then 0 else 1 + cnt (U.length - 1) n (P.length - (U.length - 1)))
        rw [if_neg (by omega)]
        have i3 : (rems U n (trim (divQ U P).1)).length ≤ cnt (U.length - 1) n (trim (divQ U P).1).length := i2
        omega
theorem rems_tr {U : List Rat} : ∀ (n : Nat) (P : List Rat), Tr P → ∀ r ∈ rems U n P, Tr r
  | 0, P, _, r, h => by simp [rems] at h
  | n + 1, P, hP, r, h => by
    unfold rems at h
    split at h
    · simp at h
    · rcases List.mem_cons.mp h with e | e
      · rw [e]
        exact divF_tr _ _ _ hP
      · exact rems_tr n _ (tr_trim _) r e
theorem remsQ_ne {U P : List Rat} (hU : 2 ≤ U.length) (hP : P ≠ []) : remsQ U P ≠ [] := by
  rw [remsQ_cons hU hP]
  exact List.cons_ne_nil _ _
end K9M

namespace K9M
/-! the program's integers against the numbers -/
theorem IsP.cf {ns : List Int} {b : Int} {P : List Rat} (h : IsP ns b P) (i : Nat) : coef P i = ((ns.getD i 0 : Int) : Rat) / (b : Rat) := by
  have hb := h.bne
  by_cases k : i < ns.length
  · have e : ns[i]? = some ns[i] := List.getElem?_eq_getElem k
    rw [coef_of (h.get e)]
    simp [List.getD, e]
  · rw [coef_out (by rw [← h.len]; omega)]
    have : ns.getD i 0 = 0 := by simp [List.getD, List.getElem?_eq_none (Nat.le_of_not_lt k)]
    rw [this, Rat.intCast_zero]
    grind
theorem IsP.last {ns : List Int} {b : Int} {P : List Rat} (h : IsP ns b P) : lastQ P = ((ns.getD (ns.length - 1) 0 : Int) : Rat) / (b : Rat) := by
  unfold lastQ
  rw [h.cf, h.len]
theorem IsP.top {ns : List Int} {b : Int} {U : List Rat} (h : IsP ns b U) (m : lastQ U = 1) : ns.getD (ns.length - 1) 0 = b := by
  have e := h.last
  rw [m] at e
  have hb := h.bne
  have : ((ns.getD (ns.length - 1) 0 : Int) : Rat) = (b : Rat) := by grind
  exact Rat.intCast_inj.mp this
theorem IsP.zero {ns : List Int} {b : Int} {P : List Rat} (h : IsP ns b P) {i : Nat} {n : Int} (e : ns[i]? = some n) : n = 0 ↔ coef P i = 0 := by
  have hb := h.bne
  rw [coef_of (h.get e)]
  constructor
  · intro z
    rw [z, Rat.intCast_zero]; grind
  · intro z
    have : (n : Rat) = 0 := by grind
    exact Rat.intCast_eq_zero_iff.mp this
/-- one turn of the division: the rest -/
theorem turn_rest {rs us : List Int} {bl ub : Int} {r U : List Rat} (h : IsP rs bl r) (k : IsP us ub U) (m : lastQ U = 1) (hl : us.length ≤ rs.length) (hu : us ≠ []) :
    (List.zipWith (fun near far => us.getD (us.length - 1) 0 * near - far) rs (List.replicate (rs.length - us.length) 0 ++ us.map fun n => rs.getD (rs.length - 1) 0 * n)).map (fun n : Int => (n : Rat) / ((bl * us.getD (us.length - 1) 0 : Int) : Rat)) = less (lastQ r) U r := by
  rw [k.top m, h.last]
  have hb := h.bne
  have hk := k.bne
  apply List.ext_getElem?
  intro i
  rw [List.getElem?_map, List.getElem?_zipWith]
  unfold less
  rw [List.getElem?_zipWith]
  by_cases hi : i < rs.length
  · have e1 : rs[i]? = some rs[i] := List.getElem?_eq_getElem hi
    rw [e1, h.get e1]
    by_cases h2 : i < rs.length - us.length
    · rw [List.getElem?_append_left (by simpa using h2), List.getElem?_append_left (by rw [List.length_replicate, ← h.len, ← k.len]; exact h2)]
      rw [List.getElem?_replicate, List.getElem?_replicate, if_pos h2, if_pos (by rw [← h.len, ← k.len]; exact h2)]
      simp only [Option.map_some, Option.some.injEq]
      rw [Rat.intCast_sub, Rat.intCast_mul, Rat.intCast_mul, Rat.intCast_zero]
      grind
    · have h3 : i - (rs.length - us.length) < us.length := by omega
      rw [List.getElem?_append_right (by simpa using Nat.le_of_not_lt h2), List.getElem?_append_right (by rw [List.length_replicate, ← h.len, ← k.len]; omega)]
      rw [List.length_replicate, List.length_replicate, ← h.len, ← k.len, List.getElem?_map]
      have e2 : us[i - (rs.length - us.length)]? = some us[i - (rs.length - us.length)] := List.getElem?_eq_getElem h3
      rw [e2, k.get e2]
      simp only [Option.map_some, Option.some.injEq]
      rw [Rat.intCast_sub, Rat.intCast_mul, Rat.intCast_mul, Rat.intCast_mul]
      grind
  · have e1 : rs[i]? = none := List.getElem?_eq_none (Nat.le_of_not_lt hi)
    have e2 : r[i]? = none := List.getElem?_eq_none (by rw [← h.len]; omega)
    rw [e1, e2]
    rfl
/-- one turn: what comes to the quotient -/
theorem turn_quot {rs us : List Int} {bl ub : Int} {r U : List Rat} (h : IsP rs bl r) (k : IsP us ub U) (m : lastQ U = 1) (p : Nat) :
    (List.replicate p 0 ++ [rs.getD (rs.length - 1) 0 * ub]).map (fun n : Int => (n : Rat) / ((bl * us.getD (us.length - 1) 0 : Int) : Rat)) = List.replicate p 0 ++ [lastQ r] := by
  rw [k.top m, h.last, List.map_append, List.map_replicate]
  have hb := h.bne
  have hk := k.bne
  congr 1
  · congr 1
    rw [Rat.intCast_zero, Rat.intCast_mul]; grind
  · simp only [List.map_cons, List.map_nil, List.cons.injEq, and_true]
    rw [Rat.intCast_mul, Rat.intCast_mul]; grind
/-- a sum over one line -/
def sumI (xs : List Int) (b : Int) (ys : List Int) (c : Int) (i : Nat) : Int := (if i < xs.length then xs.getD i 0 * c else 0) + (if i < ys.length then ys.getD i 0 * b else 0)
theorem sum_line {xs ys : List Int} {b c : Int} {P Q : List Rat} (h : IsP xs b P) (k : IsP ys c Q) :
    trim (((List.range (max xs.length ys.length)).map (sumI xs b ys c)).map (fun n : Int => (n : Rat) / ((b * c : Int) : Rat))) = trim (addL P Q) := by
  apply trim_ext
  intro i
  rw [coef_addL, h.cf, k.cf]
  have hb := h.bne
  have hk := k.bne
  by_cases hi : i < max xs.length ys.length
  · rw [coef_of (x := ((sumI xs b ys c i : Int) : Rat) / ((b * c : Int) : Rat)) (by rw [List.getElem?_map, List.getElem?_map, List.getElem?_range hi]; rfl)]
    unfold sumI
    have e1 : (if i < xs.length then xs.getD i 0 * c else 0) = xs.getD i 0 * c := by
      split
      · rfl
      · rename_i q
        simp [List.getD, List.getElem?_eq_none (Nat.le_of_not_lt q)]
    have e2 : (if i < ys.length then ys.getD i 0 * b else 0) = ys.getD i 0 * b := by
      split
      · rfl
      · rename_i q
        simp [List.getD, List.getElem?_eq_none (Nat.le_of_not_lt q)]
    rw [e1, e2, Rat.intCast_add, Rat.intCast_mul, Rat.intCast_mul, Rat.intCast_mul]
    grind
  · rw [coef_out (by simp; omega)]
    have e1 : xs.getD i 0 = 0 := by simp [List.getD, List.getElem?_eq_none (show xs.length ≤ i by omega)]
    have e2 : ys.getD i 0 = 0 := by simp [List.getD, List.getElem?_eq_none (show ys.length ≤ i by omega)]
    rw [e1, e2, Rat.intCast_zero]
    grind
/-- numbers over a common multiple of their lower parts -/
theorem over_line {l : List Rat} {b : Int} (hb : 0 < b) (h : ∀ q ∈ l, (q.den : Int) ∣ b) : (l.map fun q => q.num * (b / (q.den : Int))).map (fun n : Int => (n : Rat) / (b : Rat)) = l := by
  rw [List.map_map]
  conv => rhs; rw [← List.map_id l]
  refine List.map_congr_left fun q hq => ?_
  obtain ⟨k, hk⟩ := h q hq
  have hd := den_pos q
  have e : b / (q.den : Int) = k := by
    rw [hk]
    exact Int.mul_ediv_cancel_left _ (by omega)
  show ((q.num * (b / (q.den : Int)) : Int) : Rat) / (b : Rat) = q
  rw [e]
  have hq2 := as_div q
  have hdr : ((q.den : Int) : Rat) ≠ 0 := cast_ne (by omega)
  have hbr : (b : Rat) ≠ 0 := cast_ne (by omega)
  have e3 : (b : Rat) = ((q.den : Int) : Rat) * (k : Rat) := by rw [← Rat.intCast_mul, ← hk]
  have e4 : (q.num : Rat) = q * ((q.den : Int) : Rat) := by
    have h2 : (q.den : Rat) = (((q.den : Nat) : Int) : Rat) := rfl
    rw [h2] at hq2
    have := Rat.div_mul_cancel (a := (q.num : Rat)) hdr
    rw [← hq2] at this
    exact this.symm
  rw [Rat.intCast_mul, e4]
  grind
/-- the least common multiple as the program finds it -/
def lcmF (b : Int) (d : Int) : Int := b * d / gcdI b d
theorem lcmF_spec {b d : Int} (hb : 0 < b) (hd : 0 < d) : 0 < lcmF b d ∧ b ∣ lcmF b d ∧ d ∣ lcmF b d ∧ ∀ D, b ∣ D → d ∣ D → lcmF b d ∣ D := by
  have e : lcmF b d = ((Nat.lcm b.natAbs d.natAbs : Nat) : Int) := by
    unfold lcmF gcdI Nat.lcm
    rw [Int.natCast_ediv, Int.natCast_mul]
    congr 1
    have h1 : ((b.natAbs : Nat) : Int) = b := by omega
    have h2 : ((d.natAbs : Nat) : Int) = d := by omega
    rw [h1, h2]
  rw [e]
  have h1 : 0 < Nat.lcm b.natAbs d.natAbs := Nat.lcm_pos (by omega) (by omega)
  refine ⟨by omega, ?_, ?_, fun D h k => ?_⟩
  · exact Int.natAbs_dvd_natAbs.mp (by rw [Int.natAbs_natCast]; exact Nat.dvd_lcm_left _ _)
  · exact Int.natAbs_dvd_natAbs.mp (by rw [Int.natAbs_natCast]; exact Nat.dvd_lcm_right _ _)
  · exact Int.natAbs_dvd_natAbs.mp (by rw [Int.natAbs_natCast]; exact Nat.lcm_dvd (Int.natAbs_dvd_natAbs.mpr h) (Int.natAbs_dvd_natAbs.mpr k))
def lcmL (b : Int) (l : List Rat) : Int := l.foldl (fun b q => lcmF b (q.den : Int)) b
theorem lcmL_spec : ∀ (l : List Rat) (b : Int), 0 < b → 0 < lcmL b l ∧ b ∣ lcmL b l ∧ (∀ q ∈ l, (q.den : Int) ∣ lcmL b l) ∧ ∀ D, b ∣ D → (∀ q ∈ l, (q.den : Int) ∣ D) → lcmL b l ∣ D
  | [], b, h => ⟨h, Int.dvd_refl b, fun q hq => by simp at hq, fun D h _ => h⟩
  | p :: l, b, h => by
    obtain ⟨a1, a2, a3, a4⟩ := lcmF_spec h (den_pos p)
    obtain ⟨b1, b2, b3, b4⟩ := lcmL_spec l (lcmF b (p.den : Int)) a1
    refine ⟨b1, Int.dvd_trans a2 b2, fun q hq => ?_, fun D hD hq => b4 D (a4 D hD (hq p List.mem_cons_self)) fun q hq2 => hq q (List.mem_cons_of_mem _ hq2)⟩
    rcases List.mem_cons.mp hq with e | e
    · rw [e]
      exact Int.dvd_trans a3 b2
    · exact b3 q e
/-- the product of the lower parts -/
def denP (b : Int) (l : List Rat) : Int := l.foldl (fun b q => b * (q.den : Int)) b
theorem denP_spec : ∀ (l : List Rat) (b : Int), 0 < b → 0 < denP b l ∧ b ∣ denP b l ∧ ∀ q ∈ l, (q.den : Int) ∣ denP b l
  | [], b, h => ⟨h, Int.dvd_refl b, fun q hq => by simp at hq⟩
  | p :: l, b, h => by
    obtain ⟨b1, b2, b3⟩ := denP_spec l (b * (p.den : Int)) (Int.mul_pos h (den_pos p))
    refine ⟨b1, Int.dvd_trans (Int.dvd_mul_right ..) b2, fun q hq => ?_⟩
    rcases List.mem_cons.mp hq with e | e
    · rw [e]
      exact Int.dvd_trans (Int.dvd_mul_left ..) b2
    · exact b3 q e
theorem denP_lt : ∀ (l : List Rat) (b : Int) (s t : Nat), b.natAbs < 2 ^ s → (∀ q ∈ l, q.den < 2 ^ t) → (denP b l).natAbs < 2 ^ (s + t * l.length)
  | [], b, s, t, h, _ => by simpa [denP] using h
  | p :: l, b, s, t, h, k => by
    have q := denP_lt l (b * (p.den : Int)) (s + t) t (by
      rw [Int.natAbs_mul, Nat.pow_add, Int.natAbs_natCast]
      exact Nat.mul_lt_mul'' h (k p List.mem_cons_self)) fun q hq => k q (List.mem_cons_of_mem _ hq)
    have e : s + t + t * l.length = s + t * (p :: l).length := by rw [List.length_cons, Nat.mul_succ]; omega
    rw [e] at q
    exact q
/-! the only candidate -/
def wt (r p b : Nat) : Rat := (((b : Int) * ((r : Int) + 1) - (p : Int) * (r : Int) : Int) : Rat) / (((r : Int) * (p : Int) : Int) : Rat)
def partR (it : Nat → Rat) (r p : Nat) (f : List Rat) : Nat → Rat
  | 0 => 0
  | b + 1 => partR it r p f b + wt r p (b + 1) * (it (b + 1) * coef f (p - (b + 1)))
def rootL (it : Nat → Rat) (r : Nat) : Nat → List Rat
  | 0 => [1]
  | n + 1 => rootL it r n ++ [partR it r (n + 1) (rootL it r n) (n + 1)]
def itm (P : List Rat) (b : Nat) : Rat := coef P (P.length - 1 - b) / lastQ P
def candU (P : List Rat) (d : Nat) : List Rat := 0 :: (rootL (itm P) ((P.length - 1) / d) (d - 1)).reverse
theorem rootL_len (it : Nat → Rat) (r : Nat) : ∀ n, (rootL it r n).length = n + 1
  | 0 => rfl
  | n + 1 => by
    unfold rootL
    rw [List.length_append, rootL_len it r n]; rfl
theorem rootL_head (it : Nat → Rat) (r : Nat) : ∀ n, (rootL it r n)[0]? = some 1
  | 0 => rfl
  | n + 1 => by
    unfold rootL
    rw [List.getElem?_append_left (by rw [rootL_len]; omega)]
    exact rootL_head it r n
theorem candU_len {P : List Rat} {d : Nat} (hd : 1 ≤ d) : (candU P d).length = d + 1 := by
  unfold candU
  rw [List.length_cons, List.length_reverse, rootL_len]
  omega
theorem candU_last {P : List Rat} {d : Nat} (hd : 1 ≤ d) : lastQ (candU P d) = 1 := by
  unfold lastQ
  rw [candU_len hd]
  refine coef_of ?_
  unfold candU
  have hl := rootL_len (itm P) ((P.length - 1) / d) (d - 1)
  rw [show d + 1 - 1 = (d - 1) + 1 by omega, List.getElem?_cons_succ, List.getElem?_reverse (by omega), hl]
  rw [show d - 1 + 1 - 1 - (d - 1) = 0 by omega]
  exact rootL_head _ _ _
theorem candU_tr {P : List Rat} {d : Nat} (hd : 1 ≤ d) : Tr (candU P d) := by
  intro x hx
  rw [List.getLast?_eq_getElem?] at hx
  have h2 := lastQ_get (l := candU P d) (fun z => by have := candU_len (P := P) hd; rw [z] at this; simp at this)
  rw [h2, candU_last hd] at hx
  cases hx
  decide
/-! its bounds -/
theorem Bd.div {n : Int} {h : Int} {R : Nat} (hn : n.natAbs < 2 ^ R) (hh : h ≠ 0) : Bd R ((h.natAbs : Nat) : Int) ((n : Rat) / (h : Rat)) := by
  have hr := cast_ne hh
  rcases Int.lt_or_le h 0 with k | k
  · refine ⟨-n, ?_, by rw [Int.natAbs_neg]; exact hn⟩
    have e : ((h.natAbs : Nat) : Int) = -h := by omega
    rw [e, Rat.intCast_neg, Rat.intCast_neg]
    grind
  · refine ⟨n, ?_, hn⟩
    have e : ((h.natAbs : Nat) : Int) = h := by omega
    rw [e]
    grind
theorem wt_bd {r p b : Nat} (hr : 1 ≤ r) (hr9 : r ≤ 9) (hp : 1 ≤ p) (hp8 : p ≤ 8) (hb : b ≤ p) : Bd 18 ((r : Int) * 840) (wt r p b) := by
  obtain ⟨k, hk, hk2⟩ : ∃ k : Int, (840 : Int) = (p : Int) * k ∧ k.natAbs ≤ 840 := by
    have : p = 1 ∨ p = 2 ∨ p = 3 ∨ p = 4 ∨ p = 5 ∨ p = 6 ∨ p = 7 ∨ p = 8 := by omega
    rcases this with e | e | e | e | e | e | e | e <;> subst e
    · exact ⟨840, by decide, by decide⟩
    · exact ⟨420, by decide, by decide⟩
    · exact ⟨280, by decide, by decide⟩
    · exact ⟨210, by decide, by decide⟩
    · exact ⟨168, by decide, by decide⟩
    · exact ⟨140, by decide, by decide⟩
    · exact ⟨120, by decide, by decide⟩
    · exact ⟨105, by decide, by decide⟩
  refine ⟨((b : Int) * ((r : Int) + 1) - (p : Int) * (r : Int)) * k, ?_, ?_⟩
  · unfold wt
    have h1 : (((r : Int) * (p : Int) : Int) : Rat) ≠ 0 := cast_ne (by
      have : 0 < (r : Int) * (p : Int) := Int.mul_pos (by omega) (by omega)
      omega)
    rw [hk]
    have e2 : (((r : Int) * ((p : Int) * k) : Int) : Rat) = (((r : Int) * (p : Int) : Int) : Rat) * (k : Rat) := by
      rw [← Rat.intCast_mul]
      congr 1
      grind
    rw [e2, Rat.intCast_mul]
    grind
  · rw [Int.natAbs_mul]
    have h1 : ((b : Int) * ((r : Int) + 1) - (p : Int) * (r : Int)).natAbs ≤ 152 := by
      have a1 : (b : Int) * ((r : Int) + 1) ≤ 8 * 10 := Int.mul_le_mul (by omega) (by omega) (by omega) (by omega)
      have a2 : 0 ≤ (b : Int) * ((r : Int) + 1) := Int.mul_nonneg (by omega) (by omega)
      have a3 : (p : Int) * (r : Int) ≤ 8 * 9 := Int.mul_le_mul (by omega) (by omega) (by omega) (by omega)
      have a4 : 0 ≤ (p : Int) * (r : Int) := Int.mul_nonneg (by omega) (by omega)
      omega
    exact Nat.lt_of_le_of_lt (Nat.mul_le_mul h1 hk2) (by decide)
theorem partR_bd {it : Nat → Rat} {r p : Nat} {f : List Rat} {h E : Int} (hr : 1 ≤ r) (hr9 : r ≤ 9) (hp : 1 ≤ p) (hp8 : p ≤ 8) (hit : ∀ b, 1 ≤ b → b ≤ p → Bd 20 h (it b)) (hE : E = (r : Int) * 840 * h) (hE2 : E.natAbs ≤ 2 ^ 34)
    (hf : ∀ j, j < p → Bd (80 * j + 1) (E ^ j) (coef f j)) : ∀ b, b ≤ p → Bd (80 * p - 8 + b + 1) (E ^ p) (partR it r p f b)
  | 0, _ => Bd.zero _ _
  | b + 1, hb => by
    have ih := partR_bd hr hr9 hp hp8 hit hE hE2 hf b (by omega)
    unfold partR
    have h1 := (wt_bd hr hr9 hp hp8 hb).mul ((hit (b + 1) (by omega) hb).mul (hf (p - (b + 1)) (by omega)))
    have h2 := h1.scale (pow_nat hE2 b)
    have e : (r : Int) * 840 * (h * E ^ (p - (b + 1))) * E ^ b = E ^ p := by
      have : E ^ p = E ^ (p - (b + 1)) * E ^ b * E := by
        rw [← Int.pow_add, ← Int.pow_succ]
        congr 1
        omega
      rw [this]
      have : (r : Int) * 840 * (h * E ^ (p - (b + 1))) = E * E ^ (p - (b + 1)) := by
        conv => rhs; lhs; rw [hE]
        grind
      rw [this]
      grind
    rw [e] at h2
    have h3 : Bd (80 * p - 8 + b + 1) (E ^ p) (wt r p (b + 1) * (it (b + 1) * coef f (p - (b + 1)))) := h2.mono (by omega)
    exact ih.add h3
theorem rootL_bd {it : Nat → Rat} {r : Nat} {h E : Int} (hr : 1 ≤ r) (hr9 : r ≤ 9) (hE : E = (r : Int) * 840 * h) (hE2 : E.natAbs ≤ 2 ^ 34) : ∀ n, n ≤ 8 → (∀ b, 1 ≤ b → b ≤ n → Bd 20 h (it b)) → ∀ j, j ≤ n → Bd (80 * j + 1) (E ^ j) (coef (rootL it r n) j)
  | 0, _, _, j, hj => by
    have : j = 0 := by omega
    subst this
    exact ⟨1, by rw [Int.pow_zero]; show (1 : Rat) * ((1 : Int) : Rat) = ((1 : Int) : Rat); exact Rat.one_mul _, by decide⟩
  | n + 1, hn, hit, j, hj => by
    have ih := rootL_bd hr hr9 hE hE2 n (by omega) (fun b h1 h2 => hit b h1 (by omega))
    have hl := rootL_len it r n
    by_cases h : j ≤ n
    · have : coef (rootL it r (n + 1)) j = coef (rootL it r n) j := by
        show coef (rootL it r n ++ _) j = _
        unfold coef
        simp only [List.getD]
        rw [List.getElem?_append_left (by omega)]
      rw [this]
      exact ih j h
    · have ej : j = n + 1 := by omega
      subst ej
      have : coef (rootL it r (n + 1)) (n + 1) = partR it r (n + 1) (rootL it r n) (n + 1) := by
        refine coef_of ?_
        show (rootL it r n ++ [partR it r (n + 1) (rootL it r n) (n + 1)])[n + 1]? = _
        rw [List.getElem?_append_right (by omega), hl, Nat.sub_self]; rfl
      rw [this]
      exact (partR_bd hr hr9 (by omega) hn hit hE hE2 (fun j hj => ih j (by omega)) (n + 1) (Nat.le_refl _)).mono (by omega)
theorem candU_SC {P : List Rat} {d : Nat} {h E : Int} (hd : 1 ≤ d) (hd9 : d ≤ 9) (hr : 1 ≤ (P.length - 1) / d) (hr9 : (P.length - 1) / d ≤ 9) (hE : E = (((P.length - 1) / d : Nat) : Int) * 840 * h) (hE2 : E.natAbs ≤ 2 ^ 34)
    (hit : ∀ b, 1 ≤ b → b ≤ d - 1 → Bd 20 h (itm P b)) : SC (80 * (d - 1) + 1) (E ^ (d - 1)) (candU P d) := by
  intro q hq
  unfold candU at hq
  rcases List.mem_cons.mp hq with e | e
  · rw [e]
    exact Bd.zero _ _
  · obtain ⟨j, hj, ej⟩ := List.mem_iff_getElem.mp (List.mem_reverse.mp e)
    rw [rootL_len] at hj
    have b := rootL_bd hr hr9 hE hE2 (d - 1) (by omega) hit j (by omega)
    rw [coef_lt (by rw [rootL_len]; exact hj), ej] at b
    have b2 := b.scale (pow_nat hE2 (d - 1 - j))
    rw [← Int.pow_add, show j + (d - 1 - j) = d - 1 by omega] at b2
    exact b2.mono (by omega)
end K9M

set_option Elab.async false
set_option linter.all false
set_option maxRecDepth 100000
set_option maxHeartbeats 4000000
namespace K9
open PySem PySem.Spec PyProof.Rows L2
/-! the text of the program, by places -/
def topS (i : Nat) : Stmt := PySem.Challenge.pw_stepswithin_k09_whole_breaks_judged.main.body.getD i (.Pass ⟨0, 0, 0, 0⟩)
/-- a def of the top as it stands behind it -/
def DefAt (K : PySem.W.Frag) (mg : Str → Option Value) (x : Str) (st : Stmt) : Prop :=
  (∃ fd, FunD K x x (defArgs st) (defBody st) (defScope st) [] [] (He.ga K x) fd) ∧ mg x = some (.ref (He.ga K x))
/-- a def that keeps a promise, under its name -/
structure Kn (P : Program) (w : World) (K : PySem.W.Frag) (mg : Str → Option Value) (base : Heap) (CX : CXT) (k : Nat) (x : Str) (ps : List Str) (sp : Sp) : Prop where
  ex : ∃ f fd, FnOk P w K mg base CX k f fd ps sp ∧ mg x = some (.ref f) ∧ PySem.W.keepIn K (.ref f) = true ∧ Binds K fd ps [] ∧ ∃ oc od osl, K.lookup f = some ⟨oc, od, .func fd, osl⟩
section
variable {P : Program} {w : World} {K : PySem.W.Frag} {mg : Str → Option Value} {base : Heap}
theorem Kn.of {CX : CXT} {x : Str} {st : Stmt} {N ps : List Str} {k : Nat} {sp : Sp} (D : DefAt K mg x st) (S : FnScope N ps (defScope st)) (len : ∀ vs H Q E, sp vs H Q E → vs.length = ps.length)
    (bnd : ∀ (kV doc pm : Value) (an : Option Addr) (cdv ct : Value) (us : List Value), us.length = ps.length → bindArgs (PySem.W.fnOf x x (defArgs st) (defBody st) (defScope st) .none kV doc pm an cdv ct) ⟨us, []⟩ = pure (ps.zip us))
    (body : ∀ (f : Addr) (cdv : Value) (A : Around) (outer : List Env) (s : Shared) (H : Hp) (vs : List V) (Q : VK) (E : XK), Room k (A.deeper (envOfC x (defScope st) s.heap.objs.size f cdv)) → sp vs H Q E →
      ∃ t, PSs (cxOf CX P w K mg base N x (defScope st) f cdv A outer s H E) (defBody st) t ∧ t { nx := fun _ H' => Q .non H', rt := Q } (start N vs) H) : Kn P w K mg base CX (k + 1) x ps sp := by
  obtain ⟨⟨fd, F⟩, hm⟩ := D
  exact ⟨_, fd, F.ok S len (fun cdv A outer s H vs Q E hr h => body _ cdv A outer s H vs Q E hr h), hm, F.kp, F.bindsN bnd, let ⟨oc, od, _, _, _, _, _, _, _, osl, _, lk, _⟩ := F.ex; ⟨oc, od, osl, lk⟩⟩
theorem Kn.mono {CX : CXT} {x : Str} {ps : List Str} {j k : Nat} {sp : Sp} (h : Kn P w K mg base CX j x ps sp) (hk : j ≤ k) : Kn P w K mg base CX k x ps sp := by
  obtain ⟨f, fd, F, a, b, c⟩ := h.ex
  exact ⟨f, fd, F.mono hk, a, b, c⟩
end
section
variable {X : Cx}
theorem pe_kn {CX : CXT} {k : Nat} {x : Str} {ps : List Str} {sp : Sp} {p pos : Pos} {e : Expr} {es : List Expr} {t : TA} {E : XK} (h : Kn X.prog X.w X.K X.mg X.base CX k x ps sp) (hr : Room k X.A) (hg : Gl X x) (hx : Passes CX X E) (ha : PA X (e :: es) t)
    (hdb : (x == ("__debug__" : Str)) = false := by decide) (he : starEach (e :: es) X.env = (false, eval e X.env) :: starEach es X.env := by rfl) (hpl : (backTo pos (starEach es X.env)).any (·.1) = false := by rfl) :
    PE X (.Call (.Name x p) (e :: es) [] pos) (tCall sp [] E t) := by
  obtain ⟨f, fd, F, a, b, c⟩ := h.ex
  exact pe_call F hr hg a b c.1 .nil hx ha hdb he hpl
end
end K9

set_option Elab.async false
set_option linter.all false
set_option maxRecDepth 100000
set_option maxHeartbeats 4000000
namespace K9
open PySem PySem.Spec PyProof.Rows L2
/-! more operators -/
def CFd (_ j : Int) : Prop := j ≠ 0 ∧ j.natAbs < 2 ^ 9000
section
variable {X : Cx}
theorem op_fd : OpR X (binaryOp .FloorDiv) (rI CFd fun i j => .int (i.fdiv j)) := opI fun i j _ _ _ _ _ hc q => floordiv_int hc.1 q (.inl (PyProof.noPylong_of_log2 (PySem.Flt.log2_lt_of (by decide) hc.2)))
end
section
variable {X : Cx} {K : PySem.W.Frag}
theorem ixT (h : X.K = K) : IxR X (rIxT K) := h ▸ ix_tup
theorem ixL (h : X.K = K) : IxR X (rIxL K) := h ▸ ix_list
abbrev rLen (K : PySem.W.Frag) : List V → Hp → VK → Prop := fun xs H Q => ∃ p ys, xs = [V.ref p] ∧ (SqL K H p ys ∨ SqT K H p ys) ∧ Q (.int ys.length) H
theorem lenK (h : X.K = K) : CallR X (.builtin "len") (rLen K) := h ▸ call_len_seq
theorem eqD (hu : X.A.units + 64 < cLine) (h : X.K = K) : OpR X (compareOp .Eq) (rEqD K) := h ▸ op_eqD hu
theorem neD (hu : X.A.units + 64 < cLine) (h : X.K = K) : OpR X (compareOp .NotEq) (rNeD K) := h ▸ op_neD hu
end
/-! one step of a reading each -/
section
variable {K : PySem.W.Frag} {σ : L2.St} {H H' : Hp} {Q : VK} {D : Ends}
theorem x_seq {t u : TS} (k : t { D with nx := u D } σ H) : tSeq t u D σ H := k
theorem x_asg {te : TE} {g : TG} (k : te σ H fun x H1 => g x σ H1 D.nx) : tAsg te g D σ H := k
theorem x_name {v : V} {i : Nat} {R : L2.St → Hp → Prop} (k : R (σ.set i (some v)) H) : gName i v σ H R := k
theorem x_ret {te : TE} (k : te σ H D.rt) : tRet te D σ H := k
theorem x_drop {te : TE} (k : te σ H fun _ H1 => D.nx σ H1) : tDrop te D σ H := k
theorem x_next (k : D.nx σ H) : tNext D σ H := k
theorem x_ifs {c : TT} {t u : TS} (k : c σ H fun b H1 => if b = true then t D σ H1 else u D σ H1) : tIfS c t u D σ H := k
theorem x_if {c : TT} {t u : TE} (k : c σ H fun b H1 => if b = true then t σ H1 Q else u σ H1 Q) : tIf c t u σ H Q := k
theorem x_test {t : TE} {R : Bool → Hp → Prop} (k : t σ H fun x H' => ∃ k, x = .bl k ∧ R k H') : tTest t σ H R := k
theorem x_tb {t : TE} {R : Bool → Hp → Prop} (k : t σ H fun x H' => ∃ k, x = .bl k ∧ R k H') : tB t σ H R := k
theorem x_tnot {t : TT} {R : Bool → Hp → Prop} (k : t σ H fun c H1 => R (!c) H1) : tNot t σ H R := k
theorem x_tand {t u : TT} {R : Bool → Hp → Prop} (k : t σ H fun c H1 => if c = true then u σ H1 R else R false H1) : tAnd t u σ H R := k
theorem x_tor {t u : TT} {R : Bool → Hp → Prop} (k : t σ H fun c H1 => if c = true then R true H1 else u σ H1 R) : tOr t u σ H R := k
theorem x_andv {t u : TE} (k : t σ H fun x H1 => ∃ c, x = .bl c ∧ if c = true then u σ H1 Q else Q (.bl false) H1) : tAndV t u σ H Q := k
theorem x_orv {t u : TE} (k : t σ H fun x H1 => ∃ c, x = .bl c ∧ if c = true then Q (.bl true) H1 else u σ H1 Q) : tOrV t u σ H Q := k
theorem x_notv {t : TE} (k : t σ H fun x H1 => ∃ c, x = .bl c ∧ Q (.bl (!c)) H1) : tNotV t σ H Q := k
theorem x_bl {b : Bool} {R : Bool → Prop} (k : R b) : ∃ k, V.bl b = .bl k ∧ R k := ⟨b, rfl, k⟩
theorem x_var {i : Nat} {v : V} (hs : σ[i]? = some (some v)) (k : Q v H) : tVar i σ H Q := ⟨v, hs, k⟩
theorem x_c {v : V} (k : Q v H) : tC v σ H Q := k
theorem x_op {r : R2} {a b : TE} (k : a σ H fun x H1 => b σ H1 fun y H2 => r x y H2 Q) : tOp r a b σ H Q := k
theorem x_un {r : V → Hp → VK → Prop} {a : TE} (k : a σ H fun x H1 => r x H1 Q) : tUn r a σ H Q := k
theorem x_i0 {g : Int → Int → V} {i j : Int} (k : Q (g i j) H) : rI0 g (.int i) (.int j) H Q := ⟨i, j, rfl, rfl, k⟩
theorem x_i {C : Int → Int → Prop} {g : Int → Int → V} {i j : Int} (c : C i j) (k : Q (g i j) H) : rI C g (.int i) (.int j) H Q := ⟨i, j, rfl, rfl, c, k⟩
theorem x_eqI {i j : Int} (k : Q (.bl (decide (i = j))) H) : rEq (.int i) (.int j) H Q := ⟨rfl, by rw [dec_int]; rw [show (i == j) = decide (i = j) from rfl]; exact k⟩
theorem x_neI {i j : Int} (k : Q (.bl (!decide (i = j))) H) : rNe (.int i) (.int j) H Q := ⟨rfl, by rw [dec_int]; rw [show (i == j) = decide (i = j) from rfl]; exact k⟩
theorem x_u {g : Int → V} {i : Int} (k : Q (g i) H) : rU g (.int i) H Q := ⟨i, rfl, k⟩
theorem x_call {sp : Sp} {E : XK} {t : TA} (k : t σ H fun vs H1 => sp (vs ++ []) H1 Q E) : tCall sp [] E t σ H Q := k
theorem x_cb {r : List V → Hp → VK → Prop} {t : TA} (k : t σ H fun vs H1 => r vs H1 Q) : tCB r t σ H Q := k
theorem x_cons {a : TE} {r : TA} {R : List V → Hp → Prop} (k : a σ H fun x H1 => r σ H1 fun xs H2 => R (x :: xs) H2) : tCons a r σ H R := k
theorem x_nil {R : List V → Hp → Prop} (k : R [] H) : tNil σ H R := k
theorem x_tup {t : TA} (k : t σ H fun xs H1 => xs.length ≤ sizeLine ∧ ∀ p, H1 p = none → Q (.ref p) (upd H1 p (.tup xs))) : tTup t σ H Q := k
theorem x_lst {t : TA} (k : t σ H fun xs H1 => xs.length ≤ sizeLine ∧ ∀ p, H1 p = none → Q (.ref p) (upd H1 p (.lst xs))) : tLst t σ H Q := k
theorem x_ixT {p : Addr} {xs : List V} {i : Int} {v : V} (h : H p = some (.tup xs)) (a : atI xs i = some v) (k : Q v H) : rIxT K (.ref p) (.int i) H Q := ⟨p, xs, i, v, rfl, rfl, .of h, a, k⟩
theorem x_ixL {p : Addr} {xs : List V} {i : Int} {v : V} (h : H p = some (.lst xs)) (a : atI xs i = some v) (k : Q v H) : rIxL K (.ref p) (.int i) H Q := ⟨p, xs, i, v, rfl, rfl, .of h, a, k⟩
theorem x_gcd {a b : Int} (k : Q (.int ((Nat.gcd a.natAbs b.natAbs : Nat) : Int)) H) : rGcd [.int a, .int b] H Q := ⟨a, b, rfl, k⟩
theorem x_yes {c : Bool} {A B : Prop} (h : c = true) (k : A) : if c = true then A else B := by rw [if_pos h]; exact k
theorem x_no {c : Bool} {A B : Prop} (h : c = false) (k : B) : if c = true then A else B := by rw [if_neg (by rw [h]; decide)]; exact k
theorem x_ifV {c : Bool} {te ue : TE} (v : V) (h1 : c = true → Q v H → te σ H Q) (h2 : c = false → Q v H → ue σ H Q) (F : Q v H) : if c = true then te σ H Q else ue σ H Q := by
  cases c with
  | true => rw [if_pos rfl]; exact h1 rfl F
  | false => rw [if_neg (by decide)]; exact h2 rfl F
theorem x_par {i j : Nat} {ta : TA} (k : ta σ H fun vs H1 => ∃ v w, vs = [v, w] ∧ D.nx ((σ.set i (some v)).set j (some w)) H1) : tPar i j ta D σ H := k
theorem x_two {a b : V} {R : V → V → Prop} (k : R a b) : ∃ v w, [a, b] = [v, w] ∧ R v w := ⟨a, b, rfl, k⟩
theorem x_neg {g : TE} (k : g σ H Q) : g σ H Q := k
theorem mem_upd {p a : Addr} {o x : HO} (hn : H p = none) (h : H a = some x) : upd H p o a = some x := (upd_ne (ne_of_none h hn)).trans h
theorem mem_same {a : Addr} {x : HO} (s : Same H H') (h : H a = some x) : H' a = some x := s _ _ h
theorem same_upd {p : Addr} {o : HO} (hn : H p = none) : Same H (upd H p o) := fun _ _ e => mem_upd hn e
theorem free_same {p : Addr} (s : Same H H') (h : H' p = none) : H p = none := s.free h
theorem free_upd {p q : Addr} {o : HO} (h : upd H q o p = none) : H p = none := by
  unfold upd at h
  split at h
  · cases h
  · exact h
end
section
variable {K : PySem.W.Frag} {σ : L2.St} {H : Hp} {Q : VK} {D : Ends}
/-! loops -/
theorem x_for {wi : TI} {g : TG} {tb : TS} (k : wi σ H fun J H1 => ∃ W : Nat → Nat → L2.St → Hp → Prop, (∃ m, W 0 m σ H1) ∧ ∀ i m σ H, W i m σ H →
    (J.stop i H ∧ D.nx σ H) ∨ (J.go i H ∧ ∃ N : L2.St → Hp → Prop, (∀ σ' H', N σ' H' → ∃ m', m' < m ∧ W (i + 1) m' σ' H') ∧ ∀ x H', J.yld i H x H' → g x σ H' fun σ2 H2 => tb { D with nx := N, ct := N, bk := D.nx } σ2 H2)) : tFor wi g tb D σ H := k
theorem x_iL {tl : TE} {R : It → Hp → Prop} (k : tl σ H fun x H1 => ∃ a, x = .ref a ∧ (∃ xs, SqL K H1 a xs) ∧ R (Itl K a) H1) : iList K tl σ H R := k
theorem x_iT {tl : TE} {R : It → Hp → Prop} (k : tl σ H fun x H1 => ∃ a, x = .ref a ∧ (∃ xs, SqT K H1 a xs) ∧ R (Itt K a) H1) : iTup K tl σ H R := k
theorem x_iR1 {ta : TA} {R : It → Hp → Prop} (k : ta σ H fun vs H1 => ∃ j : Int, vs = [.int j] ∧ -(2 ^ 62) ≤ j ∧ j < 2 ^ 62 ∧ R (Itr 0 j.toNat) H1) : iRng1 ta σ H R := k
theorem x_iR2 {ta : TA} {R : It → Hp → Prop} (k : ta σ H fun vs H1 => ∃ i j : Int, vs = [.int i, .int j] ∧ (-(2 ^ 62) ≤ i ∧ i < 2 ^ 62 ∧ -(2 ^ 62) ≤ j ∧ j < 2 ^ 62) ∧ R (Itr i (j - i).toNat) H1) : iRng2 ta σ H R := k
theorem x_while {c : TT} {tb : TS} (W : Nat → L2.St → Hp → Prop) (m0 : Nat) (h0 : W m0 σ H)
    (hs : ∀ m σ H, W m σ H → c σ H fun b H1 => if b = true then ∃ N : L2.St → Hp → Prop, (∀ σ' H', N σ' H' → ∃ m', m' < m ∧ W m' σ' H') ∧ tb { D with nx := N, ct := N, bk := D.nx } σ H1 else D.nx σ H1) : tWhile c tb D σ H := ⟨W, ⟨m0, h0⟩, hs⟩
theorem x_turn {tb : TS} {W : Nat → L2.St → Hp → Prop} {m : Nat} (k : tb { D with nx := fun σ' H' => ∃ m', m' < m ∧ W m' σ' H', ct := fun σ' H' => ∃ m', m' < m ∧ W m' σ' H', bk := D.nx } σ H) :
    ∃ N : L2.St → Hp → Prop, (∀ σ' H', N σ' H' → ∃ m', m' < m ∧ W m' σ' H') ∧ tb { D with nx := N, ct := N, bk := D.nx } σ H := ⟨_, fun _ _ h => h, k⟩
/-! comprehensions of one name: what stands of tuples stands on -/
def TSame (H H' : Hp) : Prop := ∀ a xs, H a = some (.tup xs) → H' a = some (.tup xs)
theorem Same.tup {H H' : Hp} (s : Same H H') : TSame H H' := fun a xs h => s a _ h
theorem tsame_upd {H : Hp} {p : Addr} {o : HO} (h : ∀ xs, H p ≠ some (.tup xs)) : TSame H (upd H p o) := fun a xs e => by
  rw [upd_ne (fun z => h xs (by rw [← z]; exact e))]; exact e
theorem tsame_lst {H : Hp} {p : Addr} {o : HO} {xs : List V} (h : H p = some (.lst xs)) : TSame H (upd H p o) := tsame_upd fun ys z => by rw [h] at z; cases z
def LcAt (J : It) (g : TG) (tt : TT) (te : TE) (vs : List Nat) (σ : L2.St) (Q : VK) (H1 : Hp) : Prop := ∀ D, H1 D = none → ∃ W : Nat → Nat → Hp → Prop, (∃ m, W 0 m (upd H1 D (.lst []))) ∧ ∀ i m H, W i m H →
    (J.stop i H ∧ Q (.ref D) H) ∨ (J.go i H ∧ ∃ Nx : Hp → Prop, (∀ H', Nx H' → ∃ m', m' < m ∧ W (i + 1) m' H') ∧ ∀ x H', J.yld i H x H' → g x (wipe σ vs) H' fun σ2 H2 => wipe σ2 vs = wipe σ vs ∧ tt σ2 H2 fun b H3 =>
      if b = true then te σ2 H3 fun y H4 => ∃ acc, H4 D = some (.lst acc) ∧ acc.length < sizeLine ∧ Nx (upd H4 D (.lst (acc ++ [y]))) else Nx H3)
theorem x_lc {wi : TI} {g : TG} {tt : TT} {te : TE} {vs : List Nat} (k : wi σ H fun J H1 => LcAt J g tt te vs σ Q H1) : tLc wi g tt te vs σ H Q := k
/-- what holds between the turns of a comprehension -/
structure LcInv (H : Hp) (D : Addr) (F : Nat → V → Hp → Prop) (i : Nat) (H' : Hp) : Prop where
  free : H D = none
  same : Same H H'
  at_ : ∃ ys, H' D = some (.lst ys) ∧ ys.length = i ∧ ∀ j v, ys[j]? = some v → F j v H'
theorem LcInv.start {D : Addr} {F : Nat → V → Hp → Prop} (h : H D = none) : LcInv H D F 0 (upd H D (.lst [])) :=
  ⟨h, same_upd h, [], upd_same, rfl, fun j v e => by simp at e⟩
theorem LcInv.next {D : Addr} {F : Nat → V → Hp → Prop} (Fm : ∀ i v H H', F i v H → TSame H H' → F i v H') {i : Nat} {H1 H2 : Hp} (I : LcInv H D F i H1) (s : Same H1 H2) {y : V} (hy : F i y H2) (hi : i < 100000) :
    ∃ acc, H2 D = some (.lst acc) ∧ acc.length < sizeLine ∧ LcInv H D F (i + 1) (upd H2 D (.lst (acc ++ [y]))) := by
  obtain ⟨ys, e, l, f⟩ := I.at_
  have e2 := s _ _ e
  refine ⟨ys, e2, by rw [l]; exact Nat.lt_trans hi (by decide), I.free, fun b o q => ?_, ys ++ [y], upd_same, by simp [l], fun j v h => ?_⟩
  · rw [upd_ne (ne_of_none q I.free)]
    exact s _ _ (I.same _ _ q)
  · rcases Nat.lt_or_ge j ys.length with q | q
    · rw [List.getElem?_append_left q] at h
      exact Fm _ _ _ _ (Fm _ _ _ _ (f j v h) (Same.tup s)) (tsame_lst e2)
    · rw [List.getElem?_append_right q] at h
      have : j = ys.length := by
        rcases Nat.eq_or_lt_of_le q with z | z
        · exact z.symm
        · rw [List.getElem?_eq_none (by simp; omega)] at h; cases h
      subst this
      rw [Nat.sub_self] at h
      cases h
      rw [l]
      exact Fm _ _ _ _ hy (tsame_lst e2)
abbrev LcEnd (H : Hp) (F : Nat → V → Hp → Prop) (n : Nat) (Q : VK) : Prop := ∀ H' D ys, Same H H' → H D = none → H' D = some (.lst ys) → ys.length = n → (∀ i v, ys[i]? = some v → F i v H') → Q (.ref D) H'
theorem LcInv.done {D : Addr} {F : Nat → V → Hp → Prop} {n : Nat} {H' : Hp} (I : LcInv H D F n H') (k : LcEnd H F n Q) : Q (.ref D) H' := by
  obtain ⟨ys, e, l, f⟩ := I.at_
  exact k H' D ys I.same I.free e l f
/-- [e for x in a list], the list at p -/
theorem x_lcL {te : TE} {vs : List Nat} {j : Nat} {p : Addr} {xs : List V} (F : Nat → V → Hp → Prop) (h : H p = some (.lst xs)) (hz : xs.length ≤ 100000) (hw : ∀ x, wipe ((wipe σ vs).set j (some x)) vs = wipe σ vs) (Fm : ∀ i v H H', F i v H → TSame H H' → F i v H')
    (el : ∀ i x H', xs[i]? = some x → Same H H' → ∀ Q' : VK, (∀ v H'', Same H' H'' → F i v H'' → Q' v H'') → te ((wipe σ vs).set j (some x)) H' Q') (k : LcEnd H F xs.length Q) :
    ∃ a, V.ref p = .ref a ∧ (∃ xs, SqL K H a xs) ∧ LcAt (Itl K a) (gName j) tYes te vs σ Q H := by
  refine ⟨p, rfl, ⟨xs, .of h⟩, fun D hD => lc_list (xs := xs) (LcInv H D F) (LcInv.start hD) (fun i H' _ I => .of (I.same _ _ h)) (fun i x H' hx I => ?_) fun H' I => I.done k⟩
  refine ⟨hw x, ?_⟩
  unfold tYes
  dsimp only
  rw [if_pos rfl]
  exact el i x H' hx I.same _ fun v H'' s f => I.next Fm s f (by have := (List.getElem?_eq_some_iff.mp hx).1; omega)
/-- .. a tuple -/
theorem x_lcT {te : TE} {vs : List Nat} {j : Nat} {p : Addr} {xs : List V} (F : Nat → V → Hp → Prop) (h : H p = some (.tup xs)) (hz : xs.length ≤ 100000) (hw : ∀ x, wipe ((wipe σ vs).set j (some x)) vs = wipe σ vs) (Fm : ∀ i v H H', F i v H → TSame H H' → F i v H')
    (el : ∀ i x H', xs[i]? = some x → Same H H' → ∀ Q' : VK, (∀ v H'', Same H' H'' → F i v H'' → Q' v H'') → te ((wipe σ vs).set j (some x)) H' Q') (k : LcEnd H F xs.length Q) :
    ∃ a, V.ref p = .ref a ∧ (∃ xs, SqT K H a xs) ∧ LcAt (Itt K a) (gName j) tYes te vs σ Q H := by
  refine ⟨p, rfl, ⟨xs, .of h⟩, fun D hD => lc_tup (xs := xs) (LcInv H D F) (LcInv.start hD) (fun i H' _ I => .of (I.same _ _ h)) (fun i x H' hx I => ?_) fun H' I => I.done k⟩
  refine ⟨hw x, ?_⟩
  unfold tYes
  dsimp only
  rw [if_pos rfl]
  exact el i x H' hx I.same _ fun v H'' s f => I.next Fm s f (by have := (List.getElem?_eq_some_iff.mp hx).1; omega)
/-- a for over a list at p -/
theorem x_forL {g : TG} {tb : TS} {p : Addr} {xs : List V} (h : H p = some (.lst xs)) (Pv : Nat → L2.St → Hp → Prop) (h0 : Pv 0 σ H) (hl : ∀ i σ H, Pv i σ H → H p = some (.lst xs))
    (hs : ∀ i x σ H, xs[i]? = some x → Pv i σ H → g x σ H fun σ2 H2 => tb { D with nx := Pv (i + 1), ct := Pv (i + 1), bk := D.nx } σ2 H2) (hd : ∀ σ H, Pv xs.length σ H → D.nx σ H) :
    ∃ a, V.ref p = .ref a ∧ (∃ xs, SqL K H a xs) ∧ ∃ W : Nat → Nat → L2.St → Hp → Prop, (∃ m, W 0 m σ H) ∧ ∀ i m σ H, W i m σ H →
    ((Itl K a).stop i H ∧ D.nx σ H) ∨ ((Itl K a).go i H ∧ ∃ N : L2.St → Hp → Prop, (∀ σ' H', N σ' H' → ∃ m', m' < m ∧ W (i + 1) m' σ' H') ∧ ∀ x H', (Itl K a).yld i H x H' → g x σ H' fun σ2 H2 => tb { D with nx := N, ct := N, bk := D.nx } σ2 H2) :=
  ⟨p, rfl, ⟨xs, .of h⟩, for_list (xs := xs) Pv h0 (fun i σ H _ q => .of (hl i σ H q)) hs hd⟩
theorem x_forT {g : TG} {tb : TS} {p : Addr} {xs : List V} (h : H p = some (.tup xs)) (Pv : Nat → L2.St → Hp → Prop) (h0 : Pv 0 σ H) (hl : ∀ i σ H, Pv i σ H → H p = some (.tup xs))
    (hs : ∀ i x σ H, xs[i]? = some x → Pv i σ H → g x σ H fun σ2 H2 => tb { D with nx := Pv (i + 1), ct := Pv (i + 1), bk := D.nx } σ2 H2) (hd : ∀ σ H, Pv xs.length σ H → D.nx σ H) :
    ∃ a, V.ref p = .ref a ∧ (∃ xs, SqT K H a xs) ∧ ∃ W : Nat → Nat → L2.St → Hp → Prop, (∃ m, W 0 m σ H) ∧ ∀ i m σ H, W i m σ H →
    ((Itt K a).stop i H ∧ D.nx σ H) ∨ ((Itt K a).go i H ∧ ∃ N : L2.St → Hp → Prop, (∀ σ' H', N σ' H' → ∃ m', m' < m ∧ W (i + 1) m' σ' H') ∧ ∀ x H', (Itt K a).yld i H x H' → g x σ H' fun σ2 H2 => tb { D with nx := N, ct := N, bk := D.nx } σ2 H2) :=
  ⟨p, rfl, ⟨xs, .of h⟩, for_tup (xs := xs) Pv h0 (fun i σ H _ q => .of (hl i σ H q)) hs hd⟩
/-- len, list, tuple, slices, + -/
theorem x_lenL {p : Addr} {xs : List V} (h : H p = some (.lst xs)) (k : Q (.int xs.length) H) : ∃ p' ys, [V.ref p] = [.ref p'] ∧ (SqL K H p' ys ∨ SqT K H p' ys) ∧ Q (.int ys.length) H := ⟨p, xs, rfl, .inl (.of h), k⟩
theorem x_lenT {p : Addr} {xs : List V} (h : H p = some (.tup xs)) (k : Q (.int xs.length) H) : ∃ p' ys, [V.ref p] = [.ref p'] ∧ (SqL K H p' ys ∨ SqT K H p' ys) ∧ Q (.int ys.length) H := ⟨p, xs, rfl, .inr (.of h), k⟩
theorem x_listL {p : Addr} {xs : List V} (h : H p = some (.lst xs)) (k : ∀ l, H l = none → Q (.ref l) (upd H l (.lst xs))) : ∃ p' ys, [V.ref p] = [.ref p'] ∧ (SqL K H p' ys ∨ SqT K H p' ys) ∧ ∀ l, H l = none → Q (.ref l) (upd H l (.lst ys)) := ⟨p, xs, rfl, .inl (.of h), k⟩
theorem x_listT {p : Addr} {xs : List V} (h : H p = some (.tup xs)) (k : ∀ l, H l = none → Q (.ref l) (upd H l (.lst xs))) : ∃ p' ys, [V.ref p] = [.ref p'] ∧ (SqL K H p' ys ∨ SqT K H p' ys) ∧ ∀ l, H l = none → Q (.ref l) (upd H l (.lst ys)) := ⟨p, xs, rfl, .inr (.of h), k⟩
theorem x_tupL {p : Addr} {xs : List V} (h : H p = some (.lst xs)) (k : ∀ l, H l = none → Q (.ref l) (upd H l (.tup xs))) : ∃ p' ys, [V.ref p] = [.ref p'] ∧ ((SqL K H p' ys ∧ ∀ l, H l = none → Q (.ref l) (upd H l (.tup ys))) ∨ (SqT K H p' ys ∧ Q (.ref p') H)) := ⟨p, xs, rfl, .inl ⟨.of h, k⟩⟩
theorem x_bm {T : String} {r : V → List V → Hp → VK → Prop} {to : TE} {t : TA} (k : to σ H fun x H1 => tyV K T x H1 ∧ t σ H1 fun xs H2 => r x xs H2 Q) : tBM K T r to t σ H Q := k
theorem x_bm0 {T : String} {r : V → List V → Hp → VK → Prop} {to : TE} (k : to σ H fun x H1 => tyV K T x H1 ∧ r x [] H1 Q) : tBM0 K T r to σ H Q := k
theorem x_tyL {p : Addr} {xs : List V} (h : H p = some (.lst xs)) {A : Prop} (k : A) : tyV K "list" (.ref p) H ∧ A := ⟨.inl ⟨rfl, xs, .inl (.inl h)⟩, k⟩
theorem x_append {p : Addr} {xs : List V} {y : V} (h : H p = some (.lst xs)) (hz : xs.length ≤ 100000) (k : Q .non (upd H p (.lst (xs ++ [y])))) : rAppend (.ref p) [y] H Q := ⟨p, xs, y, rfl, rfl, h, Nat.lt_of_le_of_lt hz (by decide), k⟩
theorem x_pop {p : Addr} {xs : List V} {y : V} (h : H p = some (.lst (xs ++ [y]))) (k : Q y (upd H p (.lst xs))) : rPop (.ref p) [] H Q := ⟨p, xs ++ [y], y, rfl, rfl, h, by simp, by rw [List.dropLast_concat]; exact k⟩
theorem x_sl {r : V → Option Int → Option Int → Hp → VK → Prop} {te : TE} {tl th : TO} (k : te σ H fun x H1 => tl σ H1 fun lo H2 => th σ H2 fun hi H3 => r x lo hi H3 Q) : tSl r te tl th σ H Q := k
theorem x_nopart {R : Option Int → Hp → Prop} (k : R none H) : tNoPart σ H R := k
theorem x_part {t : TE} {R : Option Int → Hp → Prop} (k : t σ H fun x H1 => ∃ i, x = .int i ∧ R (some i) H1) : tPart t σ H R := k
theorem x_some {i : Int} {R : Int → Prop} (k : R i) : ∃ j, V.int i = .int j ∧ R j := ⟨i, rfl, k⟩
theorem x_slL {p : Addr} {xs : List V} {lo hi : Option Int} (h : H p = some (.lst xs)) (k : ∀ q, H q = none → Q (.ref q) (upd H q (.lst (cutV xs lo hi)))) : rSlL K (.ref p) lo hi H Q := ⟨p, xs, rfl, .of h, k⟩
theorem x_cat {p q : Addr} {xs ys : List V} (h : H p = some (.lst xs)) (h2 : H q = some (.lst ys)) (hz : xs.length + ys.length ≤ 100000) (k : ∀ r, H r = none → Q (.ref r) (upd H r (.lst (xs ++ ys)))) : rCat (.ref p) (.ref q) H Q := ⟨p, q, xs, ys, rfl, rfl, h, h2, Nat.le_trans hz (by decide), k⟩
theorem x_rep {p : Addr} {y : V} {n : Int} (h : H p = some (.lst [y])) (h0 : 0 ≤ n) (hz : n ≤ 100000) (k : ∀ r, H r = none → Q (.ref r) (upd H r (.lst (List.replicate n.toNat y)))) : rRep (.ref p) (.int n) H Q := by
  refine ⟨p, n, [y], rfl, rfl, h, by omega, by omega, ?_, fun r hr => ?_⟩
  · rw [List.length_singleton, Nat.one_mul]
    exact Nat.le_trans (show n.toNat ≤ 100000 by omega) (by decide)
  · have e : (List.replicate n.toNat [y]).flatten = List.replicate n.toNat y := by
      generalize n.toNat = m
      induction m with
      | zero => rfl
      | succ m ih => rw [List.replicate_succ, List.flatten_cons, ih]; rfl
    rw [e]
    exact k r hr
end
/-! what stands for numbers, steps, lists, polynomials -/
def RQ (H : Hp) (v : V) (q : Rat) : Prop := ∃ p, v = .ref p ∧ H p = some (.tup [.int q.num, .int ((q.den : Nat) : Int)])
theorem RQ.same {H H' : Hp} {v : V} {q : Rat} (h : RQ H v q) (s : Same H H') : RQ H' v q := let ⟨p, e, m⟩ := h; ⟨p, e, s _ _ m⟩
/-- the words T: what the top leaves of the built-in names -/
structure Wd (mg : Str → Option Value) : Prop where
  len : mg "len" = none
  gcd : mg "gcd" = some (.builtin "math.gcd")
  max : mg "max" = none
  isinstance : mg "isinstance" = none
  int : mg "int" = none
  bool : mg "bool" = none
  tuple : mg "tuple" = none
  list : mg "list" = none
  range : mg "range" = none
  enumerate : mg "enumerate" = none
  zip : mg "zip" = none
  repr : mg "repr" = none
  c_MOST_PART : ∃ t, mg "MOST_PART" = some (.int (10 ^ 60) t)
  c_MOST_DEGREE : ∃ t, mg "MOST_DEGREE" = some (.int 64 t)
end K9

set_option Elab.async false
set_option linter.all false
set_option maxRecDepth 100000
set_option maxHeartbeats 4000000
namespace PySem
namespace K9X
open PySem.W PySem.Calls PyProof.Rows PySem.HandSPX
/-- what the written part says of an own exception, at C, and of its __init__, at fI, which calls that of ValueError by super -/
structure SupTxt (prog : Program) (K : Frag) (mg : Str → Option Value) (C fI : Addr) (qual : Str) (ps : Arguments) (body : List Stmt) (scope : Scope) : Prop where
  cls : L2.OexC K C
  iC : findIn K (.ref C) "__init__" = some (some (.ref fI))
  tI : typeIn K (.ref fI) = some (.type "function")
  fn : ∃ (oc : Value) (od : Option Addr) (doc pm : Value) (an : Option Addr) (cda : Addr) (ct : Value) (osl : Array (Option Value)) (cc : Addr),
    K.lookup fI = some ⟨oc, od, .func (fnX "__init__" qual ps body scope [("__class__", cc)] .none .none doc pm an (.ref cda) ct), osl⟩ ∧ codeIn K (.ref cda) qual = true ∧
    (∃ (ccl : Value) (cdd : Option Addr) (vs : Array Value) (ccs : Array (Option Value)) (file : Str) (tf : Tok), K.lookup cda = some ⟨ccl, cdd, .fields vs, ccs⟩ ∧ vs[2]? = some (.str file tf) ∧ ((prog.main.file : Str) == file) = true) ∧
    ∃ (cl : Value) (cld : Option Addr) (csl : Array (Option Value)), K.lookup cc = some ⟨cl, cld, .cell (some (.ref C)), csl⟩
  sup : mg "super" = none
  alg : ks_superIn K C C "__init__" = some (some (.builtin "ValueError.__init__"))
  opq : nsIn K cStatics "thirdparty.any" = some none
  sub : mroIn K C (.ref C) = some true
  subV : subIn K (.ref C) (.type "ValueError") = some true
  top : (prog.main.scope.names.lookup ("super" : Str)).isSome = false
section
variable {prog : Program} {w : World} {A : Around} {E : Value → Shared → Prop} {h : Heap} {g : Array GenState} {d : Drawn} {t : Nat} {os : OsState}
variable {nm q : Str} {C N : Addr} {bs bm : List Value} {hdct : Bool} {sn : List Str} {sub : List Value} {ab : Bool} {col : Option Bool} {dd : Option Addr} {k0 k1 k2 k3 k5 : Option Value}
theorem call_mw {u e t0 : Addr} {rest : List Value} {Q : Value → Shared → Prop}
    (hC : h.get? C = some (excClassObj nm q C N bs bm hdct sn sub ab col dd k0 k1 k2 k3 k5 "ValueError.__new__")) (he : h.get? e = some (excO C t0)) (hu : h.get? u = some (kxs_mw "ValueError.__init__" e)) (hrest : rest.length ≤ sizeLine)
    (hq : ∀ h' t1, (∀ b o, b ≠ e → h.get? b = some o → h'.get? b = some o) → h'.get? e = some (excO C t1) → Q .none ⟨h', g, d, t, os⟩) :
    wpAny (model prog w) A (call (.ref u) rest) Q E ⟨h, g, d, t, os⟩ := by
  refine wpAny_call (codeAny_of_tree ?_)
  show wpAny _ A.in1 (callAny (.ref u) ⟨rest, []⟩) _ _ _
  simp only [callAny]
  refine wpAny_bind (wpAny_load hu ?_)
  simp only [kxs_mw, show (Value.type "method-wrapper" == Value.type "method" || Value.type "method-wrapper" == Value.type "builtin_function_or_method" || Value.type "method-wrapper" == Value.type "method-wrapper") = true by decide, if_true]
  refine W.KFB.if_so (by decide) ?_
  refine wpAny_bind (check_bound_init F.excBase_ValueError.toExcCallFacts hC he rfl ?_)
  refine wpAny_bind (wpAny_pure (wpAny_pure ?_))
  refine ⟨Code.quiet_builtin _ (by decide +kernel), codeAny_builtin F.excBase_ValueError.initEntry ?_⟩
  rw [Around.under_plainId F.excBase_ValueError.init.plain _]
  wp_walk
  refine hq _ h.objs.size (fun b o hb ho => ?_) ?_
  · rw [Heap.get?_update_other _ _ (Ne.symm hb)]
    exact Heap.get?_push_of_some _ ho
  · rw [Heap.get?_update_self _ (Heap.get?_push_of_some _ he) rfl]
    rfl
end
section
variable {prog : Program} {w : World} {A : Around} {E : Value → Shared → Prop} {K : Frag} {mg m : Str → Option Value} {base hp : Heap} {g : Array GenState} {d : Drawn} {t : Nat} {os : OsState} {C fI x L : Addr} {qual : Str} {scope : Scope}
/-- super().__init__(e, ..) in such an __init__: nothing is told of it but that the object stays -/
theorem sup_eval {fd : FuncData} {body : List Stmt} {oc : Value} {od : Option Addr} {cda cc : Addr} {osl : Array (Option Value)} {ar : Arg} {t0 : Addr} {p0 p1 p2 p4 : Pos} {e : Expr} {es : List Expr} {Q : Value → Shared → Prop}
    (M : L2.Mod K mg base) (T : SupTxt prog K mg C fI qual fd.params body fd.scope) (kb : ∀ b o, base.get? b = some o → hp.get? b = some o)
    (hfd : hp.get? fI = some ⟨oc, od, .func fd, osl⟩) (hcode : fd.code = .ref cda) (hclo : fd.closure = [(("__class__" : Str), cc)]) (hgl : fd.globals = mainGlobals) (hbl : fd.builtins = builtinsNs)
    (hcd : ∃ (ccl : Value) (cdd : Option Addr) (vs : Array Value) (ccs : Array (Option Value)) (file : Str) (tf : Tok), K.lookup cda = some ⟨ccl, cdd, .fields vs, ccs⟩ ∧ vs[2]? = some (.str file tf) ∧ ((prog.main.file : Str) == file) = true)
    (hcc : ∃ (cl : Value) (cld : Option Addr) (csl : Array (Option Value)), K.lookup cc = some ⟨cl, cld, .cell (some (.ref C)), csl⟩)
    (har : (fd.params.posonlyargs ++ fd.params.args).head? = some ar) (hL : hp.Ns L m) (hself : m ar.arg = some (.ref x)) (hx : hp.get? x = some (excO C t0))
    (hks : fd.scope.names.lookup ("super" : Str) = some .globalImplicit) (hkc : fd.scope.names.lookup ("__class__" : Str) = some .free) (hka : fd.scope.names.lookup ar.arg = some .local) (hk : fd.scope.kind = .function)
    (hargs : ∀ h' tk, (∀ b o, hp.get? b = some o → h'.get? b = some o) → ∀ Q' : List Value → Shared → Prop, (∀ vs tk', vs.length ≤ 10 → Q' vs ⟨h', g, d, tk', os⟩) → wpAny (model prog w) A (spliced (backTo p4 (starEach (e :: es) (callEnv fd L fI)))) Q' E ⟨h', g, d, tk, os⟩)
    (hev : ∃ pl : Sem Bool, eval (.Call (.Attribute (.Call (.Name "super" p0) [] [] p1) "__init__" p2) (e :: es) [] p4) (callEnv fd L fI) = (do
      let ov ← attributeBase (.Call (.Name "super" p0) [] [] p1) "__init__" (callEnv fd L fI) (eval (.Call (.Name "super" p0) [] [] p1) (callEnv fd L fI))
      standAt p2.atName
      let (f, first) ← holding [ov] (getMethod ov "__init__" pl)
      callWith p4 f first (backTo p4 (starEach (e :: es) (callEnv fd L fI))) []))
    (hst : starEach (e :: es) (callEnv fd L fI) = (false, eval e (callEnv fd L fI)) :: starEach es (callEnv fd L fI)) (hpl : (backTo p4 (starEach es (callEnv fd L fI))).any (·.1) = false)
    (hq : ∀ h' tk, (∀ b o, b ≠ x → hp.get? b = some o → h'.get? b = some o) → (∃ t1, h'.get? x = some (excO C t1)) → Q .none ⟨h', g, d, tk, os⟩) :
    wpAt (model prog w) A (.func body (callEnv fd L fI)) (eval (.Call (.Attribute (.Call (.Name "super" p0) [] [] p1) "__init__" p2) (e :: es) [] p4) (callEnv fd L fI)) Q E ⟨hp, g, d, t, os⟩ := by
  have X : K.In hp := M.kin.keeps kb
  obtain ⟨nm, q, N, bs, bm, sn, sub, ab, col, dd, k0, k1, k2, k3, k5, hC, hbm⟩ := T.cls.cls
  obtain ⟨ccl, cdd, vs, ccs, file, tf, hcda, hvs, hfile⟩ := hcd
  obtain ⟨cl, cld, csl, hcell⟩ := hcc
  obtain ⟨mb, hb1, hb2⟩ := M.blt
  obtain ⟨pl, hev⟩ := hev
  have hcl : clsIn K C = some { name := nm, bases := bs, mro := .ref C :: bm, ns := N, qualname := q, hasDict := true, slotNames := sn, subclasses := sub, abstract := ab, collection := col, hasDel := false } := by unfold clsIn; rw [hC] <;> rfl
  have hxn : K.lookup x = none → True := fun _ => trivial
  have hxC : x ≠ C := fun z => by
    have h1 := X _ _ hC
    rw [z, h1] at hx
    cases hx
  refine ks_wpAt_MethodCall (pl := pl) ?_ hev
  refine ks_wpAt_super_base (of := ⟨oc, od, .func fd, osl⟩) hks hkc (by decide) rfl hfd rfl har hcode (X _ _ hcda) rfl hvs hfile T.top ?_
  refine ks_loadName_global (env := callEnv fd L fI) hk hks (loadGlobal_builtin (by show hp.Ns fd.globals mg; rw [hgl]; exact M.glob.keeps kb) T.sup (by show hp.Ns fd.builtins mb; rw [hbl]; exact hb1.keeps kb) ((hb2 _ (by decide)).trans (by kernel_rfl)) ⟨rfl, ?_⟩)
  refine wpAny_loadName_free (env := callEnv fd L fI) hk hkc (by show List.lookup _ fd.closure = _; rw [hclo]; rfl) ⟨_, X _ _ hcell, rfl⟩ ?_
  refine wpAny_loadName_local (env := callEnv fd L fI) hk hka hL hself ?_
  refine ks_wpAny_isType_cls (X _ _ hC) rfl ⟨rfl, ?_⟩
  refine ks_wpAny_call_super (X _ _ hC) rfl hx rfl (fun c z => nomatch z) (looks_mroIn X T.sub) (fun h' e' k => ?_)
  have X' : K.In h' := X.keeps k
  have hI : Looks (model prog w) h' (isInstance (.ref x) (.type "ValueError")) true :=
    (InstAt.type (C := C) (od := none) ⟨k _ _ hx, rfl, rfl, trivial⟩).andThen (looks_subIn X' T.subV)
  have ha := T.alg
  unfold ks_superIn at ha
  rw [hcl] at ha
  refine kxs_getMethod kxs_ValueError e' (looks_opaque X' T.opq) (l₀ := Value.ref C :: bm) ?_ rfl X' ha hI hxC (by decide) ?_
  · exact fun A Q E s k q => wpAny_bind ((looks_clsIn X' hcl) A _ E s k (wpAny_pure q))
  have k2' : ∀ b o, hp.get? b = some o → (h'.push (kxs_mw "ValueError.__init__" x)).get? b = some o := fun b o z => Heap.get?_push_of_some _ (k b o z)
  rw [hst]
  refine kxs_callWith (i := "ValueError.__init__") (x := x) (by show (false || (backTo p4 (starEach es (callEnv fd L fI))).any (·.1)) = false; rw [hpl]; rfl) ?_
  refine evalArgs_plain ?_
  have ar := hargs (h'.push (kxs_mw "ValueError.__init__" x)) (t + 1) k2' (fun vs s₁ => KxsAt "ValueError.__init__" h'.objs.size x s₁.heap ∧ wpAny (model prog w) A (call (.ref h'.objs.size) ([] ++ vs)) Q E s₁) (fun vs tk' hl => ?_)
  · rw [hst] at ar
    exact ar
  have hu : (h'.push (kxs_mw "ValueError.__init__" x)).get? h'.objs.size = some (kxs_mw "ValueError.__init__" x) := Heap.get?_push_at rfl rfl
  refine ⟨hu, ?_⟩
  refine call_mw (k2' _ _ (X _ _ hC)) (k2' _ _ hx) hu (by rw [List.nil_append, sizeLine_eq]; omega) fun h2 t1 k3' hx3 => ?_
  exact hq h2 tk' (fun b o hb z => k3' b o hb (k2' b o z)) ⟨t1, hx3⟩
end
end K9X
end PySem

set_option Elab.async false
set_option linter.all false
set_option maxRecDepth 100000
set_option maxHeartbeats 4000000
namespace PySem
namespace K9X
open PySem.W PySem.Calls PyProof.Rows PySem.HandSPX
/-! the two texts of __init__ -/
def psV (q1 q2 : Pos) : Arguments := { posonlyargs := [], args := [{ arg := "self", annotation := none, pos := q1 }, { arg := "value", annotation := none, pos := q2 }], vararg := none, kwonlyargs := [], kw_defaults := [], kwarg := none, defaults := [] }
def bodyV (z : Str) (p0 p1 p2 p3 p4 p5 p6 p7 p8 p9 p10 : Pos) : List Stmt :=
  [.Expr (.Call (.Attribute (.Call (.Name "super" p0) [] [] p1) "__init__" p2) [.Constant (.str z) 0 p3, .Name "value" p5] [] p4) p6, .Assign [.Attribute (.Name "self" p7) "value" p8] (.Name "value" p9) p10]
def scV : Scope := { kind := .function, names := [(PySem.Str.ofString "self", .local), (PySem.Str.ofString "value", .local), (PySem.Str.ofString "__class__", .free), (PySem.Str.ofString "super", .globalImplicit)], isGenerator := false, isCoroutine := false, more := [] }
def psN (q1 : Pos) : Arguments := { posonlyargs := [], args := [{ arg := "self", annotation := none, pos := q1 }], vararg := none, kwonlyargs := [], kw_defaults := [], kwarg := none, defaults := [] }
def bodyN (z : Str) (p0 p1 p2 p3 p4 p6 : Pos) : List Stmt :=
  [.Expr (.Call (.Attribute (.Call (.Name "super" p0) [] [] p1) "__init__" p2) [.Constant (.str z) 0 p3] [] p4) p6]
def scN : Scope := { kind := .function, names := [(PySem.Str.ofString "self", .local), (PySem.Str.ofString "__class__", .free), (PySem.Str.ofString "super", .globalImplicit)], isGenerator := false, isCoroutine := false, more := [] }
def Ev (p0 p1 p2 p4 : Pos) (es : List Expr) : Prop := ∀ env : Env, ∃ pl : Sem Bool, eval (.Call (.Attribute (.Call (.Name "super" p0) [] [] p1) "__init__" p2) es [] p4) env = (do
      let ov ← attributeBase (.Call (.Name "super" p0) [] [] p1) "__init__" env (eval (.Call (.Name "super" p0) [] [] p1) env)
      standAt p2.atName
      let (f, first) ← holding [ov] (getMethod ov "__init__" pl)
      callWith p4 f first (backTo p4 (starEach es env)) [])
section
variable {prog : Program} {w : World} {A : Around} {E : Value → Shared → Prop} {R : Result → Shared → Prop} {K : Frag} {mg : Str → Option Value} {base hp : Heap} {g : Array GenState} {d : Drawn} {t : Nat} {os : OsState} {C fI x : Addr} {qual : Str}
theorem val_init {q1 q2 p0 p1 p2 p3 p4 p5 p6 p7 p8 p9 p10 : Pos} {z : Str} {t0 : Addr} {v : Value} (M : L2.Mod K mg base) (T : SupTxt prog K mg C fI qual (psV q1 q2) (bodyV z p0 p1 p2 p3 p4 p5 p6 p7 p8 p9 p10) scV) (kb : ∀ b o, base.get? b = some o → hp.get? b = some o)
    (hev : Ev p0 p1 p2 p4 [.Constant (.str z) 0 p3, .Name "value" p5]) (noV : findIn K (.ref C) "value" = some none) (hlim : hp.NoLimit) (hx : hp.get? x = some (excO C t0)) (hnx : K.lookup x = none) (hroom : A.depth < recursionLimit)
    (hq : ∀ h' tk dx t1, (∀ b o, b ≠ x → hp.get? b = some o → h'.get? b = some o) → h'.get? x = some { cls := .ref C, dict := some dx, data := .fields #[.ref t1, .none, .none, .none, .bool false, .none] } → hp.objs.size ≤ dx → dx ≠ x → h'.Ns1 dx (fun y => if y = "value" then some v else none) →
      R (.ok (.ret .none)) ⟨h', g, d, tk, os⟩) :
    codeAny (model prog w) A (.call (.ref fI) ⟨[.ref x, v], []⟩) R ⟨hp, g, d, t, os⟩ := by
  obtain ⟨oc, od, doc, pm, an, cda, ct, osl, cc, hf, hcd, hcode, hcell⟩ := T.fn
  obtain ⟨nm, q, N, bs, bm, sn, sub, ab, col, dd, k0, k1, k2, k3, k5, hC, hbm⟩ := T.cls.cls
  have hcl : clsIn K C = some { name := nm, bases := bs, mro := .ref C :: bm, ns := N, qualname := q, hasDict := true, slotNames := sn, subclasses := sub, abstract := ab, collection := col, hasDel := false } := by unfold clsIn; rw [hC] <;> rfl
  have X : K.In hp := M.kin.keeps kb
  refine ks_codeAny_call_defAt (binds := [("self", .ref x), ("value", v)]) hroom (X _ _ hf) rfl hlim (codeRec_of X hcd) rfl (BindsTo.of_eq (by first | rfl | with_unfolding_all rfl)) (by show ∀ y ∈ scV.names, y.2 ≠ .cell; decide) (by intro y hy; simp at hy; rcases hy with e | e <;> subst e <;> rfl) (fun h₁ hns k1' => ?_) rfl rfl rfl
  have X₁ : K.In h₁ := X.keeps k1'
  have hx₁ := k1' _ _ hx
  refine ks_wpAt_execs_cons (ks_wpAt_Expr_any ?_)
  refine sup_eval (ar := { arg := "self", annotation := none, pos := q1 }) M T (fun b o e => k1' b o (kb b o e)) (k1' _ _ (X _ _ hf)) rfl rfl rfl rfl hcode hcell rfl hns rfl hx₁ rfl rfl rfl rfl (fun h' tk ext Q' kq => ?_) (hev _) rfl rfl (fun h' tk kp hx2 => ?_)
  · refine spliced_cons (Constant_str (pos := p3) (k := 0) ?_)
    refine spliced_cons (wpAny_Name (pos := p5) (wpAny_loadName_local rfl rfl (hns.at fun o e => ext _ _ e) rfl ?_) (by decide))
    exact spliced_nil (kq _ _ (by simp))
  obtain ⟨t1, hx2⟩ := hx2
  have hxL : hp.objs.size ≠ x := Nat.ne_of_gt (Heap.lt_size hx)
  have hn2 : h'.Ns hp.objs.size (fun y => List.lookup y (List.reverse [(("self" : Str), Value.ref x), ("value", v)])) := hns.at fun o e => kp _ _ hxL e
  have X2 : K.In h' := fun a o e => kp a o (fun z => by rw [z, hnx] at e; cases e) (X₁ a o e)
  refine wpAt_of_wpAny ?_
  show wpAny _ _ (execs _ _) _ _ _
  refine wpAny_execs_cons (plainObj_wpAny_Assign_Attribute ?_)
  refine wpAny_Name (wpAny_loadName_local rfl rfl hn2 rfl ?_) (by decide)
  refine wpAny_Name (wpAny_loadName_local rfl rfl hn2 rfl ?_) (by decide)
  refine set_plain X2 (ox := excO C t1) (od := none) ⟨hx2, rfl, rfl, trivial⟩ T.cls.sa ?_
  refine exc_osa X2 hx2 hcl (show refsVE (.ref C :: bm) = true from hbm) rfl noV (fun h₃ tk₃ dx k₃ dn dne hx₃ hn₃ => ?_)
  show wpAny _ _ (execs _ _) _ _ _
  have z1 : hp.objs.size < h'.objs.size := hn2.lt
  exact wpAny_execs_nil (hq h₃ tk₃ dx t1 (fun b o hb e => k₃ b o hb (kp b o hb (k1' b o e))) hx₃ (Nat.le_of_lt (Nat.lt_of_lt_of_le z1 dn)) dne hn₃)
theorem none_init {q1 p0 p1 p2 p3 p4 p6 : Pos} {z : Str} {t0 : Addr} (M : L2.Mod K mg base) (T : SupTxt prog K mg C fI qual (psN q1) (bodyN z p0 p1 p2 p3 p4 p6) scN) (kb : ∀ b o, base.get? b = some o → hp.get? b = some o)
    (hev : Ev p0 p1 p2 p4 [.Constant (.str z) 0 p3]) (hlim : hp.NoLimit) (hx : hp.get? x = some (excO C t0)) (hroom : A.depth < recursionLimit)
    (hq : ∀ h' tk t1, (∀ b o, b ≠ x → hp.get? b = some o → h'.get? b = some o) → h'.get? x = some (excO C t1) → R (.ok (.ret .none)) ⟨h', g, d, tk, os⟩) :
    codeAny (model prog w) A (.call (.ref fI) ⟨[.ref x], []⟩) R ⟨hp, g, d, t, os⟩ := by
  obtain ⟨oc, od, doc, pm, an, cda, ct, osl, cc, hf, hcd, hcode, hcell⟩ := T.fn
  have X : K.In hp := M.kin.keeps kb
  refine ks_codeAny_call_defAt (binds := [("self", .ref x)]) hroom (X _ _ hf) rfl hlim (codeRec_of X hcd) rfl (BindsTo.of_eq (by first | rfl | with_unfolding_all rfl)) (by show ∀ y ∈ scN.names, y.2 ≠ .cell; decide) (by intro y hy; simp at hy; subst hy; rfl) (fun h₁ hns k1' => ?_) rfl rfl rfl
  refine ks_wpAt_execs_cons (ks_wpAt_Expr_any ?_)
  refine sup_eval (ar := { arg := "self", annotation := none, pos := q1 }) M T (fun b o e => k1' b o (kb b o e)) (k1' _ _ (X _ _ hf)) rfl rfl rfl rfl hcode hcell rfl hns rfl (k1' _ _ hx) rfl rfl rfl rfl (fun h' tk ext Q' kq => ?_) (hev _) rfl rfl (fun h' tk kp hx2 => ?_)
  · refine spliced_cons (Constant_str (pos := p3) (k := 0) ?_)
    exact spliced_nil (kq _ _ (by simp))
  obtain ⟨t1, hx2⟩ := hx2
  refine wpAt_of_wpAny ?_
  show wpAny _ _ (execs _ _) _ _ _
  exact wpAny_execs_nil (hq h' tk t1 (fun b o hb e => kp b o hb (k1' b o e)) hx2)
end
end K9X
end PySem

set_option Elab.async false
set_option linter.all false
set_option maxRecDepth 100000
set_option maxHeartbeats 4000000
namespace PySem
namespace K9X
open PySem.W PySem.Calls PyProof.Rows PySem.HandSPX
section
variable {prog : Program} {w : World} {A : Around} {R : Result → Shared → Prop} {s : Shared} {K : Frag} {mg : Str → Option Value} {base : Heap} {C fI : Addr} {qual : Str}
structure MadeV (h h' : Heap) (e C d : Addr) (v : Value) : Prop where
  keep : ∀ b o, h.get? b = some o → h'.get? b = some o
  new : h.objs.size ≤ e
  obj : ∃ oe vs, h'.get? e = some oe ∧ oe.cls = .ref C ∧ oe.dict = some d ∧ oe.data = .fields vs ∧ vs[1]? = some .none
  dbig : h.objs.size ≤ d
  dne : d ≠ e
  ns : h'.Ns1 d (fun y => if y = "value" then some v else none)
theorem one_size (v : Value) : [v].length ≤ sizeLine := by
  rw [sizeLine_eq]
  exact (by decide : 1 ≤ 16777216)
theorem fresh_none {hp : Heap} (X : K.In hp) (us : List Value) (C : Addr) : K.lookup (hp.objs.size + 1) = none := by
  cases e : K.lookup (hp.objs.size + 1) with
  | none => rfl
  | some o =>
    have z : hp.get? (hp.objs.size + 1) = some o := X _ _ e
    exact absurd (Nat.lt_of_succ_lt (Heap.lt_size z)) (Nat.lt_irrefl _)
theorem val_made {q1 q2 p0 p1 p2 p3 p4 p5 p6 p7 p8 p9 p10 : Pos} {z : Str} {v : Value} (M : L2.Mod K mg base) (T : SupTxt prog K mg C fI qual (psV q1 q2) (bodyV z p0 p1 p2 p3 p4 p5 p6 p7 p8 p9 p10) scV) (kb : ∀ b o, base.get? b = some o → s.heap.get? b = some o)
    (hev : Ev p0 p1 p2 p4 [.Constant (.str z) 0 p3, .Name "value" p5]) (noV : findIn K (.ref C) "value" = some none) (hlim : s.heap.NoLimit) (hroom : A.depth + 1 < recursionLimit)
    (hq : ∀ h' tk e d, MadeV s.heap h' e C d v → R (.ok (.ret (.ref e))) { s with heap := h', toks := tk }) :
    codeAny (model prog w) A (.call (.ref C) ⟨[v], []⟩) R s := by
  obtain ⟨nm, q, N, bs, bm, sn, sub, ab, col, dd, k0, k1, k2, k3, k5, hC, hbm⟩ := T.cls.cls
  obtain ⟨hp, g, dr, tk, os⟩ := s
  have X : K.In hp := M.kin.keeps kb
  have k : ∀ b o, hp.get? b = some o → ((hp.push (kdv_tup [v])).push (excO C hp.objs.size)).get? b = some o := fun b o e => Heap.get?_push_of_some _ (Heap.get?_push_of_some _ e)
  have hget : ((hp.push (kdv_tup [v])).push (excO C hp.objs.size)).get? (hp.objs.size + 1) = some (excO C hp.objs.size) := by heap_get
  refine call_own F.excBase_ValueError (fun X => refsVE_contains X bm hbm) (X _ _ hC) (looks_findIn X T.iC) (fun self => bind_fn X self T.tI) (one_size v) ?_
  refine val_init M T (fun b o e => k b o (kb b o e)) hev noV (hlim.keeps k) hget (fresh_none X [v] C) ?_ fun h' tk' dx t1 k' hx dn dne hns => ?_
  · show A.depth + 1 < recursionLimit
    exact hroom
  · have old : ∀ b o, hp.get? b = some o → h'.get? b = some o := fun b o e => k' b o (Nat.ne_of_lt (Nat.lt_succ_of_lt (Heap.lt_size e))) (k b o e)
    have z : hp.objs.size + 1 + 1 ≤ dx := by
      first
        | (simpa only [Heap.size_push] using dn)
        | exact dn
        | (have q := dn; rw [Heap.size_push, Heap.size_push] at q; exact q)
    exact ⟨rfl, hq h' tk' (hp.objs.size + 1) dx ⟨old, Nat.le_succ _, ⟨_, _, hx, rfl, rfl, rfl, rfl⟩, Nat.le_trans (Nat.le_trans (Nat.le_succ _) (Nat.le_succ _)) z, dne, hns⟩⟩
theorem none_made {q1 p0 p1 p2 p3 p4 p6 : Pos} {z : Str} (M : L2.Mod K mg base) (T : SupTxt prog K mg C fI qual (psN q1) (bodyN z p0 p1 p2 p3 p4 p6) scN) (kb : ∀ b o, base.get? b = some o → s.heap.get? b = some o)
    (hev : Ev p0 p1 p2 p4 [.Constant (.str z) 0 p3]) (hlim : s.heap.NoLimit) (hroom : A.depth + 1 < recursionLimit)
    (hq : ∀ h' e t1, (∀ b o, s.heap.get? b = some o → h'.get? b = some o) → s.heap.objs.size ≤ e → h'.get? e = some (excO C t1) → ∀ tk, R (.ok (.ret (.ref e))) { s with heap := h', toks := tk }) :
    codeAny (model prog w) A (.call (.ref C) ⟨[], []⟩) R s := by
  obtain ⟨nm, q, N, bs, bm, sn, sub, ab, col, dd, k0, k1, k2, k3, k5, hC, hbm⟩ := T.cls.cls
  obtain ⟨hp, g, dr, tk, os⟩ := s
  have X : K.In hp := M.kin.keeps kb
  have k : ∀ b o, hp.get? b = some o → ((hp.push (kdv_tup [])).push (excO C hp.objs.size)).get? b = some o := fun b o e => Heap.get?_push_of_some _ (Heap.get?_push_of_some _ e)
  have hget : ((hp.push (kdv_tup [])).push (excO C hp.objs.size)).get? (hp.objs.size + 1) = some (excO C hp.objs.size) := by heap_get
  refine call_own F.excBase_ValueError (fun X => refsVE_contains X bm hbm) (X _ _ hC) (looks_findIn X T.iC) (fun self => bind_fn X self T.tI) (Nat.zero_le _) ?_
  refine none_init M T (fun b o e => k b o (kb b o e)) hev (hlim.keeps k) hget ?_ fun h' tk' t1 k' hx => ?_
  · show A.depth + 1 < recursionLimit
    exact hroom
  · have old : ∀ b o, hp.get? b = some o → h'.get? b = some o := fun b o e => k' b o (Nat.ne_of_lt (Nat.lt_succ_of_lt (Heap.lt_size e))) (k b o e)
    exact ⟨rfl, hq h' (hp.objs.size + 1) t1 old (Nat.le_succ _) hx tk'⟩
end
end K9X
end PySem
namespace L2
open PySem PySem.Spec PyProof.Rows PySem.K9X
theorem relO_value {v : V} {v' : Value} (r : RelV v v') (f : Str) : RelO (List.lookup f [(("value" : Str), v)]) (if f = "value" then some v' else none) := by
  by_cases hw : f = "value"
  · subst hw
    rw [if_pos rfl]
    have q : List.lookup ("value" : Str) [(("value" : Str), v)] = some v := by simp [List.lookup]
    rw [q]
    exact r
  · rw [if_neg hw]
    have qw : (f == ("value" : Str)) = false := by simpa using hw
    have q2 : List.lookup f [(("value" : Str), v)] = none := by simp [List.lookup, qw]
    rw [q2]
    trivial
section
variable {X : Cx} {C fI : Addr} {qual x : Str}
/-- C(e) -/
def tMkV (C : Addr) (ta : TA) : St → Hp → XK → Prop := fun σ H Q => ta σ H fun vs H1 => ∃ v, vs = [v] ∧ ∀ d, H1 d = none → Q (.ref C) (some d) (upd H1 d (.xd [(("value" : Str), v)]))
theorem pmk_val {a : Expr} {ta : TA} {p pos : Pos} {k : Nat} {q1 q2 p0 p1 p2 p3 p4 p5 p6 p7 p8 p9 p10 : Pos} {z : Str} (T : SupTxt X.prog X.K X.mg C fI qual (psV q1 q2) (bodyV z p0 p1 p2 p3 p4 p5 p6 p7 p8 p9 p10) scV) (gC : X.mg x = some (.ref C)) (noV : PySem.W.findIn X.K (.ref C) "value" = some none)
    (hev : Ev p0 p1 p2 p4 [.Constant (.str z) 0 p3, .Name "value" p5]) (hr : Room k X.A) (hg : Gl X x) (ha : PA X [a] ta) (hdb : (x == ("__debug__" : Str)) = false := by decide)
    (he : starEach (a :: []) X.env = (false, eval a X.env) :: starEach [] X.env := by rfl) (hpl : (backTo pos (starEach [] X.env)).any (·.1) = false := by rfl) :
    PMk X (.Call (.Name x p) [a] [] pos) (tMkV C ta) := by
  intro pins s σ H Q I h
  refine wpAny_Call_Name_kw (ld_glob I hg gC ?_ hdb)
  refine PySem.W.callWith_K (h₀ := X.base) I.ok.mod.kin T.cls.kC (thn (ha.run pos pins s σ H _ I h) fun us s1 hh => ?_) he hpl
  obtain ⟨vs, H1, I1, r1, v, ev, q1⟩ := hh
  subst ev
  refine ⟨I1.kIn, ?_⟩
  cases r1 with
  | cons rv rn =>
    rename_i v' us'
    cases rn
    show wpAny _ _ (call (.ref C) [v']) _ _ _
    have hlim := I1.nolimit
    have kb := I1.bk
    have MD := I1.ok.mod
    obtain ⟨hp, g, dr, tk, os⟩ := s1
    refine wpAny_call (val_made MD T kb hev noV hlim (by have := hr.dp; omega) fun h' tk' e d M => ?_)
    show MkP X pins σ Q (.ref e) ⟨h', g, dr, tk', os⟩
    obtain ⟨oe, fv, hoe, hc, hd, hdat, h1⟩ := M.obj
    have hns := M.ns
    obtain ⟨G', g1, g2⟩ := restrict h' fun b => decide (b ≠ e)
    have gk : ∀ b, b ≠ e → G'.get? b = h'.get? b := fun b hb => g1 b (decide_eq_true hb)
    have ge : G'.get? e = none := g2 e (by simp)
    have old : ∀ b o, hp.get? b = some o → G'.get? b = some o := fun b o q => (gk b (Nat.ne_of_lt (Nat.lt_of_lt_of_le (Heap.lt_size q) M.new))).trans (M.keep b o q)
    have ob : ObjOk X.prog X.w (upd H1 d (.xd [(("value" : Str), v)])) G' d (.xd [(("value" : Str), v)]) :=
      ⟨_, hns.at (fun o q => (gk d M.dne).trans q), fun f => relO_value rv f⟩
    have J : Inv X pins σ (upd H1 d (.xd [(("value" : Str), v)])) ⟨G', g, dr, tk', os⟩ := I1.laid (t' := tk') old M.dbig ob
    refine ⟨e, oe, fv, ⟨G', g, dr, tk', os⟩, _, .ref C, some d, rfl, J, fun b o q => ?_, ge, hoe, ⟨hc, hd⟩, hdat, h1, ?_, rfl, I1.bare, raises_own T.cls.exC T.cls.tyC, q1 d (I1.hok.fresh M.dbig)⟩
    · by_cases hb : b = e
      · have q' : G'.get? b = some o := q
        rw [hb, ge] at q'; cases q'
      · exact (gk b hb).symm.trans q
    · rw [upd_ne (Ne.symm M.dne)]
      exact I1.hok.fresh M.new
/-- C() -/
theorem pmk_none {p pos : Pos} {k : Nat} {q1 p0 p1 p2 p3 p4 p6 : Pos} {z : Str} (T : SupTxt X.prog X.K X.mg C fI qual (psN q1) (bodyN z p0 p1 p2 p3 p4 p6) scN) (gC : X.mg x = some (.ref C))
    (hev : Ev p0 p1 p2 p4 [.Constant (.str z) 0 p3]) (hr : Room k X.A) (hg : Gl X x) (hdb : (x == ("__debug__" : Str)) = false := by decide) :
    PMk X (.Call (.Name x p) [] [] pos) (fun _ H Q => Q (.ref C) none H) := by
  intro pins s σ H Q I h
  refine wpAny_Call_Name_kw (ld_glob I hg gC ?_ hdb)
  refine PySem.W.callWith_K0 I.kIn T.cls.kC ?_
  show wpAny _ _ (call (.ref C) []) _ _ _
  have hlim := I.nolimit
  have kb := I.bk
  have MD := I.ok.mod
  obtain ⟨hp, g, dr, tk, os⟩ := s
  refine wpAny_call (none_made MD T kb hev hlim (by have := hr.dp; omega) fun h' e t1 keep new hoe tk' => ?_)
  show MkP X pins σ Q (.ref e) ⟨h', g, dr, tk', os⟩
  obtain ⟨G', g1, g2⟩ := restrict h' fun b => decide (b ≠ e)
  have gk : ∀ b, b ≠ e → G'.get? b = h'.get? b := fun b hb => g1 b (decide_eq_true hb)
  have ge : G'.get? e = none := g2 e (by simp)
  have old : ∀ b o, hp.get? b = some o → G'.get? b = some o := fun b o q => (gk b (Nat.ne_of_lt (Nat.lt_of_lt_of_le (Heap.lt_size q) new))).trans (keep b o q)
  have J : Inv X pins σ H ⟨G', g, dr, tk', os⟩ := I.kept (t' := tk') old
  refine ⟨e, _, _, ⟨G', g, dr, tk', os⟩, _, .ref C, none, rfl, J, fun b o q => ?_, ge, hoe, ⟨rfl, rfl⟩, rfl, rfl, I.hok.fresh new, rfl, I.bare, raises_own T.cls.exC T.cls.tyC, h⟩
  by_cases hb : b = e
  · have q' : G'.get? b = some o := q
    rw [hb, ge] at q'; cases q'
  · exact (gk b hb).symm.trans q
/-- e.value, e the exception that the suite holds (at a; its class cls, its dict d) -/
def tByV (C : Addr) (a : Addr) (cls : Value) (d : Option Addr) (te : TE) : TE := fun σ H Q => te σ H fun x H1 => x = .ref a ∧ cls = .ref C ∧ ∃ (dd : Addr) (v : V), d = some dd ∧ H1 dd = some (.xd [(("value" : Str), v)]) ∧ Q v H1
structure ByC (K : PySem.W.Frag) (C : Addr) : Prop where
  ga : PySem.W.findIn K (.ref C) "__getattribute__" = some (some (.builtin "BaseException.__getattribute__"))
  gg : PySem.W.findIn K (.ref C) "__getattr__" = some none
  exC : PySem.W.subIn K (.ref C) (.type "BaseException") = some true
  hdC : PySem.W.hasDictIn K C = true
  noV : PySem.W.findIn K (.ref C) "value" = some none
theorem pe_byV {a : Addr} {oe : Obj} {cls : Value} {d : Option Addr} {pn : List (Addr × Obj)} {e : Expr} {te : TE} {pos : Pos} (T : ByC X.K C) (hz : Zc cls d oe) (hf : ∃ vs, oe.data = .fields vs) (he : PE (X.suite a ((a, oe) :: pn)) e te)
    (hb : attributeBase e "value" X.env (eval e X.env) = eval e X.env := by rfl) :
    PE (X.suite a ((a, oe) :: pn)) (.Attribute e "value" pos) (tByV C a cls d te) := by
  refine ⟨fun pins s σ H Q I h => ?_⟩
  refine attr_of hb (thn (he.run pins s σ H _ I h) fun u s1 hh => ?_)
  obtain ⟨x, H1, I1, rx, ex, ec, dd, v, ed, ea, q⟩ := hh
  subst ex
  obtain rfl : u = Value.ref a := rx
  subst ec
  subst ed
  obtain ⟨ha, _⟩ := I1.pin (a, oe) (List.mem_append_left _ List.mem_cons_self)
  obtain ⟨vs, hd⟩ := hf
  have hx : ObjOk X.prog X.w H1 s1.heap dd (.xd [(("value" : Str), v)]) := I1.hok dd _ ea
  obtain ⟨mA, hns, hr⟩ := hx
  obtain ⟨od, ho, hl⟩ := lookIn_ns hns
  have l : List.lookup ("value" : Str) [(("value" : Str), v)] = some v := by simp [List.lookup]
  obtain ⟨u, hu, ru⟩ := RelO.some_of (v := v) (o := mA "value") (by rw [← l]; exact hr "value")
  have J : PySem.W.InstAt s1.heap a oe C (some od) := ⟨ha, hz.1, by unfold PySem.W.notCls; rw [hd] <;> rfl, by rw [hz.2]; exact ho⟩
  exact HandSPX.exc_get I1.kIn J T.ga T.gg T.exC (PySem.W.findObj_own T.hdC T.noV rfl (by rw [hl, hu])) (handed_of ru) ⟨v, H1, I1.tok _, ru, q⟩
end
end L2

set_option Elab.async false
set_option linter.all false
set_option maxRecDepth 100000
set_option maxHeartbeats 4000000
namespace K9
open PySem PySem.Spec PyProof.Rows L2
local macro_rules | `(tactic| walk_at "k9mem") => `(tactic| first | with_reducible assumption | exact upd_same | ((with_reducible refine mem_upd (by with_reducible assumption) ?_); walk_at "k9mem") | ((with_reducible refine mem_same (by with_reducible assumption) ?_); walk_at "k9mem"))
local macro_rules | `(tactic| walk_at "k91") => `(tactic| with_reducible (first | refine x_seq ?_ | refine x_asg ?_ | refine x_name ?_ | refine x_ret ?_ | refine x_drop ?_ | refine x_next ?_ | refine x_ifs ?_ | refine x_if ?_ | refine x_test ?_ | refine x_tb ?_ | refine x_tnot ?_ | refine x_tand ?_ | refine x_tor ?_ | refine x_andv ?_ | refine x_orv ?_ | refine x_notv ?_ | refine x_var rfl ?_ | refine x_c ?_ | refine x_op ?_ | refine x_un ?_ | refine x_i0 ?_ | refine x_par ?_ | refine x_two ?_ | refine x_eqI ?_ | refine x_neI ?_ | refine x_u ?_ | refine x_call ?_ | refine x_cb ?_ | refine x_cons ?_ | refine x_nil ?_ | refine x_tup ?_ | refine x_lst ?_ | refine x_gcd ?_ | refine x_for ?_ | refine x_iL ?_ | refine x_iT ?_ | refine x_iR1 ?_ | refine x_iR2 ?_ | refine x_lc ?_ | refine x_bm ?_ | refine x_bm0 ?_ | refine x_sl ?_ | refine x_nopart ?_ | refine x_part ?_ | refine x_some ?_ | refine x_bl ?_))
local macro_rules | `(tactic| walk_at "k9") => `(tactic| repeat (walk_at "k91"))
open PySem.W in
def oexB (K : PySem.W.Frag) (C : Addr) : Bool := match K.lookup C with
  | some ⟨.type "type", _, .cls cd, sl⟩ => (match cd.mro, sl.toList with
    | .ref D :: bm, [_, _, _, _, some (.builtin n), _] => decide (D = C) && (decide (n = "ValueError.__new__") && (!cd.hasDel && (cd.hasDict && PySem.HandSPX.refsVE bm)))
    | _, _ => false)
  | _ => false
theorem oexB_ok {K : PySem.W.Frag} {C : Addr} (h : oexB K C = true) : ∃ nm q N bs bm sn sub ab col dd k0 k1 k2 k3 k5, K.lookup C = some (excClassObj nm q C N bs bm true sn sub ab col dd k0 k1 k2 k3 k5 "ValueError.__new__") ∧ PySem.HandSPX.refsVE bm = true := by
  unfold oexB at h
  split at h
  · rename_i dd cd sl e
    split at h
    · rename_i D bm k0 k1 k2 k3 n k5 hm hs
      simp only [Bool.and_eq_true, decide_eq_true_iff, Bool.not_eq_true'] at h
      obtain ⟨rfl, rfl, hdel, hdct, hr⟩ := h
      obtain ⟨l⟩ := sl
      obtain ⟨nm, bs, mro, ns, qn, hd, sn, sub, ab, col, del⟩ := cd
      dsimp only at hm hs hdel hdct
      subst hm hs hdel hdct
      exact ⟨nm, qn, ns, bs, bm, sn, sub, ab, col, dd, k0, k1, k2, k3, k5, e, hr⟩
    · cases h
  · cases h
/-- the def in a class's body -/
def clsDef (i : Nat) : Stmt := match topS i with
  | .ClassDef (body := b) .. => b.getD 0 (.Pass ⟨0, 0, 0, 0⟩)
  | _ => .Pass ⟨0, 0, 0, 0⟩
/-- what a method's function object is -/
abbrev InW : Type := Option (Str × Str × Arguments × FuncBody × Scope × Addr × List Str × Value × Value × Addr)
def initW (K : PySem.W.Frag) (x : Str) : InW := match K.lookup (He.ma K (He.ga K x) "__init__") with
  | some ⟨_, _, .func fd, _⟩ => some (fd.name, fd.qualname, fd.params, fd.body, fd.scope, fd.globals, fd.closure.map (·.1), fd.defaults, fd.kwdefaults, fd.builtins)
  | _ => none
def initV (q : Str) (st : Stmt) : InW := some ("__init__", q, defArgs st, .stmts (defBody st), defScope st, mainGlobals, ["__class__"], .none, .none, builtinsNs)
def initB (P : Program) (K : PySem.W.Frag) (C fI : Addr) (qual : Str) : Bool := match K.lookup fI with
  | some ⟨_, _, .func fd, _⟩ => (match fd.code, fd.closure with
    | Value.ref cda, [(_, cc)] => PySem.W.codeIn K (.ref cda) qual && ((match K.lookup cda with
        | some ⟨_, _, .fields vs, _⟩ => (match vs[2]? with
          | some (Value.str file _) => (P.main.file : Str) == file
          | _ => false)
        | _ => false) && (match K.lookup cc with
        | some ⟨_, _, .cell (some (Value.ref D)), _⟩ => decide (D = C)
        | _ => false))
    | _, _ => false)
  | _ => false
theorem init_ok {P : Program} {K : PySem.W.Frag} {C : Addr} {x qual : Str} {st : Stmt} (e : initW K x = initV qual st) (h : initB P K C (He.ma K (He.ga K x) "__init__") qual = true) :
    ∃ (oc : Value) (od : Option Addr) (doc pm : Value) (an : Option Addr) (cda : Addr) (ct : Value) (osl : Array (Option Value)) (cc : Addr),
      K.lookup (He.ma K (He.ga K x) "__init__") = some ⟨oc, od, .func (PySem.W.fnX "__init__" qual (defArgs st) (defBody st) (defScope st) [("__class__", cc)] .none .none doc pm an (.ref cda) ct), osl⟩ ∧ PySem.W.codeIn K (.ref cda) qual = true ∧
      (∃ (ccl : Value) (cdd : Option Addr) (vs : Array Value) (ccs : Array (Option Value)) (file : Str) (tf : Tok), K.lookup cda = some ⟨ccl, cdd, .fields vs, ccs⟩ ∧ vs[2]? = some (.str file tf) ∧ ((P.main.file : Str) == file) = true) ∧
      ∃ (cl : Value) (cld : Option Addr) (csl : Array (Option Value)), K.lookup cc = some ⟨cl, cld, .cell (some (.ref C)), csl⟩ := by
  unfold initW at e
  unfold initB at h
  generalize He.ma K (He.ga K x) "__init__" = fI at *
  split at h
  · rename_i oc od fd osl lk
    rw [lk] at e
    obtain ⟨n1, n2, n3, n4, n5, n6, n7, n8, n9, n10, n11, n12, n13, n14, n15⟩ := fd
    have e2 : (some (n1, n2, n3, n4, n5, n6, n7.map (·.1), n8, n9, n15) : InW) = (some (("__init__" : Str), qual, defArgs st, FuncBody.stmts (defBody st), defScope st, mainGlobals, [("__class__" : Str)], Value.none, Value.none, builtinsNs) : InW) := e
    simp only [Option.some.injEq, Prod.mk.injEq] at e2
    obtain ⟨h1, h2, h3, h4, h5, h6, h7, h8, h9, h10⟩ := e2
    subst h1 h2 h3 h4 h5 h6 h8 h9 h10
    dsimp only at h
    split at h
    · rename_i cda nm cc
      have hnm : nm = "__class__" := by simpa using h7
      subst hnm
      simp only [Bool.and_eq_true] at h
      obtain ⟨g1, g2, g3⟩ := h
      refine ⟨oc, od, n10, n11, n12, cda, n14, osl, cc, lk, g1, ?_, ?_⟩
      · split at g2
        · rename_i ccl cdd vs ccs e3
          split at g2
          · rename_i file tf e4
            exact ⟨ccl, cdd, vs, ccs, file, tf, e3, e4, g2⟩
          · cases g2
        · cases g2
      · split at g3
        · rename_i cl cld D csl e3
          have := of_decide_eq_true g3
          subst this
          exact ⟨cl, cld, csl, e3⟩
        · cases g3
    · cases h
  · cases h
end K9

set_option Elab.async false
set_option linter.all false
set_option maxRecDepth 100000
set_option maxHeartbeats 4000000
namespace K9
open PySem PySem.Spec PyProof.Rows L2
local macro_rules | `(tactic| walk_at "k9mem") => `(tactic| first | with_reducible assumption | exact upd_same | ((with_reducible refine mem_upd (by with_reducible assumption) ?_); walk_at "k9mem") | ((with_reducible refine mem_same (by with_reducible assumption) ?_); walk_at "k9mem"))
local macro_rules | `(tactic| walk_at "k91") => `(tactic| with_reducible (first | refine x_seq ?_ | refine x_asg ?_ | refine x_name ?_ | refine x_ret ?_ | refine x_drop ?_ | refine x_next ?_ | refine x_ifs ?_ | refine x_if ?_ | refine x_test ?_ | refine x_tb ?_ | refine x_tnot ?_ | refine x_tand ?_ | refine x_tor ?_ | refine x_andv ?_ | refine x_orv ?_ | refine x_notv ?_ | refine x_var rfl ?_ | refine x_c ?_ | refine x_op ?_ | refine x_un ?_ | refine x_i0 ?_ | refine x_par ?_ | refine x_two ?_ | refine x_eqI ?_ | refine x_neI ?_ | refine x_u ?_ | refine x_call ?_ | refine x_cb ?_ | refine x_cons ?_ | refine x_nil ?_ | refine x_tup ?_ | refine x_lst ?_ | refine x_gcd ?_ | refine x_for ?_ | refine x_iL ?_ | refine x_iT ?_ | refine x_iR1 ?_ | refine x_iR2 ?_ | refine x_lc ?_ | refine x_bm ?_ | refine x_bm0 ?_ | refine x_sl ?_ | refine x_nopart ?_ | refine x_part ?_ | refine x_some ?_ | refine x_bl ?_))
local macro_rules | `(tactic| walk_at "k9") => `(tactic| repeat (walk_at "k91"))
section
open PySem.W PySem.K9X
/-- what is told of one of the law's errors -/
def clsB (P : Program) (K : PySem.W.Frag) (x q : Str) : Bool :=
  oexB K (He.ga K x) && (decide (findIn K (.ref (He.ga K x)) "__setattr__" = some (some (.builtin "object.__setattr__"))) && (decide (subIn K (.ref (He.ga K x)) (.type "BaseException") = some true) && (decide (typeIn K (.ref (He.ga K x)) = some (.type "type")) && (keepIn K (.ref (He.ga K x)) &&
  (decide (findIn K (.ref (He.ga K x)) "__init__" = some (some (.ref (He.ma K (He.ga K x) "__init__")))) && (decide (typeIn K (.ref (He.ma K (He.ga K x) "__init__")) = some (.type "function")) && (initB P K (He.ga K x) (He.ma K (He.ga K x) "__init__") q &&
  (decide (ks_superIn K (He.ga K x) (He.ga K x) "__init__" = some (some (.builtin "ValueError.__init__"))) && (decide (nsIn K cStatics "thirdparty.any" = some none) && (decide (mroIn K (He.ga K x) (.ref (He.ga K x)) = some true) && (decide (subIn K (.ref (He.ga K x)) (.type "ValueError") = some true) &&
  (decide (findIn K (.ref (He.ga K x)) "__getattribute__" = some (some (.builtin "BaseException.__getattribute__"))) && (decide (findIn K (.ref (He.ga K x)) "__getattr__" = some none) && (hasDictIn K (He.ga K x) &&
  (decide (findIn K (.ref (He.ga K x)) "__class__" = some (some (.builtin "object.__class__"))) && (decide (specialIn K (.builtin "object.__class__") "__get__" = some (some (.builtin "getset_descriptor.__get__"))) && (decide (takesIn K (.builtin "object.__class__") = some true) && (decide (mroIn K (He.ga K x) (.type "object") = some true) && decide (findIn K (.ref (He.ga K x)) "value" = some none)))))))))))))))))))
theorem cls_gives {P : Program} {K : PySem.W.Frag} {mg : Str → Option Value} {x q : Str} {st : Stmt} (h : clsB P K x q = true) (e : initW K x = initV q st) (hs : mg "super" = none) (ht : (P.main.scope.names.lookup ("super" : Str)).isSome = false) :
    SupTxt P K mg (He.ga K x) (He.ma K (He.ga K x) "__init__") q (defArgs st) (defBody st) (defScope st) ∧ ByC K (He.ga K x) ∧ ExcC K (He.ga K x) := by
  unfold clsB at h
  simp only [Bool.and_eq_true, decide_eq_true_iff] at h
  obtain ⟨a1, a2, a3, a4, a5, a6, a7, a8, a9, b1, b2, b3, b4, b5, b6, b7, b8, b9, c1, c2⟩ := h
  exact ⟨⟨⟨oexB_ok a1, a2, a3, a4, a5⟩, a6, a7, init_ok e a8, hs, a9, b1, b2, b3, ht⟩, ⟨b4, b5, a3, b6, c2⟩, ⟨b4, b5, a3, b6, b7, b8, b9, c1⟩⟩
end
/-- what is told of the written part K, and of the heap h that it lies in -/
structure SaysK (fa : List He.Fa) (fn : List He.DefD) (tf : List He.Defn) (ex : PySem.W.Frag → Bool) (xs : List (Str × InW)) (h : Heap) (K : PySem.W.Frag) : Prop where
  d : He.SaysD fa fn K
  x : ex K = true
  hd : ∀ p ∈ tf, PySem.W.codeHdIn K (He.cT K p).1 (He.cT K p).2 = true
  out : ∀ p ∈ tf, K.lookup (He.cT K p).2 = none
  empty : ∀ p ∈ tf, h.get? (He.cT K p).2 = some { cls := .none, data := .fields #[] }
  i : (xs.map fun p => initW K p.1) = xs.map (·.2)
/-- the part of a heap that is looked at -/
def frK (n : Nat) (g : Addr → Option Obj) : PySem.W.Frag := He.frT g (cStatics :: He.asD g n)
abbrev AlK : Type := He.AlD × Bool × List InW
def obsK (fa : List He.Fa) (fn : List He.DefD) (tf : List He.Defn) (ex : PySem.W.Frag → Bool) (xs : List (Str × InW)) (g : Addr → Option Obj) (K : PySem.W.Frag) : AlK := (He.obsD fa fn K, ex K && He.tabsB g tf K, xs.map fun p => initW K p.1)
def valK (fn : List He.DefD) (xs : List (Str × InW)) : AlK := (He.valD fn, true, xs.map (·.2))
theorem saysK_of {n : Nat} {fa : List He.Fa} {fn : List He.DefD} {tf : List He.Defn} {ex : PySem.W.Frag → Bool} {xs : List (Str × InW)} {h : Heap} (e : obsK fa fn tf ex xs h.get? (frK n h.get?) = valK fn xs) : SaysK fa fn tf ex xs h (frK n h.get?) := by
  have e1 := congrArg (fun z : AlK => z.1) e
  have e2 := congrArg (fun z : AlK => z.2.1) e
  have e3 := congrArg (fun z : AlK => z.2.2) e
  obtain ⟨x1, x2⟩ := He.ba (show (ex (frK n h.get?) && He.tabsB h.get? tf (frK n h.get?)) = true from e2)
  have each : ∀ p ∈ tf, PySem.W.codeHdIn (frK n h.get?) (He.cT (frK n h.get?) p).1 (He.cT (frK n h.get?) p).2 = true ∧ ∃ o, h.get? (He.cT (frK n h.get?) p).2 = some o ∧ He.emptyTab o = true := fun p hp => by
    obtain ⟨y1, y2⟩ := He.ba (List.all_eq_true.mp x2 p hp)
    refine ⟨y1, ?_⟩
    split at y2
    · rename_i o eo
      exact ⟨o, eo, y2⟩
    · cases y2
  refine ⟨e1, x1, fun p hp => (each p hp).1, fun p hp => ?_, fun p hp => ?_, e3⟩
  · obtain ⟨_, o, eo, z⟩ := each p hp
    exact He.frT_none eo z
  · obtain ⟨_, o, eo, z⟩ := each p hp
    rw [eo, He.emptyTab_eq z]
def hookK (n : Nat) (fa : List He.Fa) (fn : List He.DefD) (tf : List He.Defn) (ex : PySem.W.Frag → Bool) (xs : List (Str × InW)) : PySem.W.Hook where
  α := AlK
  obs := fun s => obsK fa fn tf ex xs s.heap.get? (frK n s.heap.get?)
  val := fun _ => valK fn xs
  says := fun _ h => ∃ K : PySem.W.Frag, K.In h ∧ SaysK fa fn tf ex xs h K
  of := fun _ _ e => ⟨_, He.frT_in, saysK_of e⟩
  keeps := fun _ _ _ ⟨K, hK, c⟩ k => ⟨K, PySem.W.Frag.In.keeps hK k, ⟨c.d, c.x, c.hd, c.out, fun p hp => k _ _ (c.empty p hp), c.i⟩⟩
theorem obsK_eq {n : Nat} {fa : List He.Fa} {fn : List He.DefD} {tf : List He.Defn} {ex : PySem.W.Frag → Bool} {xs : List (Str × InW)} {g : Addr → Option Obj} {s : Shared} (h : ∀ a, g a = s.heap.get? a) : obsK fa fn tf ex xs g (frK n g) = (hookK n fa fn tf ex xs).obs s := by
  obtain rfl : g = s.heap.get? := funext h
  rfl
end K9

set_option Elab.async false
set_option linter.all false
set_option maxRecDepth 100000
set_option maxHeartbeats 4000000
namespace K9
open PySem PySem.Spec PyProof.Rows L2
local macro_rules | `(tactic| walk_at "k9mem") => `(tactic| first | with_reducible assumption | exact upd_same | ((with_reducible refine mem_upd (by with_reducible assumption) ?_); walk_at "k9mem") | ((with_reducible refine mem_same (by with_reducible assumption) ?_); walk_at "k9mem"))
local macro_rules | `(tactic| walk_at "k91") => `(tactic| with_reducible (first | refine x_seq ?_ | refine x_asg ?_ | refine x_name ?_ | refine x_ret ?_ | refine x_drop ?_ | refine x_next ?_ | refine x_ifs ?_ | refine x_if ?_ | refine x_test ?_ | refine x_tb ?_ | refine x_tnot ?_ | refine x_tand ?_ | refine x_tor ?_ | refine x_andv ?_ | refine x_orv ?_ | refine x_notv ?_ | refine x_var rfl ?_ | refine x_c ?_ | refine x_op ?_ | refine x_un ?_ | refine x_i0 ?_ | refine x_par ?_ | refine x_two ?_ | refine x_eqI ?_ | refine x_neI ?_ | refine x_u ?_ | refine x_call ?_ | refine x_cb ?_ | refine x_cons ?_ | refine x_nil ?_ | refine x_tup ?_ | refine x_lst ?_ | refine x_gcd ?_ | refine x_for ?_ | refine x_iL ?_ | refine x_iT ?_ | refine x_iR1 ?_ | refine x_iR2 ?_ | refine x_lc ?_ | refine x_bm ?_ | refine x_bm0 ?_ | refine x_sl ?_ | refine x_nopart ?_ | refine x_part ?_ | refine x_some ?_ | refine x_bl ?_))
local macro_rules | `(tactic| walk_at "k9") => `(tactic| repeat (walk_at "k91"))
namespace Hd
open He
abbrev LW := PySem.Challenge.rw_stepswithin_k09_whole_breaks_judged
abbrev R : PySem.W.OpenRow := PySem.W.OpenLaw.row LW
abbrev qv : Program := PySem.W.view R.prog [0, 57]
abbrev PP : Program := LW.prog
def looseA : List Str := ["StepError", "BadStep", "BadParameter", "NoRow", "MOST_PART", "MOST_DEGREE", "is_from", "is_number", "is_step", "need_step", "number_of", "number_sum", "number_times", "reduced", "as_poly", "as_step", "plus", "divided", "from_numbers", "root_numbers", "candidate_so", "remainders", "constants", "part_so", "need_divisor", "candidate"]
def looseB : List Str := ["first_part", "break_so", "first_break", "is_break", "_law_mixed", "_law_begin", "_law_draw", "_law_of", "_law_number", "_law_step", "_law_divisor", "_law_frac", "_law_add", "_law_mul", "_law_trim", "_law_sum", "_law_product", "_law_within", "_law_divided", "_law_powers_of", "_law_heard", "_law_like", "_law_pairs", "_law_degree_right", "_law_drawn", "_law_by_hand"]
def loose : List Str := looseA ++ looseB
def dd (x : Str) (i : Nat) : DefD := ⟨(x, none), x, x, defArgs (topS i), defBody (topS i), defScope (topS i), [], []⟩
def fnA : List DefD := [dd "is_from" 9, dd "is_number" 10, dd "is_step" 11, dd "need_step" 12, dd "number_of" 13, dd "number_sum" 14, dd "number_times" 15, dd "reduced" 16, dd "as_poly" 17, dd "as_step" 18, dd "plus" 19, dd "divided" 20, dd "from_numbers" 22, dd "root_numbers" 23, dd "candidate_so" 24, dd "remainders" 25, dd "constants" 26, dd "part_so" 27, dd "need_divisor" 28, dd "candidate" 29, dd "first_part" 30, dd "break_so" 31, dd "first_break" 32]
def fnB : List DefD := [dd "is_break" 33, dd "_law_mixed" 35, dd "_law_begin" 36, dd "_law_draw" 37, dd "_law_of" 38, dd "_law_number" 39, dd "_law_step" 40, dd "_law_divisor" 41, dd "_law_frac" 42, dd "_law_add" 43, dd "_law_mul" 44, dd "_law_trim" 45, dd "_law_sum" 46, dd "_law_product" 47, dd "_law_within" 48, dd "_law_divided" 49, dd "_law_powers_of" 50, dd "_law_heard" 51, dd "_law_like" 52, dd "_law_pairs" 53, dd "_law_degree_right" 54, dd "_law_drawn" 55, dd "_law_by_hand" 56, dd "law" 57]
def fn : List DefD := fnA ++ fnB
def gl : List Str := ["StepError", "BadStep", "BadParameter", "NoRow", "is_from", "is_number", "is_step", "need_step", "number_of", "number_sum", "number_times", "reduced", "as_poly", "as_step", "plus", "divided", "from_numbers", "root_numbers", "candidate_so", "remainders", "constants", "part_so", "need_divisor", "candidate", "first_part", "break_so", "first_break"]
def gl2 : List Str := ["is_break", "_law_mixed", "_law_begin", "_law_draw", "_law_of", "_law_number", "_law_step", "_law_divisor", "_law_frac", "_law_add", "_law_mul", "_law_trim", "_law_sum", "_law_product", "_law_within", "_law_divided", "_law_powers_of", "_law_heard", "_law_like", "_law_pairs", "_law_degree_right", "_law_drawn", "_law_by_hand", "law"]
def fr : List Str := ["len", "max", "isinstance", "int", "bool", "tuple", "list", "range", "enumerate", "zip", "repr", "super"]
def fa : List Fa := gl.map .glo ++ gl2.map .glo ++ fr.map .free ++ [.int "MOST_PART" (10 ^ 60), .int "MOST_DEGREE" 64]
def tf : List Defn := [("_law_degree_right", none), ("_law_by_hand", none)]
def xs : List (Str × InW) := [("BadStep", initV "BadStep.__init__" (clsDef 3)), ("BadParameter", initV "BadParameter.__init__" (clsDef 4)), ("NoRow", initV "NoRow.__init__" (clsDef 5))]
def exmB (K : PySem.W.Frag) (x y : Str) (b : Bool) : Bool := decide (PySem.W.exmOne K (.ref (ga K x)) (.ref (ga K y)) = some b)
def kitB (K : PySem.W.Frag) (x y : Str) : Bool := decide (PySem.W.kitOne K (.ref (ga K x)) (.ref (ga K y)) = some true)
def ex (K : PySem.W.Frag) : Bool :=
  clsB PP K "BadStep" "BadStep.__init__" && (clsB PP K "BadParameter" "BadParameter.__init__" && (clsB PP K "NoRow" "NoRow.__init__" &&
  (exmB K "BadStep" "BadStep" true && (exmB K "BadParameter" "BadStep" false && (exmB K "BadParameter" "BadParameter" true && (exmB K "NoRow" "BadStep" false && (exmB K "NoRow" "BadParameter" false && (exmB K "NoRow" "NoRow" true &&
  (kitB K "BadStep" "StepError" && (kitB K "BadParameter" "StepError" && (kitB K "NoRow" "StepError" && (decide (PySem.W.nsIn K mainGlobals "gcd" = some (some (.builtin "math.gcd"))) && decide ((cT K ("_law_degree_right", none)).2 ≠ (cT K ("_law_by_hand", none)).2)))))))))))))
abbrev hk : PySem.W.Hook := hookK 6 fa fn tf ex xs
def ob (s : PySem.W.SharedT) : AlK := obsK fa fn tf ex xs (HandSHeadRun.getT s) (frK 6 (HandSHeadRun.getT s))
theorem ob_eq (s : PySem.W.SharedT) : ob s = hk.obs s.abs := obsK_eq (HandSHeadRun.getT_eq s)
theorem map4 {α β1 β2 β3 β4 : Type} {o : Option α} {f1 : α → β1} {f2 : α → β2} {f3 : α → β3} {f4 : α → β4} {a1 : β1} {a2 : β2} {a3 : β3} {a4 : β4}
    (h1 : o.map (fun x => (f1 x, f2 x)) = some (a1, a2)) (h3 : o.map f3 = some a3) (h4 : o.map f4 = some a4) : ∃ x, o = some x ∧ f1 x = a1 ∧ f2 x = a2 ∧ f3 x = a3 ∧ f4 x = a4 := by
  cases o with
  | none => cases h3
  | some x => exact ⟨x, rfl, (Prod.mk.inj (Option.some.inj h1)).1, (Prod.mk.inj (Option.some.inj h1)).2, Option.some.inj h3, Option.some.inj h4⟩
open HandSHeadRun PySem.W PySem.Calls in
/-- the head's run, to its end -/
noncomputable abbrev O6 (w : World) := wholeF (fun p => stepQ (denQ tabQ) p w) fenceQ 6000 R.prog
open HandSHeadRun PySem.W PySem.Calls in
theorem run1 (w : World) : (O6 w).map (fun x => ((looksF R.prog x.1.heap x.2.abs, seenQ qv loose (importedModules R.prog.main.body) (fun s => xlAt qv [] s && recOk R.toRowW.records s) x.2.abs), xs.map fun p => initW (frK 6 (getT x.2)) p.1)) = some ((true, openGood qv loose), xs.map (·.2)) := by
  kernel_rfl
open HandSHeadRun in
theorem run2 (w : World) : (O6 w).map (fun x => (ex (frK 6 (getT x.2)) && tabsB (getT x.2) tf (frK 6 (getT x.2)))) = some true := by
  kernel_rfl
open HandSHeadRun in
theorem run3 (w : World) : (O6 w).map (fun x => obsD fa fn (frK 6 (getT x.2))) = some (valD fn) := by
  kernel_rfl
theorem run (w : World) : HandSHeadRun.RunEqI R qv hk ob 6000 loose w := by
  obtain ⟨x, hx, e1, e6, e5, e2⟩ := map4 (run1 w) (run2 w) (run3 w)
  refine (congrArg (Option.map _) hx).trans ?_
  refine congrArg some ?_
  exact Prod.ext (Prod.mk.inj e1).1 (Prod.ext (Prod.mk.inj e1).2 (Prod.ext e2 (Prod.ext e5 e6)))
end Hd
end K9

set_option Elab.async false
set_option linter.all false
set_option maxRecDepth 100000
set_option maxHeartbeats 4000000
namespace K9
open PySem PySem.Spec PyProof.Rows L2
local macro_rules | `(tactic| walk_at "k9mem") => `(tactic| first | with_reducible assumption | exact upd_same | ((with_reducible refine mem_upd (by with_reducible assumption) ?_); walk_at "k9mem") | ((with_reducible refine mem_same (by with_reducible assumption) ?_); walk_at "k9mem"))
local macro_rules | `(tactic| walk_at "k91") => `(tactic| with_reducible (first | refine x_seq ?_ | refine x_asg ?_ | refine x_name ?_ | refine x_ret ?_ | refine x_drop ?_ | refine x_next ?_ | refine x_ifs ?_ | refine x_if ?_ | refine x_test ?_ | refine x_tb ?_ | refine x_tnot ?_ | refine x_tand ?_ | refine x_tor ?_ | refine x_andv ?_ | refine x_orv ?_ | refine x_notv ?_ | refine x_var rfl ?_ | refine x_c ?_ | refine x_op ?_ | refine x_un ?_ | refine x_i0 ?_ | refine x_eqI ?_ | refine x_neI ?_ | refine x_u ?_ | refine x_call ?_ | refine x_cb ?_ | refine x_cons ?_ | refine x_nil ?_ | refine x_tup ?_ | refine x_lst ?_ | refine x_gcd ?_ | refine x_for ?_ | refine x_iL ?_ | refine x_iT ?_ | refine x_iR1 ?_ | refine x_iR2 ?_ | refine x_lc ?_ | refine x_bm ?_ | refine x_bm0 ?_ | refine x_sl ?_ | refine x_nopart ?_ | refine x_part ?_ | refine x_some ?_ | refine x_bl ?_))
local macro_rules | `(tactic| walk_at "k9") => `(tactic| repeat (walk_at "k91"))
/-! number_of -/
abbrev s_number_of : Stmt := topS 13
abbrev N_number_of : List Str := ["above", "below", "whole"]
theorem sc_number_of : FnScope N_number_of ["above", "below"] (defScope s_number_of) := ⟨rfl, rfl, rfl, by decide +kernel, rfl, by decide +kernel, by decide +kernel⟩
def sp_number_of : Sp := fun vs H Q _ => ∃ a b : Int, vs = [.int a, .int b] ∧ b ≠ 0 ∧ b.natAbs < 2 ^ 9000 ∧ ∀ H' v, Same H H' → RQ H' v ((a : Rat) / (b : Rat)) → Q v H'
section
variable {P : Program} {w : World} {K : PySem.W.Frag} {mg : Str → Option Value} {base : Heap}
theorem kn_number_of (D : DefAt K mg "number_of" s_number_of) (T : Wd mg) : Kn P w K mg base CX0 1 "number_of" ["above", "below"] sp_number_of := by
  have S := sc_number_of
  refine Kn.of D S (fun vs H Q E h => ?_) (fun _ _ _ _ _ _ us hl => match us, hl with | [_, _], _ => rfl) fun f cdv A outer s H vs Q E hr h => ?_
  · obtain ⟨a, b, rfl, _⟩ := h; rfl
  obtain ⟨a, b, rfl, hb, hz, q⟩ := h
  refine ⟨_, PSs.nox (pss_cons (ps_set (i := 2) S.nd rfl (Or.inl rfl) (pe_callBfun cr_gcd (by rfl) T.gcd (pa_cons (pv 0) (pa_cons (pv 1) pa_nil))))
    (pss_cons (ps_if (pt_cmpR op_lt (pv 1) pe_int (nomark _))
      (pss_one (ps_set (i := 2) S.nd rfl (Or.inl rfl) (pe_un un_neg (pv 2)))) pss_nil)
    (pss_one (ps_ret (pe_tup (pa_cons (pe_op op_fd (pv 0) (pv 2)) (pa_cons (pe_op op_fd (pv 1) (pv 2)) pa_nil))))))), ?_⟩
  have fq := K9M.frac_any a b hb
  have sn := K9M.sgcd_ne (a := a) hb
  have hg : (K9M.gcdI a b).natAbs ≤ b.natAbs := K9M.gcdI_le hb
  have sl : (K9M.sgcd a b).natAbs < 2 ^ 9000 := by
    unfold K9M.sgcd
    split
    · rw [Int.natAbs_neg]; omega
    · omega
  have fin : ∀ w : Int, w = K9M.sgcd a b → ∀ p, H p = none → Q (.ref p) (upd H p (.tup [.int (a.fdiv w), .int (b.fdiv w)])) := fun w e p hp => by
    subst e
    exact q _ _ (same_upd hp) ⟨p, rfl, by rw [fq.1, fq.2]; exact upd_same⟩
  walk_at "k9"
  by_cases hneg : b < 0
  · refine x_yes (decide_eq_true hneg) ?_
    walk_at "k9"
    have e : -((Nat.gcd a.natAbs b.natAbs : Nat) : Int) = K9M.sgcd a b := by
      unfold K9M.sgcd
      rw [if_pos hneg]; rfl
    rw [e]
    refine x_i ⟨sn, sl⟩ ?_
    walk_at "k9"
    refine x_i ⟨sn, sl⟩ ?_
    walk_at "k9"
    exact ⟨by show 2 ≤ sizeLine; decide, fin _ rfl⟩
  · refine x_no (decide_eq_false hneg) ?_
    walk_at "k9"
    have e : ((Nat.gcd a.natAbs b.natAbs : Nat) : Int) = K9M.sgcd a b := by
      unfold K9M.sgcd
      rw [if_neg hneg]; rfl
    rw [e]
    refine x_i ⟨sn, sl⟩ ?_
    walk_at "k9"
    refine x_i ⟨sn, sl⟩ ?_
    walk_at "k9"
    exact ⟨by show 2 ≤ sizeLine; decide, fin _ rfl⟩

/-! number_sum, number_times -/
def RN : Nat := 1000000
/-- small enough for the program's sums and products -/
def Sm (q : Rat) : Prop := q.num.natAbs < 2 ^ RN ∧ q.den < 2 ^ 4500
theorem sm_of {R : Nat} {D : Int} {q : Rat} (h : K9M.Bd R D q) (hR : R ≤ RN) (h0 : 0 < D) (hD : D.natAbs < 2 ^ 4500) : Sm q := by
  have h1 := h.num_lt h0
  have h2 := h.den_le h0
  have h3 : 2 ^ R ≤ 2 ^ RN := Nat.pow_le_pow_right (by decide) hR
  exact ⟨by omega, by omega⟩
theorem Sm.nn {p q : Rat} (h : Sm p) (k : Sm q) : CMulX p.num q.num := mulx_ok h.1 k.1 (by unfold RN; decide)
theorem Sm.nd {p q : Rat} (h : Sm p) (k : Sm q) : CMulX p.num ((q.den : Nat) : Int) := mulx_ok h.1 (by rw [Int.natAbs_natCast]; exact k.2) (by unfold RN; decide)
theorem Sm.dd {p q : Rat} (h : Sm p) (k : Sm q) : CMulX ((p.den : Nat) : Int) ((q.den : Nat) : Int) := mulx_ok (by rw [Int.natAbs_natCast]; exact h.2) (by rw [Int.natAbs_natCast]; exact k.2) (by decide)
theorem Sm.dl {p q : Rat} (h : Sm p) (k : Sm q) : (((p.den : Nat) : Int) * ((q.den : Nat) : Int)).natAbs < 2 ^ 9000 := by
  rw [Int.natAbs_mul, Int.natAbs_natCast, Int.natAbs_natCast, show (9000 : Nat) = 4500 + 4500 from rfl, Nat.pow_add]
  exact Nat.mul_lt_mul'' h.2 k.2
theorem Sm.dn (p q : Rat) : ((p.den : Nat) : Int) * ((q.den : Nat) : Int) ≠ 0 := by
  have := Int.mul_pos (K9M.den_pos p) (K9M.den_pos q)
  omega
theorem den_cast (q : Rat) : ((((q.den : Nat) : Int)) : Rat) ≠ 0 := K9M.cast_ne (by have := K9M.den_pos q; omega)
theorem num_val (q : Rat) : (q.num : Rat) = q * ((((q.den : Nat) : Int)) : Rat) := by
  have h := K9M.as_div q
  have h2 : (q.den : Rat) = (((q.den : Nat) : Int) : Rat) := rfl
  rw [h2] at h
  have := Rat.div_mul_cancel (a := (q.num : Rat)) (den_cast q)
  rw [← h] at this
  exact this.symm
theorem sum_val (p q : Rat) : (((p.num * ((q.den : Nat) : Int) + q.num * ((p.den : Nat) : Int) : Int)) : Rat) / (((((p.den : Nat) : Int) * ((q.den : Nat) : Int) : Int)) : Rat) = p + q := by
  have h1 := den_cast p
  have h2 := den_cast q
  rw [Rat.intCast_add, Rat.intCast_mul, Rat.intCast_mul, Rat.intCast_mul, num_val p, num_val q]
  grind
theorem mul_val (p q : Rat) : (((p.num * q.num : Int)) : Rat) / (((((p.den : Nat) : Int) * ((q.den : Nat) : Int) : Int)) : Rat) = p * q := by
  have h1 := den_cast p
  have h2 := den_cast q
  rw [Rat.intCast_mul, Rat.intCast_mul, num_val p, num_val q]
  grind
def sp_num2 (f : Rat → Rat → Rat) : Sp := fun vs H Q _ => ∃ (v1 v2 : V) (p q : Rat), vs = [v1, v2] ∧ RQ H v1 p ∧ RQ H v2 q ∧ Sm p ∧ Sm q ∧ ∀ H' v, Same H H' → RQ H' v (f p q) → Q v H'
abbrev s_number_sum : Stmt := topS 14
abbrev N_number_sum : List Str := ["one", "other"]
theorem sc_number_sum : FnScope N_number_sum ["one", "other"] (defScope s_number_sum) := ⟨rfl, rfl, rfl, by decide +kernel, rfl, by decide +kernel, by decide +kernel⟩
theorem kn_number_sum (D : DefAt K mg "number_sum" s_number_sum) (T : Wd mg) (k_number_of : Kn P w K mg base CX0 1 "number_of" ["above", "below"] sp_number_of) : Kn P w K mg base CX0 2 "number_sum" ["one", "other"] (sp_num2 (· + ·)) := by
  have S := sc_number_sum
  refine Kn.of D S (fun vs H Q E h => ?_) (fun _ _ _ _ _ _ us hl => match us, hl with | [_, _], _ => rfl) fun f cdv A outer s H vs Q E hr h => ?_
  · obtain ⟨_, _, _, _, rfl, _⟩ := h; rfl
  obtain ⟨_, _, p, q, rfl, ⟨a, rfl, ha⟩, ⟨b, rfl, hb⟩, hp, hq, k⟩ := h
  refine ⟨_, PSs.nox (pss_one (ps_ret (pe_kn k_number_of (hr.mono (by decide)) (by rfl) pass0 (pa_cons (pe_op op_add (pe_op op_mulX (pe_ix ix_tup (pv 0) pe_int (fun _ _ => rfl)) (pe_ix ix_tup (pv 1) pe_int (fun _ _ => rfl))) (pe_op op_mulX (pe_ix ix_tup (pv 1) pe_int (fun _ _ => rfl)) (pe_ix ix_tup (pv 0) pe_int (fun _ _ => rfl)))) (pa_cons (pe_op op_mulX (pe_ix ix_tup (pv 0) pe_int (fun _ _ => rfl)) (pe_ix ix_tup (pv 1) pe_int (fun _ _ => rfl))) pa_nil))))), ?_⟩
  walk_at "k9"
  refine x_ixT ha rfl ?_
  walk_at "k9"
  refine x_ixT hb rfl ?_
  refine x_i (hp.nd hq) ?_
  walk_at "k9"
  refine x_ixT hb rfl ?_
  walk_at "k9"
  refine x_ixT ha rfl ?_
  refine x_i (hq.nd hp) ?_
  walk_at "k9"
  refine x_ixT ha rfl ?_
  walk_at "k9"
  refine x_ixT hb rfl ?_
  refine x_i (hp.dd hq) ?_
  walk_at "k9"
  refine ⟨_, _, rfl, Sm.dn p q, hp.dl hq, fun H' v s r => k H' v s ?_⟩
  rw [sum_val] at r
  exact r
abbrev s_number_times : Stmt := topS 15
abbrev N_number_times : List Str := ["one", "other"]
theorem sc_number_times : FnScope N_number_times ["one", "other"] (defScope s_number_times) := ⟨rfl, rfl, rfl, by decide +kernel, rfl, by decide +kernel, by decide +kernel⟩
theorem kn_number_times (D : DefAt K mg "number_times" s_number_times) (T : Wd mg) (k_number_of : Kn P w K mg base CX0 1 "number_of" ["above", "below"] sp_number_of) : Kn P w K mg base CX0 2 "number_times" ["one", "other"] (sp_num2 (· * ·)) := by
  have S := sc_number_times
  refine Kn.of D S (fun vs H Q E h => ?_) (fun _ _ _ _ _ _ us hl => match us, hl with | [_, _], _ => rfl) fun f cdv A outer s H vs Q E hr h => ?_
  · obtain ⟨_, _, _, _, rfl, _⟩ := h; rfl
  obtain ⟨_, _, p, q, rfl, ⟨a, rfl, ha⟩, ⟨b, rfl, hb⟩, hp, hq, k⟩ := h
  refine ⟨_, PSs.nox (pss_one (ps_ret (pe_kn k_number_of (hr.mono (by decide)) (by rfl) pass0 (pa_cons (pe_op op_mulX (pe_ix ix_tup (pv 0) pe_int (fun _ _ => rfl)) (pe_ix ix_tup (pv 1) pe_int (fun _ _ => rfl))) (pa_cons (pe_op op_mulX (pe_ix ix_tup (pv 0) pe_int (fun _ _ => rfl)) (pe_ix ix_tup (pv 1) pe_int (fun _ _ => rfl))) pa_nil))))), ?_⟩
  walk_at "k9"
  refine x_ixT ha rfl ?_
  walk_at "k9"
  refine x_ixT hb rfl ?_
  refine x_i (hp.nn hq) ?_
  walk_at "k9"
  refine x_ixT ha rfl ?_
  walk_at "k9"
  refine x_ixT hb rfl ?_
  refine x_i (hp.dd hq) ?_
  walk_at "k9"
  refine ⟨_, _, rfl, Sm.dn p q, hp.dl hq, fun H' v s r => k H' v s ?_⟩
  rw [mul_val] at r
  exact r
end
end K9

set_option Elab.async false
set_option linter.all false
set_option maxRecDepth 100000
set_option maxHeartbeats 4000000
namespace K9
open PySem PySem.Spec PyProof.Rows L2
local macro_rules | `(tactic| walk_at "k9mem") => `(tactic| first | with_reducible assumption | exact upd_same | ((with_reducible refine mem_upd (by with_reducible assumption) ?_); walk_at "k9mem") | ((with_reducible refine mem_same (by with_reducible assumption) ?_); walk_at "k9mem"))
local macro_rules | `(tactic| walk_at "k91") => `(tactic| with_reducible (first | refine x_seq ?_ | refine x_asg ?_ | refine x_name ?_ | refine x_ret ?_ | refine x_drop ?_ | refine x_next ?_ | refine x_ifs ?_ | refine x_if ?_ | refine x_test ?_ | refine x_tb ?_ | refine x_tnot ?_ | refine x_tand ?_ | refine x_tor ?_ | refine x_andv ?_ | refine x_orv ?_ | refine x_notv ?_ | refine x_var rfl ?_ | refine x_c ?_ | refine x_op ?_ | refine x_un ?_ | refine x_i0 ?_ | refine x_par ?_ | refine x_two ?_ | refine x_eqI ?_ | refine x_neI ?_ | refine x_u ?_ | refine x_call ?_ | refine x_cb ?_ | refine x_cons ?_ | refine x_nil ?_ | refine x_tup ?_ | refine x_lst ?_ | refine x_gcd ?_ | refine x_for ?_ | refine x_iL ?_ | refine x_iT ?_ | refine x_iR1 ?_ | refine x_iR2 ?_ | refine x_lc ?_ | refine x_bm ?_ | refine x_bm0 ?_ | refine x_sl ?_ | refine x_nopart ?_ | refine x_part ?_ | refine x_some ?_ | refine x_bl ?_))
local macro_rules | `(tactic| walk_at "k9") => `(tactic| repeat (walk_at "k91"))
/-! what stands for polynomials -/
def RP (H : Hp) (v : V) (P : List Rat) : Prop := ∃ p a ns b, v = .ref p ∧ H p = some (.tup [.ref a, .int b]) ∧ H a = some (.lst (ns.map .int)) ∧ K9M.IsP ns b P
/-- .. whose list is new since H0 -/
def RPn (H0 H : Hp) (v : V) (P : List Rat) : Prop := ∃ p a ns b, v = .ref p ∧ H p = some (.tup [.ref a, .int b]) ∧ H a = some (.lst (ns.map .int)) ∧ H0 a = none ∧ K9M.IsP ns b P
theorem RPn.old {H0 H : Hp} {v : V} {P : List Rat} (h : RPn H0 H v P) : RP H v P := let ⟨p, a, ns, b, e, h1, h2, _, k⟩ := h; ⟨p, a, ns, b, e, h1, h2, k⟩
theorem RPn.back {H0 H1 H : Hp} {v : V} {P : List Rat} (h : RPn H1 H v P) (s : Same H0 H1) : RPn H0 H v P := let ⟨p, a, ns, b, e, h1, h2, h3, k⟩ := h; ⟨p, a, ns, b, e, h1, h2, s.free h3, k⟩
theorem RP.same {H H' : Hp} {v : V} {P : List Rat} (h : RP H v P) (s : Same H H') : RP H' v P := let ⟨p, a, ns, b, e, h1, h2, k⟩ := h; ⟨p, a, ns, b, e, s _ _ h1, s _ _ h2, k⟩
theorem RPn.same {H0 H H' : Hp} {v : V} {P : List Rat} (h : RPn H0 H v P) (s : Same H H') : RPn H0 H' v P := let ⟨p, a, ns, b, e, h1, h2, h3, k⟩ := h; ⟨p, a, ns, b, e, s _ _ h1, s _ _ h2, h3, k⟩
/-- a comprehension that makes whole numbers -/
theorem ints_of {ys : List V} {ns : List Int} (hl : ys.length = ns.length) (h : ∀ (i : Nat) (v : V), ys[i]? = some v → ∃ n : Int, ns[i]? = some n ∧ v = .int n) : ys = ns.map V.int := by
  refine List.ext_getElem? fun i => ?_
  rcases Nat.lt_or_ge i ys.length with q | q
  · obtain ⟨n, e, z⟩ := h i _ (List.getElem?_eq_getElem q)
    rw [List.getElem?_eq_getElem q, List.getElem?_map, e, z]; rfl
  · rw [List.getElem?_eq_none q, List.getElem?_eq_none (by simp; omega)]
theorem get_int {ns : List Int} {i : Nat} {v : V} (h : (ns.map V.int)[i]? = some v) : ∃ n, ns[i]? = some n ∧ v = .int n := by
  rw [List.getElem?_map] at h
  cases e : ns[i]? with
  | none => rw [e] at h; cases h
  | some n => rw [e] at h; cases h; exact ⟨n, rfl, rfl⟩
theorem at_int {ns : List Int} {i : Nat} {n : Int} (h : ns[i]? = some n) : atI (ns.map V.int) (i : Int) = some (.int n) := atI_nat (by rw [List.getElem?_map, h]; rfl)
theorem cut_to (xs : List V) (m : Nat) (h : m ≤ xs.length) : cutV xs none (some (m : Int)) = xs.take m := by
  unfold cutV
  rw [HT.sIx_none, HT.sIx_nat, List.drop_zero, Nat.min_eq_left h, Nat.sub_zero]
theorem x_whileK {σ : L2.St} {H : Hp} {D : Ends} {c : TT} {tb : TS} (W : Nat → L2.St → Hp → Prop) (E : L2.St → Hp → Prop) (m0 : Nat) (h0 : W m0 σ H) (hd : ∀ σ H, E σ H → D.nx σ H)
    (hs : (∀ σ H, E σ H → D.nx σ H) → ∀ m σ H, W m σ H → c σ H fun b H1 => if b = true then ∃ N : L2.St → Hp → Prop, (∀ σ' H', N σ' H' → ∃ m', m' < m ∧ W m' σ' H') ∧ tb { D with nx := N, ct := N, bk := D.nx } σ H1 else D.nx σ H1) : tWhile c tb D σ H := ⟨W, ⟨m0, h0⟩, hs hd⟩
/-! reduced -/
def sp_reduced : Sp := fun vs H Q _ => ∃ (a : Addr) (ns : List Int) (b : Int), vs = [.ref a, .int b] ∧ H a = some (.lst (ns.map .int)) ∧ ns.length ≤ 100000 ∧ 0 < b ∧ b.natAbs < 2 ^ 9000 ∧
  ∀ H' v, Same H H' → RPn H H' v (K9M.trim (ns.map fun n : Int => (n : Rat) / (b : Rat))) → Q v H'
section
variable {P : Program} {w : World} {K : PySem.W.Frag} {mg : Str → Option Value} {base : Heap}
abbrev s_reduced : Stmt := topS 16
abbrev N_reduced : List Str := ["numbers", "below", "many", "whole", "number"]
theorem sc_reduced : FnScope N_reduced ["numbers", "below"] (defScope s_reduced) := ⟨rfl, rfl, rfl, by decide +kernel, rfl, by decide +kernel, by decide +kernel⟩
theorem gfold_snoc : ∀ (ns : List Int) (g n : Int), K9M.gfold g (ns ++ [n]) = K9M.gcdI (K9M.gfold g ns) n
  | [], _, _ => rfl
  | m :: ns, g, n => by
    show K9M.gfold (K9M.gcdI g m) (ns ++ [n]) = _
    rw [gfold_snoc ns]; rfl
theorem gcd_step (g n : Int) : ((Nat.gcd g.natAbs n.natAbs : Nat) : Int) = K9M.gcdI g n := rfl
theorem kn_reduced (D : DefAt K mg "reduced" s_reduced) (T : Wd mg) : Kn P w K mg base CX0 1 "reduced" ["numbers", "below"] sp_reduced := by
  have S := sc_reduced
  refine Kn.of D S (fun vs H Q E h => ?_) (fun _ _ _ _ _ _ us hl => match us, hl with | [_, _], _ => rfl) fun f cdv A outer s H vs Q E hr h => ?_
  · obtain ⟨_, _, _, rfl, _⟩ := h; rfl
  obtain ⟨a, ns, b, rfl, ha, hn, hb, hz, k⟩ := h
  refine ⟨_, PSs.nox (pss_cons (ps_set (i := 2) S.nd rfl (Or.inl rfl) (pe_callB (lenK (K := K) rfl) (by rfl) T.len PySem.boot_len (pa_cons (pv 0) pa_nil)))
    (pss_cons (ps_while PassesOwn.never (PW.pt (pw_and (pt_cmpR op_gt (pv 2) pe_int (nomark _)) (pw_and1 (pt_cmpR op_eq (pe_ix (ixL (K := K) rfl) (pv 0) (pe_op op_sub (pv 2) pe_int) (fun _ _ => rfl)) pe_int (nomark _)))))
      (pss_one (ps_set (i := 2) S.nd rfl (Or.inl rfl) (pe_op op_sub (pv 2) pe_int))))
    (pss_cons (ps_set (i := 3) S.nd rfl (Or.inr rfl) (pe_callBfun cr_gcd (by rfl) T.gcd (pa_cons (pv 1) (pa_cons pe_int pa_nil))))
    (pss_cons (ps_for PassesOwn.never rfl (pi_list (pe_slice sl_list (pv 0) po_none (po_some (pv 2)))) (pg_name (i := 4) S.nd rfl (by first | exact .inl rfl | exact .inr rfl))
      (pss_one (ps_set (i := 3) S.nd rfl (Or.inr rfl) (pe_callBfun cr_gcd (by rfl) T.gcd (pa_cons (pv 3) (pa_cons (pv 4) pa_nil))))))
    (pss_cons (ps_if (pt_cmpR op_lt (pv 1) pe_int (nomark _))
      (pss_one (ps_set (i := 3) S.nd rfl (Or.inr rfl) (pe_un un_neg (pv 3)))) pss_nil)
    (pss_one (ps_ret (pe_tup (pa_cons (pe_lc (own := [("number", 4)]) (g := gName 4) (by rfl) S.nd (pi_list (pe_slice sl_list (pv 0) po_none (po_some (pv 2)))) (blkOk_by (own := [("number", 4)]) (N := N_reduced) (sc := defScope s_reduced) (by decide +kernel)) (fun _ _ _ _ _ => (pg_name (i := 4) S.nd rfl (by first | exact .inl rfl | exact .inr rfl))) (fun _ _ _ _ _ => pts_nil) (fun _ _ _ _ _ => (pe_op op_fd (pv 4) (pv 3)))) (pa_cons (pe_op op_fd (pv 1) (pv 3)) pa_nil)))))))))), ?_⟩
  walk_at "k9"
  refine ⟨a, _, rfl, .inl (.of ha), ?_⟩
  rw [List.length_map]
  walk_at "k9"
  refine x_whileK (fun m σ' H' => σ' = [some (.ref a), some (.int b), some (.int (m : Nat)), none, none] ∧ H = H' ∧ m ≤ ns.length ∧ ∀ i x, m ≤ i → ns[i]? = some x → x = 0) (fun σ' H' => σ' = [some (.ref a), some (.int b), some (.int ((K9M.itrim ns).length : Nat)), none, none] ∧ H = H') ns.length ⟨rfl, rfl, Nat.le_refl _, fun i x hi e => by rw [List.getElem?_eq_none hi] at e; cases e⟩ ?_ ?_
  rotate_left
  · rintro hd m _ _ ⟨rfl, rfl, hm, hx⟩
    walk_at "k9"
    rcases Nat.eq_zero_or_pos m with h0 | h0
    · subst h0
      refine x_no (by decide) ?_
      refine x_no rfl ?_
      exact hd _ _ ⟨by rw [K9M.itrim_len ns 0 hm hx (.inl rfl)], rfl⟩
    refine x_yes (decide_eq_true (by omega)) ?_
    walk_at "k9"
    have e1 : ((m : Nat) : Int) - 1 = ((m - 1 : Nat) : Int) := by omega
    rw [e1]
    have e2 : ns[m - 1]? = some ns[m - 1] := List.getElem?_eq_getElem (by omega)
    refine x_ixL ha (at_int e2) ?_
    walk_at "k9"
    by_cases hz0 : ns[m - 1] = 0
    · refine x_yes (decide_eq_true hz0) ?_
      refine x_turn ?_
      walk_at "k9"
      rw [e1]
      refine ⟨m - 1, by omega, rfl, rfl, by omega, fun i x hi e => ?_⟩
      rcases Nat.eq_or_lt_of_le hi with q | q
      · subst q
        rw [e2] at e
        cases e
        exact hz0
      · exact hx i x (by omega) e
    · refine x_no (decide_eq_false hz0) ?_
      exact hd _ _ ⟨by rw [K9M.itrim_len ns m hm hx (.inr ⟨_, e2, hz0⟩)], rfl⟩
  rintro _ _ ⟨rfl, rfl⟩
  have hle : (K9M.itrim ns).length ≤ ns.length := by rw [K9M.itrim_take, List.length_take]; omega
  walk_at "k9"
  refine x_slL ha fun q hq => ?_
  rw [cut_to _ _ (by simpa using hle), ← List.map_take, ← K9M.itrim_take]
  have hq2 : upd H q (.lst ((K9M.itrim ns).map .int)) q = some (.lst ((K9M.itrim ns).map .int)) := upd_same
  refine x_forL hq2 (fun i σ' H' => ∃ x, σ' = [some (.ref a), some (.int b), some (.int ((K9M.itrim ns).length : Nat)), some (.int (K9M.gfold b ((K9M.itrim ns).take i))), x] ∧ H' = upd H q (.lst ((K9M.itrim ns).map .int))) ⟨none, by rw [show ((Nat.gcd b.natAbs (0 : Int).natAbs : Nat) : Int) = b from K9M.gcdI_zero hb]; rfl, rfl⟩ (fun i σ' H' h => by obtain ⟨_, rfl, rfl⟩ := h; exact hq2) ?_ ?_
  · rintro i x _ _ hx ⟨_, rfl, rfl⟩
    obtain ⟨n, e, rfl⟩ := get_int hx
    walk_at "k9"
    refine ⟨some (.int n), ?_, rfl⟩
    have : (K9M.itrim ns).take (i + 1) = (K9M.itrim ns).take i ++ [n] := by rw [List.take_add_one, e]; rfl
    rw [this, gfold_snoc]
    rfl
  rintro _ _ ⟨_, rfl, rfl⟩
  rw [List.length_map, List.take_length]
  have gp := K9M.gfold_spec (K9M.itrim ns) b (by omega) (by omega)
  have gl := K9M.gfold_le (ns := K9M.itrim ns) hb
  have gz : CFd 0 (K9M.gfold b (K9M.itrim ns)) := ⟨by omega, by omega⟩
  walk_at "k9"
  refine x_no (decide_eq_false (by omega)) ?_
  walk_at "k9"
  refine x_slL (mem_upd hq ha) fun r hr2 => ?_
  rw [cut_to _ _ (by simpa using hle), ← List.map_take, ← K9M.itrim_take]
  refine x_lcL (xs := (K9M.itrim ns).map .int) (fun i v _ => ∃ n, (K9M.itrim ns)[i]? = some n ∧ v = .int (n / K9M.gfold b (K9M.itrim ns))) upd_same (by simpa using Nat.le_trans hle hn) (fun _ => by rfl) (fun _ _ _ _ h _ => h) ?_ ?_
  · intro i x H' hx s Q' kq
    obtain ⟨n, e, rfl⟩ := get_int hx
    walk_at "k9"
    refine x_i gz ?_
    refine kq _ _ (fun _ _ h => h) ⟨n, e, ?_⟩
    rw [Int.fdiv_eq_ediv_of_nonneg _ (by omega)]
  intro H2 l ys s2 hl e2 le2 f2
  have e3 : ys = ((K9M.itrim ns).map fun n => n / K9M.gfold b (K9M.itrim ns)).map V.int := ints_of (by simpa using le2) fun i v h => by
    obtain ⟨n, e, z⟩ := f2 i v h
    exact ⟨_, by rw [List.getElem?_map, e]; rfl, z⟩
  walk_at "k9"
  refine x_i gz ?_
  walk_at "k9"
  refine ⟨by show 2 ≤ sizeLine; decide, fun p hp => k _ _ ?_ ⟨p, l, (K9M.itrim ns).map (fun n => n / K9M.gfold b (K9M.itrim ns)), b / K9M.gfold b (K9M.itrim ns), rfl, ?_, ?_, ?_, K9M.isP_trim hb⟩⟩
  · intro a' o ha'
    exact mem_upd hp (s2 _ _ (mem_upd hr2 (mem_upd hq ha')))
  · rw [Int.fdiv_eq_ediv_of_nonneg _ (by omega)]
    exact upd_same
  · rw [mem_upd hp e2, e3]
  · exact free_upd (free_upd hl)
end
end K9

set_option Elab.async false
set_option linter.all false
set_option maxRecDepth 100000
set_option maxHeartbeats 4000000
namespace K9
open PySem PySem.Spec PyProof.Rows L2
local macro_rules | `(tactic| walk_at "k9mem") => `(tactic| first | with_reducible assumption | exact upd_same | ((with_reducible refine mem_upd (by with_reducible assumption) ?_); walk_at "k9mem") | ((with_reducible refine mem_same (by with_reducible assumption) ?_); walk_at "k9mem"))
local macro_rules | `(tactic| walk_at "k91") => `(tactic| with_reducible (first | refine x_seq ?_ | refine x_asg ?_ | refine x_name ?_ | refine x_ret ?_ | refine x_drop ?_ | refine x_next ?_ | refine x_ifs ?_ | refine x_if ?_ | refine x_test ?_ | refine x_tb ?_ | refine x_tnot ?_ | refine x_tand ?_ | refine x_tor ?_ | refine x_andv ?_ | refine x_orv ?_ | refine x_notv ?_ | refine x_var rfl ?_ | refine x_c ?_ | refine x_op ?_ | refine x_un ?_ | refine x_i0 ?_ | refine x_par ?_ | refine x_two ?_ | refine x_eqI ?_ | refine x_neI ?_ | refine x_u ?_ | refine x_call ?_ | refine x_cb ?_ | refine x_cons ?_ | refine x_nil ?_ | refine x_tup ?_ | refine x_lst ?_ | refine x_gcd ?_ | refine x_for ?_ | refine x_iL ?_ | refine x_iT ?_ | refine x_iR1 ?_ | refine x_iR2 ?_ | refine x_lc ?_ | refine x_bm ?_ | refine x_bm0 ?_ | refine x_sl ?_ | refine x_nopart ?_ | refine x_part ?_ | refine x_some ?_ | refine x_bl ?_))
local macro_rules | `(tactic| walk_at "k9") => `(tactic| repeat (walk_at "k91"))
/-! what stands for lists of numbers -/
def Rqs (H : Hp) (vs : List V) (qs : List Rat) : Prop := vs.length = qs.length ∧ ∀ (i : Nat) (v : V), vs[i]? = some v → ∃ q, qs[i]? = some q ∧ RQ H v q
def RS (H : Hp) (v : V) (qs : List Rat) : Prop := ∃ p vs, v = .ref p ∧ H p = some (.tup vs) ∧ Rqs H vs qs
def RL (H : Hp) (v : V) (qs : List Rat) : Prop := ∃ p vs, v = .ref p ∧ H p = some (.lst vs) ∧ Rqs H vs qs
theorem RQ.tsame {H H' : Hp} {v : V} {q : Rat} (h : RQ H v q) (s : TSame H H') : RQ H' v q := let ⟨p, e, m⟩ := h; ⟨p, e, s _ _ m⟩
theorem Rqs.tsame {H H' : Hp} {vs : List V} {qs : List Rat} (h : Rqs H vs qs) (s : TSame H H') : Rqs H' vs qs := ⟨h.1, fun i v e => let ⟨q, a, b⟩ := h.2 i v e; ⟨q, a, b.tsame s⟩⟩
theorem RS.same {H H' : Hp} {v : V} {qs : List Rat} (h : RS H v qs) (s : Same H H') : RS H' v qs := let ⟨p, vs, e, m, r⟩ := h; ⟨p, vs, e, s _ _ m, r.tsame (Same.tup s)⟩
theorem RS.tsame {H H' : Hp} {v : V} {qs : List Rat} (h : RS H v qs) (s : TSame H H') : RS H' v qs := let ⟨p, vs, e, m, r⟩ := h; ⟨p, vs, e, s _ _ m, r.tsame s⟩
theorem RL.same {H H' : Hp} {v : V} {qs : List Rat} (h : RL H v qs) (s : Same H H') : RL H' v qs := let ⟨p, vs, e, m, r⟩ := h; ⟨p, vs, e, s _ _ m, r.tsame (Same.tup s)⟩
theorem take_snoc {α : Type} {l : List α} {i : Nat} {x : α} (h : l[i]? = some x) : l.take (i + 1) = l.take i ++ [x] := by rw [List.take_add_one, h]; rfl
theorem take_mem {α : Type} {l : List α} {i : Nat} {x : α} (h : x ∈ l.take i) : x ∈ l := List.mem_of_mem_take h
theorem get_mem {α : Type} {l : List α} {i : Nat} {x : α} (h : l[i]? = some x) : x ∈ l := List.mem_of_getElem? h
theorem lcmL_take {l : List Rat} {i : Nat} {q : Rat} (h : l[i]? = some q) : K9M.lcmL 1 (l.take (i + 1)) = K9M.lcmF (K9M.lcmL 1 (l.take i)) (q.den : Int) := by
  unfold K9M.lcmL
  rw [take_snoc h, List.foldl_append]; rfl
theorem denP_take {l : List Rat} {i : Nat} {q : Rat} (h : l[i]? = some q) : K9M.denP 1 (l.take (i + 1)) = K9M.denP 1 (l.take i) * (q.den : Int) := by
  unfold K9M.denP
  rw [take_snoc h, List.foldl_append]; rfl
theorem nat_le {a b : Int} (h0 : 0 < a) (h : a ≤ b) : a.natAbs ≤ b.natAbs := by omega
/-! as_poly -/
def sp_as_poly : Sp := fun vs H Q _ => ∃ (v : V) (qs : List Rat) (R : Nat) (D : Int), vs = [v] ∧ RS H v qs ∧ qs.length ≤ 100000 ∧ K9M.SC R D qs ∧ R ≤ RN ∧ 0 < D ∧ D.natAbs < 2 ^ 4500 ∧
  ∀ H' v, Same H H' → RPn H H' v (K9M.trim qs) → Q v H'
theorem lcm_all {l : List Rat} {R : Nat} {D : Int} (h : K9M.SC R D l) (hD : 0 < D) : K9M.lcmL 1 l ∣ D := (K9M.lcmL_spec l 1 (by decide)).2.2.2 D ⟨D, by omega⟩ fun q hq => (h q hq).den_dvd
section
variable {P : Program} {w : World} {K : PySem.W.Frag} {mg : Str → Option Value} {base : Heap}
abbrev s_as_poly : Stmt := topS 17
abbrev N_as_poly : List Str := ["step", "below", "number"]
theorem sc_as_poly : FnScope N_as_poly ["step"] (defScope s_as_poly) := ⟨rfl, rfl, rfl, by decide +kernel, rfl, by decide +kernel, by decide +kernel⟩
theorem kn_as_poly (D : DefAt K mg "as_poly" s_as_poly) (T : Wd mg) (k_reduced : Kn P w K mg base CX0 1 "reduced" ["numbers", "below"] sp_reduced) : Kn P w K mg base CX0 2 "as_poly" ["step"] sp_as_poly := by
  have S := sc_as_poly
  refine Kn.of D S (fun vs H Q E h => ?_) (fun _ _ _ _ _ _ us hl => match us, hl with | [_], _ => rfl) fun f cdv A outer s H vs Q E hr h => ?_
  · obtain ⟨_, _, _, _, rfl, _⟩ := h; rfl
  obtain ⟨_, qs, R, D0, rfl, ⟨a, vs, rfl, ha, hl, hv⟩, hn, sc, hR, hD, hz, k⟩ := h
  refine ⟨_, PSs.nox (pss_cons (ps_set (i := 1) S.nd rfl (Or.inr rfl) pe_int)
    (pss_cons (ps_for PassesOwn.never rfl (pi_tup (pv 0)) (pg_name (i := 2) S.nd rfl (by first | exact .inl rfl | exact .inr rfl))
      (pss_one (ps_set (i := 1) S.nd rfl (Or.inr rfl) (pe_op op_fd (pe_op op_mulX (pv 1) (pe_ix (ixT (K := K) rfl) (pv 2) pe_int (fun _ _ => rfl))) (pe_callBfun cr_gcd (by rfl) T.gcd (pa_cons (pv 1) (pa_cons (pe_ix (ixT (K := K) rfl) (pv 2) pe_int (fun _ _ => rfl)) pa_nil)))))))
    (pss_one (ps_ret (pe_kn k_reduced (hr.mono (by decide)) (by rfl) pass0 (pa_cons (pe_lc (own := [("number", 2)]) (g := gName 2) (by rfl) S.nd (pi_tup (pv 0)) (blkOk_by (own := [("number", 2)]) (N := N_as_poly) (sc := defScope s_as_poly) (by decide +kernel)) (fun _ _ _ _ _ => (pg_name (i := 2) S.nd rfl (by first | exact .inl rfl | exact .inr rfl))) (fun _ _ _ _ _ => pts_nil) (fun _ _ _ _ _ => (pe_op op_mulX (pe_ix (ixT (K := K) rfl) (pv 2) pe_int (fun _ _ => rfl)) (pe_op op_fd (pv 1) (pe_ix (ixT (K := K) rfl) (pv 2) pe_int (fun _ _ => rfl)))))) (pa_cons (pv 1) pa_nil))))))), ?_⟩
  have lt : ∀ i, 0 < K9M.lcmL 1 (qs.take i) ∧ (K9M.lcmL 1 (qs.take i)).natAbs < 2 ^ 4500 := fun i => by
    have sp := K9M.lcmL_spec (qs.take i) 1 (by decide)
    have := lcm_all (l := qs.take i) (fun q hq => sc q (take_mem hq)) hD
    have := nat_le sp.1 (Int.le_of_dvd hD this)
    exact ⟨sp.1, by omega⟩
  have sd : ∀ q ∈ qs, q.den < 2 ^ 4500 := fun q hq => by have := (sc q hq).den_le hD; omega
  have sn : ∀ q ∈ qs, q.num.natAbs < 2 ^ RN := fun q hq => (((sc q hq).mono hR).num_lt hD)
  walk_at "k9"
  refine x_forT ha (fun i σ' H' => ∃ x, σ' = [some (.ref a), some (.int (K9M.lcmL 1 (qs.take i))), x] ∧ H = H') ⟨none, rfl, rfl⟩ (fun i σ' H' h => by obtain ⟨_, rfl, rfl⟩ := h; exact ha) ?_ ?_
  · rintro i x _ _ hx ⟨_, rfl, rfl⟩
    obtain ⟨q, e, b, rfl, hb⟩ := hv i x hx
    walk_at "k9"
    refine x_ixT hb rfl ?_
    refine x_i (mulx_ok (lt i).2 (by rw [Int.natAbs_natCast]; exact sd q (get_mem e)) (by decide)) ?_
    walk_at "k9"
    refine x_ixT hb rfl ?_
    walk_at "k9"
    have hd := K9M.den_pos q
    have g1 : (K9M.gcdI (K9M.lcmL 1 (qs.take i)) (q.den : Int)).natAbs ≤ ((q.den : Int)).natAbs := K9M.gcdI_le (by omega)
    have g0 : 0 < K9M.gcdI (K9M.lcmL 1 (qs.take i)) (q.den : Int) := K9M.gcdI_pos (by omega)
    have g2 := sd q (get_mem e)
    refine x_i (C := CFd) ⟨by show K9M.gcdI _ _ ≠ 0; omega, ?_⟩ ?_
    · show (K9M.gcdI _ _).natAbs < _
      refine Nat.lt_of_le_of_lt g1 (Nat.lt_of_lt_of_le (by rw [Int.natAbs_natCast]; exact g2) (Nat.pow_le_pow_right (by decide) (by decide)))
    walk_at "k9"
    refine ⟨some (.ref b), ?_, rfl⟩
    rw [lcmL_take e]
    unfold K9M.lcmF
    rw [← Int.fdiv_eq_ediv_of_nonneg _ (by omega)]
    rfl
  rintro _ _ ⟨_, rfl, rfl⟩
  rw [hl, List.take_length]
  have lq := lt qs.length
  rw [List.take_length] at lq
  have sp := K9M.lcmL_spec qs 1 (by decide)
  walk_at "k9"
  refine x_lcT (xs := vs) (fun i v _ => ∃ q, qs[i]? = some q ∧ v = .int (q.num * (K9M.lcmL 1 qs / (q.den : Int)))) ha (by omega) (fun _ => by rfl) (fun _ _ _ _ h _ => h) ?_ ?_
  · intro i x H' hx s Q' kq
    obtain ⟨q, e, b, rfl, hb⟩ := hv i x hx
    have hd := K9M.den_pos q
    have hb2 := s _ _ hb
    walk_at "k9"
    refine x_ixT hb2 rfl ?_
    walk_at "k9"
    refine x_ixT hb2 rfl ?_
    have g2 := sd q (get_mem e)
    refine x_i (C := CFd) ⟨by omega, Nat.lt_of_lt_of_le (by rw [Int.natAbs_natCast]; exact g2) (Nat.pow_le_pow_right (by decide) (by decide))⟩ ?_
    rw [Int.fdiv_eq_ediv_of_nonneg _ (by omega)]
    refine x_i (mulx_ok (sn q (get_mem e)) (Nat.lt_of_le_of_lt ?_ lq.2) (by unfold RN; decide)) ?_
    · have h1 : 0 ≤ K9M.lcmL 1 qs / (q.den : Int) := Int.ediv_nonneg (by omega) (by omega)
      have h2 : K9M.lcmL 1 qs / (q.den : Int) ≤ K9M.lcmL 1 qs := Int.ediv_le_self _ (by omega)
      omega
    exact kq _ _ (fun _ _ h => h) ⟨q, e, rfl⟩
  intro H2 l ys s2 hl2 e2 le2 f2
  have e3 : ys = (qs.map fun q => q.num * (K9M.lcmL 1 qs / (q.den : Int))).map V.int := ints_of (by rw [List.length_map, le2, hl]) fun i v h => by
    obtain ⟨q, e, z⟩ := f2 i v h
    exact ⟨_, by rw [List.getElem?_map, e]; rfl, z⟩
  subst e3
  walk_at "k9"
  refine ⟨_, _, _, rfl, e2, by simpa using hn, sp.1, Nat.lt_of_lt_of_le lq.2 (Nat.pow_le_pow_right (by decide) (by decide)), fun H' v s r => ?_⟩
  rw [K9M.over_line sp.1 sp.2.2.1] at r
  exact k _ _ (fun a o h => s _ _ (s2 _ _ h)) (r.back s2)
end
end K9

set_option Elab.async false
set_option linter.all false
set_option maxRecDepth 100000
set_option maxHeartbeats 4000000
namespace K9
open PySem PySem.Spec PyProof.Rows L2
local macro_rules | `(tactic| walk_at "k9mem") => `(tactic| first | with_reducible assumption | exact upd_same | ((with_reducible refine mem_upd (by with_reducible assumption) ?_); walk_at "k9mem") | ((with_reducible refine mem_same (by with_reducible assumption) ?_); walk_at "k9mem"))
local macro_rules | `(tactic| walk_at "k91") => `(tactic| with_reducible (first | refine x_seq ?_ | refine x_asg ?_ | refine x_name ?_ | refine x_ret ?_ | refine x_drop ?_ | refine x_next ?_ | refine x_ifs ?_ | refine x_if ?_ | refine x_test ?_ | refine x_tb ?_ | refine x_tnot ?_ | refine x_tand ?_ | refine x_tor ?_ | refine x_andv ?_ | refine x_orv ?_ | refine x_notv ?_ | refine x_var rfl ?_ | refine x_c ?_ | refine x_op ?_ | refine x_un ?_ | refine x_i0 ?_ | refine x_par ?_ | refine x_two ?_ | refine x_eqI ?_ | refine x_neI ?_ | refine x_u ?_ | refine x_call ?_ | refine x_cb ?_ | refine x_cons ?_ | refine x_nil ?_ | refine x_tup ?_ | refine x_lst ?_ | refine x_gcd ?_ | refine x_for ?_ | refine x_iL ?_ | refine x_iT ?_ | refine x_iR1 ?_ | refine x_iR2 ?_ | refine x_lc ?_ | refine x_bm ?_ | refine x_bm0 ?_ | refine x_sl ?_ | refine x_nopart ?_ | refine x_part ?_ | refine x_some ?_ | refine x_bl ?_))
local macro_rules | `(tactic| walk_at "k9") => `(tactic| repeat (walk_at "k91"))
theorem get_getD {xs : List Int} {i : Nat} (h : i < xs.length) : xs[i]? = some (xs.getD i 0) := by simp [List.getD, h]
/-! as_step -/
def sp_as_step : Sp := fun vs H Q _ => ∃ (v : V) (P : List Rat) (R : Nat) (D : Int), vs = [v] ∧ RP H v P ∧ P.length ≤ 100000 ∧ K9M.SC R D P ∧ 0 < D ∧ D.natAbs < 2 ^ 9000 ∧
  ∀ H' v, Same H H' → RS H' v P → Q v H'
section
variable {P : Program} {w : World} {K : PySem.W.Frag} {mg : Str → Option Value} {base : Heap}
abbrev s_as_step : Stmt := topS 18
abbrev N_as_step : List Str := ["poly", "number"]
theorem sc_as_step : FnScope N_as_step ["poly"] (defScope s_as_step) := ⟨rfl, rfl, rfl, by decide +kernel, rfl, by decide +kernel, by decide +kernel⟩
theorem kn_as_step (D : DefAt K mg "as_step" s_as_step) (T : Wd mg) (k_number_of : Kn P w K mg base CX0 1 "number_of" ["above", "below"] sp_number_of) : Kn P w K mg base CX0 2 "as_step" ["poly"] sp_as_step := by
  have S := sc_as_step
  refine Kn.of D S (fun vs H Q E h => ?_) (fun _ _ _ _ _ _ us hl => match us, hl with | [_], _ => rfl) fun f cdv A outer s H vs Q E hr h => ?_
  · obtain ⟨_, _, _, _, rfl, _⟩ := h; rfl
  obtain ⟨_, qs, R, D0, rfl, ⟨p, a, ns, b, rfl, hp, ha, ip⟩, hn, sc, hD, hz, k⟩ := h
  refine ⟨_, PSs.nox (pss_one (ps_ret (pe_callTy call_tuple_of (by rfl) T.tuple (by decide +kernel) (pa_cons (pe_lc (own := [("number", 1)]) (g := gName 1) (by rfl) S.nd (pi_list (pe_ix (ixT (K := K) rfl) (pv 0) pe_int (fun _ _ => rfl))) (blkOk_by (own := [("number", 1)]) (N := N_as_step) (sc := defScope s_as_step) (by decide +kernel)) (fun _ _ _ _ _ => (pg_name (i := 1) S.nd rfl (by first | exact .inl rfl | exact .inr rfl))) (fun _ _ _ _ _ => pts_nil) (fun _ _ _ _ _ => (pe_kn k_number_of (hr.mono (by decide)) (by rfl) pass0 (pa_cons (pv 1) (pa_cons (pe_ix (ixT (K := K) rfl) (pv 0) pe_int (fun _ _ => rfl)) pa_nil))))) pa_nil)))), ?_⟩
  have hb := nat_le ip.pos (ip.le sc hD)
  have hl := ip.len
  have hb0 := ip.pos
  walk_at "k9"
  refine x_ixT hp rfl ?_
  refine x_lcL (xs := ns.map .int) (fun i v H => ∃ q, qs[i]? = some q ∧ RQ H v q) ha (by simpa using (by omega : ns.length ≤ 100000)) (fun _ => by rfl) (fun _ _ _ _ h s => let ⟨q, a, b⟩ := h; ⟨q, a, b.tsame s⟩) ?_ ?_
  · intro i x H' hx s Q' kq
    obtain ⟨n, e, rfl⟩ := get_int hx
    walk_at "k9"
    refine x_ixT (s _ _ hp) rfl ?_
    walk_at "k9"
    exact ⟨_, _, rfl, by omega, by omega, fun H' v s r => kq _ _ s ⟨_, ip.get e, r⟩⟩
  intro H2 l ys s2 hl2 e2 le2 f2
  walk_at "k9"
  refine ⟨l, ys, rfl, .inl ⟨.of e2, fun r hr2 => k _ _ (fun a o h => mem_upd hr2 (s2 _ _ h)) ⟨r, ys, rfl, upd_same, by rw [le2, List.length_map, hl], fun i v h => ?_⟩⟩⟩
  obtain ⟨q, e, rq⟩ := f2 i v h
  exact ⟨q, e, rq.tsame (Same.tup (same_upd hr2))⟩
/-! from_numbers -/
def sp_from_numbers : Sp := fun vs H Q _ => ∃ (v : V) (qs : List Rat) (t : Nat), vs = [v] ∧ RL H v qs ∧ qs.length ≤ 100000 ∧ (∀ q ∈ qs, q.num.natAbs < 2 ^ RN) ∧ (∀ q ∈ qs, q.den < 2 ^ t) ∧ 1 + t * qs.length ≤ 9000 ∧ t ≤ 9000 ∧
  ∀ H' v, Same H H' → RPn H H' v (K9M.trim qs) → Q v H'
abbrev s_from_numbers : Stmt := topS 22
abbrev N_from_numbers : List Str := ["numbers", "below", "number"]
theorem sc_from_numbers : FnScope N_from_numbers ["numbers"] (defScope s_from_numbers) := ⟨rfl, rfl, rfl, by decide +kernel, rfl, by decide +kernel, by decide +kernel⟩
theorem kn_from_numbers (D : DefAt K mg "from_numbers" s_from_numbers) (T : Wd mg) (k_reduced : Kn P w K mg base CX0 1 "reduced" ["numbers", "below"] sp_reduced) : Kn P w K mg base CX0 2 "from_numbers" ["numbers"] sp_from_numbers := by
  have S := sc_from_numbers
  refine Kn.of D S (fun vs H Q E h => ?_) (fun _ _ _ _ _ _ us hl => match us, hl with | [_], _ => rfl) fun f cdv A outer s H vs Q E hr h => ?_
  · obtain ⟨_, _, _, rfl, _⟩ := h; rfl
  obtain ⟨_, qs, t, rfl, ⟨a, vs, rfl, ha, hl, hv⟩, hn, sn, sd, ht, ht2, k⟩ := h
  refine ⟨_, PSs.nox (pss_cons (ps_set (i := 1) S.nd rfl (Or.inr rfl) pe_int)
    (pss_cons (ps_for PassesOwn.never rfl (pi_list (pv 0)) (pg_name (i := 2) S.nd rfl (by first | exact .inl rfl | exact .inr rfl))
      (pss_one (ps_set (i := 1) S.nd rfl (Or.inr rfl) (pe_op op_mulX (pv 1) (pe_ix (ixT (K := K) rfl) (pv 2) pe_int (fun _ _ => rfl))))))
    (pss_one (ps_ret (pe_kn k_reduced (hr.mono (by decide)) (by rfl) pass0 (pa_cons (pe_lc (own := [("number", 2)]) (g := gName 2) (by rfl) S.nd (pi_list (pv 0)) (blkOk_by (own := [("number", 2)]) (N := N_from_numbers) (sc := defScope s_from_numbers) (by decide +kernel)) (fun _ _ _ _ _ => (pg_name (i := 2) S.nd rfl (by first | exact .inl rfl | exact .inr rfl))) (fun _ _ _ _ _ => pts_nil) (fun _ _ _ _ _ => (pe_op op_mulX (pe_ix (ixT (K := K) rfl) (pv 2) pe_int (fun _ _ => rfl)) (pe_op op_fd (pv 1) (pe_ix (ixT (K := K) rfl) (pv 2) pe_int (fun _ _ => rfl)))))) (pa_cons (pv 1) pa_nil))))))), ?_⟩
  have lt : ∀ i, 0 < K9M.denP 1 (qs.take i) ∧ (K9M.denP 1 (qs.take i)).natAbs < 2 ^ 9000 := fun i => by
    refine ⟨(K9M.denP_spec (qs.take i) 1 (by decide)).1, ?_⟩
    have := K9M.denP_lt (qs.take i) 1 1 t (by decide) (fun q hq => sd q (take_mem hq))
    refine Nat.lt_of_lt_of_le this (Nat.pow_le_pow_right (by decide) (Nat.le_trans ?_ ht))
    have : t * (qs.take i).length ≤ t * qs.length := Nat.mul_le_mul (Nat.le_refl _) (by rw [List.length_take]; omega)
    omega
  have sd2 : ∀ q ∈ qs, q.den < 2 ^ 9000 := fun q hq => Nat.lt_of_lt_of_le (sd q hq) (Nat.pow_le_pow_right (by decide) ht2)
  walk_at "k9"
  refine x_forL ha (fun i σ' H' => ∃ x, σ' = [some (.ref a), some (.int (K9M.denP 1 (qs.take i))), x] ∧ H = H') ⟨none, rfl, rfl⟩ (fun i σ' H' h => by obtain ⟨_, rfl, rfl⟩ := h; exact ha) ?_ ?_
  · rintro i x _ _ hx ⟨_, rfl, rfl⟩
    obtain ⟨q, e, b, rfl, hb⟩ := hv i x hx
    walk_at "k9"
    refine x_ixT hb rfl ?_
    refine x_i (mulx_ok (lt i).2 (by rw [Int.natAbs_natCast]; exact sd2 q (get_mem e)) (by decide)) ?_
    walk_at "k9"
    refine ⟨some (.ref b), ?_, rfl⟩
    rw [denP_take e]
    rfl
  rintro _ _ ⟨_, rfl, rfl⟩
  rw [hl, List.take_length]
  have lq := lt qs.length
  rw [List.take_length] at lq
  have sp := K9M.denP_spec qs 1 (by decide)
  walk_at "k9"
  refine x_lcL (xs := vs) (fun i v _ => ∃ q, qs[i]? = some q ∧ v = .int (q.num * (K9M.denP 1 qs / (q.den : Int)))) ha (by omega) (fun _ => by rfl) (fun _ _ _ _ h _ => h) ?_ ?_
  · intro i x H' hx s Q' kq
    obtain ⟨q, e, b, rfl, hb⟩ := hv i x hx
    have hd := K9M.den_pos q
    have hb2 := s _ _ hb
    walk_at "k9"
    refine x_ixT hb2 rfl ?_
    walk_at "k9"
    refine x_ixT hb2 rfl ?_
    have g2 := sd2 q (get_mem e)
    refine x_i (C := CFd) ⟨by omega, by rw [Int.natAbs_natCast]; exact g2⟩ ?_
    rw [Int.fdiv_eq_ediv_of_nonneg _ (by omega)]
    refine x_i (mulx_ok (sn q (get_mem e)) (Nat.lt_of_le_of_lt ?_ lq.2) (by unfold RN; decide)) ?_
    · have h1 : 0 ≤ K9M.denP 1 qs / (q.den : Int) := Int.ediv_nonneg (by omega) (by omega)
      have h2 : K9M.denP 1 qs / (q.den : Int) ≤ K9M.denP 1 qs := Int.ediv_le_self _ (by omega)
      omega
    exact kq _ _ (fun _ _ h => h) ⟨q, e, rfl⟩
  intro H2 l ys s2 hl2 e2 le2 f2
  have e3 : ys = (qs.map fun q => q.num * (K9M.denP 1 qs / (q.den : Int))).map V.int := ints_of (by rw [List.length_map, le2, hl]) fun i v h => by
    obtain ⟨q, e, z⟩ := f2 i v h
    exact ⟨_, by rw [List.getElem?_map, e]; rfl, z⟩
  subst e3
  walk_at "k9"
  refine ⟨_, _, _, rfl, e2, by simpa using hn, sp.1, lq.2, fun H' v s r => ?_⟩
  rw [K9M.over_line sp.1 sp.2.2] at r
  exact k _ _ (fun a o h => s _ _ (s2 _ _ h)) (r.back s2)
/-! plus -/
def sp_plus : Sp := fun vs H Q _ => ∃ (v1 v2 : V) (P1 P2 : List Rat) (R : Nat) (D E : Int), vs = [v1, v2] ∧ RP H v1 P1 ∧ RP H v2 P2 ∧ P1.length ≤ 50000 ∧ P2.length ≤ 50000 ∧ K9M.SC R D P1 ∧ K9M.SC R E P2 ∧ R ≤ RN ∧ 0 < D ∧ D.natAbs < 2 ^ 4500 ∧ 0 < E ∧ E.natAbs < 2 ^ 4500 ∧
  ∀ H' v, Same H H' → RPn H H' v (K9M.trim (K9M.addL P1 P2)) → Q v H'
theorem nat_mul_lt {a b : Int} (h : a.natAbs < 2 ^ 4500) (k : b.natAbs < 2 ^ 4500) : (a * b).natAbs < 2 ^ 9000 := by
  rw [Int.natAbs_mul, show (9000 : Nat) = 4500 + 4500 from rfl, Nat.pow_add]
  exact Nat.mul_lt_mul'' h k
abbrev s_plus : Stmt := topS 19
abbrev N_plus : List Str := ["one", "other", "many", "found", "index", "near", "far"]
theorem sc_plus : FnScope N_plus ["one", "other"] (defScope s_plus) := ⟨rfl, rfl, rfl, by decide +kernel, rfl, by decide +kernel, by decide +kernel⟩
theorem kn_plus (D : DefAt K mg "plus" s_plus) (T : Wd mg) (k_reduced : Kn P w K mg base CX0 1 "reduced" ["numbers", "below"] sp_reduced) : Kn P w K mg base CX0 2 "plus" ["one", "other"] sp_plus := by
  have S := sc_plus
  refine Kn.of D S (fun vs H Q E h => ?_) (fun _ _ _ _ _ _ us hl => match us, hl with | [_, _], _ => rfl) fun f cdv A outer s H vs Q E hr h => ?_
  · obtain ⟨_, _, _, _, _, _, _, rfl, _⟩ := h; rfl
  obtain ⟨_, _, P1, P2, R, D1, D2, rfl, ⟨p1, a1, xs, b1, rfl, hp1, ha1, ip1⟩, ⟨p2, a2, ys, b2, rfl, hp2, ha2, ip2⟩, hn1, hn2, sc1, sc2, hR, hD1, hz1, hD2, hz2, k⟩ := h
  refine ⟨_, PSs.nox (pss_cons (ps_set (i := 2) S.nd rfl (Or.inl rfl) (pe_callB (call_max2 rfl) (by rfl) T.max (by decide +kernel) (pa_cons (pe_callB (lenK (K := K) rfl) (by rfl) T.len PySem.boot_len (pa_cons (pe_ix (ixT (K := K) rfl) (pv 0) pe_int (fun _ _ => rfl)) pa_nil)) (pa_cons (pe_callB (lenK (K := K) rfl) (by rfl) T.len PySem.boot_len (pa_cons (pe_ix (ixT (K := K) rfl) (pv 1) pe_int (fun _ _ => rfl)) pa_nil)) pa_nil))))
    (pss_cons (ps_set (i := 3) S.nd rfl (Or.inl rfl) (pe_lst pa_nil))
    (pss_cons (ps_for PassesOwn.never rfl (pi_range1 (by rfl) T.range (pa_cons (pv 2) pa_nil)) (pg_name (i := 4) S.nd rfl (by first | exact .inl rfl | exact .inr rfl))
      (pss_cons (ps_set (i := 5) S.nd rfl (Or.inl rfl) (pe_ifExp (pt_cmpR op_lt (pv 4) (pe_callB (lenK (K := K) rfl) (by rfl) T.len PySem.boot_len (pa_cons (pe_ix (ixT (K := K) rfl) (pv 0) pe_int (fun _ _ => rfl)) pa_nil)) (nomark _)) (pe_op op_mulX (pe_ix (ixL (K := K) rfl) (pe_ix (ixT (K := K) rfl) (pv 0) pe_int (fun _ _ => rfl)) (pv 4) (fun _ _ => rfl)) (pe_ix (ixT (K := K) rfl) (pv 1) pe_int (fun _ _ => rfl))) pe_int))
      (pss_cons (ps_set (i := 6) S.nd rfl (Or.inl rfl) (pe_ifExp (pt_cmpR op_lt (pv 4) (pe_callB (lenK (K := K) rfl) (by rfl) T.len PySem.boot_len (pa_cons (pe_ix (ixT (K := K) rfl) (pv 1) pe_int (fun _ _ => rfl)) pa_nil)) (nomark _)) (pe_op op_mulX (pe_ix (ixL (K := K) rfl) (pe_ix (ixT (K := K) rfl) (pv 1) pe_int (fun _ _ => rfl)) (pv 4) (fun _ _ => rfl)) (pe_ix (ixT (K := K) rfl) (pv 0) pe_int (fun _ _ => rfl))) pe_int))
      (pss_one (ps_expr (pe_bm PySem.F.plainAttrs_list PySem.F.slot_list_append PySem.F.type_list_append mt_append (pv 3) (pa_cons (pe_op op_add (pv 5) (pv 6)) pa_nil)))))))
    (pss_one (ps_ret (pe_kn k_reduced (hr.mono (by decide)) (by rfl) pass0 (pa_cons (pv 3) (pa_cons (pe_op op_mulX (pe_ix (ixT (K := K) rfl) (pv 0) pe_int (fun _ _ => rfl)) (pe_ix (ixT (K := K) rfl) (pv 1) pe_int (fun _ _ => rfl))) pa_nil)))))))), ?_⟩
  have hb1 := nat_le ip1.pos (ip1.le sc1 hD1)
  have hb2 := nat_le ip2.pos (ip2.le sc2 hD2)
  have hl1 := ip1.len
  have hl2 := ip2.len
  have ms : ∀ n ∈ xs, CMulX n b2 := fun n hn => mulx_ok ((ip1.lt (sc1.mono hR) hD1) n hn) (Nat.lt_of_le_of_lt hb2 hz2) (by unfold RN; decide)
  have mt : ∀ n ∈ ys, CMulX n b1 := fun n hn => mulx_ok ((ip2.lt (sc2.mono hR) hD2) n hn) (Nat.lt_of_le_of_lt hb1 hz1) (by unfold RN; decide)
  walk_at "k9"
  refine x_ixT hp1 rfl ?_
  refine ⟨a1, _, rfl, .inl (.of ha1), ?_⟩
  walk_at "k9"
  refine x_ixT hp2 rfl ?_
  refine ⟨a2, _, rfl, .inl (.of ha2), ?_⟩
  walk_at "k9"
  refine ⟨_, _, rfl, ?_⟩
  have mx : (if (((ys.map V.int).length : Nat) : Int) > (((xs.map V.int).length : Nat) : Int) then (((ys.map V.int).length : Nat) : Int) else (((xs.map V.int).length : Nat) : Int)) = ((max xs.length ys.length : Nat) : Int) := by
    rw [List.length_map, List.length_map]
    split <;> omega
  rw [mx]
  walk_at "k9"
  refine ⟨by show 0 ≤ sizeLine; decide, fun l hl => ?_⟩
  walk_at "k9"
  refine ⟨_, rfl, by omega, by omega, ?_⟩
  rw [Int.toNat_natCast]
  refine for_range (fun i σ' H' => ∃ x y z, σ' = [some (.ref p1), some (.ref p2), some (.int ((max xs.length ys.length : Nat) : Int)), some (.ref l), x, y, z] ∧ Same H H' ∧ H' l = some (.lst (((List.range i).map (K9M.sumI xs b1 ys b2)).map .int))) ⟨none, none, none, rfl, same_upd hl, upd_same⟩ ?_ ?_
  · rintro i _ H' hi ⟨_, _, _, rfl, s1, hl1'⟩
    walk_at "k9"
    refine x_ixT (s1 _ _ hp1) rfl ?_
    refine ⟨a1, _, rfl, .inl (.of (s1 _ _ ha1)), ?_⟩
    walk_at "k9"
    rw [List.length_map, Int.zero_add]
    refine x_ifV (.int (if i < xs.length then xs.getD i 0 * b2 else 0)) (fun hc F => ?_) (fun hc F => ?_) ?_
    · have hc' : i < xs.length := by have := of_decide_eq_true hc; omega
      have e : xs[i]? = some (xs.getD i 0) := get_getD hc'
      rw [if_pos hc'] at F
      walk_at "k9"
      refine x_ixT (s1 _ _ hp1) rfl ?_
      walk_at "k9"
      refine x_ixL (s1 _ _ ha1) (at_int e) ?_
      walk_at "k9"
      refine x_ixT (s1 _ _ hp2) rfl ?_
      exact x_i (ms _ (get_mem e)) F
    · have hc' : ¬ i < xs.length := by have := of_decide_eq_false hc; omega
      rw [if_neg hc'] at F
      exact F
    walk_at "k9"
    refine x_ixT (s1 _ _ hp2) rfl ?_
    refine ⟨a2, _, rfl, .inl (.of (s1 _ _ ha2)), ?_⟩
    walk_at "k9"
    rw [List.length_map]
    refine x_ifV (.int (if i < ys.length then ys.getD i 0 * b1 else 0)) (fun hc F => ?_) (fun hc F => ?_) ?_
    · have hc' : i < ys.length := by have := of_decide_eq_true hc; omega
      have e : ys[i]? = some (ys.getD i 0) := get_getD hc'
      rw [if_pos hc'] at F
      walk_at "k9"
      refine x_ixT (s1 _ _ hp2) rfl ?_
      walk_at "k9"
      refine x_ixL (s1 _ _ ha2) (at_int e) ?_
      walk_at "k9"
      refine x_ixT (s1 _ _ hp1) rfl ?_
      exact x_i (mt _ (get_mem e)) F
    · have hc' : ¬ i < ys.length := by have := of_decide_eq_false hc; omega
      rw [if_neg hc'] at F
      exact F
    walk_at "k9"
    refine x_tyL hl1' ?_
    walk_at "k9"
    refine x_append hl1' (by simp; omega) ?_
    refine ⟨_, _, _, rfl, fun a o h => ?_, ?_⟩
    · rw [upd_ne (fun z => by rw [z] at h; rw [h] at hl; cases hl)]
      exact s1 _ _ h
    · rw [upd_same, List.range_succ, List.map_append, List.map_append]
      rfl
  rintro _ H' ⟨_, _, _, rfl, s1, hl1'⟩
  walk_at "k9"
  refine x_ixT (s1 _ _ hp1) rfl ?_
  walk_at "k9"
  refine x_ixT (s1 _ _ hp2) rfl ?_
  refine x_i (mulx_ok (Nat.lt_of_le_of_lt hb1 hz1) (Nat.lt_of_le_of_lt hb2 hz2) (by decide)) ?_
  walk_at "k9"
  refine ⟨_, _, _, rfl, hl1', by simp; omega, Int.mul_pos ip1.pos ip2.pos, nat_mul_lt (Nat.lt_of_le_of_lt hb1 hz1) (Nat.lt_of_le_of_lt hb2 hz2), fun H2 v s2 r => ?_⟩
  rw [K9M.sum_line ip1 ip2] at r
  exact k _ _ (fun a o h => s2 _ _ (s1 _ _ h)) (r.back s1)
end
end K9

set_option Elab.async false
set_option linter.all false
set_option maxRecDepth 100000
set_option maxHeartbeats 4000000
namespace K9
open PySem PySem.Spec PyProof.Rows L2
local macro_rules | `(tactic| walk_at "k9mem") => `(tactic| first | with_reducible assumption | exact upd_same | ((with_reducible refine mem_upd (by with_reducible assumption) ?_); walk_at "k9mem") | ((with_reducible refine mem_same (by with_reducible assumption) ?_); walk_at "k9mem"))
local macro_rules | `(tactic| walk_at "k91") => `(tactic| with_reducible (first | refine x_seq ?_ | refine x_asg ?_ | refine x_name ?_ | refine x_ret ?_ | refine x_drop ?_ | refine x_next ?_ | refine x_ifs ?_ | refine x_if ?_ | refine x_test ?_ | refine x_tb ?_ | refine x_tnot ?_ | refine x_tand ?_ | refine x_tor ?_ | refine x_andv ?_ | refine x_orv ?_ | refine x_notv ?_ | refine x_var rfl ?_ | refine x_c ?_ | refine x_op ?_ | refine x_un ?_ | refine x_i0 ?_ | refine x_par ?_ | refine x_two ?_ | refine x_eqI ?_ | refine x_neI ?_ | refine x_u ?_ | refine x_call ?_ | refine x_cb ?_ | refine x_cons ?_ | refine x_nil ?_ | refine x_tup ?_ | refine x_lst ?_ | refine x_gcd ?_ | refine x_for ?_ | refine x_iL ?_ | refine x_iT ?_ | refine x_iR1 ?_ | refine x_iR2 ?_ | refine x_lc ?_ | refine x_bm ?_ | refine x_bm0 ?_ | refine x_sl ?_ | refine x_nopart ?_ | refine x_part ?_ | refine x_some ?_ | refine x_bl ?_))
local macro_rules | `(tactic| walk_at "k9") => `(tactic| repeat (walk_at "k91"))
section
variable {K : PySem.W.Frag} {σ : L2.St} {H : Hp} {Q : VK}
theorem x_zip {ta : TA} {R : It → Hp → Prop} (k : ta σ H fun vs H1 => ∃ a b xs ys, vs = [.ref a, .ref b] ∧ SqL K H1 a xs ∧ SqL K H1 b ys ∧ R (Itz K a b) H1) : iZip K ta σ H R := k
theorem x_gT2 {p : Addr} {x y : V} {i j : Nat} {R : L2.St → Hp → Prop} (h : H p = some (.tup [x, y])) (k : R ((σ.set i (some x)).set j (some y)) H) : gTup K 2 (gCons (gName i) (gCons (gName j) gNil)) (.ref p) σ H R :=
  ⟨p, _, rfl, .of h, rfl, x, [y], rfl, y, [], rfl, rfl, k⟩
theorem x_lcZ {te : TE} {vs : List Nat} {i j : Nat} {p q : Addr} {xs ys : List V} (F : Nat → V → Hp → Prop) (h : H p = some (.lst xs)) (h2 : H q = some (.lst ys)) (hn : ys.length = xs.length) (hz : xs.length ≤ 100000)
    (hw : ∀ x y, wipe (((wipe σ vs).set i (some x)).set j (some y)) vs = wipe σ vs) (Fm : ∀ i v H H', F i v H → TSame H H' → F i v H')
    (el : ∀ n x y H', xs[n]? = some x → ys[n]? = some y → Same H H' → ∀ Q' : VK, (∀ v H'', Same H' H'' → F n v H'' → Q' v H'') → te (((wipe σ vs).set i (some x)).set j (some y)) H' Q') (k : LcEnd H F xs.length Q) :
    LcAt (Itz K p q) (gTup K 2 (gCons (gName i) (gCons (gName j) gNil))) tYes te vs σ Q H := by
  intro D hD
  refine lc_it (walk_zip (xs := xs) (ys := ys) (n := xs.length) (by omega)) (LcInv H D F) (LcInv.start hD) (fun n H' _ I => ⟨.of (I.same _ _ h), .of (I.same _ _ h2)⟩) (fun n v H1 H' hi I y => ?_) fun H' I => I.done k
  obtain ⟨T, x, z, rfl, hT, rfl, hx, hz2⟩ := y
  refine x_gT2 upd_same ⟨hw x z, ?_⟩
  unfold tYes
  dsimp only
  rw [if_pos rfl]
  exact el n x z _ hx hz2 (fun a o e => mem_upd hT (I.same a o e)) _ fun v H'' s f => I.next Fm (fun a o e => s _ _ (mem_upd hT e)) f (by omega)
end
/-! divided -/
theorem last_at {ns : List Int} (h : ns ≠ []) : atI (ns.map V.int) (-1) = some (.int (ns.getD (ns.length - 1) 0)) := by
  have e := List.dropLast_concat_getLast h
  have e2 : ns.getD (ns.length - 1) 0 = ns.getLast h := by
    rw [List.getLast_eq_getElem, List.getD, List.getElem?_eq_getElem (by have := List.length_pos_iff.mpr h; omega)]; rfl
  rw [e2]
  conv => lhs; rw [← e, List.map_append]
  exact atI_last _ _
theorem getD_mem {ns : List Int} (h : ns ≠ []) : ns.getD (ns.length - 1) 0 ∈ ns := get_mem (get_getD (by have := List.length_pos_iff.mpr h; omega))
def RD (H0 H : Hp) (v : V) (P1 P2 : List Rat) : Prop := ∃ p q r, v = .ref p ∧ H p = some (.tup [q, r]) ∧ RPn H0 H q P1 ∧ RPn H0 H r P2
/-- the sizes of a division: base U, at most k turns -/
structure DS (U P : List Rat) (S b c R k : Nat) (B D : Int) : Prop where
  m : K9M.lastQ U = 1
  hU : K9M.SC S B U
  hB0 : 0 < B
  hB : B.natAbs ≤ 2 ^ b
  bc : b ≤ c
  sc : S ≤ c
  hP : K9M.SC R D P
  hD : 0 < D
  hk : P.length < U.length + k
  hR : R + k * (c + 1) ≤ RN
  hz : (D * B ^ k).natAbs < 2 ^ 4500
  nP : P.length ≤ 50000
  nU : U.length ≤ 50000
def sp_divided : Sp := fun vs H Q _ => ∃ (v1 v2 : V) (P U : List Rat) (S b c R k : Nat) (B D : Int), vs = [v1, v2] ∧ RP H v1 P ∧ RP H v2 U ∧ DS U P S b c R k B D ∧
  ∀ H' v, Same H H' → RD H H' v (K9M.trim (K9M.divQ U P).1) (K9M.divQ U P).2 → Q v H'
/-- what holds before each turn -/
structure DT (U P : List Rat) (S b c R k : Nat) (B D : Int) (f r : List Rat) : Prop where
  ex : ∃ (k' R' : Nat) (D' : Int), K9M.SC R' D' f ∧ K9M.SC R' D' r ∧ r.length < U.length + k' ∧ R' + k' * (c + 1) = R + k * (c + 1) ∧ D' * B ^ k' = D * B ^ k ∧ 0 < D'
  le : r.length ≤ P.length
  fl : f.length = max 1 (P.length + 1 - U.length)
  fz : ∀ i, i + U.length ≤ r.length → K9M.coef f i = 0
  go : K9M.divF U P.length f r = K9M.divQ U P
theorem U_ne {U : List Rat} (m : K9M.lastQ U = 1) : U ≠ [] := fun z => by subst z; exact absurd m (by decide)
theorem SC_last {R : Nat} {D : Int} {r : List Rat} (s : K9M.SC R D r) : K9M.Bd R D (K9M.lastQ r) := s.coef _
theorem DT.start {U P : List Rat} {S b c R k : Nat} {B D : Int} (h : DS U P S b c R k B D) : DT U P S b c R k B D (List.replicate (max 1 (P.length + 1 - U.length)) 0) P := by
  refine ⟨⟨k, R, D, fun q hq => ?_, h.hP, h.hk, rfl, rfl, h.hD⟩, Nat.le_refl _, by simp, fun i _ => ?_, rfl⟩
  · rw [(List.mem_replicate.mp hq).2]
    exact K9M.Bd.zero _ _
  · unfold K9M.coef
    rw [List.getD, List.getElem?_replicate]
    split <;> rfl
theorem DT.next {U P : List Rat} {S b c R k : Nat} {B D : Int} (h : DS U P S b c R k B D) {f r : List Rat} (t : DT U P S b c R k B D f r) (hl : U.length ≤ r.length) :
    DT U P S b c R k B D (f.set (r.length - U.length) (K9M.lastQ r)) (K9M.stepR U r) := by
  obtain ⟨⟨k', R', D', sf, sr, hk, eR, eD, hD'⟩, le, fl, fz, go⟩ := t
  have hU := U_ne h.m
  have hUp := List.length_pos_iff.mpr hU
  have lt := K9M.stepR_lt hU hl h.m
  have hB0 := h.hB0
  obtain ⟨k'', rfl⟩ : ∃ k'', k' = k'' + 1 := ⟨k' - 1, by omega⟩
  have sl : K9M.Bd R' D' (K9M.lastQ r) := SC_last sr
  have up : ∀ {l}, K9M.SC R' D' l → K9M.SC (R' + (c + 1)) (D' * B) l := fun s => (s.scale (E := B) (S := b) h.hB).mono (by have := h.bc; omega)
  refine ⟨⟨k'', R' + (c + 1), D' * B, up (sf.set sl), (K9M.less_SC sr sl h.hU h.hB h.bc h.sc).trim, by omega, ?_, ?_, Int.mul_pos hD' hB0⟩, by omega, by rw [List.length_set, fl], fun i hi => ?_, ?_⟩
  · rw [← eR, Nat.add_mul, Nat.one_mul]; omega
  · rw [← eD, Int.pow_succ]
    rw [Int.mul_assoc, Int.mul_comm B]
  · rw [K9M.coef_set (by omega), if_neg (by omega)]
    exact fz i (by omega)
  · rw [← go]
    exact (K9M.divF_turn hU h.m le hl).symm
/-- all within one bound -/
theorem DT.all {U P : List Rat} {S b c R k : Nat} {B D : Int} (h : DS U P S b c R k B D) {f r : List Rat} (t : DT U P S b c R k B D f r) : K9M.SC (R + k * (c + 1)) (D * B ^ k) f ∧ K9M.SC (R + k * (c + 1)) (D * B ^ k) r := by
  obtain ⟨k', R', D', sf, sr, hk, eR, eD, hD'⟩ := t.ex
  have hp := K9M.pow_nat h.hB k'
  have le : R' + b * k' ≤ R + k * (c + 1) := by
    rw [← eR, Nat.mul_comm b]
    have : k' * b ≤ k' * (c + 1) := Nat.mul_le_mul (Nat.le_refl _) (by have := h.bc; omega)
    omega
  rw [← eD]
  exact ⟨(sf.scale hp).mono le, (sr.scale hp).mono le⟩
theorem DS.pos {U P : List Rat} {S b c R k : Nat} {B D : Int} (h : DS U P S b c R k B D) : 0 < D * B ^ k := Int.mul_pos h.hD (Int.pow_pos h.hB0)
end K9

set_option Elab.async false
set_option linter.all false
set_option maxRecDepth 100000
set_option maxHeartbeats 4000000
namespace K9
open PySem PySem.Spec PyProof.Rows L2
local macro_rules | `(tactic| walk_at "k9mem") => `(tactic| first | with_reducible assumption | exact upd_same | ((with_reducible refine mem_upd (by with_reducible assumption) ?_); walk_at "k9mem") | ((with_reducible refine mem_same (by with_reducible assumption) ?_); walk_at "k9mem"))
local macro_rules | `(tactic| walk_at "k91") => `(tactic| with_reducible (first | refine x_seq ?_ | refine x_asg ?_ | refine x_name ?_ | refine x_ret ?_ | refine x_drop ?_ | refine x_next ?_ | refine x_ifs ?_ | refine x_if ?_ | refine x_test ?_ | refine x_tb ?_ | refine x_tnot ?_ | refine x_tand ?_ | refine x_tor ?_ | refine x_andv ?_ | refine x_orv ?_ | refine x_notv ?_ | refine x_var rfl ?_ | refine x_c ?_ | refine x_op ?_ | refine x_un ?_ | refine x_i0 ?_ | refine x_par ?_ | refine x_two ?_ | refine x_eqI ?_ | refine x_neI ?_ | refine x_u ?_ | refine x_call ?_ | refine x_cb ?_ | refine x_cons ?_ | refine x_nil ?_ | refine x_tup ?_ | refine x_lst ?_ | refine x_gcd ?_ | refine x_for ?_ | refine x_iL ?_ | refine x_iT ?_ | refine x_iR1 ?_ | refine x_iR2 ?_ | refine x_lc ?_ | refine x_bm ?_ | refine x_bm0 ?_ | refine x_sl ?_ | refine x_nopart ?_ | refine x_part ?_ | refine x_some ?_ | refine x_bl ?_))
local macro_rules | `(tactic| walk_at "k9") => `(tactic| repeat (walk_at "k91"))
section
variable {P : Program} {w : World} {K : PySem.W.Frag} {mg : Str → Option Value} {base : Heap}
abbrev s_divided : Stmt := topS 20
abbrev N_divided : List Str := ["poly", "base", "top", "quotient", "rest", "below", "more", "place", "head", "number", "near", "far"]
theorem sc_divided : FnScope N_divided ["poly", "base"] (defScope s_divided) := ⟨rfl, rfl, rfl, by decide +kernel, rfl, by decide +kernel, by decide +kernel⟩
theorem kn_divided (D : DefAt K mg "divided" s_divided) (T : Wd mg) (k_reduced : Kn P w K mg base CX0 1 "reduced" ["numbers", "below"] sp_reduced) (k_plus : Kn P w K mg base CX0 2 "plus" ["one", "other"] sp_plus) : Kn P w K mg base CX0 3 "divided" ["poly", "base"] sp_divided := by
  have S := sc_divided
  refine Kn.of D S (fun vs H Q E h => ?_) (fun _ _ _ _ _ _ us hl => match us, hl with | [_, _], _ => rfl) fun f cdv A outer s H vs Q E hr h => ?_
  · obtain ⟨_, _, _, _, _, _, _, _, _, _, _, rfl, _⟩ := h; rfl
  obtain ⟨_, _, P1, U, S0, b0, c0, R, k0, B, D0, rfl, ⟨p1, a1, ns, b1, rfl, hp1, ha1, ip1⟩, ⟨p2, a2, us, ub, rfl, hp2, ha2, ip2⟩, ds, k⟩ := h
  refine ⟨_, PSs.nox (pss_cons (ps_par (i := 4) (j := 5) (by rfl) S.nd rfl rfl (by decide) rfl rfl (pa_cons (pe_callTy call_list_of (by rfl) T.list (by decide +kernel) (pa_cons (pe_ix (ixT (K := K) rfl) (pv 0) pe_int (fun _ _ => rfl)) pa_nil)) (pa_cons (pe_ix (ixT (K := K) rfl) (pv 0) pe_int (fun _ _ => rfl)) pa_nil)) (by rfl))
    (pss_cons (ps_set (i := 2) S.nd rfl (Or.inr rfl) (pe_ix (ixL (K := K) rfl) (pe_ix (ixT (K := K) rfl) (pv 1) pe_int (fun _ _ => rfl)) (pe_un un_neg pe_int) (fun _ _ => rfl)))
    (pss_cons (ps_set (i := 3) S.nd rfl (Or.inl rfl) (pe_tup (pa_cons (pe_lst pa_nil) (pa_cons pe_int pa_nil))))
    (pss_cons (ps_while PassesOwn.never (pt_cmpR op_ge (pe_callB (lenK (K := K) rfl) (by rfl) T.len PySem.boot_len (pa_cons (pv 4) pa_nil)) (pe_callB (lenK (K := K) rfl) (by rfl) T.len PySem.boot_len (pa_cons (pe_ix (ixT (K := K) rfl) (pv 1) pe_int (fun _ _ => rfl)) pa_nil)) (nomark _))
      (pss_cons (ps_asg (pe_tup (pa_cons (pe_op op_sub (pe_callB (lenK (K := K) rfl) (by rfl) T.len PySem.boot_len (pa_cons (pv 4) pa_nil)) (pe_callB (lenK (K := K) rfl) (by rfl) T.len PySem.boot_len (pa_cons (pe_ix (ixT (K := K) rfl) (pv 1) pe_int (fun _ _ => rfl)) pa_nil))) (pa_cons (pe_ix (ixL (K := K) rfl) (pv 4) (pe_un un_neg pe_int) (fun _ _ => rfl)) pa_nil))) (pg_tup rfl (pgs_cons (pg_name (i := 7) S.nd rfl (by first | exact .inl rfl | exact .inr rfl)) (pgs_cons (pg_name (i := 8) S.nd rfl (by first | exact .inl rfl | exact .inr rfl)) pgs_nil))))
      (pss_cons (ps_set (i := 3) S.nd rfl (Or.inl rfl) (pe_kn k_plus (hr.mono (by decide)) (by rfl) pass0 (pa_cons (pv 3) (pa_cons (pe_kn k_reduced (hr.mono (by decide)) (by rfl) pass0 (pa_cons (pe_op op_cat (pe_op op_rep (pe_lst (pa_cons pe_int pa_nil)) (pv 7)) (pe_lst (pa_cons (pe_op op_mulX (pv 8) (pe_ix (ixT (K := K) rfl) (pv 1) pe_int (fun _ _ => rfl))) pa_nil))) (pa_cons (pe_op op_mulX (pv 5) (pv 2)) pa_nil))) pa_nil))))
      (pss_cons (ps_set (i := 6) S.nd rfl (Or.inl rfl) (pe_op op_cat (pe_op op_rep (pe_lst (pa_cons pe_int pa_nil)) (pv 7)) (pe_lc (own := [("number", 9)]) (g := gName 9) (by rfl) S.nd (pi_list (pe_ix (ixT (K := K) rfl) (pv 1) pe_int (fun _ _ => rfl))) (blkOk_by (own := [("number", 9)]) (N := N_divided) (sc := defScope s_divided) (by decide +kernel)) (fun _ _ _ _ _ => (pg_name (i := 9) S.nd rfl (by first | exact .inl rfl | exact .inr rfl))) (fun _ _ _ _ _ => pts_nil) (fun _ _ _ _ _ => (pe_op op_mulX (pv 8) (pv 9))))))
      (pss_one (ps_asg (pe_kn k_reduced (hr.mono (by decide)) (by rfl) pass0 (pa_cons (pe_lc (own := [("near", 10), ("far", 11)]) (g := gTup K 2 (gCons (gName 10) (gCons (gName 11) (gNil)))) (by rfl) S.nd (pi_zip (by rfl) T.zip (pa_cons (pv 4) (pa_cons (pv 6) pa_nil))) (blkOk_by (own := [("near", 10), ("far", 11)]) (N := N_divided) (sc := defScope s_divided) (by decide +kernel)) (fun _ _ _ _ _ => (pg_tup rfl (pgs_cons (pg_name (i := 10) S.nd rfl (by first | exact .inl rfl | exact .inr rfl)) (pgs_cons (pg_name (i := 11) S.nd rfl (by first | exact .inl rfl | exact .inr rfl)) pgs_nil)))) (fun _ _ _ _ _ => pts_nil) (fun _ _ _ _ _ => (pe_op op_sub (pe_op op_mulX (pv 2) (pv 10)) (pv 11)))) (pa_cons (pe_op op_mulX (pv 5) (pv 2)) pa_nil))) (pg_tup rfl (pgs_cons (pg_name (i := 4) S.nd rfl (by first | exact .inl rfl | exact .inr rfl)) (pgs_cons (pg_name (i := 5) S.nd rfl (by first | exact .inl rfl | exact .inr rfl)) pgs_nil)))))))))
    (pss_one (ps_ret (pe_tup (pa_cons (pv 3) (pa_cons (pe_tup (pa_cons (pv 4) (pa_cons (pv 5) pa_nil))) pa_nil))))))))), ?_⟩
  have hU := U_ne ds.m
  have hl1 := ip1.len
  have hl2 := ip2.len
  have hUp := List.length_pos_iff.mpr hU
  have hus : us ≠ [] := fun z => by subst z; simp at hl2; omega
  have ub0 := ip2.pos
  have top : us.getD (us.length - 1) 0 = ub := ip2.top ds.m
  walk_at "k9"
  refine x_ixT hp1 rfl ?_
  refine ⟨a1, _, rfl, .inl (.of ha1), fun ra hra => ?_⟩
  walk_at "k9"
  refine x_ixT (mem_upd hra hp1) rfl ?_
  walk_at "k9"
  refine x_ixT (mem_upd hra hp2) rfl ?_
  walk_at "k9"
  refine x_ixL (mem_upd hra ha2) (last_at hus) ?_
  rw [top]
  walk_at "k9"
  refine ⟨by show 0 ≤ sizeLine; decide, fun ql hql => ?_⟩
  walk_at "k9"
  refine ⟨by show 2 ≤ sizeLine; decide, fun qp hqp => ?_⟩
  walk_at "k9"
  have isn : K9M.IsP [] 1 [] := ⟨by decide, rfl, fun c _ => ⟨c, by omega⟩⟩
  refine x_whileK (fun m σ' H' => ∃ f r rs bl la qv x6 x7 x8, σ' = [some (.ref p1), some (.ref p2), some (.int ub), some qv, some (.ref la), some (.int bl), x6, x7, x8, none, none, none] ∧ r.length = m ∧ DT U P1 S0 b0 c0 R k0 B D0 f r ∧ RPn H H' qv (K9M.trim f) ∧
      H' la = some (.lst (rs.map .int)) ∧ H la = none ∧ K9M.IsP rs bl r ∧ Same H H')
    (fun σ' H' => ∃ rs bl la qv x6 x7 x8, σ' = [some (.ref p1), some (.ref p2), some (.int ub), some qv, some (.ref la), some (.int bl), x6, x7, x8, none, none, none] ∧ RPn H H' qv (K9M.trim (K9M.divQ U P1).1) ∧
      H' la = some (.lst (rs.map .int)) ∧ H la = none ∧ K9M.IsP rs bl (K9M.divQ U P1).2 ∧ Same H H') P1.length ?_ ?_ ?_
  · refine ⟨_, P1, ns, b1, ra, .ref qp, none, none, none, rfl, rfl, DT.start ds, ?_, ?_, hra, ip1, ?_⟩
    · rw [K9M.trim_zeros]
      exact ⟨qp, ql, [], 1, rfl, upd_same, mem_upd hqp upd_same, free_upd hql, isn⟩
    · exact mem_upd hqp (mem_upd hql upd_same)
    · exact fun a o e => mem_upd hqp (mem_upd hql (mem_upd hra e))
  · rintro _ H' ⟨rs, bl, la, qv, _, _, _, rfl, hq, hla, hla0, ipr, s1⟩
    walk_at "k9"
    refine ⟨by show 2 ≤ sizeLine; decide, fun t1 ht1 => ?_⟩
    walk_at "k9"
    refine ⟨by show 2 ≤ sizeLine; decide, fun t2 ht2 => ?_⟩
    exact k _ _ (fun a o e => mem_upd ht2 (mem_upd ht1 (s1 _ _ e))) ⟨t2, qv, .ref t1, rfl, upd_same, hq.same fun a o e => mem_upd ht2 (mem_upd ht1 e), t1, la, rs, bl, rfl, mem_upd ht2 upd_same, mem_upd ht2 (mem_upd ht1 hla), hla0, ipr⟩
  rintro hd m _ H' ⟨f0, r, rs, bl, la, qv, _, _, _, rfl, hm, dt, hq, hla, hla0, ipr, s1⟩
  have hlr := ipr.len
  walk_at "k9"
  refine ⟨la, _, rfl, .inl (.of hla), ?_⟩
  walk_at "k9"
  refine x_ixT (s1 _ _ hp2) rfl ?_
  refine ⟨a2, _, rfl, .inl (.of (s1 _ _ ha2)), ?_⟩
  walk_at "k9"
  rw [List.length_map, List.length_map]
  by_cases hlt : U.length ≤ r.length
  rotate_left
  · refine x_no (decide_eq_false (by omega)) ?_
    have e : (f0, r) = K9M.divQ U P1 := by rw [← dt.go, K9M.divF_end (by omega)]
    refine hd _ _ ⟨rs, bl, la, qv, _, _, _, rfl, ?_, hla, hla0, ?_, s1⟩
    · rw [← e]; exact hq
    · rw [← e]; exact ipr
  refine x_yes (decide_eq_true (by omega)) ?_
  refine x_turn ?_
  have all := dt.all ds
  have dpos := ds.pos
  have hrs : rs ≠ [] := fun z => by subst z; simp at hlr; omega
  have bnd : ∀ n ∈ rs, n.natAbs < 2 ^ RN := ipr.lt (all.2.mono ds.hR) dpos
  have nle := dt.le
  have nP := ds.nP
  have nU := ds.nU
  have cl : c0 + 1 ≤ RN := by
    have h1 := ds.hR
    have h2 := ds.hk
    have : 1 * (c0 + 1) ≤ k0 * (c0 + 1) := Nat.mul_le_mul (by omega) (Nat.le_refl _)
    omega
  have uble := ip2.le ds.hU ds.hB0
  have hB0 := ds.hB0
  have ublt : ub.natAbs < 2 ^ RN := by
    have h1 := ds.hB
    have h2 : 2 ^ b0 ≤ 2 ^ c0 := Nat.pow_le_pow_right (by decide) ds.bc
    have h3 : 2 ^ c0 < 2 ^ RN := Nat.pow_lt_pow_right (by decide) (by omega)
    omega
  have usl : ∀ n ∈ us, n.natAbs < 2 ^ RN := fun n hn => by
    have h1 := ip2.lt ds.hU ds.hB0 n hn
    have h2 : 2 ^ S0 ≤ 2 ^ RN := Nat.pow_le_pow_right (by decide) (by have := ds.sc; omega)
    omega
  have blub : 0 < bl * ub ∧ (bl * ub).natAbs < 2 ^ 4500 ∧ CMulX bl ub := by
    have b0 := ipr.pos
    have h0 : 0 < bl * ub := Int.mul_pos b0 ub0
    have h1 : (bl * ub).natAbs < 2 ^ 4500 := by
      obtain ⟨k', R', D', _, sr, hk, _, eD, hD'⟩ := dt.ex
      obtain ⟨k'', rfl⟩ : ∃ k'', k' = k'' + 1 := ⟨k' - 1, by omega⟩
      have h2 := ipr.le sr hD'
      have h3 : bl * ub ≤ D' * B := Int.mul_le_mul h2 uble (by omega) (by omega)
      have h4 : D' * B * 1 ≤ D' * B * B ^ k'' := Int.mul_le_mul_of_nonneg_left (Int.pow_pos hB0) (by have := Int.mul_pos hD' hB0; omega)
      have h5 : D' * B * B ^ k'' = D0 * B ^ k0 := by rw [← eD, Int.pow_succ, Int.mul_assoc, Int.mul_comm B]
      have := nat_le h0 (by omega : bl * ub ≤ D0 * B ^ k0)
      have := ds.hz
      omega
    refine ⟨h0, h1, mulx_ok (i := bl) (a := 4500) ?_ ublt (by unfold RN; decide)⟩
    have : bl * 1 ≤ bl * ub := Int.mul_le_mul_of_nonneg_left (by omega) (by omega)
    omega
  have head := getD_mem hrs
  walk_at "k9"
  refine ⟨la, _, rfl, .inl (.of hla), ?_⟩
  walk_at "k9"
  refine x_ixT (s1 _ _ hp2) rfl ?_
  refine ⟨a2, _, rfl, .inl (.of (s1 _ _ ha2)), ?_⟩
  walk_at "k9"
  refine x_ixL hla (last_at hrs) ?_
  walk_at "k9"
  rw [List.length_map, List.length_map, show ((rs.length : Nat) : Int) - ((us.length : Nat) : Int) = ((r.length - U.length : Nat) : Int) by omega]
  refine ⟨by show 2 ≤ sizeLine; decide, fun t1 ht1 => ?_⟩
  refine x_gT2 upd_same ?_
  have s2 : Same H' (upd H' t1 (.tup [.int ((r.length - U.length : Nat) : Int), .int (rs.getD (rs.length - 1) 0)])) := same_upd ht1
  generalize upd H' t1 (.tup [.int ((r.length - U.length : Nat) : Int), .int (rs.getD (rs.length - 1) 0)]) = H2 at s2 ⊢
  walk_at "k9"
  refine ⟨by show 1 ≤ sizeLine; decide, fun t2 ht2 => ?_⟩
  walk_at "k9"
  refine x_rep upd_same (by omega) (by omega) ?_
  rw [Int.toNat_natCast]
  intro t3 ht3
  walk_at "k9"
  refine x_ixT (mem_upd ht3 (mem_upd ht2 (s2 _ _ (s1 _ _ hp2)))) rfl ?_
  refine x_i (mulx_ok (bnd _ head) ublt (by unfold RN; decide)) ?_
  walk_at "k9"
  refine ⟨by show 1 ≤ sizeLine; decide, fun t4 ht4 => ?_⟩
  refine x_cat (mem_upd ht4 upd_same) upd_same (by simp; omega) fun t5 ht5 => ?_
  walk_at "k9"
  refine x_i blub.2.2 ?_
  walk_at "k9"
  have tq := K9M.turn_quot ipr ip2 ds.m (rs.length - us.length)
  have tr := K9M.turn_rest ipr ip2 ds.m (by omega) hus
  rw [top] at tq tr
  rw [show rs.length - us.length = r.length - U.length by omega] at tq tr
  refine ⟨t5, List.replicate (r.length - U.length) 0 ++ [rs.getD (rs.length - 1) 0 * ub], bl * ub, rfl, ?_, by simp; omega, blub.1, Nat.lt_of_lt_of_le blub.2.1 (Nat.pow_le_pow_right (by decide) (by decide)), fun H3 mv s3 r3 => ?_⟩
  · rw [upd_same, List.map_append, List.map_replicate]; rfl
  rw [tq] at r3
  replace s3 : Same H2 H3 := fun a o e => s3 _ _ (mem_upd ht5 (mem_upd ht4 (mem_upd ht3 (mem_upd ht2 e))))
  replace s3 : Same H' H3 := fun a o e => s3 _ _ (s2 _ _ e)
  walk_at "k9"
  have ms : K9M.SC (R + k0 * (c0 + 1)) (D0 * B ^ k0) (List.replicate (r.length - U.length) 0 ++ [K9M.lastQ r]) := fun q hq => by
    rcases List.mem_append.mp hq with h | h
    · rw [(List.mem_replicate.mp h).2]
      exact K9M.Bd.zero _ _
    · rw [List.mem_singleton.mp h]
      exact SC_last all.2
  have fl := dt.fl
  refine ⟨qv, mv, K9M.trim f0, _, R + k0 * (c0 + 1), D0 * B ^ k0, D0 * B ^ k0, rfl, (hq.same s3).old, r3.old, ?_, ?_, all.1.trim, ms.trim, ds.hR, dpos, ds.hz, dpos, ds.hz, fun H4 qv' s4 r4 => ?_⟩
  · have := K9M.trim_len f0; omega
  · have := K9M.trim_len (List.replicate (r.length - U.length) 0 ++ [K9M.lastQ r])
    simp at this; omega
  rw [K9M.trim_grow (by omega) (dt.fz _ (by omega))] at r4
  replace s4 : Same H' H4 := fun a o e => s4 _ _ (s3 _ _ e)
  replace r4 := (r4.back s3).back s1
  walk_at "k9"
  refine ⟨by show 1 ≤ sizeLine; decide, fun t6 ht6 => ?_⟩
  walk_at "k9"
  refine x_rep upd_same (by omega) (by omega) ?_
  rw [Int.toNat_natCast]
  intro t7 ht7
  walk_at "k9"
  refine x_ixT (mem_upd ht7 (mem_upd ht6 (s4 _ _ (s1 _ _ hp2)))) rfl ?_
  refine x_lcL (xs := us.map .int) (fun i v _ => ∃ n, us[i]? = some n ∧ v = .int (rs.getD (rs.length - 1) 0 * n)) (mem_upd ht7 (mem_upd ht6 (s4 _ _ (s1 _ _ ha2)))) (by simp; omega) (fun _ => by rfl) (fun _ _ _ _ h _ => h) ?_ ?_
  · intro i x H5 hx s5 Q' kq
    obtain ⟨n, e, rfl⟩ := get_int hx
    walk_at "k9"
    refine x_i (mulx_ok (bnd _ head) (usl _ (get_mem e)) (by unfold RN; decide)) ?_
    exact kq _ _ (fun _ _ h => h) ⟨n, e, rfl⟩
  intro H5 l ys s5 hl e5 le5 f5
  have e3 : ys = (us.map fun n => rs.getD (rs.length - 1) 0 * n).map V.int := ints_of (by simpa using le5) fun i v h => by
    obtain ⟨n, e, z⟩ := f5 i v h
    exact ⟨_, by rw [List.getElem?_map, e]; rfl, z⟩
  subst e3
  have st7 := s5 _ _ (upd_same (H := upd H4 t6 (.lst [.int 0])) (a := t7))
  have u5 : Same H4 H5 := fun a o e => s5 _ _ (mem_upd ht7 (mem_upd ht6 e))
  replace s5 : Same H' H5 := fun a o e => s5 _ _ (mem_upd ht7 (mem_upd ht6 (s4 _ _ e)))
  refine x_cat st7 e5 (by simp; omega) fun t8 ht8 => ?_
  rw [show List.replicate (r.length - U.length) (V.int 0) ++ (us.map fun n => rs.getD (rs.length - 1) 0 * n).map V.int = (List.replicate (r.length - U.length) 0 ++ us.map fun n => rs.getD (rs.length - 1) 0 * n).map V.int by rw [List.map_append, List.map_replicate]]
  walk_at "k9"
  refine x_zip ?_
  walk_at "k9"
  refine ⟨la, t8, _, _, rfl, .of (mem_upd ht8 (s5 _ _ hla)), .of upd_same, ?_⟩
  have lm : (List.replicate (r.length - U.length) 0 ++ us.map fun n => rs.getD (rs.length - 1) 0 * n).length = rs.length := by simp; omega
  refine x_lcZ (fun i v _ => ∃ x y, rs[i]? = some x ∧ (List.replicate (r.length - U.length) 0 ++ us.map fun n => rs.getD (rs.length - 1) 0 * n)[i]? = some y ∧ v = .int (ub * x - y)) (mem_upd ht8 (s5 _ _ hla)) upd_same (by rw [List.length_map, List.length_map, lm]) (by rw [List.length_map]; omega) (fun _ _ => by rfl) (fun _ _ _ _ h _ => h) ?_ ?_
  · intro i v1 v2 H6 hx hy s6 Q' kq
    obtain ⟨x, ex, rfl⟩ := get_int hx
    obtain ⟨y, ey, rfl⟩ := get_int hy
    walk_at "k9"
    refine x_i (mulx_ok ublt (bnd _ (get_mem ex)) (by unfold RN; decide)) ?_
    walk_at "k9"
    exact kq _ _ (fun _ _ h => h) ⟨x, y, ex, ey, rfl⟩
  intro H6 l6 ys s6 hl6 e6 le6 f6
  have e7 : ys = (List.zipWith (fun near far => ub * near - far) rs (List.replicate (r.length - U.length) 0 ++ us.map fun n => rs.getD (rs.length - 1) 0 * n)).map V.int := ints_of (by rw [le6, List.length_map, List.length_zipWith, lm, Nat.min_self]) fun i v h => by
    obtain ⟨x, y, ex, ey, z⟩ := f6 i v h
    exact ⟨_, by rw [List.getElem?_zipWith, ex, ey], z⟩
  subst e7
  walk_at "k9"
  refine x_i blub.2.2 ?_
  walk_at "k9"
  have u6 : Same H4 H6 := fun a o e => s6 _ _ (mem_upd ht8 (u5 _ _ e))
  replace s6 : Same H' H6 := fun a o e => s6 _ _ (mem_upd ht8 (s5 _ _ e))
  refine ⟨l6, _, bl * ub, rfl, e6, by rw [List.length_zipWith, lm, Nat.min_self]; omega, blub.1, Nat.lt_of_lt_of_le blub.2.1 (Nat.pow_le_pow_right (by decide) (by decide)), fun H7 rv s7 r7 => ?_⟩
  rw [tr] at r7
  have u7 : Same H4 H7 := fun a o e => s7 _ _ (u6 _ _ e)
  replace s7 : Same H' H7 := fun a o e => s7 _ _ (s6 _ _ e)
  replace r7 := (r7.back s6).back s1
  obtain ⟨p7, a7, ns7, b7, rfl, m7, n7, f7, i7⟩ := r7
  refine x_gT2 m7 ?_
  have dn := dt.next ds hlt
  have lt := K9M.stepR_lt hU hlt ds.m
  exact ⟨_, by omega, _, _, ns7, b7, a7, qv', _, _, _, rfl, rfl, dn, r4.same u7, n7, f7, i7, fun a o e => s7 _ _ (s1 _ _ e)⟩
end
end K9

set_option Elab.async false
set_option linter.all false
set_option maxRecDepth 100000
set_option maxHeartbeats 4000000
namespace K9
open PySem PySem.Spec PyProof.Rows L2
local macro_rules | `(tactic| walk_at "k9mem") => `(tactic| first | with_reducible assumption | exact upd_same | ((with_reducible refine mem_upd (by with_reducible assumption) ?_); walk_at "k9mem") | ((with_reducible refine mem_same (by with_reducible assumption) ?_); walk_at "k9mem"))
local macro_rules | `(tactic| walk_at "k91") => `(tactic| with_reducible (first | refine x_seq ?_ | refine x_asg ?_ | refine x_name ?_ | refine x_ret ?_ | refine x_drop ?_ | refine x_next ?_ | refine x_ifs ?_ | refine x_if ?_ | refine x_test ?_ | refine x_tb ?_ | refine x_tnot ?_ | refine x_tand ?_ | refine x_tor ?_ | refine x_andv ?_ | refine x_orv ?_ | refine x_notv ?_ | refine x_var rfl ?_ | refine x_c ?_ | refine x_op ?_ | refine x_un ?_ | refine x_i0 ?_ | refine x_par ?_ | refine x_two ?_ | refine x_eqI ?_ | refine x_neI ?_ | refine x_u ?_ | refine x_call ?_ | refine x_cb ?_ | refine x_cons ?_ | refine x_nil ?_ | refine x_tup ?_ | refine x_lst ?_ | refine x_gcd ?_ | refine x_for ?_ | refine x_iL ?_ | refine x_iT ?_ | refine x_iR1 ?_ | refine x_iR2 ?_ | refine x_lc ?_ | refine x_bm ?_ | refine x_bm0 ?_ | refine x_sl ?_ | refine x_nopart ?_ | refine x_part ?_ | refine x_some ?_ | refine x_bl ?_))
local macro_rules | `(tactic| walk_at "k9") => `(tactic| repeat (walk_at "k91"))
theorem at_neg {xs : List V} {i : Int} {j : Nat} {v : V} (h : i < 0) (hj : i + (xs.length : Int) = (j : Int)) (e : xs[j]? = some v) : atI xs i = some v := by
  have e2 : ixN xs.length i = some j := by
    unfold ixN
    rw [if_neg (by omega), if_pos (by omega), hj]
    simp
  unfold atI
  rw [e2]
  exact e
theorem Rqs.at {H : Hp} {vs : List V} {qs : List Rat} (h : Rqs H vs qs) {j : Nat} (hj : j < qs.length) : ∃ v, vs[j]? = some v ∧ RQ H v (K9M.coef qs j) := by
  have hj2 : j < vs.length := by rw [h.1]; exact hj
  obtain ⟨q, e, r⟩ := h.2 j _ (List.getElem?_eq_getElem hj2)
  exact ⟨_, List.getElem?_eq_getElem hj2, by rw [K9M.coef_of e]; exact r⟩
theorem Rqs.snoc {H : Hp} {vs : List V} {qs : List Rat} {v : V} {q : Rat} (h : Rqs H vs qs) (r : RQ H v q) : Rqs H (vs ++ [v]) (qs ++ [q]) := by
  refine ⟨by simp [h.1], fun i x e => ?_⟩
  rcases Nat.lt_or_ge i vs.length with k | k
  · rw [List.getElem?_append_left k] at e
    obtain ⟨q', e', r'⟩ := h.2 i x e
    exact ⟨q', by rw [List.getElem?_append_left (by rw [← h.1]; exact k)]; exact e', r'⟩
  · rw [List.getElem?_append_right k] at e
    have : i - vs.length = 0 := by
      rcases Nat.eq_zero_or_pos (i - vs.length) with z | z
      · exact z
      · rw [List.getElem?_eq_none (by simp; omega)] at e; cases e
    rw [this] at e
    cases e
    exact ⟨q, by rw [List.getElem?_append_right (by rw [← h.1]; exact k), ← h.1, this]; rfl, r⟩
theorem Rqs.nil {H : Hp} : Rqs H [] [] := ⟨rfl, fun i v e => by simp at e⟩
theorem Rqs.one {H : Hp} {v : V} {q : Rat} (r : RQ H v q) : Rqs H [v] [q] := Rqs.nil.snoc r
theorem Rqs.app {H : Hp} {vs ws : List V} {qs rs : List Rat} (h : Rqs H vs qs) (k : Rqs H ws rs) : Rqs H (vs ++ ws) (qs ++ rs) := by
  refine ⟨by simp [h.1, k.1], fun i x e => ?_⟩
  rcases Nat.lt_or_ge i vs.length with z | z
  · rw [List.getElem?_append_left z] at e
    obtain ⟨q', e', r'⟩ := h.2 i x e
    exact ⟨q', by rw [List.getElem?_append_left (by rw [← h.1]; exact z)]; exact e', r'⟩
  · rw [List.getElem?_append_right z] at e
    obtain ⟨q', e', r'⟩ := k.2 _ x e
    exact ⟨q', by rw [List.getElem?_append_right (by rw [← h.1]; exact z), ← h.1]; exact e', r'⟩
theorem Rqs.rev {H : Hp} {vs : List V} {qs : List Rat} (h : Rqs H vs qs) : Rqs H vs.reverse qs.reverse := by
  refine ⟨by simp [h.1], fun i x e => ?_⟩
  have hi : i < vs.length := by have := (List.getElem?_eq_some_iff.mp e).1; simpa using this
  rw [List.getElem?_reverse hi] at e
  obtain ⟨q, e', r⟩ := h.2 _ x e
  exact ⟨q, by rw [List.getElem?_reverse (by rw [← h.1]; exact hi), ← h.1]; exact e', r⟩
/-- the sizes of a candidate -/
structure CZ (P : List Rat) (d : Nat) (h E : Int) : Prop where
  hd : 1 ≤ d
  hd9 : d ≤ 9
  hr : 1 ≤ (P.length - 1) / d
  hr9 : (P.length - 1) / d ≤ 9
  hE : E = (((P.length - 1) / d : Nat) : Int) * 840 * h
  hE2 : E.natAbs ≤ 2 ^ 34
  hit : ∀ b, 1 ≤ b → b ≤ d - 1 → K9M.Bd 20 h (K9M.itm P b)
  hh : 0 < h
section
variable {P : List Rat} {d : Nat} {h E : Int}
theorem CZ.E0 (c : CZ P d h E) : 0 < E := by
  have h1 := c.hE
  have h2 := c.hr
  have h3 := c.hh
  rw [h1]
  exact Int.mul_pos (by omega) h3
theorem CZ.hle (c : CZ P d h E) : h ≤ E := by
  have h1 := c.hE
  have h2 := c.hr
  have h3 := c.hh
  have : 1 * h ≤ ((((P.length - 1) / d : Nat) : Int) * 840) * h := Int.mul_le_mul_of_nonneg_right (by omega) (by omega)
  omega
theorem CZ.pw (c : CZ P d h E) {j : Nat} (hj : j ≤ 8) : (E ^ j).natAbs ≤ 2 ^ 272 ∧ 0 < E ^ j := by
  have := K9M.pow_nat c.hE2 j
  have h2 : 2 ^ (34 * j) ≤ 2 ^ 272 := Nat.pow_le_pow_right (by decide) (by omega)
  exact ⟨by omega, Int.pow_pos c.E0⟩
theorem CZ.sf (c : CZ P d h E) {n j : Nat} (hn : n ≤ d - 1) (hj : j ≤ n) : K9M.Bd (80 * j + 1) (E ^ j) (K9M.coef (K9M.rootL (K9M.itm P) ((P.length - 1) / d) n) j) :=
  K9M.rootL_bd c.hr c.hr9 c.hE c.hE2 n (by have := c.hd9; omega) (fun b h1 h2 => c.hit b h1 (by omega)) j hj
theorem small (n : Nat) (h : n ≤ 1000) : n ≤ RN := by unfold RN; omega
theorem CZ.smf (c : CZ P d h E) {n j : Nat} (hn : n ≤ d - 1) (hj : j ≤ n) : Sm (K9M.coef (K9M.rootL (K9M.itm P) ((P.length - 1) / d) n) j) := by
  have hd9 := c.hd9
  have := c.pw (j := j) (by omega)
  exact sm_of (c.sf hn hj) (small _ (by omega)) this.2 (Nat.lt_of_le_of_lt this.1 (by decide))
theorem CZ.smi (c : CZ P d h E) {b : Nat} (h1 : 1 ≤ b) (h2 : b ≤ d - 1) : Sm (K9M.itm P b) :=
  sm_of (c.hit b h1 h2) (small _ (by omega)) c.hh (by have := c.hle; have := c.hE2; have := c.hh; have h9 : 2 ^ 34 < 2 ^ 4500 := by decide
                                                      omega)
theorem CZ.hw (c : CZ P d h E) {j : Nat} (hj : j ≤ 8) : 0 < h * E ^ j ∧ (h * E ^ j).natAbs ≤ 2 ^ 306 := by
  have p := c.pw hj
  have q := c.hle
  have q2 := c.hE2
  have q3 := c.hh
  refine ⟨Int.mul_pos c.hh p.2, ?_⟩
  rw [Int.natAbs_mul, show (306 : Nat) = 34 + 272 from rfl, Nat.pow_add]
  exact Nat.mul_le_mul (by omega) p.1
theorem CZ.smif (c : CZ P d h E) {n b j : Nat} (hn : n ≤ d - 1) (h1 : 1 ≤ b) (h2 : b ≤ d - 1) (hj : j ≤ n) : Sm (K9M.itm P b * K9M.coef (K9M.rootL (K9M.itm P) ((P.length - 1) / d) n) j) := by
  have hd9 := c.hd9
  have := c.hw (j := j) (by omega)
  exact sm_of ((c.hit b h1 h2).mul (c.sf hn hj)) (small _ (by omega)) this.1 (Nat.lt_of_le_of_lt this.2 (by decide))
theorem CZ.smw (c : CZ P d h E) {p b : Nat} (hp : 1 ≤ p) (hp8 : p ≤ 8) (hb : b ≤ p) : Sm (K9M.wt ((P.length - 1) / d) p b) := by
  have h1 := c.hr
  have h2 := c.hr9
  have h3 : ((((P.length - 1) / d : Nat) : Int) * 840).natAbs ≤ 7560 := by omega
  exact sm_of (K9M.wt_bd h1 h2 hp hp8 hb) (small _ (by omega)) (by omega) (Nat.lt_of_le_of_lt h3 (by decide))
theorem CZ.smwif (c : CZ P d h E) {n p b j : Nat} (hn : n ≤ d - 1) (hp : 1 ≤ p) (hp8 : p ≤ 8) (hb : b ≤ p) (h1 : 1 ≤ b) (h2 : b ≤ d - 1) (hj : j ≤ n) :
    Sm (K9M.wt ((P.length - 1) / d) p b * (K9M.itm P b * K9M.coef (K9M.rootL (K9M.itm P) ((P.length - 1) / d) n) j)) := by
  have hd9 := c.hd9
  have h4 := c.hr
  have h5 := c.hr9
  have h3 : ((((P.length - 1) / d : Nat) : Int) * 840).natAbs ≤ 2 ^ 13 := by omega
  have := c.hw (j := j) (by omega)
  refine sm_of ((K9M.wt_bd h4 h5 hp hp8 hb).mul ((c.hit b h1 h2).mul (c.sf hn hj))) (small _ (by omega)) (Int.mul_pos (by omega) this.1) ?_
  rw [Int.natAbs_mul]
  exact Nat.lt_of_le_of_lt (Nat.mul_le_mul h3 this.2) (by decide)
theorem CZ.smp (c : CZ P d h E) {n b : Nat} (hn : n + 1 ≤ d - 1) (hb : b ≤ n + 1) : Sm (K9M.partR (K9M.itm P) ((P.length - 1) / d) (n + 1) (K9M.rootL (K9M.itm P) ((P.length - 1) / d) n) b) := by
  have hd9 := c.hd9
  have := c.pw (j := n + 1) (by omega)
  exact sm_of (K9M.partR_bd c.hr c.hr9 (by omega) (by omega) (fun b h1 h2 => c.hit b h1 (by omega)) c.hE c.hE2 (fun j hj => c.sf (by omega) (by omega)) b hb) (small _ (by omega)) this.2 (Nat.lt_of_le_of_lt this.1 (by decide))
end
/-! root_numbers -/
def sp_root_numbers : Sp := fun vs H Q _ => ∃ (v : V) (P : List Rat) (d : Nat) (h E : Int) (R : Nat) (D : Int), vs = [v, .int (((P.length - 1) / d : Nat) : Int), .int (d : Nat)] ∧ RP H v P ∧ CZ P d h E ∧ K9M.lastQ P ≠ 0 ∧ P.length ≤ 100000 ∧ K9M.SC R D P ∧ 0 < D ∧ R ≤ 9000 ∧
  ∀ H' v, Same H H' → RL H' v (K9M.rootL (K9M.itm P) ((P.length - 1) / d) (d - 1)) → Q v H'
theorem itm_val {ns : List Int} {b : Int} {P : List Rat} (h : K9M.IsP ns b P) (hl : K9M.lastQ P ≠ 0) (k : Nat) : ((ns.getD (ns.length - 1 - k) 0 : Int) : Rat) / ((ns.getD (ns.length - 1) 0 : Int) : Rat) = K9M.itm P k := by
  unfold K9M.itm
  rw [h.last, h.cf, ← h.len]
  have hb := h.bne
  rw [h.last] at hl
  have : ((ns.getD (ns.length - 1) 0 : Int) : Rat) ≠ 0 := fun z => hl (by rw [z]; grind)
  grind
end K9

set_option Elab.async false
set_option linter.all false
set_option maxRecDepth 100000
set_option maxHeartbeats 4000000
namespace K9
open PySem PySem.Spec PyProof.Rows L2
local macro_rules | `(tactic| walk_at "k9mem") => `(tactic| first | with_reducible assumption | exact upd_same | ((with_reducible refine mem_upd (by with_reducible assumption) ?_); walk_at "k9mem") | ((with_reducible refine mem_same (by with_reducible assumption) ?_); walk_at "k9mem"))
local macro_rules | `(tactic| walk_at "k91") => `(tactic| with_reducible (first | refine x_seq ?_ | refine x_asg ?_ | refine x_name ?_ | refine x_ret ?_ | refine x_drop ?_ | refine x_next ?_ | refine x_ifs ?_ | refine x_if ?_ | refine x_test ?_ | refine x_tb ?_ | refine x_tnot ?_ | refine x_tand ?_ | refine x_tor ?_ | refine x_andv ?_ | refine x_orv ?_ | refine x_notv ?_ | refine x_var rfl ?_ | refine x_c ?_ | refine x_op ?_ | refine x_un ?_ | refine x_i0 ?_ | refine x_par ?_ | refine x_two ?_ | refine x_eqI ?_ | refine x_neI ?_ | refine x_u ?_ | refine x_call ?_ | refine x_cb ?_ | refine x_cons ?_ | refine x_nil ?_ | refine x_tup ?_ | refine x_lst ?_ | refine x_gcd ?_ | refine x_for ?_ | refine x_iL ?_ | refine x_iT ?_ | refine x_iR1 ?_ | refine x_iR2 ?_ | refine x_lc ?_ | refine x_bm ?_ | refine x_bm0 ?_ | refine x_sl ?_ | refine x_nopart ?_ | refine x_part ?_ | refine x_some ?_ | refine x_bl ?_))
local macro_rules | `(tactic| walk_at "k9") => `(tactic| repeat (walk_at "k91"))
theorem ns_lt {ns : List Int} {b : Int} {P : List Rat} {R : Nat} {D : Int} (h : K9M.IsP ns b P) (s : K9M.SC R D P) (hD : 0 < D) (hR : R ≤ 9000) {i : Nat} (hi : i < ns.length) : (ns.getD i 0).natAbs < 2 ^ 9000 :=
  Nat.lt_of_lt_of_le (h.lt s hD _ (get_mem (get_getD hi))) (Nat.pow_le_pow_right (by decide) hR)
theorem mulx_small {a b : Int} (ha : a.natAbs < 2 ^ 100) (hb : b.natAbs < 2 ^ 100) : CMulX a b := mulx_ok ha hb (by decide)
theorem rq01 {H : Hp} {p : Addr} (hp : H p = none) : RQ (upd H p (.tup [.int 0, .int 1])) (.ref p) 0 := ⟨p, rfl, upd_same⟩
theorem rq11 {H : Hp} {p : Addr} (hp : H p = none) : RQ (upd H p (.tup [.int 1, .int 1])) (.ref p) 1 := ⟨p, rfl, upd_same⟩
section
variable {P : Program} {w : World} {K : PySem.W.Frag} {mg : Str → Option Value} {base : Heap}
abbrev s_root_numbers : Stmt := topS 23
abbrev N_root_numbers : List Str := ["poly", "times", "many", "place", "items", "found", "total", "back", "item", "weight"]
theorem sc_root_numbers : FnScope N_root_numbers ["poly", "times", "many"] (defScope s_root_numbers) := ⟨rfl, rfl, rfl, by decide +kernel, rfl, by decide +kernel, by decide +kernel⟩
theorem kn_root_numbers (D : DefAt K mg "root_numbers" s_root_numbers) (T : Wd mg) (k_number_of : Kn P w K mg base CX0 1 "number_of" ["above", "below"] sp_number_of) (k_number_sum : Kn P w K mg base CX0 2 "number_sum" ["one", "other"] (sp_num2 (· + ·))) (k_number_times : Kn P w K mg base CX0 2 "number_times" ["one", "other"] (sp_num2 (· * ·))) :
    Kn P w K mg base CX0 3 "root_numbers" ["poly", "times", "many"] sp_root_numbers := by
  have S := sc_root_numbers
  refine Kn.of D S (fun vs H Q E h => ?_) (fun _ _ _ _ _ _ us hl => match us, hl with | [_, _, _], _ => rfl) fun f cdv A outer s H vs Q E hr h => ?_
  · obtain ⟨_, _, _, _, _, _, _, rfl, _⟩ := h; rfl
  obtain ⟨_, P1, d, h0, E0, R, D0, rfl, ⟨p1, a1, ns, b1, rfl, hp1, ha1, ip1⟩, cz, lne, hn, sc, hD, hR, k⟩ := h
  refine ⟨_, PSs.nox (pss_cons (ps_par (i := 4) (j := 5) (by rfl) S.nd rfl rfl (by decide) rfl rfl (pa_cons (pe_ix (ixT (K := K) rfl) (pv 0) pe_int (fun _ _ => rfl)) (pa_cons (pe_lst (pa_cons (pe_tup (pa_cons pe_int (pa_cons pe_int pa_nil))) pa_nil)) pa_nil)) (by rfl))
    (pss_cons (ps_for PassesOwn.never rfl (pi_range2 (by rfl) T.range (pa_cons pe_int (pa_cons (pv 2) pa_nil))) (pg_name (i := 3) S.nd rfl (by first | exact .inl rfl | exact .inr rfl))
      (pss_cons (ps_set (i := 6) S.nd rfl (Or.inl rfl) (pe_tup (pa_cons pe_int (pa_cons pe_int pa_nil))))
      (pss_cons (ps_for PassesOwn.never rfl (pi_range2 (by rfl) T.range (pa_cons pe_int (pa_cons (pe_op op_add (pv 3) pe_int) pa_nil))) (pg_name (i := 7) S.nd rfl (by first | exact .inl rfl | exact .inr rfl))
        (pss_cons (ps_set (i := 8) S.nd rfl (Or.inl rfl) (pe_kn k_number_of (hr.mono (by decide)) (by rfl) pass0 (pa_cons (pe_ix (ixL (K := K) rfl) (pv 4) (pe_op op_sub (pe_un un_neg pe_int) (pv 7)) (fun _ _ => rfl)) (pa_cons (pe_ix (ixL (K := K) rfl) (pv 4) (pe_un un_neg pe_int) (fun _ _ => rfl)) pa_nil))))
        (pss_cons (ps_set (i := 9) S.nd rfl (Or.inl rfl) (pe_kn k_number_of (hr.mono (by decide)) (by rfl) pass0 (pa_cons (pe_op op_sub (pe_op op_mulX (pv 7) (pe_op op_add (pv 1) pe_int)) (pe_op op_mulX (pv 3) (pv 1))) (pa_cons (pe_op op_mulX (pv 1) (pv 3)) pa_nil))))
        (pss_one (ps_set (i := 6) S.nd rfl (Or.inl rfl) (pe_kn k_number_sum (hr.mono (by decide)) (by rfl) pass0 (pa_cons (pv 6) (pa_cons (pe_kn k_number_times (hr.mono (by decide)) (by rfl) pass0 (pa_cons (pv 9) (pa_cons (pe_kn k_number_times (hr.mono (by decide)) (by rfl) pass0 (pa_cons (pv 8) (pa_cons (pe_ix (ixL (K := K) rfl) (pv 5) (pe_op op_sub (pv 3) (pv 7)) (fun _ _ => rfl)) pa_nil))) pa_nil))) pa_nil))))))))
      (pss_one (ps_expr (pe_bm PySem.F.plainAttrs_list PySem.F.slot_list_append PySem.F.type_list_append mt_append (pv 5) (pa_cons (pv 6) pa_nil)))))))
    (pss_one (ps_ret (pv 5))))), ?_⟩
  have hl1 := ip1.len
  have hr1 := cz.hr
  have hr9 := cz.hr9
  have hd1 := cz.hd
  have hd9 := cz.hd9
  have dle : d < ns.length := by
    have h1 : 1 * d ≤ (P1.length - 1) / d * d := Nat.mul_le_mul hr1 (Nat.le_refl _)
    have h2 : (P1.length - 1) / d * d ≤ P1.length - 1 := Nat.div_mul_le_self _ _
    omega
  generalize hrr : (P1.length - 1) / d = r at *
  have hl0 : ns.getD (ns.length - 1) 0 ≠ 0 := fun z => lne (by rw [ip1.last, z]; grind)
  walk_at "k9"
  refine x_ixT hp1 rfl ?_
  walk_at "k9"
  refine ⟨by show 2 ≤ sizeLine; decide, fun t1 ht1 => ?_⟩
  walk_at "k9"
  refine ⟨by show 1 ≤ sizeLine; decide, fun l hl => ?_⟩
  walk_at "k9"
  refine ⟨_, _, rfl, by omega, ?_⟩
  rw [show ((d : Int) - 1).toNat = d - 1 by omega]
  refine for_range (fun i σ' H' => ∃ x3 x6 x7 x8 x9 vs, σ' = [some (.ref p1), some (.int (r : Nat)), some (.int (d : Nat)), x3, some (.ref a1), some (.ref l), x6, x7, x8, x9] ∧ Same H H' ∧ H' l = some (.lst vs) ∧ Rqs H' vs (K9M.rootL (K9M.itm P1) r i)) ⟨none, none, none, none, none, [.ref t1], rfl, fun a o e => mem_upd hl (mem_upd ht1 e), upd_same, .one (show RQ _ _ 1 from ⟨t1, rfl, mem_upd hl upd_same⟩)⟩ ?_ ?_
  · rintro i _ H' hi ⟨_, _, _, _, _, vs, rfl, s1, hl', rv⟩
    walk_at "k9"
    refine ⟨by show 2 ≤ sizeLine; decide, fun t2 ht2 => ?_⟩
    walk_at "k9"
    rw [show (1 : Int) + (i : Int) = ((i + 1 : Nat) : Int) by omega]
    refine ⟨_, _, rfl, by omega, ?_⟩
    rw [show (((i + 1 : Nat) : Int) + 1 - 1).toNat = i + 1 by omega]
    have ll := K9M.rootL_len (K9M.itm P1) r i
    refine for_range (fun b σ' H'' => ∃ t x7 x8 x9, σ' = [some (.ref p1), some (.int (r : Nat)), some (.int (d : Nat)), some (.int ((i + 1 : Nat) : Int)), some (.ref a1), some (.ref l), some t, x7, x8, x9] ∧ Same H' H'' ∧ RQ H'' t (K9M.partR (K9M.itm P1) r (i + 1) (K9M.rootL (K9M.itm P1) r i) b)) ⟨.ref t2, _, _, _, rfl, same_upd ht2, rq01 ht2⟩ ?_ ?_
    · rintro b _ H2 hb ⟨t, _, _, _, rfl, s2, rt⟩
      have m1 := s2 _ _ (s1 _ _ ha1)
      walk_at "k9"
      rw [show (1 : Int) + (b : Int) = ((b + 1 : Nat) : Int) by omega]
      refine x_ixL m1 (at_neg (j := ns.length - 1 - (b + 1)) (v := .int (ns.getD (ns.length - 1 - (b + 1)) 0)) (by omega) (by rw [List.length_map]; omega) (by rw [List.getElem?_map, get_getD (by omega)]; rfl)) ?_
      walk_at "k9"
      refine x_ixL m1 (last_at (fun z => by subst z; simp at dle)) ?_
      walk_at "k9"
      refine ⟨_, _, rfl, hl0, ns_lt ip1 sc hD hR (by omega), fun H3 v3 s3 r3 => ?_⟩
      rw [itm_val ip1 lne] at r3
      walk_at "k9"
      refine x_i (mulx_small (by omega) (by omega)) ?_
      walk_at "k9"
      refine x_i (mulx_small (by omega) (by omega)) ?_
      walk_at "k9"
      refine x_i (mulx_small (by omega) (by omega)) ?_
      walk_at "k9"
      have rp : 0 < (r : Int) * ((i + 1 : Nat) : Int) := Int.mul_pos (by omega) (by omega)
      have rp2 : (r : Int) * ((i + 1 : Nat) : Int) ≤ 9 * 9 := Int.mul_le_mul (by omega) (by omega) (by omega) (by omega)
      refine ⟨_, _, rfl, by omega, Nat.lt_of_le_of_lt (by omega : _ ≤ 81) (by decide), fun H4 v4 s4 r4 => ?_⟩
      replace r4 : RQ H4 v4 (K9M.wt r (i + 1) (b + 1)) := r4
      walk_at "k9"
      have s14 : Same H' H4 := fun a o e => s4 _ _ (s3 _ _ (s2 _ _ e))
      obtain ⟨v5, e5, r5⟩ := (rv.tsame (Same.tup s14)).at (j := i + 1 - (b + 1)) (by omega)
      rw [show ((i + 1 : Nat) : Int) - ((b + 1 : Nat) : Int) = ((i + 1 - (b + 1) : Nat) : Int) by omega]
      refine x_ixL (s14 _ _ hl') (atI_nat e5) ?_
      walk_at "k9"
      have h1 := cz.smi (b := b + 1) (by omega) (by omega)
      have h2 := cz.smf (n := i) (j := i + 1 - (b + 1)) (by omega) (by omega)
      have h3 := cz.smif (n := i) (b := b + 1) (j := i + 1 - (b + 1)) (by omega) (by omega) (by omega) (by omega)
      have h4 := cz.smw (p := i + 1) (b := b + 1) (by omega) (by omega) (by omega)
      have h5 := cz.smwif (n := i) (p := i + 1) (b := b + 1) (j := i + 1 - (b + 1)) (by omega) (by omega) (by omega) (by omega) (by omega) (by omega) (by omega)
      have h6 := cz.smp (n := i) (b := b) (by omega) (by omega)
      rw [hrr] at h2 h3 h4 h5 h6
      refine ⟨_, _, _, _, rfl, r3.same s4, r5, h1, h2, fun H5 v6 s5 r6 => ?_⟩
      walk_at "k9"
      refine ⟨_, _, _, _, rfl, r4.same s5, r6, h4, h3, fun H6 v7 s6 r7 => ?_⟩
      walk_at "k9"
      have s26 : Same H2 H6 := fun a o e => s6 _ _ (s5 _ _ (s4 _ _ (s3 _ _ e)))
      refine ⟨_, _, _, _, rfl, rt.same s26, r7, h6, h5, fun H7 v8 s7 r8 => ?_⟩
      exact ⟨v8, _, _, _, rfl, fun a o e => s7 _ _ (s26 _ _ (s2 _ _ e)), r8⟩
    rintro _ H2 ⟨t, _, _, _, rfl, s2, rt⟩
    walk_at "k9"
    refine x_tyL (s2 _ _ hl') ?_
    walk_at "k9"
    have lv := rv.1
    refine x_append (s2 _ _ hl') (by omega) ?_
    refine ⟨_, _, _, _, _, vs ++ [t], rfl, fun a o e => ?_, upd_same, ?_⟩
    · have := s2 _ _ (s1 _ _ e)
      rw [upd_ne (fun z => by rw [z] at e; have := mem_upd ht1 e (o := .tup [.int 1, .int 1]); rw [this] at hl; cases hl)]
      exact this
    · exact ((rv.tsame (Same.tup s2)).snoc rt).tsame (tsame_lst (s2 _ _ hl'))
  rintro _ H' ⟨_, _, _, _, _, vs, rfl, s1, hl', rv⟩
  walk_at "k9"
  exact k _ _ s1 ⟨l, vs, rfl, hl', rv⟩
end
end K9

set_option Elab.async false
set_option linter.all false
set_option maxRecDepth 100000
set_option maxHeartbeats 4000000
namespace K9
open PySem PySem.Spec PyProof.Rows L2
local macro_rules | `(tactic| walk_at "k9mem") => `(tactic| first | with_reducible assumption | exact upd_same | ((with_reducible refine mem_upd (by with_reducible assumption) ?_); walk_at "k9mem") | ((with_reducible refine mem_same (by with_reducible assumption) ?_); walk_at "k9mem"))
local macro_rules | `(tactic| walk_at "k91") => `(tactic| with_reducible (first | refine x_seq ?_ | refine x_asg ?_ | refine x_name ?_ | refine x_ret ?_ | refine x_drop ?_ | refine x_next ?_ | refine x_ifs ?_ | refine x_if ?_ | refine x_test ?_ | refine x_tb ?_ | refine x_tnot ?_ | refine x_tand ?_ | refine x_tor ?_ | refine x_andv ?_ | refine x_orv ?_ | refine x_notv ?_ | refine x_var rfl ?_ | refine x_c ?_ | refine x_op ?_ | refine x_un ?_ | refine x_i0 ?_ | refine x_par ?_ | refine x_two ?_ | refine x_eqI ?_ | refine x_neI ?_ | refine x_u ?_ | refine x_call ?_ | refine x_cb ?_ | refine x_cons ?_ | refine x_nil ?_ | refine x_tup ?_ | refine x_lst ?_ | refine x_gcd ?_ | refine x_for ?_ | refine x_iL ?_ | refine x_iT ?_ | refine x_iR1 ?_ | refine x_iR2 ?_ | refine x_lc ?_ | refine x_bm ?_ | refine x_bm0 ?_ | refine x_sl ?_ | refine x_nopart ?_ | refine x_part ?_ | refine x_some ?_ | refine x_bl ?_))
local macro_rules | `(tactic| walk_at "k9") => `(tactic| repeat (walk_at "k91"))
theorem x_revL {K : PySem.W.Frag} {σ : L2.St} {H : Hp} {Q : VK} {te : TE} (k : te σ H fun x H1 => ∃ a xs, x = .ref a ∧ SqL K H1 a xs ∧ ∀ p, H1 p = none → Q (.ref p) (upd H1 p (.lst xs.reverse))) : tRevL K te σ H Q := k
theorem dp_all {K : PySem.W.Frag} {H : Hp} : ∀ ns : List Int, DpAll K H (ns.map V.int) (ns.map PyData.int)
  | [] => .nil
  | n :: ns => .cons (.int n) (dp_all ns)
theorem dp_ints {K : PySem.W.Frag} {H : Hp} {a : Addr} {ns : List Int} (h : H a = some (.lst (ns.map .int))) : Dp K H (.ref a) (.list (ns.map PyData.int)) := .lst (.of h) (dp_all ns)
theorem eqv_nil (ns : List Int) : PyData.eqv (.list (ns.map PyData.int)) (.list []) = ns.isEmpty := by
  cases ns with
  | nil => simp [PyData.eqv, PyData.eqvAll]
  | cons n ns => simp [PyData.eqv, PyData.eqvAll]
theorem x_neNil {K : PySem.W.Frag} {H : Hp} {Q : VK} {a b : Addr} {ns : List Int} (h : H a = some (.lst (ns.map .int))) (h2 : H b = some (.lst [])) (k : Q (.bl (!ns.isEmpty)) H) : rNeD K (.ref a) (.ref b) H Q :=
  ⟨_, _, dp_ints h, .lst (.of h2) .nil, PySem.W.shaped_ints ns, PySem.W.shaped_ints [], by rw [eqv_nil]; exact k⟩
/-! candidate_so -/
def sp_candidate_so : Sp := fun vs H Q _ => ∃ (v : V) (P : List Rat) (d : Nat) (h E : Int) (R : Nat) (D : Int), vs = [v, .int (d : Nat)] ∧ RP H v P ∧ CZ P d h E ∧ K9M.lastQ P ≠ 0 ∧ P.length ≤ 100000 ∧ K9M.SC R D P ∧ 0 < D ∧ R ≤ 9000 ∧
  ∀ H' v, Same H H' → RPn H H' v (K9M.candU P d) → Q v H'
section
variable {P : Program} {w : World} {K : PySem.W.Frag} {mg : Str → Option Value} {base : Heap}
abbrev s_candidate_so : Stmt := topS 24
abbrev N_candidate_so : List Str := ["poly", "degree", "numbers"]
theorem sc_candidate_so : FnScope N_candidate_so ["poly", "degree"] (defScope s_candidate_so) := ⟨rfl, rfl, rfl, by decide +kernel, rfl, by decide +kernel, by decide +kernel⟩
theorem kn_candidate_so (D : DefAt K mg "candidate_so" s_candidate_so) (T : Wd mg) (k_root_numbers : Kn P w K mg base CX0 3 "root_numbers" ["poly", "times", "many"] sp_root_numbers) (k_from_numbers : Kn P w K mg base CX0 2 "from_numbers" ["numbers"] sp_from_numbers) :
    Kn P w K mg base CX0 4 "candidate_so" ["poly", "degree"] sp_candidate_so := by
  have S := sc_candidate_so
  refine Kn.of D S (fun vs H Q E h => ?_) (fun _ _ _ _ _ _ us hl => match us, hl with | [_, _], _ => rfl) fun f cdv A outer s H vs Q E hr h => ?_
  · obtain ⟨_, _, _, _, _, _, _, rfl, _⟩ := h; rfl
  obtain ⟨_, P1, d, h0, E0, R, D0, rfl, ⟨p1, a1, ns, b1, rfl, hp1, ha1, ip1⟩, cz, lne, hn, sc, hD, hR, k⟩ := h
  refine ⟨_, PSs.nox (pss_cons (ps_set (i := 2) S.nd rfl (Or.inl rfl) (pe_kn k_root_numbers (hr.mono (by decide)) (by rfl) pass0 (pa_cons (pv 0) (pa_cons (pe_op op_fd (pe_op op_sub (pe_callB (lenK (K := K) rfl) (by rfl) T.len PySem.boot_len (pa_cons (pe_ix (ixT (K := K) rfl) (pv 0) pe_int (fun _ _ => rfl)) pa_nil)) pe_int) (pv 1)) (pa_cons (pv 1) pa_nil)))))
    (pss_one (ps_ret (pe_kn k_from_numbers (hr.mono (by decide)) (by rfl) pass0 (pa_cons (pe_op op_cat (pe_lst (pa_cons (pe_tup (pa_cons pe_int (pa_cons pe_int pa_nil))) pa_nil)) (pe_revL (pv 2))) pa_nil))))), ?_⟩
  have hl1 := ip1.len
  have hd := cz.hd
  have hd9 := cz.hd9
  have dle : d < P1.length := by
    have h1 : 1 * d ≤ (P1.length - 1) / d * d := Nat.mul_le_mul cz.hr (Nat.le_refl _)
    have h2 : (P1.length - 1) / d * d ≤ P1.length - 1 := Nat.div_mul_le_self _ _
    omega
  walk_at "k9"
  refine x_ixT hp1 rfl ?_
  refine ⟨a1, _, rfl, .inl (.of ha1), ?_⟩
  walk_at "k9"
  refine x_i (C := CFd) ⟨by omega, Nat.lt_of_le_of_lt (by omega : _ ≤ 9) (by decide)⟩ ?_
  walk_at "k9"
  have e1 : Int.fdiv ((((ns.map V.int).length : Nat) : Int) - 1) (d : Int) = (((P1.length - 1) / d : Nat) : Int) := by
    rw [List.length_map, hl1, Int.fdiv_eq_ediv_of_nonneg _ (by omega)]
    rw [show ((P1.length : Nat) : Int) - 1 = ((P1.length - 1 : Nat) : Int) by omega]
    rfl
  rw [e1]
  refine ⟨_, _, _, _, _, _, _, rfl, ⟨p1, a1, ns, b1, rfl, hp1, ha1, ip1⟩, cz, lne, hn, sc, hD, hR, fun H1 v1 s1 r1 => ?_⟩
  obtain ⟨l, vs, rfl, hl, rv⟩ := r1
  have lv := rv.1
  have rl := K9M.rootL_len (K9M.itm P1) ((P1.length - 1) / d) (d - 1)
  walk_at "k9"
  refine ⟨by show 2 ≤ sizeLine; decide, fun t1 ht1 => ?_⟩
  refine ⟨by show 1 ≤ sizeLine; decide, fun t2 ht2 => ?_⟩
  refine x_revL ?_
  walk_at "k9"
  refine ⟨l, vs, rfl, .of (mem_upd ht2 (mem_upd ht1 hl)), fun t3 ht3 => ?_⟩
  refine x_cat (mem_upd ht3 upd_same) upd_same (by simp; omega) fun t4 ht4 => ?_
  walk_at "k9"
  have lc := K9M.candU_len (P := P1) hd
  have sc2 := K9M.candU_SC hd hd9 cz.hr cz.hr9 cz.hE cz.hE2 cz.hit
  have pw := cz.pw (j := d - 1) (by omega)
  have s4 : Same H1 (upd (upd (upd (upd H1 t1 (.tup [.int 0, .int 1])) t2 (.lst [.ref t1])) t3 (.lst vs.reverse)) t4 (.lst ([.ref t1] ++ vs.reverse))) := fun a o e => mem_upd ht4 (mem_upd ht3 (mem_upd ht2 (mem_upd ht1 e)))
  have rqs : Rqs (upd (upd (upd (upd H1 t1 (.tup [.int 0, .int 1])) t2 (.lst [.ref t1])) t3 (.lst vs.reverse)) t4 (.lst ([.ref t1] ++ vs.reverse))) ([.ref t1] ++ vs.reverse) (K9M.candU P1 d) :=
    Rqs.app (.one (show RQ _ _ 0 from ⟨t1, rfl, mem_upd ht4 (mem_upd ht3 (mem_upd ht2 upd_same))⟩)) (rv.tsame (Same.tup s4)).rev
  refine ⟨_, K9M.candU P1 d, 273, rfl, ⟨t4, _, rfl, upd_same, rqs⟩, by omega, fun q hq => ?_, fun q hq => ?_, by rw [lc]; omega, by omega, fun H' v s5 r5 => ?_⟩
  · exact ((sc2 q hq).mono (small _ (by omega))).num_lt pw.2
  · have h1 := (sc2 q hq).den_le pw.2
    have h2 : (2 : Nat) ^ 272 < 2 ^ 273 := by decide
    omega
  · rw [K9M.tr_eq (K9M.candU_tr hd)] at r5
    refine k _ _ (fun a o e => s5 _ _ (s4 _ _ (s1 _ _ e))) ((r5.back s4).back s1)
end
/-! remainders -/
def RB (U : List Rat) (b c : Nat) (B : Int) (P : List Rat) : Prop := ∃ (n R : Nat) (D : Int), K9M.SC R D P ∧ 0 < D ∧ P.length ≤ n ∧ R + K9M.tot (U.length - 1) n P.length * (c + 1) ≤ RN ∧ (D * B ^ K9M.tot (U.length - 1) n P.length).natAbs < 2 ^ 4500
structure UZ (U : List Rat) (S b c : Nat) (B : Int) : Prop where
  m : K9M.lastQ U = 1
  u2 : 2 ≤ U.length
  hU : K9M.SC S B U
  hB0 : 0 < B
  hB : B.natAbs ≤ 2 ^ b
  bc : b ≤ c
  sc : S ≤ c
  nU : U.length ≤ 50000
theorem pow_le {B : Int} (h : 0 < B) {i j : Nat} (hij : i ≤ j) : B ^ i ≤ B ^ j := by
  obtain ⟨k, rfl⟩ : ∃ k, j = i + k := ⟨j - i, by omega⟩
  rw [Int.pow_add]
  have h1 : 0 < B ^ i := Int.pow_pos h
  have h2 : 0 < B ^ k := Int.pow_pos h
  have : B ^ i * 1 ≤ B ^ i * B ^ k := Int.mul_le_mul_of_nonneg_left (by omega) (by omega)
  omega
theorem RB.step {U P : List Rat} {S b c : Nat} {B : Int} (u : UZ U S b c B) (h : RB U b c B P) (hP : P ≠ []) (nP : P.length ≤ 50000) :
    (∃ R D k, DS U P S b c R k B D) ∧ RB U b c B (K9M.trim (K9M.divQ U P).1) := by
  obtain ⟨n, R, D, sc, hD, hn, hR, hz⟩ := h
  have hp := List.length_pos_iff.mpr hP
  have u2 := u.u2
  obtain ⟨n, rfl⟩ : ∃ n', n = n' + 1 := ⟨n - 1, by omega⟩
  have e : K9M.tot (U.length - 1) (n + 1) P.length = (P.length - (U.length - 1)) + K9M.tot (U.length - 1) n (P.length - (U.length - 1)) := rfl
  rw [e] at hR hz
  generalize hk : P.length - (U.length - 1) = k at *
  have hlen := K9M.quot_le (U := U) (P := P)
  have hlt := K9M.quot_lt (U := U) (P := P) u2 hP
  have hB0 := u.hB0
  have mono := K9M.tot_mono (U.length - 1) n (K9M.trim (K9M.divQ U P).1).length k (by omega)
  have hBk : 0 < B ^ k := Int.pow_pos hB0
  have h1 : k * (c + 1) ≤ (k + K9M.tot (U.length - 1) n k) * (c + 1) := Nat.mul_le_mul (by omega) (Nat.le_refl _)
  have hz1 : (D * B ^ k).natAbs < 2 ^ 4500 := by
    have a1 := pow_le hB0 (i := k) (j := k + K9M.tot (U.length - 1) n k) (by omega)
    have a2 : D * B ^ k ≤ D * B ^ (k + K9M.tot (U.length - 1) n k) := Int.mul_le_mul_of_nonneg_left a1 (by omega)
    have := nat_le (Int.mul_pos hD hBk) a2
    omega
  have ds : DS U P S b c R k B D := ⟨u.m, u.hU, hB0, u.hB, u.bc, u.sc, sc, hD, by omega, by omega, hz1, nP, u.nU⟩
  refine ⟨⟨R, D, k, ds⟩, n, R + k * (c + 1), D * B ^ k, ?_, Int.mul_pos hD hBk, by omega, ?_, ?_⟩
  · have := K9M.divF_SC (U_ne u.m) u.m u.hU u.hB u.bc u.sc P.length k R D (List.replicate (max 1 (P.length + 1 - U.length)) 0) P (fun q hq => by rw [(List.mem_replicate.mp hq).2]; exact K9M.Bd.zero _ _) sc (by omega)
    exact this.1.trim
  · have h2 : K9M.tot (U.length - 1) n (K9M.trim (K9M.divQ U P).1).length * (c + 1) ≤ K9M.tot (U.length - 1) n k * (c + 1) := Nat.mul_le_mul mono (Nat.le_refl _)
    rw [Nat.add_mul] at hR
    omega
  · rw [Int.mul_assoc, ← Int.pow_add]
    have a1 := pow_le hB0 (i := k + K9M.tot (U.length - 1) n (K9M.trim (K9M.divQ U P).1).length) (j := k + K9M.tot (U.length - 1) n k) (by omega)
    have a2 := Int.mul_le_mul_of_nonneg_left a1 (by omega : 0 ≤ D)
    have := nat_le (Int.mul_pos hD (Int.pow_pos hB0)) a2
    omega
end K9

set_option Elab.async false
set_option linter.all false
set_option maxRecDepth 100000
set_option maxHeartbeats 4000000
namespace K9
open PySem PySem.Spec PyProof.Rows L2
local macro_rules | `(tactic| walk_at "k9mem") => `(tactic| first | with_reducible assumption | exact upd_same | ((with_reducible refine mem_upd (by with_reducible assumption) ?_); walk_at "k9mem") | ((with_reducible refine mem_same (by with_reducible assumption) ?_); walk_at "k9mem"))
local macro_rules | `(tactic| walk_at "k91") => `(tactic| with_reducible (first | refine x_seq ?_ | refine x_asg ?_ | refine x_name ?_ | refine x_ret ?_ | refine x_drop ?_ | refine x_next ?_ | refine x_ifs ?_ | refine x_if ?_ | refine x_test ?_ | refine x_tb ?_ | refine x_tnot ?_ | refine x_tand ?_ | refine x_tor ?_ | refine x_andv ?_ | refine x_orv ?_ | refine x_notv ?_ | refine x_var rfl ?_ | refine x_c ?_ | refine x_op ?_ | refine x_un ?_ | refine x_i0 ?_ | refine x_par ?_ | refine x_two ?_ | refine x_eqI ?_ | refine x_neI ?_ | refine x_u ?_ | refine x_call ?_ | refine x_cb ?_ | refine x_cons ?_ | refine x_nil ?_ | refine x_tup ?_ | refine x_lst ?_ | refine x_gcd ?_ | refine x_for ?_ | refine x_iL ?_ | refine x_iT ?_ | refine x_iR1 ?_ | refine x_iR2 ?_ | refine x_lc ?_ | refine x_bm ?_ | refine x_bm0 ?_ | refine x_sl ?_ | refine x_nopart ?_ | refine x_part ?_ | refine x_some ?_ | refine x_bl ?_))
local macro_rules | `(tactic| walk_at "k9") => `(tactic| repeat (walk_at "k91"))
/-- a polynomial whose list is not l -/
def RPx (l : Addr) (H : Hp) (v : V) (P : List Rat) : Prop := ∃ p a ns b, v = .ref p ∧ H p = some (.tup [.ref a, .int b]) ∧ H a = some (.lst (ns.map .int)) ∧ a ≠ l ∧ K9M.IsP ns b P
theorem RPx.upd {l : Addr} {H : Hp} {v : V} {P : List Rat} {o : HO} {xs : List V} (h : RPx l H v P) (hl : H l = some (.lst xs)) : RPx l (upd H l o) v P := by
  obtain ⟨p, a, ns, b, e, h1, h2, h3, k⟩ := h
  exact ⟨p, a, ns, b, e, by rw [upd_ne (fun z => by rw [z, hl] at h1; cases h1)]; exact h1, by rw [upd_ne h3]; exact h2, h3, k⟩
theorem RPx.same {l : Addr} {H H' : Hp} {v : V} {P : List Rat} (h : RPx l H v P) (s : Same H H') : RPx l H' v P := let ⟨p, a, ns, b, e, h1, h2, h3, k⟩ := h; ⟨p, a, ns, b, e, s _ _ h1, s _ _ h2, h3, k⟩
theorem RPx.old {l : Addr} {H : Hp} {v : V} {P : List Rat} (h : RPx l H v P) : RP H v P := let ⟨p, a, ns, b, e, h1, h2, _, k⟩ := h; ⟨p, a, ns, b, e, h1, h2, k⟩
theorem RPn.x {l : Addr} {H0 H : Hp} {v : V} {P : List Rat} {o : HO} (h : RPn H0 H v P) (hl : H0 l = some o) : RPx l H v P := let ⟨p, a, ns, b, e, h1, h2, h3, k⟩ := h; ⟨p, a, ns, b, e, h1, h2, fun z => (by rw [z, hl] at h3; cases h3), k⟩
/-- a list of polynomials -/
def RLP (H : Hp) (v : V) (Ps : List (List Rat)) : Prop := ∃ p vs, v = .ref p ∧ H p = some (.lst vs) ∧ vs.length = Ps.length ∧ ∀ (i : Nat) (x : V), vs[i]? = some x → ∃ P, Ps[i]? = some P ∧ RP H x P
def sp_remainders : Sp := fun vs H Q _ => ∃ (v1 v2 : V) (P U : List Rat) (S b c : Nat) (B : Int), vs = [v1, v2] ∧ RP H v1 P ∧ RP H v2 U ∧ UZ U S b c B ∧ RB U b c B P ∧ P.length ≤ 50000 ∧
  ∀ H' v, Same H H' → RLP H' v (K9M.remsQ U P) → Q v H'
theorem isEmpty_iff {ns : List Int} {b : Int} {P : List Rat} (h : K9M.IsP ns b P) : (!ns.isEmpty) = decide (P ≠ []) := by
  have := h.len
  cases ns with
  | nil => cases P with
    | nil => rfl
    | cons => simp at this
  | cons => cases P with
    | nil => simp at this
    | cons => simp
theorem remsQ_len {U : List Rat} (hU : 2 ≤ U.length) (P : List Rat) : (K9M.remsQ U P).length ≤ P.length := by
  unfold K9M.remsQ
  suffices ∀ n Q, (K9M.rems U n Q).length ≤ n from this _ _
  intro n
  induction n with
  | zero => intro Q; exact Nat.le_refl _
  | succ n ih =>
    intro Q
    unfold K9M.rems
    split
    · exact Nat.zero_le _
    · have := ih (K9M.trim (K9M.divQ U Q).1)
      rw [List.length_cons]; omega
section
variable {P : Program} {w : World} {K : PySem.W.Frag} {mg : Str → Option Value} {base : Heap}
abbrev s_remainders : Stmt := topS 25
abbrev N_remainders : List Str := ["poly", "base", "found", "left", "rest"]
theorem sc_remainders : FnScope N_remainders ["poly", "base"] (defScope s_remainders) := ⟨rfl, rfl, rfl, by decide +kernel, rfl, by decide +kernel, by decide +kernel⟩
theorem kn_remainders (D : DefAt K mg "remainders" s_remainders) (T : Wd mg) (k_divided : Kn P w K mg base CX0 3 "divided" ["poly", "base"] sp_divided) : Kn P w K mg base CX0 4 "remainders" ["poly", "base"] sp_remainders := by
  have S := sc_remainders
  refine Kn.of D S (fun vs H Q E h => ?_) (fun _ _ _ _ _ _ us hl => match us, hl with | [_, _], _ => rfl) fun f cdv A outer s H vs Q E hr h => ?_
  · obtain ⟨_, _, _, _, _, _, _, _, rfl, _⟩ := h; rfl
  obtain ⟨v1, v2, P1, U, S0, b0, c0, B, rfl, h1, h2, uz, rb, nP, k⟩ := h
  refine ⟨_, PSs.nox (pss_cons (ps_par (i := 2) (j := 3) (by rfl) S.nd rfl rfl (by decide) rfl rfl (pa_cons (pe_lst pa_nil) (pa_cons (pv 0) pa_nil)) (by rfl))
    (pss_cons (ps_while PassesOwn.never (pt_cmpR (neD (K := K) hr.units rfl) (pe_ix (ixT (K := K) rfl) (pv 3) pe_int (fun _ _ => rfl)) (pe_lst pa_nil) (nomark _))
      (pss_cons (ps_asg (pe_kn k_divided (hr.mono (by decide)) (by rfl) pass0 (pa_cons (pv 3) (pa_cons (pv 1) pa_nil))) (pg_tup rfl (pgs_cons (pg_name (i := 3) S.nd rfl (by first | exact .inl rfl | exact .inr rfl)) (pgs_cons (pg_name (i := 4) S.nd rfl (by first | exact .inl rfl | exact .inr rfl)) pgs_nil))))
      (pss_one (ps_expr (pe_bm PySem.F.plainAttrs_list PySem.F.slot_list_append PySem.F.type_list_append mt_append (pv 2) (pa_cons (pv 4) pa_nil))))))
    (pss_one (ps_ret (pv 2))))), ?_⟩
  walk_at "k9"
  refine ⟨by show 0 ≤ sizeLine; decide, fun l hl => ?_⟩
  walk_at "k9"
  have h1x : RPx l (upd H l (.lst [])) v1 P1 := by
    obtain ⟨p, a, ns, b, e, h1, h2, k⟩ := h1
    exact ⟨p, a, ns, b, e, mem_upd hl h1, mem_upd hl h2, fun z => (by rw [z, hl] at h2; cases h2), k⟩
  have u2 := uz.u2
  refine x_whileK (fun m σ' H' => ∃ left x4 P' vs rs, σ' = [some v1, some v2, some (.ref l), some left, x4] ∧ P'.length = m ∧ RPx l H' left P' ∧ RB U b0 c0 B P' ∧ P'.length ≤ P1.length ∧ Same H H' ∧ H' l = some (.lst vs) ∧ rs ++ K9M.remsQ U P' = K9M.remsQ U P1 ∧ vs.length = rs.length ∧ ∀ (i : Nat) (x : V), vs[i]? = some x → ∃ P, rs[i]? = some P ∧ RPx l H' x P)
    (fun σ' H' => ∃ left x4, σ' = [some v1, some v2, some (.ref l), some left, x4] ∧ Same H H' ∧ RLP H' (.ref l) (K9M.remsQ U P1)) P1.length ?_ ?_ ?_
  · exact ⟨v1, none, P1, [], [], rfl, rfl, h1x, rb, Nat.le_refl _, same_upd hl, upd_same, rfl, rfl, fun i x e => by simp at e⟩
  · rintro _ H' ⟨_, _, rfl, s1, r⟩
    walk_at "k9"
    exact k _ _ s1 r
  rintro hd m _ H' ⟨left, _, P', vs, rs, rfl, hm, hp, rb', lp, s1, hl', er, lv, fv⟩
  have hpx := hp
  obtain ⟨p, a, ns, b, rfl, m1, m2, m3, ip⟩ := hp
  walk_at "k9"
  refine x_ixT m1 rfl ?_
  walk_at "k9"
  refine ⟨by show 0 ≤ sizeLine; decide, fun t1 ht1 => ?_⟩
  refine x_neNil (mem_upd ht1 m2) upd_same ?_
  rw [isEmpty_iff ip]
  walk_at "k9"
  have s2 : Same H' (upd H' t1 (.lst [])) := same_upd ht1
  generalize upd H' t1 (.lst []) = H2 at s2 ⊢
  by_cases hne : P' = []
  · refine x_no (by simp [hne]) ?_
    refine hd _ _ ⟨_, _, rfl, fun a o e => s2 _ _ (s1 _ _ e), l, vs, rfl, s2 _ _ hl', ?_, fun i x e => ?_⟩
    · rw [← er, hne, K9M.remsQ_nil, List.append_nil, lv]
    · obtain ⟨P, e', r⟩ := fv i x e
      exact ⟨P, by rw [← er, hne, K9M.remsQ_nil, List.append_nil]; exact e', (r.same s2).old⟩
  refine x_yes (by simp [hne]) ?_
  refine x_turn ?_
  obtain ⟨⟨R, D0, k0, ds⟩, rb2⟩ := rb'.step uz hne (by omega)
  walk_at "k9"
  refine ⟨_, _, P', U, S0, b0, c0, R, k0, B, D0, rfl, (hpx.same s2).old, h2.same (fun a o e => s2 _ _ (s1 _ _ e)), ds, fun H3 v3 s3 r3 => ?_⟩
  obtain ⟨p3, q3, w3, rfl, m3', rq, rr⟩ := r3
  refine x_gT2 m3' ?_
  walk_at "k9"
  have hl3 := s3 _ _ (s2 _ _ hl')
  refine x_tyL hl3 ?_
  walk_at "k9"
  have lq := K9M.quot_lt (U := U) (P := P') u2 hne
  have cons := K9M.remsQ_cons u2 hne
  have s13 : Same H' H3 := fun a o e => s3 _ _ (s2 _ _ e)
  refine x_append hl3 ?_ ?_
  · have : rs.length ≤ (K9M.remsQ U P1).length := by rw [← er, List.length_append]; omega
    have : (K9M.remsQ U P1).length ≤ P1.length := remsQ_len u2 P1
    omega
  refine ⟨_, by omega, q3, _, _, vs ++ [w3], rs ++ [(K9M.divQ U P').2], rfl, rfl, (rq.x (s2 _ _ hl')).upd hl3, rb2, by omega, fun a o e => ?_, upd_same, ?_, by simp [lv], fun i x e => ?_⟩
  · rw [upd_ne (fun z => by rw [z, hl] at e; cases e)]
    exact s13 _ _ (s1 _ _ e)
  · rw [← er, cons, List.append_assoc]; rfl
  · rcases Nat.lt_or_ge i vs.length with z | z
    · rw [List.getElem?_append_left z] at e
      obtain ⟨P, e', r⟩ := fv i x e
      exact ⟨P, by rw [List.getElem?_append_left (by omega)]; exact e', (r.same s13).upd hl3⟩
    · rw [List.getElem?_append_right z] at e
      have : i - vs.length = 0 := by
        rcases Nat.eq_zero_or_pos (i - vs.length) with z | z
        · exact z
        · rw [List.getElem?_eq_none (by simp; omega)] at e; cases e
      rw [this] at e
      cases e
      exact ⟨_, by rw [List.getElem?_append_right (by omega), ← lv, this]; rfl, (rr.x (s2 _ _ hl')).upd hl3⟩
end
end K9

set_option Elab.async false
set_option linter.all false
set_option maxRecDepth 100000
set_option maxHeartbeats 4000000
namespace K9
open PySem PySem.Spec PyProof.Rows L2
local macro_rules | `(tactic| walk_at "k9mem") => `(tactic| first | with_reducible assumption | exact upd_same | ((with_reducible refine mem_upd (by with_reducible assumption) ?_); walk_at "k9mem") | ((with_reducible refine mem_same (by with_reducible assumption) ?_); walk_at "k9mem"))
local macro_rules | `(tactic| walk_at "k91") => `(tactic| with_reducible (first | refine x_seq ?_ | refine x_asg ?_ | refine x_name ?_ | refine x_ret ?_ | refine x_drop ?_ | refine x_next ?_ | refine x_ifs ?_ | refine x_if ?_ | refine x_test ?_ | refine x_tb ?_ | refine x_tnot ?_ | refine x_tand ?_ | refine x_tor ?_ | refine x_andv ?_ | refine x_orv ?_ | refine x_notv ?_ | refine x_var rfl ?_ | refine x_c ?_ | refine x_op ?_ | refine x_un ?_ | refine x_i0 ?_ | refine x_par ?_ | refine x_two ?_ | refine x_eqI ?_ | refine x_neI ?_ | refine x_u ?_ | refine x_call ?_ | refine x_cb ?_ | refine x_cons ?_ | refine x_nil ?_ | refine x_tup ?_ | refine x_lst ?_ | refine x_gcd ?_ | refine x_for ?_ | refine x_iL ?_ | refine x_iT ?_ | refine x_iR1 ?_ | refine x_iR2 ?_ | refine x_lc ?_ | refine x_bm ?_ | refine x_bm0 ?_ | refine x_sl ?_ | refine x_nopart ?_ | refine x_part ?_ | refine x_some ?_ | refine x_bl ?_))
local macro_rules | `(tactic| walk_at "k9") => `(tactic| repeat (walk_at "k91"))
theorem x_isN {x : V} {H : Hp} {Q : VK} (k : Q (.bl (decide (x = .non))) H) : V.non = .non ∧ Q (.bl (decide (x = .non))) H := ⟨rfl, k⟩
theorem x_notN {x : V} {H : Hp} {Q : VK} (k : Q (.bl (!decide (x = .non))) H) : V.non = .non ∧ Q (.bl (!decide (x = .non))) H := ⟨rfl, k⟩
/-- all sizes of a step and one of its degrees -/
structure WZ (P : List Rat) (d : Nat) : Prop where
  tr : K9M.Tr P
  nz : P ≠ []
  len : P.length ≤ 1000
  cz : ∃ h E, CZ P d h E
  sc : ∃ R D, K9M.SC R D P ∧ 0 < D ∧ R ≤ 9000 ∧ D.natAbs < 2 ^ 4500
  uz : ∃ S b c B, UZ (K9M.candU P d) S b c B ∧ RB (K9M.candU P d) b c B P
  rz : ∃ t R D, (∀ r ∈ K9M.remsQ (K9M.candU P d) P, K9M.SC R D r) ∧ 0 < D ∧ D.natAbs < 2 ^ t ∧ R ≤ RN ∧ t ≤ 9000 ∧ 1 + t * (K9M.remsQ (K9M.candU P d) P).length ≤ 9000
def sp_constants : Sp := fun vs H Q _ => ∃ (v : V) (Ps : List (List Rat)) (t R : Nat) (D : Int), vs = [v] ∧ RLP H v Ps ∧ Ps ≠ [] ∧ Ps.length ≤ 9000 ∧ (∀ r ∈ Ps, K9M.SC R D r) ∧ 0 < D ∧ D.natAbs < 2 ^ t ∧ R ≤ RN ∧ t ≤ 9000 ∧ 1 + t * Ps.length ≤ 9000 ∧
  ∀ H' v, Same H H' → (v = .non ↔ ∃ r ∈ Ps, 1 < r.length) → Q v H'
section
variable {P : Program} {w : World} {K : PySem.W.Frag} {mg : Str → Option Value} {base : Heap}
abbrev s_constants : Stmt := topS 26
abbrev N_constants : List Str := ["rests", "rest"]
theorem sc_constants : FnScope N_constants ["rests"] (defScope s_constants) := ⟨rfl, rfl, rfl, by decide +kernel, rfl, by decide +kernel, by decide +kernel⟩
theorem kn_constants (D : DefAt K mg "constants" s_constants) (T : Wd mg) (k_number_of : Kn P w K mg base CX0 1 "number_of" ["above", "below"] sp_number_of) (k_from_numbers : Kn P w K mg base CX0 2 "from_numbers" ["numbers"] sp_from_numbers) :
    Kn P w K mg base CX0 3 "constants" ["rests"] sp_constants := by
  have S := sc_constants
  refine Kn.of D S (fun vs H Q E h => ?_) (fun _ _ _ _ _ _ us hl => match us, hl with | [_], _ => rfl) fun f cdv A outer s H vs Q E hr h => ?_
  · obtain ⟨_, _, _, _, _, rfl, _⟩ := h; rfl
  obtain ⟨_, Ps, t, R, D0, rfl, ⟨p, vs, rfl, hp, lv, fv⟩, hne, hn, sc, hD, hz, hR, ht, ht2, k⟩ := h
  refine ⟨_, PSs.nox (pss_cons (ps_if (pt_cmpR op_gt (pe_callB (cr_max rfl) (by rfl) T.max (by decide +kernel) (pa_cons (pe_lc (own := [("rest", 1)]) (g := gName 1) (by rfl) S.nd (pi_list (pv 0)) (blkOk_by (own := [("rest", 1)]) (N := N_constants) (sc := defScope s_constants) (by decide +kernel)) (fun _ _ _ _ _ => (pg_name (i := 1) S.nd rfl (by first | exact .inl rfl | exact .inr rfl))) (fun _ _ _ _ _ => pts_nil) (fun _ _ _ _ _ => (pe_callB (lenK (K := K) rfl) (by rfl) T.len PySem.boot_len (pa_cons (pe_ix (ixT (K := K) rfl) (pv 1) pe_int (fun _ _ => rfl)) pa_nil)))) pa_nil)) pe_int (nomark _))
      (pss_one (ps_ret pe_non)) pss_nil)
    (pss_one (ps_ret (pe_kn k_from_numbers (hr.mono (by decide)) (by rfl) pass0 (pa_cons (pe_lc (own := [("rest", 1)]) (g := gName 1) (by rfl) S.nd (pi_list (pv 0)) (blkOk_by (own := [("rest", 1)]) (N := N_constants) (sc := defScope s_constants) (by decide +kernel)) (fun _ _ _ _ _ => (pg_name (i := 1) S.nd rfl (by first | exact .inl rfl | exact .inr rfl))) (fun _ _ _ _ _ => pts_nil) (fun _ _ _ _ _ => (pe_ifExp (pt_cmpR (neD (K := K) hr.units rfl) (pe_ix (ixT (K := K) rfl) (pv 1) pe_int (fun _ _ => rfl)) (pe_lst pa_nil) (nomark _)) (pe_kn k_number_of (hr.mono (by decide)) (by rfl) pass0 (pa_cons (pe_ix (ixL (K := K) rfl) (pe_ix (ixT (K := K) rfl) (pv 1) pe_int (fun _ _ => rfl)) pe_int (fun _ _ => rfl)) (pa_cons (pe_ix (ixT (K := K) rfl) (pv 1) pe_int (fun _ _ => rfl)) pa_nil))) (pe_tup (pa_cons pe_int (pa_cons pe_int pa_nil)))))) pa_nil))))), ?_⟩
  have hpos := List.length_pos_iff.mpr hne
  walk_at "k9"
  refine x_lcL (xs := vs) (fun i v _ => ∃ r, Ps[i]? = some r ∧ v = .int ((r.length : Nat) : Int)) hp (by omega) (fun _ => by rfl) (fun _ _ _ _ h _ => h) ?_ ?_
  · intro i x H' hx s Q' kq
    obtain ⟨r, e, q, a, ns, b, rfl, m1, m2, ip⟩ := fv i x hx
    walk_at "k9"
    refine x_ixT (s _ _ m1) rfl ?_
    walk_at "k9"
    refine ⟨a, _, rfl, .inl (.of (s _ _ m2)), ?_⟩
    rw [List.length_map]
    exact kq _ _ (fun _ _ h => h) ⟨r, e, by rw [ip.len]⟩
  intro H1 l ys s1 hl e1 le1 f1
  have e3 : ys = (Ps.map fun r => ((r.length : Nat) : Int)).map V.int := ints_of (by simp; omega) fun i v h => by
    obtain ⟨r, e, z⟩ := f1 i v h
    exact ⟨_, by rw [List.getElem?_map, e]; rfl, z⟩
  subst e3
  walk_at "k9"
  refine ⟨l, _, rfl, .of e1, by simpa using hpos, fun m hm hmax => ?_⟩
  walk_at "k9"
  by_cases hm1 : m > 1
  · refine x_yes (decide_eq_true hm1) ?_
    walk_at "k9"
    obtain ⟨r, hr, rfl⟩ := List.mem_map.mp hm
    exact k _ _ s1 ⟨fun _ => ⟨r, hr, by omega⟩, fun _ => rfl⟩
  refine x_no (decide_eq_false hm1) ?_
  have hle : ∀ r ∈ Ps, r.length ≤ 1 := fun r hr => by
    have := hmax _ (List.mem_map.mpr ⟨r, hr, rfl⟩)
    omega
  walk_at "k9"
  refine x_lcL (xs := vs) (fun i v H => ∃ r, Ps[i]? = some r ∧ RQ H v (K9M.coef r 0)) (s1 _ _ hp) (by omega) (fun _ => by rfl) (fun _ _ _ _ h s => let ⟨q, a, b⟩ := h; ⟨q, a, b.tsame s⟩) ?_ ?_
  · intro i x H' hx s Q' kq
    obtain ⟨r, e, q, a, ns, b, rfl, m1, m2, ip⟩ := fv i x hx
    have hs := get_mem e
    walk_at "k9"
    refine x_ixT (s _ _ (s1 _ _ m1)) rfl ?_
    walk_at "k9"
    refine ⟨by show 0 ≤ sizeLine; decide, fun t1 ht1 => ?_⟩
    refine x_neNil (mem_upd ht1 (s _ _ (s1 _ _ m2))) upd_same ?_
    rw [isEmpty_iff ip]
    walk_at "k9"
    by_cases hn0 : r = []
    · refine x_no (by simp [hn0]) ?_
      walk_at "k9"
      refine ⟨by show 2 ≤ sizeLine; decide, fun t2 ht2 => ?_⟩
      refine kq _ _ (fun a o h => mem_upd ht2 (mem_upd ht1 h)) ⟨r, e, ?_⟩
      rw [hn0, K9M.coef_nil]
      exact rq01 ht2
    · refine x_yes (by simp [hn0]) ?_
      walk_at "k9"
      refine x_ixT (mem_upd ht1 (s _ _ (s1 _ _ m1))) rfl ?_
      walk_at "k9"
      have hlen := ip.len
      have hrp := List.length_pos_iff.mpr hn0
      refine x_ixL (mem_upd ht1 (s _ _ (s1 _ _ m2))) (at_int (i := 0) (get_getD (by omega))) ?_
      walk_at "k9"
      refine x_ixT (mem_upd ht1 (s _ _ (s1 _ _ m1))) rfl ?_
      walk_at "k9"
      have b0 := ip.pos
      have bl := nat_le b0 (ip.le (sc r hs) hD)
      have p2 : 2 ^ t ≤ 2 ^ 9000 := Nat.pow_le_pow_right (by decide) ht
      refine ⟨_, _, rfl, by omega, by omega, fun H2 v2 s2 r2 => kq _ _ (fun a o h => s2 _ _ (mem_upd ht1 h)) ⟨r, e, ?_⟩⟩
      rw [ip.cf]
      exact r2
  intro H2 l2 ys2 s2 hl2 e2 le2 f2
  walk_at "k9"
  refine ⟨_, Ps.map (K9M.coef · 0), t, rfl, ⟨l2, ys2, rfl, e2, by simp; omega, fun i v h => ?_⟩, by simp; omega, fun q hq => ?_, fun q hq => ?_, by simpa using ht2, ht, fun H' v s r => ?_⟩
  · obtain ⟨r, e, rq⟩ := f2 i v h
    exact ⟨_, by rw [List.getElem?_map, e]; rfl, rq⟩
  · obtain ⟨r, hr, rfl⟩ := List.mem_map.mp hq
    exact (((sc r hr).coef 0).mono hR).num_lt hD
  · obtain ⟨r, hr, rfl⟩ := List.mem_map.mp hq
    have := ((sc r hr).coef 0).den_le hD
    omega
  · obtain ⟨p', _, _, _, rfl, _⟩ := r
    exact k _ _ (fun a o h => s _ _ (s2 _ _ (s1 _ _ h))) ⟨fun z => (nomatch z), fun ⟨r, hr, h1⟩ => by have := hle r hr; omega⟩
/-! part_so -/
def sp_part_so : Sp := fun vs H Q _ => ∃ (v : V) (P : List Rat) (d : Nat), vs = [v, .int (d : Nat)] ∧ RP H v P ∧ WZ P d ∧
  ∀ H' v, Same H H' → ((∃ r ∈ K9M.remsQ (K9M.candU P d) P, 1 < r.length) → v = .non) → ((¬ ∃ r ∈ K9M.remsQ (K9M.candU P d) P, 1 < r.length) → RP H' v (K9M.candU P d)) → Q v H'
abbrev s_part_so : Stmt := topS 27
abbrev N_part_so : List Str := ["poly", "degree", "found"]
theorem sc_part_so : FnScope N_part_so ["poly", "degree"] (defScope s_part_so) := ⟨rfl, rfl, rfl, by decide +kernel, rfl, by decide +kernel, by decide +kernel⟩
theorem kn_part_so (D : DefAt K mg "part_so" s_part_so) (T : Wd mg) (k_candidate_so : Kn P w K mg base CX0 4 "candidate_so" ["poly", "degree"] sp_candidate_so) (k_remainders : Kn P w K mg base CX0 4 "remainders" ["poly", "base"] sp_remainders) (k_constants : Kn P w K mg base CX0 3 "constants" ["rests"] sp_constants) :
    Kn P w K mg base CX0 5 "part_so" ["poly", "degree"] sp_part_so := by
  have S := sc_part_so
  refine Kn.of D S (fun vs H Q E h => ?_) (fun _ _ _ _ _ _ us hl => match us, hl with | [_, _], _ => rfl) fun f cdv A outer s H vs Q E hr h => ?_
  · obtain ⟨_, _, _, rfl, _⟩ := h; rfl
  obtain ⟨v, P1, d, rfl, hv, wz, k⟩ := h
  refine ⟨_, PSs.nox (pss_cons (ps_set (i := 2) S.nd rfl (Or.inl rfl) (pe_kn k_candidate_so (hr.mono (by decide)) (by rfl) pass0 (pa_cons (pv 0) (pa_cons (pv 1) pa_nil))))
    (pss_one (ps_ret (pe_ifExp (pt_cmpR op_notN (pe_kn k_constants (hr.mono (by decide)) (by rfl) pass0 (pa_cons (pe_kn k_remainders (hr.mono (by decide)) (by rfl) pass0 (pa_cons (pv 0) (pa_cons (pv 2) pa_nil))) pa_nil)) pe_non (nomark _)) (pv 2) pe_non)))), ?_⟩
  obtain ⟨h0, E0, cz⟩ := wz.cz
  obtain ⟨R, D0, sc, hD, hR, _⟩ := wz.sc
  obtain ⟨S0, b0, c0, B, uz, rb⟩ := wz.uz
  obtain ⟨t, R2, D2, rsc, rD, rz, rR, rt, rt2⟩ := wz.rz
  have nl := wz.len
  walk_at "k9"
  refine ⟨_, P1, d, h0, E0, R, D0, rfl, hv, cz, K9M.lastQ_ne wz.nz wz.tr, by omega, sc, hD, hR, fun H1 u s1 r1 => ?_⟩
  walk_at "k9"
  refine ⟨_, _, P1, _, S0, b0, c0, B, rfl, hv.same s1, r1.old, uz, rb, by omega, fun H2 rs s2 r2 => ?_⟩
  walk_at "k9"
  have rl := remsQ_len uz.u2 P1
  refine ⟨_, _, t, R2, D2, rfl, r2, K9M.remsQ_ne uz.u2 wz.nz, by omega, rsc, rD, rz, rR, rt, rt2, fun H3 v3 s3 hv3 => ?_⟩
  walk_at "k9"
  refine ⟨rfl, ?_⟩
  walk_at "k9"
  have s13 : Same H1 H3 := fun a o e => s3 _ _ (s2 _ _ e)
  by_cases hc : v3 = .non
  · refine x_no (by simp [hc]) ?_
    walk_at "k9"
    exact k _ _ (fun a o e => s13 _ _ (s1 _ _ e)) (fun _ => rfl) fun z => absurd (hv3.mp hc) z
  · refine x_yes (by simp [hc]) ?_
    walk_at "k9"
    exact k _ _ (fun a o e => s13 _ _ (s1 _ _ e)) (fun z => absurd (hv3.mpr z) hc) fun _ => r1.old.same s13
/-! break_so -/
def brkF : Nat → List (List Rat) → Option (Nat × Nat)
  | _, [] => none
  | i, r :: rs => if 1 < r.length then some (i, r.length - 1) else brkF (i + 1) rs
def RBrk (H : Hp) (v : V) : Option (Nat × Nat) → Prop
  | none => v = .non
  | some (i, j) => ∃ p, v = .ref p ∧ H p = some (.tup [.int (i : Nat), .int (j : Nat)])
theorem RBrk.same {H H' : Hp} {v : V} {o : Option (Nat × Nat)} (h : RBrk H v o) (s : Same H H') : RBrk H' v o := by
  cases o with
  | none => exact h
  | some ij => obtain ⟨p, e, m⟩ := h; exact ⟨p, e, s _ _ m⟩
def sp_break_so : Sp := fun vs H Q _ => ∃ (v : V) (P : List Rat) (d : Nat), vs = [v, .int (d : Nat)] ∧ RP H v P ∧ WZ P d ∧
  ∀ H' v, Same H H' → RBrk H' v (brkF 0 (K9M.remsQ (K9M.candU P d) P)) → Q v H'
theorem x_enum {K : PySem.W.Frag} {σ : L2.St} {H : Hp} {ta : TA} {R : It → Hp → Prop} (k : ta σ H fun vs H1 => ∃ a xs, vs = [.ref a] ∧ SqL K H1 a xs ∧ R (Ite K a) H1) : iEnum K ta σ H R := k
theorem x_gT2n {K : PySem.W.Frag} {σ : L2.St} {H : Hp} {p : Addr} {x y : V} {i j n : Nat} (hn : n = 2) {R : L2.St → Hp → Prop} (h : H p = some (.tup [x, y])) (k : R ((σ.set i (some x)).set j (some y)) H) : gTup K n (gCons (gName i) (gCons (gName j) gNil)) (.ref p) σ H R := by
  subst hn; exact x_gT2 h k
abbrev s_break_so : Stmt := topS 31
abbrev N_break_so : List Str := ["poly", "degree", "index", "rest"]
theorem sc_break_so : FnScope N_break_so ["poly", "degree"] (defScope s_break_so) := ⟨rfl, rfl, rfl, by decide +kernel, rfl, by decide +kernel, by decide +kernel⟩
theorem kn_break_so (D : DefAt K mg "break_so" s_break_so) (T : Wd mg) (k_candidate_so : Kn P w K mg base CX0 4 "candidate_so" ["poly", "degree"] sp_candidate_so) (k_remainders : Kn P w K mg base CX0 4 "remainders" ["poly", "base"] sp_remainders) :
    Kn P w K mg base CX0 5 "break_so" ["poly", "degree"] sp_break_so := by
  have S := sc_break_so
  refine Kn.of D S (fun vs H Q E h => ?_) (fun _ _ _ _ _ _ us hl => match us, hl with | [_, _], _ => rfl) fun f cdv A outer s H vs Q E hr h => ?_
  · obtain ⟨_, _, _, rfl, _⟩ := h; rfl
  obtain ⟨v, P1, d, rfl, hv, wz, k⟩ := h
  refine ⟨_, PSs.nox (pss_cons (ps_for PassesOwn.never rfl (pi_enum (by rfl) T.enumerate (pa_cons (pe_kn k_remainders (hr.mono (by decide)) (by rfl) pass0 (pa_cons (pv 0) (pa_cons (pe_kn k_candidate_so (hr.mono (by decide)) (by rfl) pass0 (pa_cons (pv 0) (pa_cons (pv 1) pa_nil))) pa_nil))) pa_nil)) (pg_tup rfl (pgs_cons (pg_name (i := 2) S.nd rfl (by first | exact .inl rfl | exact .inr rfl)) (pgs_cons (pg_name (i := 3) S.nd rfl (by first | exact .inl rfl | exact .inr rfl)) pgs_nil)))
      (pss_one (ps_if (pt_cmpR op_gt (pe_callB (lenK (K := K) rfl) (by rfl) T.len PySem.boot_len (pa_cons (pe_ix (ixT (K := K) rfl) (pv 3) pe_int (fun _ _ => rfl)) pa_nil)) pe_int (nomark _))
        (pss_one (ps_ret (pe_tup (pa_cons (pv 2) (pa_cons (pe_op op_sub (pe_callB (lenK (K := K) rfl) (by rfl) T.len PySem.boot_len (pa_cons (pe_ix (ixT (K := K) rfl) (pv 3) pe_int (fun _ _ => rfl)) pa_nil)) pe_int) pa_nil))))) pss_nil)))
    (pss_one (ps_ret pe_non))), ?_⟩
  obtain ⟨h0, E0, cz⟩ := wz.cz
  obtain ⟨R, D0, sc, hD, hR, _⟩ := wz.sc
  obtain ⟨S0, b0, c0, B, uz, rb⟩ := wz.uz
  have nl := wz.len
  walk_at "k9"
  refine x_enum ?_
  walk_at "k9"
  refine ⟨_, P1, d, h0, E0, R, D0, rfl, hv, cz, K9M.lastQ_ne wz.nz wz.tr, by omega, sc, hD, hR, fun H1 u s1 r1 => ?_⟩
  walk_at "k9"
  refine ⟨_, _, P1, _, S0, b0, c0, B, rfl, hv.same s1, r1.old, uz, rb, by omega, fun H2 rs s2 r2 => ?_⟩
  walk_at "k9"
  obtain ⟨p, vs, rfl, hp, lv, fv⟩ := r2
  have s12 : Same H H2 := fun a o e => s2 _ _ (s1 _ _ e)
  generalize hrs : K9M.remsQ (K9M.candU P1 d) P1 = rs at *
  refine ⟨p, vs, rfl, .of hp, for_it (walk_enum (xs := vs)) (fun i σ' H' => ∃ x2 x3, σ' = [some v, some (.int (d : Nat)), x2, x3] ∧ Same H2 H' ∧ brkF 0 rs = brkF i (rs.drop i)) ⟨none, none, rfl, fun _ _ h => h, rfl⟩ (fun i σ' H' _ h => ?_) ?_ ?_⟩
  · obtain ⟨_, _, _, s, _⟩ := h
    exact .of (s _ _ hp)
  · rintro i x _ H3 H4 hi ⟨_, _, rfl, s3, eb⟩ ⟨T, y, z, rfl, hT, rfl, ey, ez⟩
    cases ey
    have s4 : Same H2 (upd H3 T (.tup [.int (i : Nat), z])) := fun a o e => mem_upd hT (s3 _ _ e)
    obtain ⟨r, er, q, a, ns, b, rfl, m1, m2, ip⟩ := fv i z ez
    have ed : rs.drop i = r :: rs.drop (i + 1) := by
      have hl := (List.getElem?_eq_some_iff.mp er)
      rw [List.drop_eq_getElem_cons hl.1, hl.2]
    rw [ed] at eb
    refine x_gT2n (by rfl) upd_same ?_
    walk_at "k9"
    refine x_ixT (s4 _ _ m1) rfl ?_
    walk_at "k9"
    refine ⟨a, _, rfl, .inl (.of (s4 _ _ m2)), ?_⟩
    walk_at "k9"
    rw [List.length_map, ip.len]
    by_cases h1 : 1 < r.length
    · refine x_yes (decide_eq_true (by omega)) ?_
      walk_at "k9"
      refine x_ixT (s4 _ _ m1) rfl ?_
      walk_at "k9"
      refine ⟨a, _, rfl, .inl (.of (s4 _ _ m2)), ?_⟩
      walk_at "k9"
      refine ⟨by show 2 ≤ sizeLine; decide, fun t1 ht1 => k _ _ (fun a o e => mem_upd ht1 (s4 _ _ (s12 _ _ e))) ?_⟩
      rw [eb]
      unfold brkF
      rw [if_pos h1]
      refine ⟨t1, rfl, ?_⟩
      rw [upd_same, List.length_map, ip.len, show ((r.length : Nat) : Int) - 1 = ((r.length - 1 : Nat) : Int) by omega]
    · refine x_no (decide_eq_false (by omega)) ?_
      walk_at "k9"
      refine ⟨_, _, rfl, s4, ?_⟩
      rw [eb]
      conv => lhs; unfold brkF
      rw [if_neg h1]
  rintro _ H3 ⟨_, _, rfl, s3, eb⟩
  walk_at "k9"
  refine k _ _ (fun a o e => s3 _ _ (s12 _ _ e)) ?_
  rw [eb, List.drop_eq_nil_of_le (by omega)]
  rfl
end
end K9

set_option Elab.async false
set_option linter.all false
set_option maxRecDepth 100000
set_option maxHeartbeats 4000000
namespace K9
open PySem PySem.Spec PyProof.Rows L2
local macro_rules | `(tactic| walk_at "k9mem") => `(tactic| first | with_reducible assumption | exact upd_same | ((with_reducible refine mem_upd (by with_reducible assumption) ?_); walk_at "k9mem") | ((with_reducible refine mem_same (by with_reducible assumption) ?_); walk_at "k9mem"))
local macro_rules | `(tactic| walk_at "k91") => `(tactic| with_reducible (first | refine x_seq ?_ | refine x_asg ?_ | refine x_name ?_ | refine x_ret ?_ | refine x_drop ?_ | refine x_next ?_ | refine x_ifs ?_ | refine x_if ?_ | refine x_test ?_ | refine x_tb ?_ | refine x_tnot ?_ | refine x_tand ?_ | refine x_tor ?_ | refine x_andv ?_ | refine x_orv ?_ | refine x_notv ?_ | refine x_var rfl ?_ | refine x_c ?_ | refine x_op ?_ | refine x_un ?_ | refine x_i0 ?_ | refine x_par ?_ | refine x_two ?_ | refine x_eqI ?_ | refine x_neI ?_ | refine x_u ?_ | refine x_call ?_ | refine x_cb ?_ | refine x_cons ?_ | refine x_nil ?_ | refine x_tup ?_ | refine x_lst ?_ | refine x_gcd ?_ | refine x_for ?_ | refine x_iL ?_ | refine x_iT ?_ | refine x_iR1 ?_ | refine x_iR2 ?_ | refine x_lc ?_ | refine x_bm ?_ | refine x_bm0 ?_ | refine x_sl ?_ | refine x_nopart ?_ | refine x_part ?_ | refine x_some ?_ | refine x_bl ?_))
local macro_rules | `(tactic| walk_at "k9") => `(tactic| repeat (walk_at "k91"))
theorem x_isi {K : PySem.W.Frag} {H : Hp} {Q : VK} {x : V} {t T : String} {b : Bool} (ty : TyOf K H x (.type t)) (e : kitB t T = some b) (k : Q (.bl b) H) : rIsi K [x, .ty T] H Q := ⟨x, .ty T, _, _, b, rfl, .ty T, .base ty, kit_ty e, k⟩
theorem x_chain {σ : L2.St} {H : Hp} {Q : VK} {r r' : R2} {ta tb tc : TE} (k : ta σ H fun x H1 => tb σ H1 fun y H2 => r x y H2 fun z H3 => ∃ k, z = .bl k ∧ (if k = true then tc σ H3 fun w' H4 => r' y w' H4 Q else Q (.bl false) H3)) : tChain r r' ta tb tc σ H Q := k
def isF (x : V) (lo hi : Int) : Bool := match x with | .int i => decide (lo ≤ i) && decide (i ≤ hi) | _ => false
def sp_is_from : Sp := fun vs H Q _ => ∃ (x : V) (lo hi : Int), vs = [x, .int lo, .int hi] ∧ ((∃ i, x = .int i) ∨ (∃ b, x = .bl b) ∨ ∃ s, x = .str s) ∧ Q (.bl (isF x lo hi)) H
/-- the numbers a step may have -/
def Num (q : Rat) : Prop := q.num.natAbs ≤ 10 ^ 60 ∧ q.den ≤ 10 ^ 60
section
variable {P : Program} {w : World} {K : PySem.W.Frag} {mg : Str → Option Value} {base : Heap}
abbrev s_is_from : Stmt := topS 9
abbrev N_is_from : List Str := ["value", "low", "high"]
theorem sc_is_from : FnScope N_is_from ["value", "low", "high"] (defScope s_is_from) := ⟨rfl, rfl, rfl, by decide +kernel, rfl, by decide +kernel, by decide +kernel⟩
theorem kn_is_from (D : DefAt K mg "is_from" s_is_from) (T : Wd mg) : Kn P w K mg base CX0 1 "is_from" ["value", "low", "high"] sp_is_from := by
  have S := sc_is_from
  refine Kn.of D S (fun vs H Q E h => ?_) (fun _ _ _ _ _ _ us hl => match us, hl with | [_, _, _], _ => rfl) fun f cdv A outer s H vs Q E hr h => ?_
  · obtain ⟨_, _, _, rfl, _⟩ := h; rfl
  obtain ⟨x, lo, hi, rfl, hx, k⟩ := h
  refine ⟨_, PSs.nox (pss_one (ps_ret (pe_and (pe_callB call_isi (by rfl) T.isinstance (by decide +kernel) (pa_cons (pv 0) (pa_cons (pe_bltn (v := .ty "int") (by rfl) T.int PyProof.Rows.boot_int rfl) pa_nil))) (pe_and (pe_not (pe_callB call_isi (by rfl) T.isinstance (by decide +kernel) (pa_cons (pv 0) (pa_cons (pe_bltn (v := .ty "bool") (by rfl) T.bool PyProof.Rows.boot_bool rfl) pa_nil)))) (pe_one (pe_chain op_le op_le (pv 1) (pv 0) (pv 2))))))), ?_⟩
  walk_at "k9"
  rcases hx with ⟨i, rfl⟩ | ⟨b, rfl⟩ | ⟨z, rfl⟩
  · refine x_isi (.int i) (b := true) (by decide +kernel) ?_
    refine ⟨_, rfl, x_yes rfl ?_⟩
    walk_at "k9"
    refine x_isi (.int i) (b := false) (by decide +kernel) ?_
    refine ⟨_, rfl, _, rfl, x_yes rfl ?_⟩
    refine x_chain ?_
    walk_at "k9"
    by_cases h1 : lo ≤ i
    · refine x_yes (decide_eq_true h1) ?_
      walk_at "k9"
      have : decide (i ≤ hi) = isF (.int i) lo hi := by unfold isF; simp [h1]
      rw [this]; exact k
    · refine x_no (decide_eq_false h1) ?_
      have : false = isF (.int i) lo hi := by unfold isF; simp [h1]
      rw [this]; exact k
  · refine x_isi (.bl b) (b := true) (by decide +kernel) ?_
    refine ⟨_, rfl, x_yes rfl ?_⟩
    walk_at "k9"
    refine x_isi (.bl b) (b := true) (by decide +kernel) ?_
    refine ⟨_, rfl, _, rfl, x_no rfl ?_⟩
    exact k
  · refine x_isi (.str z) (b := false) (by decide +kernel) ?_
    refine ⟨_, rfl, x_no rfl ?_⟩
    exact k
def sp_is_number : Sp := fun vs H Q _ => ∃ (v : V) (q : Rat), vs = [v] ∧ RQ H v q ∧ Num q ∧ Q (.bl true) H
abbrev s_is_number : Stmt := topS 10
abbrev N_is_number : List Str := ["value"]
theorem sc_is_number : FnScope N_is_number ["value"] (defScope s_is_number) := ⟨rfl, rfl, rfl, by decide +kernel, rfl, by decide +kernel, by decide +kernel⟩
theorem kn_is_number (D : DefAt K mg "is_number" s_is_number) (T : Wd mg) (k_is_from : Kn P w K mg base CX0 1 "is_from" ["value", "low", "high"] sp_is_from) : Kn P w K mg base CX0 2 "is_number" ["value"] sp_is_number := by
  have S := sc_is_number
  refine Kn.of D S (fun vs H Q E h => ?_) (fun _ _ _ _ _ _ us hl => match us, hl with | [_], _ => rfl) fun f cdv A outer s H vs Q E hr h => ?_
  · obtain ⟨_, _, rfl, _⟩ := h; rfl
  obtain ⟨_, q, rfl, ⟨p, rfl, hp⟩, ⟨n1, n2⟩, k⟩ := h
  refine ⟨_, PSs.nox (pss_cons (ps_if (PW.pt (pw_or (pt_not (pt_val (pe_callB call_isi (by rfl) T.isinstance (by decide +kernel) (pa_cons (pv 0) (pa_cons (pe_bltn (v := .ty "tuple") (by rfl) T.tuple PyProof.Rows.boot_tuple rfl) pa_nil))))) (pw_or1 (pt_cmpR op_ne (pe_callB (lenK (K := K) rfl) (by rfl) T.len PySem.boot_len (pa_cons (pv 0) pa_nil)) pe_int (nomark _)))))
      (pss_one (ps_ret pe_bl)) pss_nil)
    (pss_cons (ps_if (PW.pt (pw_or (pt_not (pt_val (pe_kn k_is_from (hr.mono (by decide)) (by rfl) pass0 (pa_cons (pe_ix (ixT (K := K) rfl) (pv 0) pe_int (fun _ _ => rfl)) (pa_cons (pe_un un_neg (pe_glob (v := .int (10 ^ 60)) (by rfl) T.c_MOST_PART.choose_spec ⟨_, rfl⟩)) (pa_cons (pe_glob (v := .int (10 ^ 60)) (by rfl) T.c_MOST_PART.choose_spec ⟨_, rfl⟩) pa_nil)))))) (pw_or1 (pt_not (pt_val (pe_kn k_is_from (hr.mono (by decide)) (by rfl) pass0 (pa_cons (pe_ix (ixT (K := K) rfl) (pv 0) pe_int (fun _ _ => rfl)) (pa_cons pe_int (pa_cons (pe_glob (v := .int (10 ^ 60)) (by rfl) T.c_MOST_PART.choose_spec ⟨_, rfl⟩) pa_nil)))))))))
      (pss_one (ps_ret pe_bl)) pss_nil)
    (pss_one (ps_ret (pe_cmpR op_eq (pe_callBfun cr_gcd (by rfl) T.gcd (pa_cons (pe_ix (ixT (K := K) rfl) (pv 0) pe_int (fun _ _ => rfl)) (pa_cons (pe_ix (ixT (K := K) rfl) (pv 0) pe_int (fun _ _ => rfl)) pa_nil))) pe_int (nomark _)))))), ?_⟩
  have hd := K9M.den_pos q
  walk_at "k9"
  refine x_isi (.tup hp) (b := true) (by decide +kernel) ?_
  refine ⟨_, rfl, x_no rfl ?_⟩
  walk_at "k9"
  refine ⟨p, _, rfl, .inr (.of hp), ?_⟩
  walk_at "k9"
  refine x_no (by simp) ?_
  walk_at "k9"
  refine x_ixT hp rfl ?_
  walk_at "k9"
  refine ⟨_, _, _, rfl, .inl ⟨_, rfl⟩, ?_⟩
  walk_at "k9"
  refine x_no (by unfold isF; simp; omega) ?_
  walk_at "k9"
  refine x_ixT hp rfl ?_
  walk_at "k9"
  refine ⟨_, _, _, rfl, .inl ⟨_, rfl⟩, ?_⟩
  walk_at "k9"
  refine x_no (by unfold isF; simp; omega) ?_
  walk_at "k9"
  refine x_ixT hp rfl ?_
  walk_at "k9"
  refine x_ixT hp rfl ?_
  walk_at "k9"
  rw [decide_eq_true (by rw [Int.natAbs_natCast]; have := q.reduced; unfold Nat.Coprime at this; rw [this]; rfl)]
  exact k
/-- a step: its numbers -/
structure Stp (qs : List Rat) : Prop where
  lo : 2 ≤ qs.length
  hi : qs.length ≤ 65
  num : ∀ q ∈ qs, Num q
  last : K9M.lastQ qs ≠ 0
def sp_is_step : Sp := fun vs H Q _ => ∃ v, vs = [v] ∧ ((v = .non ∧ Q (.bl false) H) ∨ ∃ qs, RS H v qs ∧ Stp qs ∧ Q (.bl true) H)
theorem Rqs.lastAt {H : Hp} {vs : List V} {qs : List Rat} (h : Rqs H vs qs) (hne : 1 ≤ qs.length) : ∃ v, atI vs (-1) = some v ∧ RQ H v (K9M.lastQ qs) := by
  obtain ⟨v, e, r⟩ := h.at (j := qs.length - 1) (by omega)
  exact ⟨v, at_neg (by omega) (by rw [h.1]; omega) e, r⟩
abbrev s_is_step : Stmt := topS 11
abbrev N_is_step : List Str := ["value", "number"]
theorem sc_is_step : FnScope N_is_step ["value"] (defScope s_is_step) := ⟨rfl, rfl, rfl, by decide +kernel, rfl, by decide +kernel, by decide +kernel⟩
theorem kn_is_step (D : DefAt K mg "is_step" s_is_step) (T : Wd mg) (k_is_number : Kn P w K mg base CX0 2 "is_number" ["value"] sp_is_number) : Kn P w K mg base CX0 3 "is_step" ["value"] sp_is_step := by
  have S := sc_is_step
  refine Kn.of D S (fun vs H Q E h => ?_) (fun _ _ _ _ _ _ us hl => match us, hl with | [_], _ => rfl) fun f cdv A outer s H vs Q E hr h => ?_
  · obtain ⟨_, rfl, _⟩ := h; rfl
  obtain ⟨_, rfl, h⟩ := h
  refine ⟨_, PSs.nox (pss_cons (ps_if (PW.pt (pw_or (pt_not (pt_val (pe_callB call_isi (by rfl) T.isinstance (by decide +kernel) (pa_cons (pv 0) (pa_cons (pe_bltn (v := .ty "tuple") (by rfl) T.tuple PyProof.Rows.boot_tuple rfl) pa_nil))))) (pw_or1 (pt_not (pt_chain op_le op_le pe_int (pe_callB (lenK (K := K) rfl) (by rfl) T.len PySem.boot_len (pa_cons (pv 0) pa_nil)) (pe_op op_add (pe_glob (v := .int 64) (by rfl) T.c_MOST_DEGREE.choose_spec ⟨_, rfl⟩) pe_int))))))
      (pss_one (ps_ret pe_bl)) pss_nil)
    (pss_cons (ps_for PassesOwn.never rfl (pi_tup (pv 0)) (pg_name (i := 1) S.nd rfl (by first | exact .inl rfl | exact .inr rfl))
      (pss_one (ps_if (pt_not (pt_val (pe_kn k_is_number (hr.mono (by decide)) (by rfl) pass0 (pa_cons (pv 1) pa_nil))))
        (pss_one (ps_ret pe_bl)) pss_nil)))
    (pss_one (ps_ret (pe_cmpR op_ne (pe_ix (ixT (K := K) rfl) (pe_ix (ixT (K := K) rfl) (pv 0) (pe_un un_neg pe_int) (fun _ _ => rfl)) pe_int (fun _ _ => rfl)) pe_int (nomark _)))))), ?_⟩
  rcases h with ⟨rfl, k⟩ | ⟨qs, ⟨p, vs, rfl, hp, rv⟩, st, k⟩
  · walk_at "k9"
    refine x_isi .non (b := false) (by decide +kernel) ?_
    refine ⟨_, rfl, x_yes rfl ?_⟩
    refine x_yes rfl ?_
    walk_at "k9"
    exact k
  have lv := rv.1
  have lo := st.lo
  have hi := st.hi
  walk_at "k9"
  refine x_isi (.tup hp) (b := true) (by decide +kernel) ?_
  refine ⟨_, rfl, x_no rfl ?_⟩
  walk_at "k9"
  refine x_chain ?_
  walk_at "k9"
  refine ⟨p, _, rfl, .inr (.of hp), ?_⟩
  walk_at "k9"
  refine x_yes (decide_eq_true (by omega)) ?_
  walk_at "k9"
  refine x_no (by simp; omega) ?_
  walk_at "k9"
  refine x_forT hp (fun i σ' H' => ∃ x, σ' = [some (.ref p), x] ∧ H = H') ⟨none, rfl, rfl⟩ (fun i σ' H' h => by obtain ⟨_, rfl, rfl⟩ := h; exact hp) ?_ ?_
  · rintro i x _ _ hx ⟨_, rfl, rfl⟩
    obtain ⟨q, e, r⟩ := rv.2 i x hx
    walk_at "k9"
    refine ⟨x, q, rfl, r, st.num q (get_mem e), ?_⟩
    walk_at "k9"
    refine x_no rfl ?_
    walk_at "k9"
    exact ⟨_, rfl, rfl⟩
  rintro _ _ ⟨_, rfl, rfl⟩
  obtain ⟨v, ev, b, rfl, hb⟩ := rv.lastAt (by omega)
  walk_at "k9"
  refine x_ixT hp ev ?_
  walk_at "k9"
  refine x_ixT hb rfl ?_
  walk_at "k9"
  rw [show (!decide ((K9M.lastQ qs).num = 0)) = true by simp [Rat.num_eq_zero, st.last]]
  exact k
end
end K9

set_option Elab.async false
set_option linter.all false
set_option maxRecDepth 100000
set_option maxHeartbeats 4000000
namespace K9
open PySem PySem.Spec PyProof.Rows L2
local macro_rules | `(tactic| walk_at "k9mem") => `(tactic| first | with_reducible assumption | exact upd_same | ((with_reducible refine mem_upd (by with_reducible assumption) ?_); walk_at "k9mem") | ((with_reducible refine mem_same (by with_reducible assumption) ?_); walk_at "k9mem"))
local macro_rules | `(tactic| walk_at "k91") => `(tactic| with_reducible (first | refine x_seq ?_ | refine x_asg ?_ | refine x_name ?_ | refine x_ret ?_ | refine x_drop ?_ | refine x_next ?_ | refine x_ifs ?_ | refine x_if ?_ | refine x_test ?_ | refine x_tb ?_ | refine x_tnot ?_ | refine x_tand ?_ | refine x_tor ?_ | refine x_andv ?_ | refine x_orv ?_ | refine x_notv ?_ | refine x_var rfl ?_ | refine x_c ?_ | refine x_op ?_ | refine x_un ?_ | refine x_i0 ?_ | refine x_par ?_ | refine x_two ?_ | refine x_eqI ?_ | refine x_neI ?_ | refine x_u ?_ | refine x_call ?_ | refine x_cb ?_ | refine x_cons ?_ | refine x_nil ?_ | refine x_tup ?_ | refine x_lst ?_ | refine x_gcd ?_ | refine x_for ?_ | refine x_iL ?_ | refine x_iT ?_ | refine x_iR1 ?_ | refine x_iR2 ?_ | refine x_lc ?_ | refine x_bm ?_ | refine x_bm0 ?_ | refine x_sl ?_ | refine x_nopart ?_ | refine x_part ?_ | refine x_some ?_ | refine x_bl ?_))
local macro_rules | `(tactic| walk_at "k9") => `(tactic| repeat (walk_at "k91"))
open PySem.K9X
/-- an own exception with a value, a class at C under the name x -/
structure ExV (P : Program) (K : PySem.W.Frag) (mg : Str → Option Value) (x : Str) (C : Addr) : Prop where
  ex : ∃ (fI : Addr) (qual : Str) (q1 q2 p0 p1 p2 p3 p4 p5 p6 p7 p8 p9 p10 : Pos) (z : Str), SupTxt P K mg C fI qual (psV q1 q2) (bodyV z p0 p1 p2 p3 p4 p5 p6 p7 p8 p9 p10) scV ∧ Ev p0 p1 p2 p4 [.Constant (.str z) 0 p3, .Name "value" p5]
  g : mg x = some (.ref C)
  b : ByC K C
structure ExN (P : Program) (K : PySem.W.Frag) (mg : Str → Option Value) (x : Str) (C : Addr) : Prop where
  ex : ∃ (fI : Addr) (qual : Str) (q1 p0 p1 p2 p3 p4 p6 : Pos) (z : Str), SupTxt P K mg C fI qual (psN q1) (bodyN z p0 p1 p2 p3 p4 p6) scN ∧ Ev p0 p1 p2 p4 [.Constant (.str z) 0 p3]
  g : mg x = some (.ref C)
section
variable {X : Cx} {C : Addr} {x : Str}
theorem pmk_V {a : Expr} {ta : TA} {p pos : Pos} {k : Nat} (T : ExV X.prog X.K X.mg x C) (hr : Room k X.A) (hg : Gl X x) (ha : PA X [a] ta) (hdb : (x == ("__debug__" : Str)) = false := by decide)
    (he : starEach (a :: []) X.env = (false, eval a X.env) :: starEach [] X.env := by rfl) (hpl : (backTo pos (starEach [] X.env)).any (·.1) = false := by rfl) :
    PMk X (.Call (.Name x p) [a] [] pos) (tMkV C ta) := by
  obtain ⟨fI, qual, q1, q2, p0, p1, p2, p3, p4, p5, p6, p7, p8, p9, p10, z, t, ev⟩ := T.ex
  exact pmk_val t T.g T.b.noV ev hr hg ha hdb he hpl
theorem pmk_N {p pos : Pos} {k : Nat} (T : ExN X.prog X.K X.mg x C) (hr : Room k X.A) (hg : Gl X x) (hdb : (x == ("__debug__" : Str)) = false := by decide) :
    PMk X (.Call (.Name x p) [] [] pos) (fun _ H Q => Q (.ref C) none H) := by
  obtain ⟨fI, qual, q1, p0, p1, p2, p3, p4, p6, z, t, ev⟩ := T.ex
  exact pmk_none t T.g ev hr hg hdb
end
theorem x_mkV {C : Addr} {ta : TA} {σ : L2.St} {H : Hp} {Q : XK} (k : ta σ H fun vs H1 => ∃ v, vs = [v] ∧ ∀ d, H1 d = none → Q (.ref C) (some d) (upd H1 d (.xd [(("value" : Str), v)]))) : tMkV C ta σ H Q := k
/-- told of a raised one: its class and its value -/
def Rsd (C : Addr) (v : V) (H : Hp) (E : XK) : Prop := ∀ H' d, Same H H' → H' d = some (.xd [(("value" : Str), v)]) → E (.ref C) (some d) H'
theorem Rsd.from {C : Addr} {v : V} {H H1 : Hp} {E : XK} (h : Rsd C v H E) (s : Same H H1) : Rsd C v H1 E := fun H' d s' e => h H' d (fun a o q => s' _ _ (s _ _ q)) e
def RsdN (C : Addr) (H : Hp) (E : XK) : Prop := ∀ H', Same H H' → E (.ref C) none H'
section
variable {P : Program} {w : World} {K : PySem.W.Frag} {mg : Str → Option Value} {base : Heap}
variable {CS CP CN : Addr}
/-! need_step -/
def sp_need_step (CS : Addr) : Sp := fun vs H Q E => ∃ v, vs = [v] ∧ ((v = .non ∧ Rsd CS .non H E) ∨ ∃ qs, RS H v qs ∧ Stp qs ∧ Q v H)
abbrev s_need_step : Stmt := topS 12
abbrev N_need_step : List Str := ["value"]
theorem sc_need_step : FnScope N_need_step ["value"] (defScope s_need_step) := ⟨rfl, rfl, rfl, by decide +kernel, rfl, by decide +kernel, by decide +kernel⟩
theorem kn_need_step (D : DefAt K mg "need_step" s_need_step) (XS : ExV P K mg "BadStep" CS) (k_is_step : Kn P w K mg base CX0 3 "is_step" ["value"] sp_is_step) : Kn P w K mg base (L2.CX P w) 4 "need_step" ["value"] (sp_need_step CS) := by
  have S := sc_need_step
  refine Kn.of D S (fun vs H Q E h => ?_) (fun _ _ _ _ _ _ us hl => match us, hl with | [_], _ => rfl) fun f cdv A outer s H vs Q E hr h => ?_
  · obtain ⟨_, rfl, _⟩ := h; rfl
  obtain ⟨v, rfl, h⟩ := h
  refine ⟨_, (pss_cons (ps_if (pt_not (pt_val (pe_kn k_is_step (hr.mono (by decide)) (by rfl) pass0 (pa_cons (pv 0) pa_nil)))) (pss_one (ps_raise rfl (takes_of rfl rfl rfl rfl) (pmk_V XS hr (by rfl) (pa_cons (pv 0) pa_nil)))) pss_nil)
    (pss_one (ps_ret (pv 0)))), ?_⟩
  rcases h with ⟨rfl, k⟩ | ⟨qs, hs, st, k⟩
  · walk_at "k9"
    refine ⟨_, rfl, .inl ⟨rfl, ?_⟩⟩
    walk_at "k9"
    refine x_yes rfl ?_
    refine x_mkV ?_
    walk_at "k9"
    exact ⟨_, rfl, fun d hd => k _ d (same_upd hd) upd_same⟩
  · walk_at "k9"
    refine ⟨_, rfl, .inr ⟨qs, hs, st, ?_⟩⟩
    walk_at "k9"
    refine x_no rfl ?_
    walk_at "k9"
    exact k
/-! need_divisor -/
def Dvs (qs : List Rat) (d : Nat) : Prop := 1 ≤ d ∧ d ≤ qs.length - 1 ∧ (qs.length - 1) % d = 0
instance (qs : List Rat) (d : Nat) : Decidable (Dvs qs d) := by unfold Dvs; infer_instance
def sp_need_divisor (CP : Addr) : Sp := fun vs H Q E => ∃ (v : V) (qs : List Rat) (d : Nat), vs = [v, .int (d : Nat)] ∧ RS H v qs ∧ 2 ≤ qs.length ∧ qs.length ≤ 65 ∧ (¬ Dvs qs d → Rsd CP (.int (d : Nat)) H E) ∧ (Dvs qs d → Q (.int (d : Nat)) H)
abbrev s_need_divisor : Stmt := topS 28
abbrev N_need_divisor : List Str := ["step", "degree"]
theorem sc_need_divisor : FnScope N_need_divisor ["step", "degree"] (defScope s_need_divisor) := ⟨rfl, rfl, rfl, by decide +kernel, rfl, by decide +kernel, by decide +kernel⟩
theorem kn_need_divisor (D : DefAt K mg "need_divisor" s_need_divisor) (T : Wd mg) (XP : ExV P K mg "BadParameter" CP) (k_is_from : Kn P w K mg base CX0 1 "is_from" ["value", "low", "high"] sp_is_from) : Kn P w K mg base (L2.CX P w) 2 "need_divisor" ["step", "degree"] (sp_need_divisor CP) := by
  have S := sc_need_divisor
  refine Kn.of D S (fun vs H Q E h => ?_) (fun _ _ _ _ _ _ us hl => match us, hl with | [_, _], _ => rfl) fun f cdv A outer s H vs Q E hr h => ?_
  · obtain ⟨_, _, _, rfl, _⟩ := h; rfl
  obtain ⟨_, qs, i, rfl, ⟨p, vs, rfl, hp, rv⟩, lo, hi, kx, k⟩ := h
  refine ⟨_, (pss_cons (ps_if (PW.pt (pw_or (pt_not (pt_val (pe_kn k_is_from (hr.mono (by decide)) (by rfl) pass0 (pa_cons (pv 1) (pa_cons pe_int (pa_cons (pe_op op_sub (pe_callB (lenK (K := K) rfl) (by rfl) T.len PySem.boot_len (pa_cons (pv 0) pa_nil)) pe_int) pa_nil)))))) (pw_or1 (pt_cmpR op_ne (pe_op op_mod (pe_op op_sub (pe_callB (lenK (K := K) rfl) (by rfl) T.len PySem.boot_len (pa_cons (pv 0) pa_nil)) pe_int) (pv 1)) pe_int (nomark _)))))
      (pss_one (ps_raise rfl (takes_of rfl rfl rfl rfl) (pmk_V XP hr (by rfl) (pa_cons (pv 1) pa_nil)))) pss_nil)
    (pss_one (ps_ret (pv 1)))), ?_⟩
  have lv := rv.1
  walk_at "k9"
  refine ⟨p, _, rfl, .inr (.of hp), ?_⟩
  walk_at "k9"
  refine ⟨_, _, _, rfl, .inl ⟨_, rfl⟩, ?_⟩
  rw [lv]
  walk_at "k9"
  by_cases h1 : 1 ≤ i ∧ i ≤ qs.length - 1
  · refine x_no (by unfold isF; simp; omega) ?_
    walk_at "k9"
    refine ⟨p, _, rfl, .inr (.of hp), ?_⟩
    rw [lv]
    walk_at "k9"
    refine x_i (by omega) ?_
    have e : (((qs.length : Nat) : Int) - 1) % (i : Int) = (((qs.length - 1) % i : Nat) : Int) := by
      rw [show ((qs.length : Nat) : Int) - 1 = ((qs.length - 1 : Nat) : Int) by omega]; rfl
    rw [e]
    walk_at "k9"
    by_cases h2 : (qs.length - 1) % i = 0
    · refine x_no (by simp [h2]) ?_
      walk_at "k9"
      exact k ⟨h1.1, h1.2, h2⟩
    · refine x_yes (by simp; omega) ?_
      refine x_mkV ?_
      walk_at "k9"
      exact ⟨_, rfl, fun d hd => kx (fun z => h2 z.2.2) _ d (same_upd hd) upd_same⟩
  · refine x_yes (by unfold isF; simp; omega) ?_
    refine x_yes rfl ?_
    refine x_mkV ?_
    walk_at "k9"
    exact ⟨_, rfl, fun d hd => kx (fun z => h1 ⟨z.1, z.2.1⟩) _ d (same_upd hd) upd_same⟩
/-! candidate -/
theorem Rsd.mk {C : Addr} {v : V} {H H1 : Hp} {E : XK} (h : Rsd C v H E) (s : Same H H1) : Rsd C v H1 E := h.from s
def sp_candidate : Sp := fun vs H Q _ => ∃ (v : V) (qs : List Rat) (d : Nat), vs = [v, .int (d : Nat)] ∧ RS H v qs ∧ Stp qs ∧ Dvs qs d ∧ WZ qs d ∧ ∀ H' v, Same H H' → RS H' v (K9M.candU qs d) → Q v H'
theorem WZ.candS {qs : List Rat} {d : Nat} (wz : WZ qs d) : ∃ R D, K9M.SC R D (K9M.candU qs d) ∧ 0 < D ∧ D.natAbs < 2 ^ 9000 ∧ (K9M.candU qs d).length ≤ 100000 := by
  obtain ⟨h0, E0, cz⟩ := wz.cz
  have hd := cz.hd
  have hd9 := cz.hd9
  have pw := cz.pw (j := d - 1) (by omega)
  exact ⟨_, _, K9M.candU_SC hd hd9 cz.hr cz.hr9 cz.hE cz.hE2 cz.hit, pw.2, Nat.lt_of_le_of_lt pw.1 (by decide), by rw [K9M.candU_len hd]; omega⟩
abbrev s_candidate : Stmt := topS 29
abbrev N_candidate : List Str := ["step", "degree"]
theorem sc_candidate : FnScope N_candidate ["step", "degree"] (defScope s_candidate) := ⟨rfl, rfl, rfl, by decide +kernel, rfl, by decide +kernel, by decide +kernel⟩
theorem kn_candidate (D : DefAt K mg "candidate" s_candidate) (k_need_step : Kn P w K mg base (L2.CX P w) 4 "need_step" ["value"] (sp_need_step CS)) (k_need_divisor : Kn P w K mg base (L2.CX P w) 2 "need_divisor" ["step", "degree"] (sp_need_divisor CP))
    (k_as_poly : Kn P w K mg base CX0 2 "as_poly" ["step"] sp_as_poly) (k_as_step : Kn P w K mg base CX0 2 "as_step" ["poly"] sp_as_step) (k_candidate_so : Kn P w K mg base CX0 4 "candidate_so" ["poly", "degree"] sp_candidate_so) :
    Kn P w K mg base (L2.CX P w) 5 "candidate" ["step", "degree"] sp_candidate := by
  have S := sc_candidate
  refine Kn.of D S (fun vs H Q E h => ?_) (fun _ _ _ _ _ _ us hl => match us, hl with | [_, _], _ => rfl) fun f cdv A outer s H vs Q E hr h => ?_
  · obtain ⟨_, _, _, rfl, _⟩ := h; rfl
  obtain ⟨v, qs, d, rfl, hv, st, dv, wz, k⟩ := h
  refine ⟨_, (pss_cons (ps_expr (pe_kn k_need_step (hr.mono (by decide)) (by rfl) (passes_call (takes_of rfl rfl rfl rfl) fun _ _ _ _ h => h) (pa_cons (pv 0) pa_nil)))
    (pss_one (ps_ret (pe_kn k_as_step (hr.mono (by decide)) (by rfl) pass0 (pa_cons (pe_kn k_candidate_so (hr.mono (by decide)) (by rfl) pass0 (pa_cons (pe_kn k_as_poly (hr.mono (by decide)) (by rfl) pass0 (pa_cons (pv 0) pa_nil)) (pa_cons (pe_kn k_need_divisor (hr.mono (by decide)) (by rfl) (passes_call (takes_of rfl rfl rfl rfl) fun _ _ _ _ h => h) (pa_cons (pv 0) (pa_cons (pv 1) pa_nil))) pa_nil))) pa_nil))))), ?_⟩
  obtain ⟨R, D0, sc, hD, hR, hz⟩ := wz.sc
  obtain ⟨h0, E0, cz⟩ := wz.cz
  obtain ⟨R2, D2, sc2, hD2, hz2, l2⟩ := wz.candS
  have lo := st.lo
  have hi := st.hi
  have nl := wz.len
  walk_at "k9"
  refine ⟨_, rfl, .inr ⟨qs, hv, st, ?_⟩⟩
  walk_at "k9"
  refine ⟨_, qs, R, D0, rfl, hv, by omega, sc, by unfold RN; omega, hD, hz, fun H1 pv s1 r1 => ?_⟩
  rw [K9M.tr_eq wz.tr] at r1
  walk_at "k9"
  refine ⟨_, qs, d, rfl, hv.same s1, lo, hi, fun z => absurd dv z, fun _ => ?_⟩
  walk_at "k9"
  refine ⟨_, qs, d, h0, E0, R, D0, rfl, r1.old, cz, K9M.lastQ_ne wz.nz wz.tr, by omega, sc, hD, hR, fun H2 u s2 r2 => ?_⟩
  walk_at "k9"
  exact ⟨_, _, R2, D2, rfl, r2.old, l2, sc2, hD2, hz2, fun H3 v3 s3 r3 => k _ _ (fun a o e => s3 _ _ (s2 _ _ (s1 _ _ e))) r3⟩
/-! first_part -/
def sp_first_part (CP CN : Addr) : Sp := fun vs H Q E => ∃ (v : V) (qs : List Rat) (d : Nat), vs = [v, .int (d : Nat)] ∧ RS H v qs ∧ Stp qs ∧ Dvs qs d ∧ WZ qs d ∧
  ((∃ r ∈ K9M.remsQ (K9M.candU qs d) qs, 1 < r.length) → RsdN CN H E) ∧ ((¬ ∃ r ∈ K9M.remsQ (K9M.candU qs d) qs, 1 < r.length) → ∀ H' v, Same H H' → RS H' v (K9M.candU qs d) → Q v H')
abbrev s_first_part : Stmt := topS 30
abbrev N_first_part : List Str := ["step", "degree", "found"]
theorem sc_first_part : FnScope N_first_part ["step", "degree"] (defScope s_first_part) := ⟨rfl, rfl, rfl, by decide +kernel, rfl, by decide +kernel, by decide +kernel⟩
theorem kn_first_part (D : DefAt K mg "first_part" s_first_part) (XN : ExN P K mg "NoRow" CN) (k_need_step : Kn P w K mg base (L2.CX P w) 4 "need_step" ["value"] (sp_need_step CS)) (k_need_divisor : Kn P w K mg base (L2.CX P w) 2 "need_divisor" ["step", "degree"] (sp_need_divisor CP))
    (k_as_poly : Kn P w K mg base CX0 2 "as_poly" ["step"] sp_as_poly) (k_as_step : Kn P w K mg base CX0 2 "as_step" ["poly"] sp_as_step) (k_part_so : Kn P w K mg base CX0 5 "part_so" ["poly", "degree"] sp_part_so) :
    Kn P w K mg base (L2.CX P w) 6 "first_part" ["step", "degree"] (sp_first_part CP CN) := by
  have S := sc_first_part
  refine Kn.of D S (fun vs H Q E h => ?_) (fun _ _ _ _ _ _ us hl => match us, hl with | [_, _], _ => rfl) fun f cdv A outer s H vs Q E hr h => ?_
  · obtain ⟨_, _, _, rfl, _⟩ := h; rfl
  obtain ⟨v, qs, d, rfl, hv, st, dv, wz, kx, k⟩ := h
  refine ⟨_, (pss_cons (ps_expr (pe_kn k_need_step (hr.mono (by decide)) (by rfl) (passes_call (takes_of rfl rfl rfl rfl) fun _ _ _ _ h => h) (pa_cons (pv 0) pa_nil)))
    (pss_cons (ps_set (i := 2) S.nd rfl (Or.inl rfl) (pe_kn k_part_so (hr.mono (by decide)) (by rfl) pass0 (pa_cons (pe_kn k_as_poly (hr.mono (by decide)) (by rfl) pass0 (pa_cons (pv 0) pa_nil)) (pa_cons (pe_kn k_need_divisor (hr.mono (by decide)) (by rfl) (passes_call (takes_of rfl rfl rfl rfl) fun _ _ _ _ h => h) (pa_cons (pv 0) (pa_cons (pv 1) pa_nil))) pa_nil))))
    (pss_cons (ps_if (pt_cmpR op_isN (pv 2) pe_non (nomark _))
      (pss_one (ps_raise rfl (takes_of rfl rfl rfl rfl) (pmk_N XN hr (by rfl)))) pss_nil)
    (pss_one (ps_ret (pe_kn k_as_step (hr.mono (by decide)) (by rfl) pass0 (pa_cons (pv 2) pa_nil))))))), ?_⟩
  obtain ⟨R, D0, sc, hD, hR, hz⟩ := wz.sc
  obtain ⟨R2, D2, sc2, hD2, hz2, l2⟩ := wz.candS
  have lo := st.lo
  have hi := st.hi
  walk_at "k9"
  refine ⟨_, rfl, .inr ⟨qs, hv, st, ?_⟩⟩
  walk_at "k9"
  refine ⟨_, qs, R, D0, rfl, hv, by omega, sc, by unfold RN; omega, hD, hz, fun H1 pv s1 r1 => ?_⟩
  rw [K9M.tr_eq wz.tr] at r1
  walk_at "k9"
  refine ⟨_, qs, d, rfl, hv.same s1, lo, hi, fun z => absurd dv z, fun _ => ?_⟩
  walk_at "k9"
  refine ⟨_, qs, d, rfl, r1.old, wz, fun H2 u s2 c1 c2 => ?_⟩
  walk_at "k9"
  refine ⟨rfl, ?_⟩
  walk_at "k9"
  by_cases hc : ∃ r ∈ K9M.remsQ (K9M.candU qs d) qs, 1 < r.length
  · refine x_yes (by simp [c1 hc]) ?_
    exact kx hc _ fun a o e => s2 _ _ (s1 _ _ e)
  · have r2 := c2 hc
    refine x_no (by obtain ⟨p, _, _, _, rfl, _⟩ := r2; simp) ?_
    walk_at "k9"
    exact ⟨_, _, R2, D2, rfl, r2, l2, sc2, hD2, hz2, fun H3 v3 s3 r3 => k hc _ _ (fun a o e => s3 _ _ (s2 _ _ (s1 _ _ e))) r3⟩
/-! first_break -/
def sp_first_break (CP CN : Addr) : Sp := fun vs H Q E => ∃ (v : V) (qs : List Rat) (d : Nat), vs = [v, .int (d : Nat)] ∧ RS H v qs ∧ Stp qs ∧ (∃ R D, K9M.SC R D qs ∧ 0 < D ∧ R ≤ 9000 ∧ D.natAbs < 2 ^ 4500) ∧ K9M.Tr qs ∧ (¬ Dvs qs d → Rsd CP (.int (d : Nat)) H E) ∧ (Dvs qs d → WZ qs d ∧
  (brkF 0 (K9M.remsQ (K9M.candU qs d) qs) = none → RsdN CN H E) ∧ ∀ i j, brkF 0 (K9M.remsQ (K9M.candU qs d) qs) = some (i, j) → ∀ H' v, Same H H' → RBrk H' v (some (i, j)) → Q v H')
abbrev s_first_break : Stmt := topS 32
abbrev N_first_break : List Str := ["step", "degree", "found"]
theorem sc_first_break : FnScope N_first_break ["step", "degree"] (defScope s_first_break) := ⟨rfl, rfl, rfl, by decide +kernel, rfl, by decide +kernel, by decide +kernel⟩
theorem kn_first_break (D : DefAt K mg "first_break" s_first_break) (XN : ExN P K mg "NoRow" CN) (k_need_step : Kn P w K mg base (L2.CX P w) 4 "need_step" ["value"] (sp_need_step CS)) (k_need_divisor : Kn P w K mg base (L2.CX P w) 2 "need_divisor" ["step", "degree"] (sp_need_divisor CP))
    (k_as_poly : Kn P w K mg base CX0 2 "as_poly" ["step"] sp_as_poly) (k_break_so : Kn P w K mg base CX0 5 "break_so" ["poly", "degree"] sp_break_so) :
    Kn P w K mg base (L2.CX P w) 6 "first_break" ["step", "degree"] (sp_first_break CP CN) := by
  have S := sc_first_break
  refine Kn.of D S (fun vs H Q E h => ?_) (fun _ _ _ _ _ _ us hl => match us, hl with | [_, _], _ => rfl) fun f cdv A outer s H vs Q E hr h => ?_
  · obtain ⟨_, _, _, rfl, _⟩ := h; rfl
  obtain ⟨v, qs, d, rfl, hv, st, ⟨R, D0, sc, hD, hR, hz⟩, tr, kd, k⟩ := h
  refine ⟨_, (pss_cons (ps_expr (pe_kn k_need_step (hr.mono (by decide)) (by rfl) (passes_call (takes_of rfl rfl rfl rfl) fun _ _ _ _ h => h) (pa_cons (pv 0) pa_nil)))
    (pss_cons (ps_set (i := 2) S.nd rfl (Or.inl rfl) (pe_kn k_break_so (hr.mono (by decide)) (by rfl) pass0 (pa_cons (pe_kn k_as_poly (hr.mono (by decide)) (by rfl) pass0 (pa_cons (pv 0) pa_nil)) (pa_cons (pe_kn k_need_divisor (hr.mono (by decide)) (by rfl) (passes_call (takes_of rfl rfl rfl rfl) fun _ _ _ _ h => h) (pa_cons (pv 0) (pa_cons (pv 1) pa_nil))) pa_nil))))
    (pss_cons (ps_if (pt_cmpR op_isN (pv 2) pe_non (nomark _))
      (pss_one (ps_raise rfl (takes_of rfl rfl rfl rfl) (pmk_N XN hr (by rfl)))) pss_nil)
    (pss_one (ps_ret (pv 2)))))), ?_⟩
  have lo := st.lo
  have hi := st.hi
  walk_at "k9"
  refine ⟨_, rfl, .inr ⟨qs, hv, st, ?_⟩⟩
  walk_at "k9"
  refine ⟨_, qs, R, D0, rfl, hv, by omega, sc, by unfold RN; omega, hD, hz, fun H1 pv s1 r1 => ?_⟩
  rw [K9M.tr_eq tr] at r1
  walk_at "k9"
  refine ⟨_, qs, d, rfl, hv.same s1, lo, hi, fun z => (kd z).from s1, fun dv => ?_⟩
  obtain ⟨wz, kn, ks⟩ := k dv
  walk_at "k9"
  refine ⟨_, qs, d, rfl, r1.old, wz, fun H2 u s2 r2 => ?_⟩
  have s12 : Same H H2 := fun a o e => s2 _ _ (s1 _ _ e)
  walk_at "k9"
  refine ⟨rfl, ?_⟩
  walk_at "k9"
  cases hb : brkF 0 (K9M.remsQ (K9M.candU qs d) qs) with
  | none =>
    rw [hb] at r2
    refine x_yes (by have : u = .non := r2; simp [this]) ?_
    exact kn hb _ s12
  | some ij =>
    obtain ⟨i, j⟩ := ij
    rw [hb] at r2
    refine x_no (by obtain ⟨p, rfl, _⟩ := r2; simp) ?_
    walk_at "k9"
    exact ks i j hb _ _ s12 r2
end
end K9

set_option Elab.async false
set_option linter.all false
set_option maxRecDepth 100000
set_option maxHeartbeats 4000000
namespace K9
open PySem PySem.Spec PyProof.Rows L2
local macro_rules | `(tactic| walk_at "k9mem") => `(tactic| first | with_reducible assumption | exact upd_same | ((with_reducible refine mem_upd (by with_reducible assumption) ?_); walk_at "k9mem") | ((with_reducible refine mem_same (by with_reducible assumption) ?_); walk_at "k9mem"))
local macro_rules | `(tactic| walk_at "k91") => `(tactic| with_reducible (first | refine x_seq ?_ | refine x_asg ?_ | refine x_name ?_ | refine x_ret ?_ | refine x_drop ?_ | refine x_next ?_ | refine x_ifs ?_ | refine x_if ?_ | refine x_test ?_ | refine x_tb ?_ | refine x_tnot ?_ | refine x_tand ?_ | refine x_tor ?_ | refine x_andv ?_ | refine x_orv ?_ | refine x_notv ?_ | refine x_var rfl ?_ | refine x_c ?_ | refine x_op ?_ | refine x_un ?_ | refine x_i0 ?_ | refine x_par ?_ | refine x_two ?_ | refine x_eqI ?_ | refine x_neI ?_ | refine x_u ?_ | refine x_call ?_ | refine x_cb ?_ | refine x_cons ?_ | refine x_nil ?_ | refine x_tup ?_ | refine x_lst ?_ | refine x_gcd ?_ | refine x_for ?_ | refine x_iL ?_ | refine x_iT ?_ | refine x_iR1 ?_ | refine x_iR2 ?_ | refine x_lc ?_ | refine x_bm ?_ | refine x_bm0 ?_ | refine x_sl ?_ | refine x_nopart ?_ | refine x_part ?_ | refine x_some ?_ | refine x_bl ?_))
local macro_rules | `(tactic| walk_at "k9") => `(tactic| repeat (walk_at "k91"))
def Sc (x : V) : Prop := (∃ i, x = .int i) ∨ (∃ b, x = .bl b) ∨ ∃ s, x = .str s
def pairO : V → V → Option (Int × Int)
  | .int i, .int j => some (i, j)
  | _, _ => none
/-- what is_break is given: a pair of ints, or another thing -/
def AV (H : Hp) (u : V) (o : Option (Int × Int)) : Prop :=
  (∃ (p : Addr) (x y : V), u = .ref p ∧ H p = some (.tup [x, y]) ∧ Sc x ∧ Sc y ∧ o = pairO x y) ∨ (o = none ∧ (u = .non ∨ (∃ i, u = .int i) ∨ (∃ p xs, u = .ref p ∧ H p = some (.lst xs)) ∨ (∃ p xs, u = .ref p ∧ H p = some (.tup xs) ∧ xs.length ≠ 2)))
theorem AV.same {H H' : Hp} {u : V} {o : Option (Int × Int)} (h : AV H u o) (s : Same H H') : AV H' u o := by
  rcases h with ⟨p, x, y, e, m, r⟩ | ⟨e, h⟩
  · exact .inl ⟨p, x, y, e, s _ _ m, r⟩
  · refine .inr ⟨e, ?_⟩
    rcases h with h | h | ⟨p, xs, e2, m⟩ | ⟨p, xs, e2, m, l⟩
    · exact .inl h
    · exact .inr (.inl h)
    · exact .inr (.inr (.inl ⟨p, xs, e2, s _ _ m⟩))
    · exact .inr (.inr (.inr ⟨p, xs, e2, s _ _ m, l⟩))
def isB (rs : List (List Rat)) : Option (Int × Int) → Bool
  | none => false
  | some (i, j) => decide (0 ≤ i) && (decide (i ≤ (rs.length : Int) - 1) && (decide (1 ≤ j) && (decide (j ≤ ((rs.getD i.toNat []).length : Int) - 1) && decide (K9M.coef (rs.getD i.toNat []) j.toNat ≠ 0))))
def sp_is_break (CS CP : Addr) : Sp := fun vs H Q E => ∃ (v u : V) (d : Nat), vs = [v, .int (d : Nat), u] ∧ ((v = .non ∧ Rsd CS .non H E) ∨
  ∃ (qs : List Rat) (o : Option (Int × Int)), RS H v qs ∧ Stp qs ∧ (∃ R D, K9M.SC R D qs ∧ 0 < D ∧ R ≤ 9000 ∧ D.natAbs < 2 ^ 4500) ∧ K9M.Tr qs ∧ (¬ Dvs qs d → Rsd CP (.int (d : Nat)) H E) ∧
    (Dvs qs d → WZ qs d ∧ AV H u o ∧ ∀ H', Same H H' → Q (.bl (isB (K9M.remsQ (K9M.candU qs d) qs) o)) H'))
theorem isF_int {i lo hi : Int} : isF (.int i) lo hi = (decide (lo ≤ i) && decide (i ≤ hi)) := rfl
theorem isB_some (rs : List (List Rat)) (i j : Int) : isB rs (pairO (.int i) (.int j)) = (decide (0 ≤ i) && (decide (i ≤ (rs.length : Int) - 1) && (decide (1 ≤ j) && (decide (j ≤ ((rs.getD i.toNat []).length : Int) - 1) && decide (K9M.coef (rs.getD i.toNat []) j.toNat ≠ 0))))) := rfl
section
variable {P : Program} {w : World} {K : PySem.W.Frag} {mg : Str → Option Value} {base : Heap}
variable {CS CP CN : Addr}
abbrev s_is_break : Stmt := topS 33
abbrev N_is_break : List Str := ["step", "degree", "value", "rests", "numbers"]
theorem sc_is_break : FnScope N_is_break ["step", "degree", "value"] (defScope s_is_break) := ⟨rfl, rfl, rfl, by decide +kernel, rfl, by decide +kernel, by decide +kernel⟩
theorem kn_is_break (D : DefAt K mg "is_break" s_is_break) (T : Wd mg) (k_is_from : Kn P w K mg base CX0 1 "is_from" ["value", "low", "high"] sp_is_from) (k_need_step : Kn P w K mg base (L2.CX P w) 4 "need_step" ["value"] (sp_need_step CS)) (k_need_divisor : Kn P w K mg base (L2.CX P w) 2 "need_divisor" ["step", "degree"] (sp_need_divisor CP))
    (k_as_poly : Kn P w K mg base CX0 2 "as_poly" ["step"] sp_as_poly) (k_candidate_so : Kn P w K mg base CX0 4 "candidate_so" ["poly", "degree"] sp_candidate_so) (k_remainders : Kn P w K mg base CX0 4 "remainders" ["poly", "base"] sp_remainders) :
    Kn P w K mg base (L2.CX P w) 5 "is_break" ["step", "degree", "value"] (sp_is_break CS CP) := by
  have S := sc_is_break
  refine Kn.of D S (fun vs H Q E h => ?_) (fun _ _ _ _ _ _ us hl => match us, hl with | [_, _, _], _ => rfl) fun f cdv A outer s H vs Q E hr h => ?_
  · obtain ⟨_, _, _, rfl, _⟩ := h; rfl
  obtain ⟨v, u, d, rfl, h⟩ := h
  refine ⟨_, (pss_cons (ps_expr (pe_kn k_need_step (hr.mono (by decide)) (by rfl) (passes_call (takes_of rfl rfl rfl rfl) fun _ _ _ _ h => h) (pa_cons (pv 0) pa_nil)))
    (pss_cons (ps_set (i := 3) S.nd rfl (Or.inl rfl) (pe_kn k_remainders (hr.mono (by decide)) (by rfl) pass0 (pa_cons (pe_kn k_as_poly (hr.mono (by decide)) (by rfl) pass0 (pa_cons (pv 0) pa_nil)) (pa_cons (pe_kn k_candidate_so (hr.mono (by decide)) (by rfl) pass0 (pa_cons (pe_kn k_as_poly (hr.mono (by decide)) (by rfl) pass0 (pa_cons (pv 0) pa_nil)) (pa_cons (pe_kn k_need_divisor (hr.mono (by decide)) (by rfl) (passes_call (takes_of rfl rfl rfl rfl) fun _ _ _ _ h => h) (pa_cons (pv 0) (pa_cons (pv 1) pa_nil))) pa_nil))) pa_nil))))
    (pss_cons (ps_if (PW.pt (pw_or (pt_not (pt_val (pe_callB call_isi (by rfl) T.isinstance (by decide +kernel) (pa_cons (pv 2) (pa_cons (pe_bltn (v := .ty "tuple") (by rfl) T.tuple PyProof.Rows.boot_tuple rfl) pa_nil))))) (pw_or1 (pt_cmpR op_ne (pe_callB (lenK (K := K) rfl) (by rfl) T.len PySem.boot_len (pa_cons (pv 2) pa_nil)) pe_int (nomark _)))))
      (pss_one (ps_ret pe_bl)) pss_nil)
    (pss_cons (ps_if (pt_not (pt_val (pe_kn k_is_from (hr.mono (by decide)) (by rfl) pass0 (pa_cons (pe_ix (ixT (K := K) rfl) (pv 2) pe_int (fun _ _ => rfl)) (pa_cons pe_int (pa_cons (pe_op op_sub (pe_callB (lenK (K := K) rfl) (by rfl) T.len PySem.boot_len (pa_cons (pv 3) pa_nil)) pe_int) pa_nil))))))
      (pss_one (ps_ret pe_bl)) pss_nil)
    (pss_cons (ps_set (i := 4) S.nd rfl (Or.inl rfl) (pe_ix (ixT (K := K) rfl) (pe_ix (ixL (K := K) rfl) (pv 3) (pe_ix (ixT (K := K) rfl) (pv 2) pe_int (fun _ _ => rfl)) (fun _ _ => rfl)) pe_int (fun _ _ => rfl)))
    (pss_one (ps_ret (pe_and (pe_kn k_is_from (hr.mono (by decide)) (by rfl) pass0 (pa_cons (pe_ix (ixT (K := K) rfl) (pv 2) pe_int (fun _ _ => rfl)) (pa_cons pe_int (pa_cons (pe_op op_sub (pe_callB (lenK (K := K) rfl) (by rfl) T.len PySem.boot_len (pa_cons (pv 4) pa_nil)) pe_int) pa_nil)))) (pe_one (pe_cmpR op_ne (pe_ix (ixL (K := K) rfl) (pv 4) (pe_ix (ixT (K := K) rfl) (pv 2) pe_int (fun _ _ => rfl)) (fun _ _ => rfl)) pe_int (nomark _))))))))))), ?_⟩
  rcases h with ⟨rfl, kx⟩ | ⟨qs, o, hv, st, ⟨R, D0, sc, hD, hR, hz⟩, tr, kd, k⟩
  · walk_at "k9"
    exact ⟨_, rfl, .inl ⟨rfl, kx⟩⟩
  have lo := st.lo
  have hi := st.hi
  walk_at "k9"
  refine ⟨_, rfl, .inr ⟨qs, hv, st, ?_⟩⟩
  walk_at "k9"
  refine ⟨_, qs, R, D0, rfl, hv, by omega, sc, by unfold RN; omega, hD, hz, fun H1 pv1 s1 r1 => ?_⟩
  rw [K9M.tr_eq tr] at r1
  walk_at "k9"
  refine ⟨_, qs, R, D0, rfl, hv.same s1, by omega, sc, by unfold RN; omega, hD, hz, fun H2 pv2 s2 r2 => ?_⟩
  rw [K9M.tr_eq tr] at r2
  have s12 : Same H H2 := fun a o e => s2 _ _ (s1 _ _ e)
  walk_at "k9"
  refine ⟨_, qs, d, rfl, hv.same s12, lo, hi, fun z => (kd z).from s12, fun dv => ?_⟩
  obtain ⟨wz, av, ks⟩ := k dv
  obtain ⟨h0, E0, cz⟩ := wz.cz
  obtain ⟨S0, b0, c0, B, uz, rb⟩ := wz.uz
  walk_at "k9"
  refine ⟨_, qs, d, h0, E0, R, D0, rfl, r2.old, cz, K9M.lastQ_ne wz.nz wz.tr, by omega, sc, hD, hR, fun H3 cv s3 r3 => ?_⟩
  walk_at "k9"
  refine ⟨_, _, qs, _, S0, b0, c0, B, rfl, r1.old.same (fun a o e => s3 _ _ (s2 _ _ e)), r3.old, uz, rb, by omega, fun H4 rv s4 r4 => ?_⟩
  have s14 : Same H H4 := fun a o e => s4 _ _ (s3 _ _ (s12 _ _ e))
  replace av := av.same s14
  obtain ⟨rp, rvs, rfl, hrp, lrv, frv⟩ := r4
  walk_at "k9"
  generalize hrs : K9M.remsQ (K9M.candU qs d) qs = rs at *
  rcases av with ⟨p, x, y, rfl, hp, hx, hy, rfl⟩ | ⟨rfl, h⟩
  · refine x_isi (.tup hp) (b := true) (by decide +kernel) ?_
    refine ⟨_, rfl, x_no rfl ?_⟩
    walk_at "k9"
    refine ⟨p, _, rfl, .inr (.of hp), ?_⟩
    walk_at "k9"
    refine x_no (by simp) ?_
    walk_at "k9"
    refine x_ixT hp rfl ?_
    walk_at "k9"
    refine ⟨rp, _, rfl, .inl (.of hrp), ?_⟩
    walk_at "k9"
    refine ⟨_, _, _, rfl, hx, ?_⟩
    rw [lrv]
    walk_at "k9"
    rcases hx with ⟨i, rfl⟩ | ⟨b, rfl⟩ | ⟨z, rfl⟩
    rotate_left
    · refine x_yes rfl ?_
      walk_at "k9"
      exact ks _ s14
    · refine x_yes rfl ?_
      walk_at "k9"
      exact ks _ s14
    by_cases hi1 : 0 ≤ i ∧ i ≤ (rs.length : Int) - 1
    rotate_left
    · refine x_yes (by unfold isF; simp; omega) ?_
      walk_at "k9"
      have e : false = isB rs (pairO (.int i) y) := by
        unfold pairO
        rcases hy with ⟨j, rfl⟩ | ⟨b, rfl⟩ | ⟨z, rfl⟩
        · unfold isB
          simp
          intro a1 a2
          omega
        · rfl
        · rfl
      rw [e]
      exact ks _ s14
    refine x_no (by unfold isF; simp; omega) ?_
    walk_at "k9"
    refine x_ixT hp rfl ?_
    have hin : i.toNat < rvs.length := by omega
    have ein : i = ((i.toNat : Nat) : Int) := by omega
    obtain ⟨r, er, q, a, ns, b, eq, m1, m2, ip⟩ := frv i.toNat _ (List.getElem?_eq_getElem hin)
    refine x_ixL hrp (v := .ref q) (by conv => lhs; rw [ein]
                                       rw [atI_nat (List.getElem?_eq_getElem hin), eq]) ?_
    walk_at "k9"
    refine x_ixT m1 rfl ?_
    walk_at "k9"
    refine x_ixT hp rfl ?_
    walk_at "k9"
    refine ⟨a, _, rfl, .inl (.of m2), ?_⟩
    walk_at "k9"
    refine ⟨_, _, _, rfl, hy, ?_⟩
    rw [List.length_map, ip.len]
    have egd : rs.getD i.toNat [] = r := by simp [List.getD, er]
    rcases hy with ⟨j, rfl⟩ | ⟨b', rfl⟩ | ⟨z, rfl⟩
    rotate_left
    · refine ⟨_, rfl, x_no rfl ?_⟩
      exact ks _ s14
    · refine ⟨_, rfl, x_no rfl ?_⟩
      exact ks _ s14
    by_cases hj : 1 ≤ j ∧ j ≤ (r.length : Int) - 1
    · refine ⟨_, rfl, x_yes (by unfold isF; simp; omega) ?_⟩
      walk_at "k9"
      refine x_ixT hp rfl ?_
      have ejn : j = ((j.toNat : Nat) : Int) := by omega
      have hlen := ip.len
      have e2 : ns[j.toNat]? = some (ns.getD j.toNat 0) := get_getD (by omega)
      refine x_ixL m2 (v := .int (ns.getD j.toNat 0)) (by conv => lhs; rw [ejn]
                                                          exact at_int e2) ?_
      walk_at "k9"
      have e : (!decide (ns.getD j.toNat 0 = 0)) = isB rs (pairO (.int i) (.int j)) := by
        rw [isB_some, egd]
        have := ip.zero e2
        rw [decide_eq_true hi1.1, decide_eq_true hi1.2, decide_eq_true hj.1, decide_eq_true hj.2]
        by_cases hz0 : ns.getD j.toNat 0 = 0
        · rw [decide_eq_true hz0, decide_eq_false (by simp; exact this.mp hz0)]; rfl
        · rw [decide_eq_false hz0, decide_eq_true (show K9M.coef r j.toNat ≠ 0 from fun z => hz0 (this.mpr z))]; rfl
      rw [e]
      exact ks _ s14
    · refine ⟨_, rfl, x_no (by unfold isF; simp; omega) ?_⟩
      have e : false = isB rs (pairO (.int i) (.int j)) := by
        rw [isB_some, egd]
        rw [decide_eq_true hi1.1, decide_eq_true hi1.2]
        simp
        intro a1 a2
        omega
      rw [e]
      exact ks _ s14
  · have fin : ∀ H', Same H4 H' → Q (.bl false) H' := fun H' s => ks _ fun a o e => s _ _ (s14 _ _ e)
    rcases h with rfl | ⟨i, rfl⟩ | ⟨p, xs, rfl, hp⟩ | ⟨p, xs, rfl, hp, hl⟩
    · refine x_isi .non (b := false) (by decide +kernel) ?_
      refine ⟨_, rfl, x_yes rfl ?_⟩
      refine x_yes rfl ?_
      exact fin _ fun _ _ h => h
    · refine x_isi (.int i) (b := false) (by decide +kernel) ?_
      refine ⟨_, rfl, x_yes rfl ?_⟩
      refine x_yes rfl ?_
      exact fin _ fun _ _ h => h
    · refine x_isi (.lst hp) (b := false) (by decide +kernel) ?_
      refine ⟨_, rfl, x_yes rfl ?_⟩
      refine x_yes rfl ?_
      exact fin _ fun _ _ h => h
    · refine x_isi (.tup hp) (b := true) (by decide +kernel) ?_
      refine ⟨_, rfl, x_no rfl ?_⟩
      walk_at "k9"
      refine ⟨p, _, rfl, .inr (.of hp), ?_⟩
      walk_at "k9"
      refine x_yes (by simp; omega) ?_
      exact fin _ fun _ _ h => h
end
end K9

set_option Elab.async false
set_option linter.all false
set_option maxRecDepth 100000
set_option maxHeartbeats 4000000
namespace K9
open PySem PySem.Spec PyProof.Rows L2
local macro_rules | `(tactic| walk_at "k9mem") => `(tactic| first | with_reducible assumption | exact upd_same | ((with_reducible refine mem_upd (by with_reducible assumption) ?_); walk_at "k9mem") | ((with_reducible refine mem_same (by with_reducible assumption) ?_); walk_at "k9mem"))
local macro_rules | `(tactic| walk_at "k91") => `(tactic| with_reducible (first | refine x_seq ?_ | refine x_asg ?_ | refine x_name ?_ | refine x_ret ?_ | refine x_drop ?_ | refine x_next ?_ | refine x_ifs ?_ | refine x_if ?_ | refine x_test ?_ | refine x_tb ?_ | refine x_tnot ?_ | refine x_tand ?_ | refine x_tor ?_ | refine x_andv ?_ | refine x_orv ?_ | refine x_notv ?_ | refine x_var rfl ?_ | refine x_c ?_ | refine x_op ?_ | refine x_un ?_ | refine x_i0 ?_ | refine x_par ?_ | refine x_two ?_ | refine x_eqI ?_ | refine x_neI ?_ | refine x_u ?_ | refine x_call ?_ | refine x_cb ?_ | refine x_cons ?_ | refine x_nil ?_ | refine x_tup ?_ | refine x_lst ?_ | refine x_gcd ?_ | refine x_for ?_ | refine x_iL ?_ | refine x_iT ?_ | refine x_iR1 ?_ | refine x_iR2 ?_ | refine x_lc ?_ | refine x_bm ?_ | refine x_bm0 ?_ | refine x_sl ?_ | refine x_nopart ?_ | refine x_part ?_ | refine x_some ?_ | refine x_bl ?_))
local macro_rules | `(tactic| walk_at "k9") => `(tactic| repeat (walk_at "k91"))
theorem x_dget {σ : L2.St} {H : Hp} {Q : VK} {td ty : TE} (k : td σ H fun x H1 => ty σ H1 fun y H2 => ∃ a v, x = .ref a ∧ DGet H2 a y (some v) ∧ Q v H2) : tDGet td ty σ H Q := k
theorem x_dput {σ : L2.St} {H : Hp} {D : Ends} {td ty tv : TE} (k : tv σ H fun v H1 => td σ H1 fun x H2 => ty σ H2 fun y H3 => ∃ a H4, x = .ref a ∧ DPut H3 a y v H4 ∧ D.nx σ H4) : sDPut td ty tv D σ H := k
theorem x_gsub {σ : L2.St} {H : Hp} {to ti : TE} {t : TSet} {v : V} {R : L2.St → Hp → Prop} (k : to σ H fun o H1 => ti σ H1 fun i H2 => t o i v H2 fun H3 => R σ H3) : gSub to ti t v σ H R := k
/-! the law's state -/
abbrev kvs (c l : Addr) (n : Nat) : List (Key × V) := [(.inr "cells", .ref c), (.inr "lefts", .ref l), (.inr "at", .int (n : Nat))]
structure RSt (a c l : Addr) (H : Hp) (n : Nat) : Prop where
  ex : ∃ cs ls : List Int, H a = some (.dK (kvs c l n)) ∧ H c = some (.lst (cs.map .int)) ∧ H l = some (.lst (ls.map .int)) ∧ 0 < cs.length ∧ ls.length = cs.length ∧ cs.length ≤ 1000 ∧ (∀ x ∈ ls, 0 ≤ x) ∧ c ≠ l
/-- all but the state stands -/
def SB (a l : Addr) (H H' : Hp) : Prop := ∀ b o, b ≠ a → b ≠ l → H b = some o → H' b = some o
theorem Same.sb {a l : Addr} {H H' : Hp} (s : Same H H') : SB a l H H' := fun b o _ _ e => s b o e
theorem SB.trans {a l : Addr} {H H' H'' : Hp} (s : SB a l H H') (t : SB a l H' H'') : SB a l H H'' := fun b o h1 h2 e => t b o h1 h2 (s b o h1 h2 e)
theorem RSt.same {a c l : Addr} {H H' : Hp} {n : Nat} (r : RSt a c l H n) (s : Same H H') : RSt a c l H' n := let ⟨cs, ls, e1, e2, e3, h⟩ := r.ex; ⟨cs, ls, s _ _ e1, s _ _ e2, s _ _ e3, h⟩
theorem RSt.tup {a c l : Addr} {H H' : Hp} {n : Nat} (r : RSt a c l H n) (s : SB a l H H') : TSame H H' := fun b xs e => by
  obtain ⟨cs, ls, e1, e2, e3, _⟩ := r.ex
  refine s b _ (fun z => ?_) (fun z => ?_) e
  · rw [z, e1] at e; cases e
  · rw [z, e3] at e; cases e
theorem RSt.new {a c l b : Addr} {H : Hp} {n : Nat} (r : RSt a c l H n) (h : H b = none) : b ≠ a ∧ b ≠ l := by
  obtain ⟨cs, ls, e1, e2, e3, _⟩ := r.ex
  exact ⟨fun z => (by rw [z, e1] at h; cases h), fun z => (by rw [z, e3] at h; cases h)⟩
theorem upd_other {H : Hp} {a b : Addr} {o x : HO} (h : b ≠ a) (e : H b = some x) : upd H a o b = some x := (upd_ne h).trans e
def sp_law_mixed : Sp := fun vs H Q _ => ∃ c k : Int, vs = [.int c, .int k] ∧ 0 ≤ k ∧ k < 2 ^ 30 ∧ ∀ i : Int, 0 ≤ i → i < 2147483647 → Q (.int i) H
section
variable {P : Program} {w : World} {K : PySem.W.Frag} {mg : Str → Option Value} {base : Heap}
abbrev s_law_mixed : Stmt := topS 35
abbrev N_law_mixed : List Str := ["_law_cell", "_law_k"]
theorem sc_law_mixed : FnScope N_law_mixed ["_law_cell", "_law_k"] (defScope s_law_mixed) := ⟨rfl, rfl, rfl, by decide +kernel, rfl, by decide +kernel, by decide +kernel⟩
theorem kn_law_mixed (D : DefAt K mg "_law_mixed" s_law_mixed) (T : Wd mg) : Kn P w K mg base CX0 1 "_law_mixed" ["_law_cell", "_law_k"] sp_law_mixed := by
  have S := sc_law_mixed
  refine Kn.of D S (fun vs H Q E h => ?_) (fun _ _ _ _ _ _ us hl => match us, hl with | [_, _], _ => rfl) fun f cdv A outer s H vs Q E hr h => ?_
  · obtain ⟨_, _, rfl, _⟩ := h; rfl
  obtain ⟨c, k, rfl, k0, k1, q⟩ := h
  refine ⟨_, PSs.nox (pss_cons (ps_set (i := 0) S.nd rfl (Or.inl rfl) (pe_op op_mod (pe_callTy call_int1 (by rfl) T.int (by decide +kernel) (pa_cons (pv 0) pa_nil)) pe_int))
    (pss_one (ps_ret (pe_op op_mod (pe_op op_mulX (pe_op op_mod (pe_op op_add (pe_op op_add (pe_op op_mulX (pv 0) (pe_op op_add pe_int (pe_op op_mulX (pe_op op_mulX pe_int (pv 1)) (pv 1)))) (pe_op op_mulX pe_int (pv 1))) pe_int) pe_int) pe_int) pe_int)))), ?_⟩
  have c0 := Int.emod_nonneg c (by decide : (2147483647 : Int) ≠ 0)
  have c1 := Int.emod_lt_of_pos c (by decide : (0 : Int) < 2147483647)
  walk_at "k9"
  refine .inl ⟨_, rfl, ?_⟩
  walk_at "k9"
  refine x_i (by decide) ?_
  walk_at "k9"
  generalize hc : c % 2147483647 = c' at *
  have kk : 2 * k * k < 2 ^ 61 := by
    have h3 : 2 * k * k ≤ (2 ^ 31 - 2) * (2 ^ 30) := Int.mul_le_mul (by omega) (by omega) k0 (by omega)
    omega
  have kk0 : 0 ≤ 2 * k * k := Int.mul_nonneg (by omega) k0
  refine x_i (mulx_small (by omega) (by omega)) ?_
  walk_at "k9"
  refine x_i (mulx_small (by omega) (by omega)) ?_
  walk_at "k9"
  refine x_i (mulx_small (by omega) (by omega)) ?_
  walk_at "k9"
  refine x_i (mulx_small (by omega) (by omega)) ?_
  walk_at "k9"
  refine x_i (by decide) ?_
  walk_at "k9"
  have d0 := Int.emod_nonneg (c' * (48271 + 2 * k * k) + 69621 * k + 11) (by decide : (2147483647 : Int) ≠ 0)
  have d1 := Int.emod_lt_of_pos (c' * (48271 + 2 * k * k) + 69621 * k + 11) (by decide : (0 : Int) < 2147483647)
  refine x_i (mulx_small (by omega) (by omega)) ?_
  walk_at "k9"
  refine x_i (by decide) ?_
  exact q _ (Int.emod_nonneg _ (by decide)) (Int.lt_trans (Int.emod_lt_of_pos _ (by decide)) (by decide))
theorem dg_cells {a c l : Addr} {H : Hp} {n : Nat} {x : V} {k : Str} (e : H a = some (.dK (kvs c l n))) (hk : valV (kvs c l n) (.inr k) = some x) : DGet H a (.str k) (some x) := by
  have := DGet.k (k := .inr k) e
  rw [hk] at this
  exact this
def sp_law_draw : Sp := fun vs H Q _ => ∃ (a c l : Addr) (n : Nat) (lim : Int), vs = [.ref a, .int lim] ∧ RSt a c l H n ∧ n < 2 ^ 20 ∧ 0 < lim ∧ lim < 2 ^ 62 ∧ ∀ H' i, 0 ≤ i → i < lim → SB a l H H' → RSt a c l H' (n + 1) → Q (.int i) H'
abbrev s_law_draw : Stmt := topS 37
abbrev N_law_draw : List Str := ["_law_state", "_law_limit", "_law_at", "_law_place", "_law_left", "_law_number_here"]
theorem sc_law_draw : FnScope N_law_draw ["_law_state", "_law_limit"] (defScope s_law_draw) := ⟨rfl, rfl, rfl, by decide +kernel, rfl, by decide +kernel, by decide +kernel⟩
theorem kn_law_draw (D : DefAt K mg "_law_draw" s_law_draw) (T : Wd mg) (k_law_mixed : Kn P w K mg base CX0 1 "_law_mixed" ["_law_cell", "_law_k"] sp_law_mixed) : Kn P w K mg base CX0 2 "_law_draw" ["_law_state", "_law_limit"] sp_law_draw := by
  have S := sc_law_draw
  refine Kn.of D S (fun vs H Q E h => ?_) (fun _ _ _ _ _ _ us hl => match us, hl with | [_, _], _ => rfl) fun f cdv A outer s H vs Q E hr h => ?_
  · obtain ⟨_, _, _, _, _, rfl, _⟩ := h; rfl
  obtain ⟨a, c, l, n, lim, rfl, st, hn, l0, l1, q⟩ := h
  refine ⟨_, PSs.nox (pss_cons (ps_set (i := 2) S.nd rfl (Or.inl rfl) (pe_dget (hu_of hr) (pv 0) pe_str (fun _ _ => rfl)))
    (pss_cons (ps_dput (hu_of hr) (pv 0) pe_str (pe_op op_add (pv 2) pe_int) rfl)
    (pss_cons (ps_set (i := 3) S.nd rfl (Or.inl rfl) (pe_op op_mod (pe_callTy call_int1 (by rfl) T.int (by decide +kernel) (pa_cons (pv 2) pa_nil)) (pe_callB (lenK (K := K) rfl) (by rfl) T.len PySem.boot_len (pa_cons (pe_dget (hu_of hr) (pv 0) pe_str (fun _ _ => rfl)) pa_nil))))
    (pss_cons (ps_set (i := 4) S.nd rfl (Or.inl rfl) (pe_ix (ixL (K := K) rfl) (pe_dget (hu_of hr) (pv 0) pe_str (fun _ _ => rfl)) (pv 3) (fun _ _ => rfl)))
    (pss_cons (ps_if (pt_cmpR op_gt (pv 4) pe_int (nomark _))
      (pss_cons (ps_asg (pe_op op_fd (pv 4) (pv 1)) (pg_sub (pe_dget (hu_of hr) (pv 0) pe_str (fun _ _ => rfl)) (pv 3) set_list))
      (pss_one (ps_ret (pe_op op_mod (pe_callTy call_int1 (by rfl) T.int (by decide +kernel) (pa_cons (pv 4) pa_nil)) (pv 1))))) pss_nil)
    (pss_cons (ps_set (i := 5) S.nd rfl (Or.inl rfl) (pe_kn k_law_mixed (hr.mono (by decide)) (by rfl) pass0 (pa_cons (pe_kn k_law_mixed (hr.mono (by decide)) (by rfl) pass0 (pa_cons (pe_ix (ixL (K := K) rfl) (pe_dget (hu_of hr) (pv 0) pe_str (fun _ _ => rfl)) (pv 3) (fun _ _ => rfl)) (pa_cons (pv 2) pa_nil))) (pa_cons (pe_op op_add pe_int (pv 2)) pa_nil))))
    (pss_one (ps_ret (pe_op op_mod (pe_op op_fd (pe_callTy call_int1 (by rfl) T.int (by decide +kernel) (pa_cons (pe_op op_add (pe_op op_mulX (pv 5) pe_int) (pe_kn k_law_mixed (hr.mono (by decide)) (by rfl) pass0 (pa_cons (pv 5) (pa_cons (pe_op op_add pe_int (pv 2)) pa_nil)))) pa_nil)) pe_int) (pv 1)))))))))), ?_⟩
  obtain ⟨cs, ls, e1, e2, e3, p0, pl, p1, nn, ncl⟩ := st.ex
  have nca : c ≠ a := fun z => by rw [z, e1] at e2; cases e2
  have nla : l ≠ a := fun z => by rw [z, e1] at e3; cases e3
  walk_at "k9"
  refine x_dget ?_
  walk_at "k9"
  refine ⟨a, _, rfl, dg_cells e1 rfl, ?_⟩
  walk_at "k9"
  refine x_dput ?_
  walk_at "k9"
  refine ⟨a, _, rfl, DPut.k (k := .inr "at") e1 (by show 3 < sizeLine; decide), ?_⟩
  have ep : putK (kvs c l n) (.inr "at") (.int ((n : Int) + 1)) = kvs c l (n + 1) := rfl
  rw [ep]
  have f1 : upd H a (.dK (kvs c l (n + 1))) a = some (.dK (kvs c l (n + 1))) := upd_same
  have f2 := upd_other (o := .dK (kvs c l (n + 1))) nca e2
  have f3 := upd_other (o := .dK (kvs c l (n + 1))) nla e3
  have sb : SB a l H (upd H a (.dK (kvs c l (n + 1)))) := fun b o h1 h2 e => upd_other h1 e
  generalize upd H a (.dK (kvs c l (n + 1))) = H1 at *
  walk_at "k9"
  refine .inl ⟨_, rfl, ?_⟩
  refine x_dget ?_
  walk_at "k9"
  refine ⟨a, _, rfl, dg_cells f1 rfl, ?_⟩
  walk_at "k9"
  refine ⟨c, _, rfl, .inl (.of f2), ?_⟩
  rw [List.length_map]
  refine x_i (by omega) ?_
  have pe : ((n : Nat) : Int) % ((cs.length : Nat) : Int) = ((n % cs.length : Nat) : Int) := rfl
  have plt : n % cs.length < cs.length := Nat.mod_lt _ p0
  rw [pe]
  generalize n % cs.length = p at plt ⊢
  walk_at "k9"
  refine x_dget ?_
  walk_at "k9"
  refine ⟨a, _, rfl, dg_cells f1 rfl, ?_⟩
  walk_at "k9"
  have g3 : ls[p]? = some (ls.getD p 0) := get_getD (by omega)
  have g2 : cs[p]? = some (cs.getD p 0) := get_getD (by omega)
  have n0 := nn _ (get_mem g3)
  refine x_ixL f3 (at_int g3) ?_
  walk_at "k9"
  by_cases hpos : ls.getD p 0 > 0
  · refine x_yes (decide_eq_true hpos) ?_
    walk_at "k9"
    refine x_i (C := CFd) ⟨by omega, Nat.lt_of_lt_of_le (by omega : lim.natAbs < 2 ^ 62) (Nat.pow_le_pow_right (by decide) (by decide))⟩ ?_
    refine x_gsub ?_
    refine x_dget ?_
    walk_at "k9"
    refine ⟨a, _, rfl, dg_cells f1 rfl, ?_⟩
    walk_at "k9"
    refine ⟨l, _, _, p, rfl, rfl, f3, ?_, ?_⟩
    · unfold ixN
      rw [if_pos (by omega), if_pos (by rw [List.length_map]; omega)]
      rfl
    walk_at "k9"
    refine .inl ⟨_, rfl, ?_⟩
    walk_at "k9"
    refine x_i l0 ?_
    refine q _ _ (Int.emod_nonneg _ (by omega)) (Int.emod_lt_of_pos _ l0) (fun b o h1 h2 e => upd_other h2 (sb b o h1 h2 e)) ⟨cs, ls.set p (Int.fdiv (ls.getD p 0) lim), upd_other (Ne.symm nla) f1, upd_other ncl f2, by rw [upd_same, List.map_set], p0, by rw [List.length_set]; exact pl, p1, fun x hx => ?_, ncl⟩
    rcases List.mem_or_eq_of_mem_set hx with h | h
    · exact nn x h
    · rw [h, Int.fdiv_eq_ediv_of_nonneg _ (by omega)]
      exact Int.ediv_nonneg n0 (by omega)
  · refine x_no (decide_eq_false hpos) ?_
    walk_at "k9"
    refine x_dget ?_
    walk_at "k9"
    refine ⟨a, _, rfl, dg_cells f1 rfl, ?_⟩
    walk_at "k9"
    refine x_ixL f2 (at_int g2) ?_
    walk_at "k9"
    refine ⟨_, _, rfl, by omega, by omega, fun i1 i10 i11 => ?_⟩
    walk_at "k9"
    refine ⟨_, _, rfl, by omega, by omega, fun i2 i20 i21 => ?_⟩
    walk_at "k9"
    refine x_i (mulx_small (by omega) (by omega)) ?_
    walk_at "k9"
    refine ⟨_, _, rfl, by omega, by omega, fun i3 i30 i31 => ?_⟩
    walk_at "k9"
    refine .inl ⟨_, rfl, ?_⟩
    walk_at "k9"
    refine x_i (C := CFd) ⟨by decide, Nat.lt_of_lt_of_le (by decide : (64 : Int).natAbs < 2 ^ 62) (Nat.pow_le_pow_right (by decide) (by decide))⟩ ?_
    walk_at "k9"
    refine x_i l0 ?_
    exact q _ _ (Int.emod_nonneg _ (by omega)) (Int.emod_lt_of_pos _ l0) sb ⟨cs, ls, f1, f2, f3, p0, pl, p1, nn, ncl⟩
end
end K9

set_option Elab.async false
set_option linter.all false
set_option maxRecDepth 100000
set_option maxHeartbeats 4000000
namespace K9
open PySem PySem.Spec PyProof.Rows L2
local macro_rules | `(tactic| walk_at "k9mem") => `(tactic| first | with_reducible assumption | exact upd_same | ((with_reducible refine mem_upd (by with_reducible assumption) ?_); walk_at "k9mem") | ((with_reducible refine mem_same (by with_reducible assumption) ?_); walk_at "k9mem"))
local macro_rules | `(tactic| walk_at "k91") => `(tactic| with_reducible (first | refine x_seq ?_ | refine x_asg ?_ | refine x_name ?_ | refine x_ret ?_ | refine x_drop ?_ | refine x_next ?_ | refine x_ifs ?_ | refine x_if ?_ | refine x_test ?_ | refine x_tb ?_ | refine x_tnot ?_ | refine x_tand ?_ | refine x_tor ?_ | refine x_andv ?_ | refine x_orv ?_ | refine x_notv ?_ | refine x_var rfl ?_ | refine x_c ?_ | refine x_op ?_ | refine x_un ?_ | refine x_i0 ?_ | refine x_par ?_ | refine x_two ?_ | refine x_eqI ?_ | refine x_neI ?_ | refine x_u ?_ | refine x_call ?_ | refine x_cb ?_ | refine x_cons ?_ | refine x_nil ?_ | refine x_tup ?_ | refine x_lst ?_ | refine x_gcd ?_ | refine x_for ?_ | refine x_iL ?_ | refine x_iT ?_ | refine x_iR1 ?_ | refine x_iR2 ?_ | refine x_lc ?_ | refine x_bm ?_ | refine x_bm0 ?_ | refine x_sl ?_ | refine x_nopart ?_ | refine x_part ?_ | refine x_some ?_ | refine x_bl ?_))
local macro_rules | `(tactic| walk_at "k9") => `(tactic| repeat (walk_at "k91"))
def sp_law_of : Sp := fun vs H Q _ => ∃ (a c l p : Addr) (n : Nat) (xs : List V), vs = [.ref a, .ref p] ∧ RSt a c l H n ∧ n < 2 ^ 20 ∧ H p = some (.lst xs) ∧ p ≠ a ∧ p ≠ l ∧ 0 < xs.length ∧ xs.length ≤ 1000 ∧ ∀ H' x, x ∈ xs → SB a l H H' → RSt a c l H' (n + 1) → Q x H'
section
variable {P : Program} {w : World} {K : PySem.W.Frag} {mg : Str → Option Value} {base : Heap}
abbrev s_law_of : Stmt := topS 38
abbrev N_law_of : List Str := ["_law_state", "_law_some"]
theorem sc_law_of : FnScope N_law_of ["_law_state", "_law_some"] (defScope s_law_of) := ⟨rfl, rfl, rfl, by decide +kernel, rfl, by decide +kernel, by decide +kernel⟩
theorem kn_law_of (D : DefAt K mg "_law_of" s_law_of) (T : Wd mg) (k_law_draw : Kn P w K mg base CX0 2 "_law_draw" ["_law_state", "_law_limit"] sp_law_draw) : Kn P w K mg base CX0 3 "_law_of" ["_law_state", "_law_some"] sp_law_of := by
  have S := sc_law_of
  refine Kn.of D S (fun vs H Q E h => ?_) (fun _ _ _ _ _ _ us hl => match us, hl with | [_, _], _ => rfl) fun f cdv A outer s H vs Q E hr h => ?_
  · obtain ⟨_, _, _, _, _, _, rfl, _⟩ := h; rfl
  obtain ⟨a, c, l, p, n, xs, rfl, st, hn, hp, pa, pl, x0, x1, q⟩ := h
  refine ⟨_, PSs.nox (pss_one (ps_ret (pe_ix (ixL (K := K) rfl) (pv 1) (pe_kn k_law_draw (hr.mono (by decide)) (by rfl) pass0 (pa_cons (pv 0) (pa_cons (pe_callB (lenK (K := K) rfl) (by rfl) T.len PySem.boot_len (pa_cons (pv 1) pa_nil)) pa_nil))) (fun _ _ => rfl)))), ?_⟩
  walk_at "k9"
  refine ⟨p, _, rfl, .inl (.of hp), ?_⟩
  walk_at "k9"
  refine ⟨a, c, l, n, _, rfl, st, hn, by omega, by omega, fun H1 i i0 i1 sb st1 => ?_⟩
  have hi : i.toNat < xs.length := by omega
  have ea : atI xs i = some xs[i.toNat] := by
    have h := atI_nat (List.getElem?_eq_getElem hi)
    rw [show ((i.toNat : Nat) : Int) = i by omega] at h
    exact h
  refine x_ixL (sb _ _ pa pl hp) ea ?_
  exact q _ _ (List.getElem_mem _) sb st1
def sp_law_divisor : Sp := fun vs H Q _ => ∃ a b : Int, vs = [.int a, .int b] ∧ Q (.int ((Nat.gcd a.natAbs b.natAbs : Nat) : Int)) H
theorem max_neg (a : Int) : (if -a > a then -a else a) = ((a.natAbs : Nat) : Int) := by split <;> omega
abbrev s_law_divisor : Stmt := topS 41
abbrev N_law_divisor : List Str := ["_law_one", "_law_other"]
theorem sc_law_divisor : FnScope N_law_divisor ["_law_one", "_law_other"] (defScope s_law_divisor) := ⟨rfl, rfl, rfl, by decide +kernel, rfl, by decide +kernel, by decide +kernel⟩
theorem kn_law_divisor (D : DefAt K mg "_law_divisor" s_law_divisor) (T : Wd mg) : Kn P w K mg base CX0 1 "_law_divisor" ["_law_one", "_law_other"] sp_law_divisor := by
  have S := sc_law_divisor
  refine Kn.of D S (fun vs H Q E h => ?_) (fun _ _ _ _ _ _ us hl => match us, hl with | [_, _], _ => rfl) fun f cdv A outer s H vs Q E hr h => ?_
  · obtain ⟨_, _, rfl, _⟩ := h; rfl
  obtain ⟨a, b, rfl, q⟩ := h
  refine ⟨_, PSs.nox (pss_cons (ps_par (i := 0) (j := 1) (by rfl) S.nd rfl rfl (by decide) rfl rfl (pa_cons (pe_callB (call_max2 rfl) (by rfl) T.max (by decide +kernel) (pa_cons (pv 0) (pa_cons (pe_un un_neg (pv 0)) pa_nil))) (pa_cons (pe_callB (call_max2 rfl) (by rfl) T.max (by decide +kernel) (pa_cons (pv 1) (pa_cons (pe_un un_neg (pv 1)) pa_nil))) pa_nil)) (by rfl))
    (pss_cons (ps_while PassesOwn.never (pt_cmpR op_gt (pv 1) pe_int (nomark _))
      (pss_one (ps_par (i := 0) (j := 1) (by rfl) S.nd rfl rfl (by decide) rfl rfl (pa_cons (pv 1) (pa_cons (pe_op op_mod (pv 0) (pv 1)) pa_nil)) (by rfl))))
    (pss_one (ps_ret (pv 0))))), ?_⟩
  walk_at "k9"
  refine ⟨_, _, rfl, ?_⟩
  rw [max_neg]
  walk_at "k9"
  refine ⟨_, _, rfl, ?_⟩
  rw [max_neg]
  walk_at "k9"
  refine x_while (fun m σ' H' => ∃ x y : Nat, y = m ∧ σ' = [some (.int (x : Nat)), some (.int (y : Nat))] ∧ H = H' ∧ Nat.gcd x y = Nat.gcd a.natAbs b.natAbs) b.natAbs ⟨a.natAbs, b.natAbs, rfl, rfl, rfl, rfl⟩ ?_
  rintro m _ _ ⟨x, y, rfl, rfl, rfl, hg⟩
  walk_at "k9"
  by_cases hy : 0 < y
  · refine x_yes (decide_eq_true (by omega)) ?_
    refine x_turn ?_
    walk_at "k9"
    refine x_i (by omega) ?_
    walk_at "k9"
    refine ⟨x % y, Nat.mod_lt _ hy, y, x % y, rfl, rfl, rfl, ?_⟩
    rw [← hg, Nat.gcd_comm y, ← Nat.gcd_rec, Nat.gcd_comm]
  · have : y = 0 := by omega
    subst this
    refine x_no (by decide) ?_
    walk_at "k9"
    rw [← hg, Nat.gcd_zero_right] at q
    exact q
abbrev s_law_frac : Stmt := topS 42
abbrev N_law_frac : List Str := ["_law_above", "_law_below", "_law_shared"]
theorem sc_law_frac : FnScope N_law_frac ["_law_above", "_law_below"] (defScope s_law_frac) := ⟨rfl, rfl, rfl, by decide +kernel, rfl, by decide +kernel, by decide +kernel⟩
theorem kn_law_frac (D : DefAt K mg "_law_frac" s_law_frac) (T : Wd mg) (k_law_divisor : Kn P w K mg base CX0 1 "_law_divisor" ["_law_one", "_law_other"] sp_law_divisor) : Kn P w K mg base CX0 2 "_law_frac" ["_law_above", "_law_below"] sp_number_of := by
  have S := sc_law_frac
  refine Kn.of D S (fun vs H Q E h => ?_) (fun _ _ _ _ _ _ us hl => match us, hl with | [_, _], _ => rfl) fun f cdv A outer s H vs Q E hr h => ?_
  · obtain ⟨a, b, rfl, _⟩ := h; rfl
  obtain ⟨a, b, rfl, hb, hz, q⟩ := h
  refine ⟨_, PSs.nox (pss_cons (ps_set (i := 2) S.nd rfl (Or.inl rfl) (pe_kn k_law_divisor (hr.mono (by decide)) (by rfl) pass0 (pa_cons (pv 0) (pa_cons (pv 1) pa_nil))))
    (pss_cons (ps_if (pt_cmpR op_lt (pv 1) pe_int (nomark _))
      (pss_one (ps_set (i := 2) S.nd rfl (Or.inl rfl) (pe_un un_neg (pv 2)))) pss_nil)
    (pss_one (ps_ret (pe_tup (pa_cons (pe_op op_fd (pv 0) (pv 2)) (pa_cons (pe_op op_fd (pv 1) (pv 2)) pa_nil))))))), ?_⟩
  have fq := K9M.frac_any a b hb
  have sn := K9M.sgcd_ne (a := a) hb
  have hg : (K9M.gcdI a b).natAbs ≤ b.natAbs := K9M.gcdI_le hb
  have sl : (K9M.sgcd a b).natAbs < 2 ^ 9000 := by
    unfold K9M.sgcd
    split
    · rw [Int.natAbs_neg]; omega
    · omega
  have fin : ∀ w : Int, w = K9M.sgcd a b → ∀ p, H p = none → Q (.ref p) (upd H p (.tup [.int (a.fdiv w), .int (b.fdiv w)])) := fun w e p hp => by
    subst e
    exact q _ _ (same_upd hp) ⟨p, rfl, by rw [fq.1, fq.2]; exact upd_same⟩
  walk_at "k9"
  refine ⟨a, b, rfl, ?_⟩
  walk_at "k9"
  by_cases hneg : b < 0
  · refine x_yes (decide_eq_true hneg) ?_
    walk_at "k9"
    have e : -((Nat.gcd a.natAbs b.natAbs : Nat) : Int) = K9M.sgcd a b := by
      unfold K9M.sgcd
      rw [if_pos hneg]; rfl
    rw [e]
    refine x_i ⟨sn, sl⟩ ?_
    walk_at "k9"
    refine x_i ⟨sn, sl⟩ ?_
    walk_at "k9"
    exact ⟨by show 2 ≤ sizeLine; decide, fin _ rfl⟩
  · refine x_no (decide_eq_false hneg) ?_
    walk_at "k9"
    have e : ((Nat.gcd a.natAbs b.natAbs : Nat) : Int) = K9M.sgcd a b := by
      unfold K9M.sgcd
      rw [if_neg hneg]; rfl
    rw [e]
    refine x_i ⟨sn, sl⟩ ?_
    walk_at "k9"
    refine x_i ⟨sn, sl⟩ ?_
    walk_at "k9"
    exact ⟨by show 2 ≤ sizeLine; decide, fin _ rfl⟩
abbrev s_law_add : Stmt := topS 43
abbrev N_law_add : List Str := ["_law_one", "_law_other"]
theorem sc_law_add : FnScope N_law_add ["_law_one", "_law_other"] (defScope s_law_add) := ⟨rfl, rfl, rfl, by decide +kernel, rfl, by decide +kernel, by decide +kernel⟩
theorem kn_law_add (D : DefAt K mg "_law_add" s_law_add) (T : Wd mg) (k_law_frac : Kn P w K mg base CX0 2 "_law_frac" ["_law_above", "_law_below"] sp_number_of) : Kn P w K mg base CX0 3 "_law_add" ["_law_one", "_law_other"] (sp_num2 (· + ·)) := by
  have S := sc_law_add
  refine Kn.of D S (fun vs H Q E h => ?_) (fun _ _ _ _ _ _ us hl => match us, hl with | [_, _], _ => rfl) fun f cdv A outer s H vs Q E hr h => ?_
  · obtain ⟨_, _, _, _, rfl, _⟩ := h; rfl
  obtain ⟨_, _, p, q, rfl, ⟨a, rfl, ha⟩, ⟨b, rfl, hb⟩, hp, hq, k⟩ := h
  refine ⟨_, PSs.nox (pss_one (ps_ret (pe_kn k_law_frac (hr.mono (by decide)) (by rfl) pass0 (pa_cons (pe_op op_add (pe_op op_mulX (pe_ix (ixT (K := K) rfl) (pv 0) pe_int (fun _ _ => rfl)) (pe_ix (ixT (K := K) rfl) (pv 1) pe_int (fun _ _ => rfl))) (pe_op op_mulX (pe_ix (ixT (K := K) rfl) (pv 1) pe_int (fun _ _ => rfl)) (pe_ix (ixT (K := K) rfl) (pv 0) pe_int (fun _ _ => rfl)))) (pa_cons (pe_op op_mulX (pe_ix (ixT (K := K) rfl) (pv 0) pe_int (fun _ _ => rfl)) (pe_ix (ixT (K := K) rfl) (pv 1) pe_int (fun _ _ => rfl))) pa_nil))))), ?_⟩
  walk_at "k9"
  refine x_ixT ha rfl ?_
  walk_at "k9"
  refine x_ixT hb rfl ?_
  refine x_i (hp.nd hq) ?_
  walk_at "k9"
  refine x_ixT hb rfl ?_
  walk_at "k9"
  refine x_ixT ha rfl ?_
  refine x_i (hq.nd hp) ?_
  walk_at "k9"
  refine x_ixT ha rfl ?_
  walk_at "k9"
  refine x_ixT hb rfl ?_
  refine x_i (hp.dd hq) ?_
  walk_at "k9"
  refine ⟨_, _, rfl, Sm.dn p q, hp.dl hq, fun H' v s r => k H' v s ?_⟩
  rw [sum_val] at r
  exact r
abbrev s_law_mul : Stmt := topS 44
abbrev N_law_mul : List Str := ["_law_one", "_law_other"]
theorem sc_law_mul : FnScope N_law_mul ["_law_one", "_law_other"] (defScope s_law_mul) := ⟨rfl, rfl, rfl, by decide +kernel, rfl, by decide +kernel, by decide +kernel⟩
theorem kn_law_mul (D : DefAt K mg "_law_mul" s_law_mul) (T : Wd mg) (k_law_frac : Kn P w K mg base CX0 2 "_law_frac" ["_law_above", "_law_below"] sp_number_of) : Kn P w K mg base CX0 3 "_law_mul" ["_law_one", "_law_other"] (sp_num2 (· * ·)) := by
  have S := sc_law_mul
  refine Kn.of D S (fun vs H Q E h => ?_) (fun _ _ _ _ _ _ us hl => match us, hl with | [_, _], _ => rfl) fun f cdv A outer s H vs Q E hr h => ?_
  · obtain ⟨_, _, _, _, rfl, _⟩ := h; rfl
  obtain ⟨_, _, p, q, rfl, ⟨a, rfl, ha⟩, ⟨b, rfl, hb⟩, hp, hq, k⟩ := h
  refine ⟨_, PSs.nox (pss_one (ps_ret (pe_kn k_law_frac (hr.mono (by decide)) (by rfl) pass0 (pa_cons (pe_op op_mulX (pe_ix (ixT (K := K) rfl) (pv 0) pe_int (fun _ _ => rfl)) (pe_ix (ixT (K := K) rfl) (pv 1) pe_int (fun _ _ => rfl))) (pa_cons (pe_op op_mulX (pe_ix (ixT (K := K) rfl) (pv 0) pe_int (fun _ _ => rfl)) (pe_ix (ixT (K := K) rfl) (pv 1) pe_int (fun _ _ => rfl))) pa_nil))))), ?_⟩
  walk_at "k9"
  refine x_ixT ha rfl ?_
  walk_at "k9"
  refine x_ixT hb rfl ?_
  refine x_i (hp.nn hq) ?_
  walk_at "k9"
  refine x_ixT ha rfl ?_
  walk_at "k9"
  refine x_ixT hb rfl ?_
  refine x_i (hp.dd hq) ?_
  walk_at "k9"
  refine ⟨_, _, rfl, Sm.dn p q, hp.dl hq, fun H' v s r => k H' v s ?_⟩
  rw [mul_val] at r
  exact r
/-- a drawn fraction -/
def Fr (m b : Nat) (q : Rat) : Prop := ∃ x y : Int, q = (x : Rat) / (y : Rat) ∧ x.natAbs ≤ m ∧ 1 ≤ y ∧ y ≤ b
def sp_law_number : Sp := fun vs H Q _ => ∃ (a c l : Addr) (n m b : Nat), vs = [.ref a, .int (m : Nat), .int (b : Nat)] ∧ RSt a c l H n ∧ n + 1 < 2 ^ 20 ∧ 1 ≤ m ∧ m ≤ 1000 ∧ 1 ≤ b ∧ b ≤ 1000 ∧ ∀ H' v q, SB a l H H' → RSt a c l H' (n + 2) → RQ H' v q → Fr m b q → Q v H'
abbrev s_law_number : Stmt := topS 39
abbrev N_law_number : List Str := ["_law_state", "_law_most", "_law_below"]
theorem sc_law_number : FnScope N_law_number ["_law_state", "_law_most", "_law_below"] (defScope s_law_number) := ⟨rfl, rfl, rfl, by decide +kernel, rfl, by decide +kernel, by decide +kernel⟩
theorem kn_law_number (D : DefAt K mg "_law_number" s_law_number) (T : Wd mg) (k_law_frac : Kn P w K mg base CX0 2 "_law_frac" ["_law_above", "_law_below"] sp_number_of) (k_law_draw : Kn P w K mg base CX0 2 "_law_draw" ["_law_state", "_law_limit"] sp_law_draw) : Kn P w K mg base CX0 3 "_law_number" ["_law_state", "_law_most", "_law_below"] sp_law_number := by
  have S := sc_law_number
  refine Kn.of D S (fun vs H Q E h => ?_) (fun _ _ _ _ _ _ us hl => match us, hl with | [_, _, _], _ => rfl) fun f cdv A outer s H vs Q E hr h => ?_
  · obtain ⟨_, _, _, _, _, _, rfl, _⟩ := h; rfl
  obtain ⟨a, c, l, n, m, b, rfl, st, hn, m1, m2, b1, b2, q⟩ := h
  refine ⟨_, PSs.nox (pss_one (ps_ret (pe_kn k_law_frac (hr.mono (by decide)) (by rfl) pass0 (pa_cons (pe_op op_sub (pe_kn k_law_draw (hr.mono (by decide)) (by rfl) pass0 (pa_cons (pv 0) (pa_cons (pe_op op_add (pe_op op_mulX pe_int (pv 1)) pe_int) pa_nil))) (pv 1)) (pa_cons (pe_op op_add pe_int (pe_kn k_law_draw (hr.mono (by decide)) (by rfl) pass0 (pa_cons (pv 0) (pa_cons (pv 2) pa_nil)))) pa_nil))))), ?_⟩
  walk_at "k9"
  refine x_i (mulx_small (by decide) (by omega)) ?_
  walk_at "k9"
  refine ⟨a, c, l, n, _, rfl, st, by omega, by omega, by omega, fun H1 i i0 i1 sb1 st1 => ?_⟩
  walk_at "k9"
  refine ⟨a, c, l, n + 1, _, rfl, st1, by omega, by omega, by omega, fun H2 j j0 j1 sb2 st2 => ?_⟩
  walk_at "k9"
  refine ⟨_, _, rfl, by omega, Nat.lt_of_le_of_lt (by omega : _ ≤ 1001) (Nat.lt_of_lt_of_le (by decide : 1001 < 2 ^ 10) (Nat.pow_le_pow_right (by decide) (by decide))), fun H3 v s3 r3 => ?_⟩
  exact q _ _ _ ((sb1.trans sb2).trans (Same.sb s3)) (st2.same s3) r3 ⟨_, _, rfl, by omega, by omega, by omega⟩
end
end K9

set_option Elab.async false
set_option linter.all false
set_option maxRecDepth 100000
set_option maxHeartbeats 4000000
namespace K9
open PySem PySem.Spec PyProof.Rows L2
local macro_rules | `(tactic| walk_at "k9mem") => `(tactic| first | with_reducible assumption | exact upd_same | ((with_reducible refine mem_upd (by with_reducible assumption) ?_); walk_at "k9mem") | ((with_reducible refine mem_same (by with_reducible assumption) ?_); walk_at "k9mem"))
local macro_rules | `(tactic| walk_at "k91") => `(tactic| with_reducible (first | refine x_seq ?_ | refine x_asg ?_ | refine x_name ?_ | refine x_ret ?_ | refine x_drop ?_ | refine x_next ?_ | refine x_ifs ?_ | refine x_if ?_ | refine x_test ?_ | refine x_tb ?_ | refine x_tnot ?_ | refine x_tand ?_ | refine x_tor ?_ | refine x_andv ?_ | refine x_orv ?_ | refine x_notv ?_ | refine x_var rfl ?_ | refine x_c ?_ | refine x_op ?_ | refine x_un ?_ | refine x_i0 ?_ | refine x_par ?_ | refine x_two ?_ | refine x_eqI ?_ | refine x_neI ?_ | refine x_u ?_ | refine x_call ?_ | refine x_cb ?_ | refine x_cons ?_ | refine x_nil ?_ | refine x_tup ?_ | refine x_lst ?_ | refine x_gcd ?_ | refine x_for ?_ | refine x_iL ?_ | refine x_iT ?_ | refine x_iR1 ?_ | refine x_iR2 ?_ | refine x_lc ?_ | refine x_bm ?_ | refine x_bm0 ?_ | refine x_sl ?_ | refine x_nopart ?_ | refine x_part ?_ | refine x_some ?_ | refine x_bl ?_))
local macro_rules | `(tactic| walk_at "k9") => `(tactic| repeat (walk_at "k91"))
theorem RSt.put {a c l D : Addr} {H : Hp} {n : Nat} {o : HO} (r : RSt a c l H n) (h1 : D ≠ a) (h2 : D ≠ c) (h3 : D ≠ l) : RSt a c l (upd H D o) n := by
  obtain ⟨cs, ls, e1, e2, e3, h⟩ := r.ex
  exact ⟨cs, ls, by rw [upd_ne (Ne.symm h1)]; exact e1, by rw [upd_ne (Ne.symm h2)]; exact e2, by rw [upd_ne (Ne.symm h3)]; exact e3, h⟩
theorem RSt.newc {a c l b : Addr} {H : Hp} {n : Nat} (r : RSt a c l H n) (h : H b = none) : b ≠ a ∧ b ≠ c ∧ b ≠ l := by
  obtain ⟨cs, ls, e1, e2, e3, _⟩ := r.ex
  exact ⟨fun z => (by rw [z, e1] at h; cases h), fun z => (by rw [z, e2] at h; cases h), fun z => (by rw [z, e3] at h; cases h)⟩
theorem x_iR1n {H : Hp} {σ : L2.St} {ta : TA} {R : It → Hp → Prop} {m : Nat} (hm : m ≤ 100000) (k : R (Itr 0 m) H) : ∃ j : Int, [V.int ((m : Nat) : Int)] = [.int j] ∧ -(2 ^ 62) ≤ j ∧ j < 2 ^ 62 ∧ R (Itr 0 j.toNat) H := ⟨_, rfl, by omega, by omega, by rw [Int.toNat_natCast]; exact k⟩
def sp_law_step : Sp := fun vs H Q _ => ∃ (a c l : Addr) (n z m b : Nat), vs = [.ref a, .int (z : Nat), .int (m : Nat), .int (b : Nat)] ∧ RSt a c l H n ∧ n + 2 * z + 3 < 2 ^ 20 ∧ z ≤ 1000 ∧ 1 ≤ m ∧ m ≤ 1000 ∧ 1 ≤ b ∧ b ≤ 1000 ∧
  ∀ H' v qs, SB a l H H' → RSt a c l H' (n + 2 * z + 3) → RS H' v qs → qs.length = z + 1 → (∀ q ∈ qs, Fr m b q) → K9M.lastQ qs ≠ 0 → Q v H'
section
variable {P : Program} {w : World} {K : PySem.W.Frag} {mg : Str → Option Value} {base : Heap}
abbrev s_law_step : Stmt := topS 40
abbrev N_law_step : List Str := ["_law_state", "_law_size", "_law_most", "_law_below", "_law_found", "_law_head", "_law_power"]
theorem sc_law_step : FnScope N_law_step ["_law_state", "_law_size", "_law_most", "_law_below"] (defScope s_law_step) := ⟨rfl, rfl, rfl, by decide +kernel, rfl, by decide +kernel, by decide +kernel⟩
theorem kn_law_step (D : DefAt K mg "_law_step" s_law_step) (T : Wd mg) (k_law_number : Kn P w K mg base CX0 3 "_law_number" ["_law_state", "_law_most", "_law_below"] sp_law_number) (k_law_frac : Kn P w K mg base CX0 2 "_law_frac" ["_law_above", "_law_below"] sp_number_of) (k_law_draw : Kn P w K mg base CX0 2 "_law_draw" ["_law_state", "_law_limit"] sp_law_draw) :
    Kn P w K mg base CX0 4 "_law_step" ["_law_state", "_law_size", "_law_most", "_law_below"] sp_law_step := by
  have S := sc_law_step
  refine Kn.of D S (fun vs H Q E h => ?_) (fun _ _ _ _ _ _ us hl => match us, hl with | [_, _, _, _], _ => rfl) fun f cdv A outer s H vs Q E hr h => ?_
  · obtain ⟨_, _, _, _, _, _, _, rfl, _⟩ := h; rfl
  obtain ⟨a, c, l, n, z, m, b, rfl, st, hn, z1, m1, m2, b1, b2, q⟩ := h
  refine ⟨_, PSs.nox (pss_cons (ps_setLc (i := 4) (own := [("_law_power", 6)]) (g := gName 6) rfl S.nd rfl rfl (sw_true rfl rfl rfl (by decide +kernel)) (pi_range1 (by rfl) T.range (pa_cons (pv 1) pa_nil)) (blkOk_by (own := [("_law_power", 6)]) (N := N_law_step) (sc := defScope s_law_step) (by decide +kernel)) (fun _ _ _ _ _ => (pg_name (i := 6) S.nd rfl (by first | exact .inl rfl | exact .inr rfl))) (fun _ _ _ _ _ => pts_nil) (fun _ _ _ _ _ => (pe_kn k_law_number (hr.mono (by decide)) (by rfl) pass0 (pa_cons (pv 0) (pa_cons (pv 2) (pa_cons (pv 3) pa_nil))))))
    (pss_cons (ps_set (i := 5) S.nd rfl (Or.inl rfl) (pe_kn k_law_frac (hr.mono (by decide)) (by rfl) pass0 (pa_cons (pe_op op_mulX (pe_op op_add pe_int (pe_kn k_law_draw (hr.mono (by decide)) (by rfl) pass0 (pa_cons (pv 0) (pa_cons (pv 2) pa_nil)))) (pe_op op_sub pe_int (pe_op op_mulX pe_int (pe_kn k_law_draw (hr.mono (by decide)) (by rfl) pass0 (pa_cons (pv 0) (pa_cons pe_int pa_nil)))))) (pa_cons (pe_op op_add pe_int (pe_kn k_law_draw (hr.mono (by decide)) (by rfl) pass0 (pa_cons (pv 0) (pa_cons (pv 3) pa_nil)))) pa_nil))))
    (pss_one (ps_ret (pe_callTy call_tuple_of (by rfl) T.tuple (by decide +kernel) (pa_cons (pe_op op_cat (pv 4) (pe_lst (pa_cons (pv 5) pa_nil))) pa_nil)))))), ?_⟩
  walk_at "k9"
  refine ⟨_, rfl, by omega, by omega, ?_⟩
  rw [Int.toNat_natCast]
  intro D hD
  obtain ⟨Da, Dc, Dl⟩ := st.newc hD
  refine lc_it walk_range (fun i H' => SB a l H H' ∧ RSt a c l H' (n + 2 * i) ∧ ∃ ys, H' D = some (.lst ys) ∧ ys.length = i ∧ ∀ (j : Nat) v, ys[j]? = some v → ∃ q, RQ H' v q ∧ Fr m b q) ⟨Same.sb (same_upd hD), st.put Da Dc Dl, [], upd_same, rfl, fun j v e => by simp at e⟩ (fun _ _ _ _ => trivial) ?_ ?_
  · rintro i x H1 _ hi ⟨sb1, st1, ys, e1, l1, f1⟩ ⟨rfl, rfl⟩
    refine ⟨rfl, ?_⟩
    unfold tYes
    dsimp only
    rw [if_pos rfl]
    walk_at "k9"
    refine ⟨a, c, l, n + 2 * i, m, b, rfl, st1, by omega, m1, m2, b1, b2, fun H2 v q sb2 st2 r2 fr => ?_⟩
    refine ⟨ys, sb2 _ _ Da Dl e1, by rw [l1]; exact Nat.lt_of_lt_of_le (by omega : i < 1001) (by decide), ?_, st2.put Da Dc Dl, ys ++ [v], upd_same, by simp [l1], fun j w ej => ?_⟩
    · intro b' o h1 h2 e
      rw [upd_ne (fun z => by rw [z, hD] at e; cases e)]
      exact sb2 _ _ h1 h2 (sb1 _ _ h1 h2 e)
    · have tm := tsame_lst (o := .lst (ys ++ [v])) (sb2 _ _ Da Dl e1)
      rcases Nat.lt_or_ge j ys.length with k | k
      · rw [List.getElem?_append_left k] at ej
        obtain ⟨q', r', fr'⟩ := f1 j w ej
        exact ⟨q', (r'.tsame (st1.tup sb2)).tsame tm, fr'⟩
      · rw [List.getElem?_append_right k] at ej
        have : j - ys.length = 0 := by
          rcases Nat.eq_zero_or_pos (j - ys.length) with z | z
          · exact z
          · rw [List.getElem?_eq_none (by simp; omega)] at ej; cases ej
        rw [this] at ej
        cases ej
        exact ⟨q, r2.tsame tm, fr⟩
  rintro H1 ⟨sb1, st1, ys, e1, l1, f1⟩
  walk_at "k9"
  refine ⟨a, c, l, n + 2 * z, _, rfl, st1, by omega, by omega, by omega, fun H2 i i0 i1 sb2 st2 => ?_⟩
  walk_at "k9"
  refine ⟨a, c, l, n + 2 * z + 1, _, rfl, st2, by omega, by omega, by omega, fun H3 j j0 j1 sb3 st3 => ?_⟩
  walk_at "k9"
  refine x_i (mulx_small (by decide) (by omega)) ?_
  walk_at "k9"
  refine x_i (mulx_small (by omega) (by omega)) ?_
  walk_at "k9"
  refine ⟨a, c, l, n + 2 * z + 1 + 1, _, rfl, st3, by omega, by omega, by omega, fun H4 k k0 k1 sb4 st4 => ?_⟩
  walk_at "k9"
  refine ⟨_, _, rfl, by omega, Nat.lt_of_le_of_lt (by omega : _ ≤ 1001) (Nat.lt_of_lt_of_le (by decide : 1001 < 2 ^ 10) (Nat.pow_le_pow_right (by decide) (by decide))), fun H5 v s5 r5 => ?_⟩
  have sb15 : SB a l H1 H5 := ((sb2.trans sb3).trans sb4).trans (Same.sb s5)
  have e5 := sb15 _ _ Da Dl e1
  walk_at "k9"
  refine ⟨by show 1 ≤ sizeLine; decide, fun t1 ht1 => ?_⟩
  refine x_cat (mem_upd ht1 e5) upd_same (by simp; omega) fun t2 ht2 => ?_
  walk_at "k9"
  refine ⟨t2, _, rfl, .inl ⟨.of upd_same, fun t3 ht3 => ?_⟩⟩
  have s35 : Same H5 (upd (upd (upd H5 t1 (.lst [v])) t2 (.lst (ys ++ [v]))) t3 (.tup (ys ++ [v]))) := fun b o e => mem_upd ht3 (mem_upd ht2 (mem_upd ht1 e))
  have hj : (1 - 2 * j = 1 ∨ 1 - 2 * j = -1) := by omega
  have hx0 : (1 + i) * (1 - 2 * j) ≠ 0 := by rcases hj with h | h <;> rw [h] <;> omega
  have hxm : ((1 + i) * (1 - 2 * j)).natAbs ≤ m := by rcases hj with h | h <;> rw [h] <;> omega
  obtain ⟨qs, hq, hf⟩ : ∃ qs : List Rat, Rqs H1 ys qs ∧ ∀ q ∈ qs, Fr m b q := by
    clear e5 e1
    have : ∀ ys : List V, (∀ (j : Nat) v, ys[j]? = some v → ∃ q, RQ H1 v q ∧ Fr m b q) → ∃ qs : List Rat, Rqs H1 ys qs ∧ ∀ q ∈ qs, Fr m b q := by
      intro ys
      induction ys with
      | nil => exact fun _ => ⟨[], .nil, fun q h => by simp at h⟩
      | cons y ys ih =>
        intro f
        obtain ⟨q, r, fr⟩ := f 0 y rfl
        obtain ⟨qs, h1, h2⟩ := ih fun j v e => f (j + 1) v (by simpa using e)
        exact ⟨q :: qs, Rqs.app (.one r) h1, fun q' h => by rcases List.mem_cons.mp h with e | e; · rw [e]; exact fr
                                                            · exact h2 _ e⟩
    exact this ys f1
  have hql := hq.1
  refine q _ _ (qs ++ [((((1 + i) * (1 - 2 * j) : Int)) : Rat) / (((1 + k : Int)) : Rat)]) ((sb1.trans sb15).trans (Same.sb s35)) ((st4.same s5).same s35) ⟨t3, _, rfl, upd_same, ((hq.tsame (st1.tup sb15)).snoc r5).tsame (Same.tup s35)⟩ (by simp; omega) (fun q' h => ?_) ?_
  · rcases List.mem_append.mp h with h | h
    · exact hf _ h
    · rw [List.mem_singleton.mp h]
      exact ⟨_, _, rfl, hxm, by omega, by omega⟩
  · unfold K9M.lastQ
    rw [K9M.coef_of (x := ((((1 + i) * (1 - 2 * j) : Int)) : Rat) / (((1 + k : Int)) : Rat)) (by simp)]
    have a1 := K9M.cast_ne hx0
    have a2 := K9M.cast_ne (D := 1 + k) (by omega)
    intro zz
    have hm := Rat.div_mul_cancel (a := ((((1 + i) * (1 - 2 * j) : Int)) : Rat)) a2
    rw [zz, Rat.zero_mul] at hm
    exact a1 hm.symm
def ltrim (l : List Rat) : List Rat := if K9M.trim l = [] then [0] else K9M.trim l
theorem trim_one0 : K9M.trim [0] = [] := (K9M.trim_snoc_zero []).trans (by unfold K9M.trim; rfl)
theorem ltrim_last {l : List Rat} (h : l ≠ []) (z : K9M.lastQ l ≠ 0) : ltrim l = l := by
  unfold ltrim
  rw [K9M.tr_eq (fun x hx => ?_), if_neg h]
  rw [List.getLast?_eq_getElem?, K9M.lastQ_get h] at hx
  cases hx
  exact z
theorem ltrim_pop (l : List Rat) : ltrim (l ++ [0]) = ltrim l := by unfold ltrim; rw [K9M.trim_snoc_zero]
theorem ltrim_one (q : Rat) : ltrim [q] = [q] := by
  by_cases h : q = 0
  · subst h
    unfold ltrim
    rw [trim_one0]; rfl
  · exact ltrim_last (by simp) h
theorem snoc_of {α : Type} {l : List α} (h : l ≠ []) : ∃ r x, l = r ++ [x] := ⟨l.dropLast, l.getLast h, (List.dropLast_concat_getLast h).symm⟩
theorem lastQ_snoc (r : List Rat) (x : Rat) : K9M.lastQ (r ++ [x]) = x := by unfold K9M.lastQ; exact K9M.coef_of (by simp)
theorem Rqs.unsnoc {H : Hp} {vs : List V} {qs : List Rat} {q : Rat} (h : Rqs H vs (qs ++ [q])) : ∃ ws v, vs = ws ++ [v] ∧ Rqs H ws qs ∧ RQ H v q := by
  have hl := h.1
  obtain ⟨ws, v, rfl⟩ := snoc_of (l := vs) (fun z => by subst z; simp at hl)
  have hl2 : ws.length = qs.length := by simpa using hl
  refine ⟨ws, v, rfl, ⟨hl2, fun i x e => ?_⟩, ?_⟩
  · have hi := (List.getElem?_eq_some_iff.mp e).1
    obtain ⟨q', e', r⟩ := h.2 i x (by rw [List.getElem?_append_left hi]; exact e)
    exact ⟨q', by rw [List.getElem?_append_left (by omega)] at e'; exact e', r⟩
  · obtain ⟨q', e', r⟩ := h.2 ws.length v (by simp)
    rw [hl2] at e'
    simp at e'
    rw [e']; exact r
theorem q_zero (q : Rat) : q = 0 ↔ q.num = 0 := Rat.num_eq_zero.symm
theorem eqv01 (q : Rat) : PyData.eqv (.tuple [.int q.num, .int ((q.den : Nat) : Int)]) (.tuple [.int 0, .int 1]) = decide (q = 0) := by
  by_cases h : q = 0
  · subst h
    rfl
  · have : q.num ≠ 0 := fun z => h ((q_zero q).mpr z)
    simp [PyData.eqv, PyData.eqvAll, h, this]
theorem dp_num {K : PySem.W.Frag} {H : Hp} {a : Addr} {i j : Int} (h : H a = some (.tup [.int i, .int j])) : Dp K H (.ref a) (.tuple [.int i, .int j]) := .tup (.of h) (.cons (.int i) (.cons (.int j) .nil))
theorem x_eq01 {K : PySem.W.Frag} {H : Hp} {Q : VK} {v : V} {t : Addr} {q : Rat} (h : RQ H v q) (h2 : H t = some (.tup [.int 0, .int 1])) (k : Q (.bl (decide (q = 0))) H) : rEqD K v (.ref t) H Q := by
  obtain ⟨b, rfl, hb⟩ := h
  exact ⟨_, _, dp_num hb, dp_num h2, rfl, rfl, by rw [eqv01]; exact k⟩
theorem x_ne01 {K : PySem.W.Frag} {H : Hp} {Q : VK} {v : V} {t : Addr} {q : Rat} (h : RQ H v q) (h2 : H t = some (.tup [.int 0, .int 1])) (k : Q (.bl (!decide (q = 0))) H) : rNeD K v (.ref t) H Q := by
  obtain ⟨b, rfl, hb⟩ := h
  exact ⟨_, _, dp_num hb, dp_num h2, rfl, rfl, by rw [eqv01]; exact k⟩
def sp_law_trim : Sp := fun vs H Q _ => ∃ (v : V) (qs : List Rat), vs = [v] ∧ RL H v qs ∧ qs ≠ [] ∧ qs.length ≤ 1000 ∧ ∀ H' v, Same H H' → RS H' v (ltrim qs) → Q v H'
abbrev s_law_trim : Stmt := topS 45
abbrev N_law_trim : List Str := ["_law_told", "_law_found"]
theorem sc_law_trim : FnScope N_law_trim ["_law_told"] (defScope s_law_trim) := ⟨rfl, rfl, rfl, by decide +kernel, rfl, by decide +kernel, by decide +kernel⟩
theorem kn_law_trim (D : DefAt K mg "_law_trim" s_law_trim) (T : Wd mg) : Kn P w K mg base CX0 1 "_law_trim" ["_law_told"] sp_law_trim := by
  have S := sc_law_trim
  refine Kn.of D S (fun vs H Q E h => ?_) (fun _ _ _ _ _ _ us hl => match us, hl with | [_], _ => rfl) fun f cdv A outer s H vs Q E hr h => ?_
  · obtain ⟨_, _, rfl, _⟩ := h; rfl
  obtain ⟨_, qs, rfl, ⟨p, vs, rfl, hp, rv⟩, hne, hn, k⟩ := h
  refine ⟨_, PSs.nox (pss_cons (ps_set (i := 1) S.nd rfl (Or.inl rfl) (pe_callTy call_list_of (by rfl) T.list (by decide +kernel) (pa_cons (pv 0) pa_nil)))
    (pss_cons (ps_while PassesOwn.never (PW.pt (pw_and (pt_cmpR op_gt (pe_callB (lenK (K := K) rfl) (by rfl) T.len PySem.boot_len (pa_cons (pv 1) pa_nil)) pe_int (nomark _)) (pw_and1 (pt_cmpR (eqD (K := K) hr.units rfl) (pe_ix (ixL (K := K) rfl) (pv 1) (pe_un un_neg pe_int) (fun _ _ => rfl)) (pe_tup (pa_cons pe_int (pa_cons pe_int pa_nil))) (nomark _)))))
      (pss_one (ps_expr (pe_bm0 PySem.F.plainAttrs_list PySem.F.slot_list_pop PySem.F.type_list_pop mt_pop (pv 1)))))
    (pss_one (ps_ret (pe_callTy call_tuple_of (by rfl) T.tuple (by decide +kernel) (pa_cons (pv 1) pa_nil)))))), ?_⟩
  walk_at "k9"
  refine ⟨p, _, rfl, .inl (.of hp), fun l hl => ?_⟩
  walk_at "k9"
  refine x_whileK (fun m σ' H' => ∃ ws rs, σ' = [some (.ref p), some (.ref l)] ∧ rs.length = m ∧ Same H H' ∧ H' l = some (.lst ws) ∧ Rqs H' ws rs ∧ rs ≠ [] ∧ rs.length ≤ qs.length ∧ ltrim rs = ltrim qs)
    (fun σ' H' => ∃ ws, σ' = [some (.ref p), some (.ref l)] ∧ Same H H' ∧ H' l = some (.lst ws) ∧ Rqs H' ws (ltrim qs)) qs.length ⟨vs, qs, rfl, rfl, same_upd hl, upd_same, rv.tsame (Same.tup (same_upd hl)), hne, Nat.le_refl _, rfl⟩ ?_ ?_
  · rintro _ H' ⟨ws, rfl, s1, hl', rw'⟩
    walk_at "k9"
    exact ⟨l, _, rfl, .inl ⟨.of hl', fun t ht => k _ _ (fun a o e => mem_upd ht (s1 _ _ e)) ⟨t, ws, rfl, upd_same, rw'.tsame (Same.tup (same_upd ht))⟩⟩⟩
  rintro hd m _ H' ⟨ws, rs, rfl, rfl, s1, hl', rw', hne', hle, el⟩
  obtain ⟨r0, q0, rfl⟩ := snoc_of hne'
  obtain ⟨w0, v0, rfl, rw0, rq0⟩ := rw'.unsnoc
  have lw := rw0.1
  walk_at "k9"
  refine ⟨l, _, rfl, .inl (.of hl'), ?_⟩
  walk_at "k9"
  by_cases h1 : r0 = []
  · subst h1
    have : w0 = [] := List.length_eq_zero_iff.mp (by rw [lw]; rfl)
    subst this
    refine x_no (by simp) ?_
    refine x_no rfl ?_
    refine hd _ _ ⟨_, rfl, s1, hl', ?_⟩
    rw [← el]
    show Rqs H' _ (ltrim [q0])
    rw [ltrim_one]
    exact rw'
  have hpos := List.length_pos_iff.mpr h1
  refine x_yes (by simp; omega) ?_
  walk_at "k9"
  refine x_ixL hl' (atI_last _ _) ?_
  walk_at "k9"
  refine ⟨by show 2 ≤ sizeLine; decide, fun t ht => ?_⟩
  have s2 : Same H' (upd H' t (.tup [.int 0, .int 1])) := same_upd ht
  refine x_eq01 (rq0.same s2) upd_same ?_
  walk_at "k9"
  by_cases hq : q0 = 0
  · refine x_yes (decide_eq_true hq) ?_
    refine x_turn ?_
    walk_at "k9"
    refine x_tyL (s2 _ _ hl') ?_
    refine x_pop (s2 _ _ hl') ?_
    subst hq
    refine ⟨r0.length, by simp, w0, r0, rfl, rfl, fun a o e => ?_, upd_same, (rw0.tsame (Same.tup s2)).tsame (tsame_lst (s2 _ _ hl')), h1, by simp at hle; omega, by rw [← el, ltrim_pop]⟩
    rw [upd_ne (fun z => by rw [z, hl] at e; cases e)]
    exact s2 _ _ (s1 _ _ e)
  · refine x_no (decide_eq_false hq) ?_
    refine hd _ _ ⟨_, rfl, fun a o e => s2 _ _ (s1 _ _ e), s2 _ _ hl', ?_⟩
    rw [← el, ltrim_last hne' (by rw [lastQ_snoc]; exact hq)]
    exact rw'.tsame (Same.tup s2)
end
end K9

set_option Elab.async false
set_option linter.all false
set_option maxRecDepth 100000
set_option maxHeartbeats 4000000
namespace PySem
open Sem (wp)
open AutoSeq1 (wpAny_loadPart')
namespace K9E
theorem meets_enum {v : Value} {o : Obj} {S : Heap → Prop} (B : Begins v o S) :
    Meets (Builtin.«enumerate.__new__» ⟨[.type "enumerate", v], []⟩) (fun _ R s => S s.heap ∧
      R (.ok (.ret (.ref (s.heap.push o).objs.size))) { s with heap := (s.heap.push o).push { cls := .type "enumerate", data := .fields #[.none, .bool false, .ref s.heap.objs.size, rawInt 0, .none, .none] } }) :=
  .of_wp fun prog w A R s k => by
    obtain ⟨hp, g, d, tk, os⟩ := s
    obtain ⟨k1, k⟩ := k
    have hsub := sub_enumerate
    have q1 : ∀ {A' : Around} {E : Value → Shared → Prop} {Q : Value → Shared → Prop}, Q (.ref hp.objs.size) ⟨hp.push o, g, d, tk, os⟩ → wpAny (model prog w) A' (pyIter v) Q E ⟨hp, g, d, tk, os⟩ := fun q => B.iter prog w _ _ ⟨hp, g, d, tk, os⟩ _ k1 q
    wp_walk using q1
    refine wpAny_stack_any fun st => wpAny_pure ?_
    split
    · rename_i c _ _ _ _ _
      cases (c == Value.type "enumerate") <;> (wp_walk using q1; exact ⟨_, rfl, k⟩)
    · wp_walk using q1
      exact ⟨_, rfl, k⟩
section
variable {prog : Program} {w : World} {A : Around} {E : Value → Shared → Prop} {s : Shared}
theorem call_enum {v : Value} {o : Obj} {S : Heap → Prop} {Q : Value → Shared → Prop} (B : Begins v o S) (k1 : S s.heap)
    (k : ∀ h', IsEnum h' (s.heap.objs.size + 1) s.heap.objs.size 0 .none → h'.get? s.heap.objs.size = some o → h'.objs.size = s.heap.objs.size + 2 → (∀ b o, s.heap.get? b = some o → h'.get? b = some o) → Q (.ref (s.heap.objs.size + 1)) { s with heap := h' }) :
    wpAny (model prog w) A (call (.type "enumerate") [v]) Q E s := by
  refine callType_new F.called_enumerate (by decide) (F.typeCall_enumerate_1 _) (F.newCall_enumerate_1 _) (fun obj => F.args_object_init_2 obj _) F.entry_enumerate_new (meets_enum B) ⟨k1, ?_⟩
  have hz : (s.heap.push o).objs.size = s.heap.objs.size + 1 := Heap.size_push ..
  show _ ∧ _
  rw [hz]
  have he : IsEnum ((s.heap.push o).push { cls := .type "enumerate", data := .fields #[.none, .bool false, .ref s.heap.objs.size, rawInt 0, .none, .none] }) (s.heap.objs.size + 1) s.heap.objs.size 0 .none := by
    have := Heap.get?_push_size (s.heap.push o) (o := { cls := .type "enumerate", data := .fields #[.none, .bool false, .ref s.heap.objs.size, rawInt 0, .none, .none] }) rfl
    rw [hz] at this
    exact this
  exact ⟨⟨_, he, rfl⟩, k _ he (Heap.get?_push_of_some _ (Heap.get?_push_size _ B.free)) (by rw [Heap.size_push, hz]) fun b o x => Heap.get?_push_of_some _ (Heap.get?_push_of_some _ x)⟩
theorem next_end {e it t : Addr} {i : Nat} {j : Int} {items : Array Value} {old : Value} {Q : Option Value → Shared → Prop} (hh : A.in1.handled = none) (he : IsEnum s.heap e it j old) (hit : s.heap.IsTupleIter it t i) (hl : s.heap.IsTuple t items) (hx : items[i]? = none)
    (hQ : ∀ h', Heap.ExtBut it s.heap h' → Q none { s with heap := h' }) : wpAny (model prog w) A (pyNext (.ref e)) Q E s := by
  have hT : s.TypeIs (.ref e) "enumerate" := ⟨_, he, rfl⟩
  unfold pyNext
  refine wpAny_bind (wpAny_attempt (wpAny_callSpecial?_slot (name := Str.ofString "__next__") hT F.slot_enumerate_next (wpAny_call_entry F.slot_enumerate_next hT F.entry_enumerate_next ?_ (F.args_enumerate_next_1 _))))
  show wpAny _ _ (field (.ref e) 2 >>= _) _ _ _
  refine wpAny_bind (wpAny_field he rfl (x := .ref it) rfl ?_)
  refine wpAny_bind (wpAny_nextOf_tuple_end hh hit hl hx fun h' x k' hx' => ?_)
  obtain ⟨o, ho, hc⟩ := hx'
  refine wpAny_bind (wpAny_isInstance (T := "StopIteration") (b := true) ⟨o, ho, hc⟩ isSubtype_stop ?_)
  exact wpAny_pure (hQ _ k')
end
end K9E
end PySem
namespace L2
open PySem PySem.Spec PyProof.Rows
/-- enumerate of the tuple at a -/
def IteT (K : PySem.W.Frag) (a : Addr) : It :=
  ⟨fun i H => ∃ (xs : List V) (x : V), SqT K H a xs ∧ xs[i]? = some x, fun i H v H' => ∃ T x, v = .ref T ∧ H T = none ∧ H' = upd H T (.tup [.int (i : Nat), x]) ∧ ∀ xs, SqT K H a xs → xs[i]? = some x, fun i H => ∃ xs : List V, SqT K H a xs ∧ xs.length ≤ i⟩
theorem turn_enumT {P : Program} {w : World} {K : PySem.W.Frag} {elts : List Expr} {kk : Nat} {tpos : Pos} (a e it : Addr) (hai : a ≠ it) (hae : a ≠ e) :
    Turn P w K (.Tuple elts kk tpos) (IteT K a) [e, it] e (fun i h => (∃ old, IsEnum h e it ((i : Nat) : Int) old) ∧ h.IsTupleIter it a i ∧ e ≠ it) where
  mem := by simp
  obj := fun i h st b hb => by
    obtain ⟨⟨old, he⟩, ⟨o, ho, hc, hd⟩, _⟩ := st
    have e' : b = e ∨ b = it := by simpa using hb
    rcases e' with z | z
    · rw [z]; exact ⟨_, he, fun v q => nomatch q⟩
    · rw [z]; exact ⟨o, ho, fun v q => by rw [hd] at q; cases q⟩
  keep := fun i h h' st k => by
    obtain ⟨⟨old, he⟩, hi, hne⟩ := st
    exact ⟨⟨old, k e (by simp) _ he⟩, hi.at (fun o q => k it (by simp) o q), hne⟩
  item := by
    intro X hP hw hK hc i pins s σ H E I hf st hg
    subst hP hw hK
    obtain ⟨⟨old, he⟩, hit, hne⟩ := st
    obtain ⟨xs, x, hq, hx⟩ := hg
    obtain ⟨its, rv, p, hz⟩ := I.tuple hq
    obtain ⟨u, hu, ru⟩ := rv.get hx
    have hel : e < s.heap.objs.size := Heap.lt_size he
    have hil : it < s.heap.objs.size := by obtain ⟨_, q, _⟩ := hit; exact Heap.lt_size q
    have D := Draws.tuple (prog := X.prog) (w := X.w) (A := X.A.in1) (show X.A.in1.handled = none from I.ok.hd hc) it a hai its.toArray
    have hlt : i < its.toArray.size := by have := (List.getElem?_eq_some_iff.mp hu).1; simpa using this
    refine wpAny_pyNext_enum_itemD D he ⟨hit, p⟩ hlt hne (by simp [hne, Ne.symm hae]) fun y h' tk hy ho hit' hT hsz hk => ?_
    have ey : y = u := by rw [show its.toArray[i]? = some u by simpa using hu] at hy; exact (Option.some.inj hy).symm
    subst ey
    refine ⟨_, rfl, wpAny_letOwnedTupleGo_enum (s := { s with heap := h', toks := tk + 1 }) ho fun h'' he' sb => ?_⟩
    have hT2 : h''.get? s.heap.objs.size = some { cls := .type "tuple", data := .seq #[.int i tk, y] } := (sb.2 _ (Nat.ne_of_gt hel)).trans hT
    have new : ObjOk X.prog X.w (upd H s.heap.objs.size (.tup [.int (i : Nat), x])) h'' s.heap.objs.size (.tup [.int (i : Nat), x]) := ⟨by show 2 ≤ sizeLine; decide, [.int i tk, y], .cons ⟨_, rfl⟩ (.cons ru .nil), ⟨_, hT2, rfl, _, rfl⟩⟩
    have I1 : Inv X pins σ (upd H s.heap.objs.size (.tup [.int (i : Nat), x])) { s with heap := h'', toks := tk + 1 } :=
      I.turnedNew (ch := [e, it]) (fun b ob hb q => (sb.2 b (fun z => hb (by simp [z]))).trans (hk b ob (fun z => hb (by simp [z])) (fun z => hb (by simp [z])) q)) hf (Nat.le_refl _) new
    refine ⟨.ref s.heap.objs.size, _, I1, rfl, ⟨_, x, rfl, I.hok.fresh (Nat.le_refl _), rfl, fun ys hy => by rw [I.tuple_inj hy hq]; exact hx⟩, ⟨⟨y, ?_⟩, hit'.1.at (fun o q => (sb.2 it (Ne.symm hne)).trans q), hne⟩, fun b hb => ?_⟩
    · rw [show ((i + 1 : Nat) : Int) = (i : Int) + 1 by omega]; exact he'
    · have hb' : b < s.heap.objs.size := by
        have e' : b = e ∨ b = it := by simpa using hb
        rcases e' with z | z
        · rw [z]; exact hel
        · rw [z]; exact hil
      rw [upd_ne (Nat.ne_of_lt hb')]
      exact (hf b hb).1
  done := by
    intro X hP hw hK hc i pins s σ H E I hf st hg
    subst hP hw hK
    obtain ⟨⟨old, he⟩, hit, hne⟩ := st
    obtain ⟨xs, hq, hx⟩ := hg
    obtain ⟨its, rv, p, hz⟩ := I.tuple hq
    obtain ⟨f0, f1, f2, f3, f4, f5⟩ := hf it (by simp)
    have hl := rv.length
    exact PySem.K9E.next_end (show X.A.in1.handled = none from I.ok.hd hc) he hit p (by simp; omega) fun h' eb => ⟨rfl, I.turned (t' := s.toks) (fun b o hb q => eb b o hb q) f0 f1 f3 f4 f5⟩
  self := fun A i s Q E st h => let ⟨⟨_, he⟩, _⟩ := st; wpAny_pyIter_enum he h
def iEnumT (K : PySem.W.Frag) (ta : TA) : TI := fun σ H R => ta σ H fun vs H1 => ∃ a xs, vs = [.ref a] ∧ SqT K H1 a xs ∧ R (IteT K a) H1
theorem pi_enumT {X : Cx} {e : Expr} {ta : TA} {p pos tpos : Pos} {elts : List Expr} {kk : Nat} (hg : Gl X "enumerate") (hm : X.mg "enumerate" = none) (ha : PA X [e] ta) (hs : starEach [e] X.env = [(false, eval e X.env)] := by rfl) :
    PI X (.Tuple elts kk tpos) (.Call (.Name "enumerate" p) [e] [] pos) (iEnumT X.K ta) := by
  refine ⟨fun pins s σ H R I k => ?_⟩
  refine Call_ (ld_blt I hg hm boot_enumerate (PyProof.Rows.callWith_type1 (thn (ha.run pos pins s σ H _ I k) fun us s1 ⟨vs, H1, I1, r1, q1⟩ => ?_) hs rfl))
  obtain ⟨a, xs, ex, hq, q⟩ := q1
  subst ex
  cases r1 with
  | cons r rr =>
    cases rr
    cases r
    obtain ⟨its, rv, p', hz⟩ := I1.tuple hq
    have hal : a < s1.heap.objs.size := by obtain ⟨_, q, _⟩ := p'; exact Heap.lt_size q
    refine PySem.K9E.call_enum (begins_tuple a its.toArray) p' fun h' he hit hsz hk => wpAny_pyIter_enum he ?_
    have I2 : Inv X pins σ H1 { s1 with heap := h' } := I1.kept (t' := s1.toks) hk
    refine ⟨s1.heap.objs.size + 1, [s1.heap.objs.size + 1, s1.heap.objs.size], _, _, H1, rfl, I2, turn_enumT a (s1.heap.objs.size + 1) s1.heap.objs.size (Nat.ne_of_lt hal) (Nat.ne_of_lt (Nat.lt_succ_of_lt hal)), ⟨⟨.none, he⟩, ⟨_, hit, rfl, rfl⟩, Nat.succ_ne_self _⟩, fun b hb => ?_, q⟩
    have e' : b = s1.heap.objs.size + 1 ∨ b = s1.heap.objs.size := by simpa using hb
    have hle : s1.heap.objs.size ≤ b := by
      rcases e' with z | z
      · rw [z]; exact Nat.le_add_right _ _
      · rw [z]; exact Nat.le_refl _
    exact I1.fpOk hle (I1.hok.fresh hle)
theorem walk_enumT {K : PySem.W.Frag} {a : Addr} {xs : List V} : Walk (IteT K a) xs.length (fun H => SqT K H a xs) (YPair (fun i => some (.int (i : Nat))) (fun i => xs[i]?)) := by
  refine ⟨fun i _ hi q => ⟨xs, xs[i], q, by simp [hi]⟩, fun _ q => ⟨xs, q, Nat.le_refl _⟩, fun i H v H' _ q y => ?_⟩
  obtain ⟨T, x, h1, h2, h3, h4⟩ := y
  exact ⟨T, .int (i : Nat), x, h1, h2, h3, rfl, h4 xs q⟩
/-- t[::-1] of a tuple -/
def tRevT (K : PySem.W.Frag) (te : TE) : TE := fun σ H Q => te σ H fun x H1 => ∃ a xs, x = .ref a ∧ SqT K H1 a xs ∧ ∀ p, H1 p = none → Q (.ref p) (upd H1 p (.tup xs.reverse))
end L2

set_option Elab.async false
set_option linter.all false
set_option maxRecDepth 100000
set_option maxHeartbeats 4000000
namespace PySem
namespace K9V
open HT PyProof.Rows
theorem fm_congr {α β : Type} {f g : α → Option β} : ∀ {l : List α}, (∀ x ∈ l, f x = g x) → l.filterMap f = l.filterMap g
  | [], _ => rfl
  | a :: l, h => by
    rw [List.filterMap_cons, List.filterMap_cons, h a List.mem_cons_self, fm_congr fun x hx => h x (List.mem_cons_of_mem _ hx)]
theorem rev_pick (xs : Array Value) : ((List.range xs.size).filterMap fun (m : Nat) => xs[(((xs.size : Int) - 1) + (m : Int) * (-1)).toNat]?).toArray = xs.toList.reverse.toArray := by
  have e : (List.range xs.size).filterMap (fun (m : Nat) => xs[(((xs.size : Int) - 1) + (m : Int) * (-1)).toNat]?) = ((List.range xs.size).map fun k => xs.size - 1 - k).filterMap (xs[·]?) := by
    rw [List.filterMap_map]
    refine fm_congr fun m hm => ?_
    have := List.mem_range.mp hm
    show xs[(((xs.size : Int) - 1) + (m : Int) * (-1)).toNat]? = xs[xs.size - 1 - m]?
    rw [show (((xs.size : Int) - 1) + (m : Int) * (-1)).toNat = xs.size - 1 - m by omega]
  rw [e, PySem.W.krv_range, List.filterMap_reverse, PySem.W.krv_all]
section
variable {prog : Program} {w : World} {A : Around} {E : Value → Shared → Prop} {s : Shared}
theorem applied_rev {sl : Addr} {vl vu vs : Value} {n : Nat} {Q : Int × Int × Nat → Shared → Prop} (hs : s.heap.IsSliceOf sl vl vu vs) (pl : IsPart vl none) (pu : IsPart vu none) (ps : IsPart vs (some (-1)))
    (k : Q ((n : Int) - 1, -1, n) s) : wpAny (model prog w) A (Builtin.Slice.sliceApplied (.ref sl) (pure (n : Int))) Q E s := by
  obtain ⟨os, hos, hcs, hds⟩ := id hs
  unfold Builtin.Slice.sliceApplied Builtin.Slice.sliceFields
  refine wpAny_bind (wpAny_bind (wpAny_field hos hds (x := vl) rfl (wpAny_bind (wpAny_field hos hds (x := vu) rfl (wpAny_bind (wpAny_field hos hds (x := vs) rfl (wpAny_pure ?_)))))))
  refine wpAny_bind (slicePart_ ps ?_)
  show wpAny _ _ (if ((-1 : Int) == 0) = true then _ else _) _ _ s
  rw [if_neg (by decide)]
  refine wpAny_bind (slicePart_ pl (wpAny_bind (slicePart_ pu (wpAny_bind (wpAny_pure ?_)))))
  have ea : Builtin.Slice.sliceAdjust none none (-1) (n : Int) = ((n : Int) - 1, -1) := rfl
  have ep : Builtin.Slice.slicePlaces ((n : Int) - 1) (-1) (-1) = n := by
    unfold Builtin.Slice.slicePlaces
    rw [if_neg (by decide), show (- -1 : Int) = 1 by decide, Int.ediv_one]
    split <;> omega
  show wpAny _ _ (match Builtin.Slice.sliceAdjust none none (-1) (n : Int) with | (lo, hi) => pure (lo, (-1 : Int), Builtin.Slice.slicePlaces lo hi (-1))) _ _ s
  rw [ea]
  show wpAny _ _ (pure ((n : Int) - 1, (-1 : Int), Builtin.Slice.slicePlaces ((n : Int) - 1) (-1) (-1))) _ _ s
  rw [ep]
  exact wpAny_pure k
theorem getItem_rev {t sl : Addr} {items : Array Value} {vl vu vs : Value} {Q : Value → Shared → Prop} (ht : IsTup s.heap t items) (hs : s.heap.IsSliceOf sl vl vu vs) (pl : IsPart vl none) (pu : IsPart vu none) (ps : IsPart vs (some (-1)))
    (k : Q (.ref s.heap.objs.size) { s with heap := s.heap.push { cls := .type "tuple", data := .seq items.toList.reverse.toArray } }) (hsz : items.size ≤ sizeLine) : wpAny (model prog w) A (getItem (.ref t) (.ref sl)) Q E s := by
  have hok : sizeOk (.seq items.toList.reverse.toArray) := by
    show items.toList.reverse.toArray.size ≤ sizeLine
    rw [List.size_toArray, List.length_reverse, Array.length_toList]
    exact hsz
  obtain ⟨os, hos, hcs, hds⟩ := id hs
  have hTs : s.TypeIs (.ref sl) "slice" := ⟨os, hos, hcs⟩
  unfold getItem
  try with_reducible refine wpAny_holding ?_
  first | refine wpAny_bind (wpAny_pure ?_) | skip
  refine wpAny_bind (wpAny_sequenceKey ht.typeIs (by decide) ?_)
  refine wpAny_bind (wpAny_callSpecial?_slot (name := Str.ofString "__getitem__") ht.typeIs PyProof.Rows.slot_tuple_getitem (wpAny_call_entry PyProof.Rows.slot_tuple_getitem ht.typeIs entry_tuple_getitem ?_ (args_tuple_getitem _ _)))
  show wpAny _ _ (Builtin.Tuple.tupleItemsOf (.ref t) >>= _) _ _ s
  refine wpAny_bind (tupleItemsOf_ ht ?_)
  refine wpAny_bind (wpAny_typeOf hTs ?_)
  rw [if_pos (by decide)]
  refine wpAny_bind (applied_rev hs pl pu ps ?_)
  have hno : ¬ ((((items.size : Int) - 1) == 0 && (-1 : Int) == 1 && items.size == items.size) = true) := by
    intro q
    rw [Bool.and_eq_true, Bool.and_eq_true] at q
    exact absurd q.1.2 (by decide)
  show wpAny _ _ (if (((items.size : Int) - 1) == 0 && (-1 : Int) == 1 && items.size == items.size) = true then _ else _) _ _ s
  rw [if_neg hno, rev_pick]
  first
    | exact wpAny_bind (m := Builtin.Tuple.tupleExact _) (wpAny_newObj_type (wpAny_pure ⟨_, rfl, wpAny_pure k⟩) hok)
    | exact wpAny_bind (m := Builtin.Tuple.tupleExact _) (wpAny_newObj_type (wpAny_bind (wpAny_pure (wpAny_pure ⟨_, rfl, wpAny_pure k⟩))) hok)
    | exact wpAny_bind (wpAny_bind (m := Builtin.Tuple.tupleExact _) (wpAny_newObj_type (wpAny_pure (wpAny_pure ⟨_, rfl, wpAny_pure k⟩)) hok))
    | exact wpAny_bind (wpAny_bind (m := Builtin.Tuple.tupleExact _) (wpAny_newObj_type (wpAny_pure ⟨_, rfl, wpAny_pure k⟩) hok))
end
end K9V
end PySem
namespace L2
open PySem PySem.Spec PyProof.Rows
theorem pe_revT {X : Cx} {e : Expr} {te : TE} {k : Nat} {p1 p2 p3 pos : Pos} (he : PE X e te) : PE X (.Subscript e (.Slice none none (some (.UnaryOp .USub (.Constant (.int 1) k p1) p2)) p3) pos) (tRevT X.K te) := by
  refine ⟨fun pins s σ H Q I h => ?_⟩
  refine Subscript_ (thn (he.run pins s σ H _ I h) fun v s1 ⟨x, H1, I1, r1, q1⟩ => ?_)
  obtain ⟨a, xs, ex, hx, q⟩ := q1
  subst ex
  cases r1
  have hst : PO X (some (.UnaryOp .USub (.Constant (.int 1) k p1) p2)) (tPart (tUn (rU fun i => .int (-i)) (tC (.int 1)))) := po_some (pe_un un_neg pe_int)
  refine wpAny_Slice (thn (po_none.run pins s1 σ H1 (fun o H2 => o = none ∧ H2 = H1) I1 ⟨rfl, rfl⟩) fun vl s2 ⟨l, H2, I2, pl, el, e2⟩ => ?_)
  subst el e2
  refine thn (po_none.run pins s2 σ H2 (fun o H3 => o = none ∧ H3 = H2) I2 ⟨rfl, rfl⟩) fun vu s3 ⟨u, H3, I3, pu, eu, e3⟩ => ?_
  subst eu e3
  refine thn (hst.run pins s3 σ H3 (fun o H4 => o = some (-1) ∧ H4 = H3) I3 ⟨1, rfl, -1, rfl, rfl, rfl⟩) fun vs s4 ⟨o, H4, I4, ps, eo, e4⟩ => ?_
  subst eo e4
  have I5 : Inv X pins σ H4 { s4 with heap := s4.heap.push { cls := .type "slice", data := .fields #[vl, vu, vs] } } := I4.kept (t' := s4.toks) fun b ob q => Heap.get?_push_of_some _ q
  obtain ⟨its, r, ht, hz⟩ := I5.tuple hx
  have hlen := r.length
  show wpAny (model X.prog X.w) X.A (subscriptTail e (.Slice none none (some (.UnaryOp .USub (.Constant (.int 1) k p1) p2)) p3) (.ref a) (.ref s4.heap.objs.size)) (EP X pins σ Q) X.xe { s4 with heap := s4.heap.push { cls := .type "slice", data := .fields #[vl, vu, vs] } }
  refine tail_any (ops := [.ref a, .ref s4.heap.objs.size]) ht.typeIs (PyProof.Rows.slot_tuple_getitem.lookup) ?_ (by with_unfolding_all rfl)
  refine PySem.K9V.getItem_rev ht (Heap.IsSliceOf.new _ vl vu vs) pl pu ps ?_ (by rw [List.size_toArray]; omega)
  refine ⟨.ref _, _, I5.laid (t' := s4.toks) (o := .tup xs.reverse) (fun b ob q => Heap.get?_push_of_some _ q) (Nat.le_refl _) ?_, rfl, q _ (I5.hok.fresh (Nat.le_refl _))⟩
  exact ⟨by rw [List.length_reverse]; exact hz, _, r.reverse, IsTup.new _ _⟩
end L2

set_option Elab.async false
set_option linter.all false
set_option maxRecDepth 100000
set_option maxHeartbeats 4000000
namespace K9
open PySem PySem.Spec PyProof.Rows L2
local macro_rules | `(tactic| walk_at "k9mem") => `(tactic| first | with_reducible assumption | exact upd_same | ((with_reducible refine mem_upd (by with_reducible assumption) ?_); walk_at "k9mem") | ((with_reducible refine mem_same (by with_reducible assumption) ?_); walk_at "k9mem"))
local macro_rules | `(tactic| walk_at "k91") => `(tactic| with_reducible (first | refine x_seq ?_ | refine x_asg ?_ | refine x_name ?_ | refine x_ret ?_ | refine x_drop ?_ | refine x_next ?_ | refine x_ifs ?_ | refine x_if ?_ | refine x_test ?_ | refine x_tb ?_ | refine x_tnot ?_ | refine x_tand ?_ | refine x_tor ?_ | refine x_andv ?_ | refine x_orv ?_ | refine x_notv ?_ | refine x_var rfl ?_ | refine x_c ?_ | refine x_op ?_ | refine x_un ?_ | refine x_i0 ?_ | refine x_par ?_ | refine x_two ?_ | refine x_eqI ?_ | refine x_neI ?_ | refine x_u ?_ | refine x_call ?_ | refine x_cb ?_ | refine x_cons ?_ | refine x_nil ?_ | refine x_tup ?_ | refine x_lst ?_ | refine x_gcd ?_ | refine x_for ?_ | refine x_iL ?_ | refine x_iT ?_ | refine x_iR1 ?_ | refine x_iR2 ?_ | refine x_lc ?_ | refine x_bm ?_ | refine x_bm0 ?_ | refine x_sl ?_ | refine x_nopart ?_ | refine x_part ?_ | refine x_some ?_ | refine x_bl ?_))
local macro_rules | `(tactic| walk_at "k9") => `(tactic| repeat (walk_at "k91"))
/-- q times D is whole, of at most M -/
def Mb (D : Int) (M : Nat) (q : Rat) : Prop := ∃ z : Int, q * (D : Rat) = (z : Rat) ∧ z.natAbs ≤ M
theorem Mb.mono {D : Int} {M N : Nat} {q : Rat} (h : Mb D M q) (k : M ≤ N) : Mb D N q := let ⟨z, e, l⟩ := h; ⟨z, e, Nat.le_trans l k⟩
theorem Mb.zero (D : Int) (M : Nat) : Mb D M 0 := ⟨0, by rw [Rat.zero_mul]; rfl, by simp⟩
theorem Mb.add {D : Int} {M N : Nat} {p q : Rat} (h : Mb D M p) (k : Mb D N q) : Mb D (M + N) (p + q) := by
  obtain ⟨y, e, l⟩ := h
  obtain ⟨z, f, m⟩ := k
  exact ⟨y + z, by rw [Rat.add_mul, e, f, Rat.intCast_add], by omega⟩
theorem Mb.mul {D : Int} {M N : Nat} {p q : Rat} (h : Mb D M p) (k : Mb 1 N q) : Mb D (M * N) (p * q) := by
  obtain ⟨y, e, l⟩ := h
  obtain ⟨z, f, m⟩ := k
  rw [Rat.intCast_one, Rat.mul_one] at f
  refine ⟨y * z, ?_, ?_⟩
  · rw [Rat.intCast_mul, ← e, ← f]; grind
  · rw [Int.natAbs_mul]; exact Nat.mul_le_mul l m
theorem Mb.bd {D : Int} {M R : Nat} {q : Rat} (h : Mb D M q) (k : M < 2 ^ R) : K9M.Bd R D q := let ⟨z, e, l⟩ := h; ⟨z, e, Nat.lt_of_le_of_lt l k⟩
theorem Mb.sm {D : Int} {M : Nat} {q : Rat} (h : Mb D M q) (k : M < 2 ^ 1000) (h0 : 0 < D) (h1 : D < 2 ^ 100) : Sm q :=
  sm_of (h.bd k) (small _ (by omega)) h0 (Nat.lt_of_lt_of_le (by omega : D.natAbs < 2 ^ 100) (Nat.pow_le_pow_right (by decide) (by decide)))
theorem Rqs.set {H : Hp} {vs : List V} {qs : List Rat} (h : Rqs H vs qs) {j : Nat} {v : V} {q : Rat} (r : RQ H v q) : Rqs H (vs.set j v) (qs.set j q) := by
  refine ⟨by simp [h.1], fun i x e => ?_⟩
  rw [List.getElem?_set] at e
  rw [List.getElem?_set]
  by_cases hji : j = i
  · rw [if_pos hji] at e
    rw [if_pos hji, ← h.1]
    split at e
    · cases e
      rename_i hl
      exact ⟨q, by rw [if_pos hl], r⟩
    · cases e
  · rw [if_neg hji] at e
    rw [if_neg hji]
    exact h.2 i x e
theorem Rqs.rep {H : Hp} {v : V} {q : Rat} (n : Nat) (r : RQ H v q) : Rqs H (List.replicate n v) (List.replicate n q) := by
  refine ⟨by simp, fun i x e => ?_⟩
  rw [List.getElem?_replicate] at e
  rw [List.getElem?_replicate]
  split at e
  · cases e
    rename_i hl
    exact ⟨q, by rw [if_pos hl], r⟩
  · cases e
theorem coef_rep (n i : Nat) : K9M.coef (List.replicate n 0) i = 0 := by
  unfold K9M.coef
  rw [List.getD, List.getElem?_replicate]
  split <;> rfl
theorem get_coef {l : List Rat} {i : Nat} (h : i < l.length) : l[i]? = some (K9M.coef l i) := by simp [K9M.coef, List.getD, h]
theorem lastQ_zero {l : List Rat} (h : ∀ q ∈ l, q = 0) (hl : l ≠ []) : ltrim l = [0] := by
  have : K9M.trim l = [] := K9M.Tr.zero (K9M.tr_trim l) fun i => by
    rw [K9M.coef_trim]
    rcases Nat.lt_or_ge i l.length with k | k
    · rw [K9M.coef_lt k]; exact h _ (List.getElem_mem k)
    · exact K9M.coef_out k
  unfold ltrim
  rw [if_pos this]
theorem x_enumT {K : PySem.W.Frag} {σ : L2.St} {H : Hp} {ta : TA} {R : It → Hp → Prop} (k : ta σ H fun vs H1 => ∃ a xs, vs = [.ref a] ∧ SqT K H1 a xs ∧ R (IteT K a) H1) : iEnumT K ta σ H R := k
theorem x_setL {p : Addr} {xs : List V} {k : Int} {j : Nat} {v : V} {H : Hp} {Q : Hp → Prop} (h : H p = some (.lst xs)) (hk : k = (j : Int)) (hj : j < xs.length) (q : Q (upd H p (.lst (xs.set j v)))) : rSetL (.ref p) (.int k) v H Q := by
  refine ⟨p, xs, k, j, rfl, rfl, h, ?_, q⟩
  unfold ixN
  rw [if_pos (by omega), if_pos (by omega)]
  simp [hk]
def sp_law_sum : Sp := fun vs H Q _ => ∃ (v1 v2 : V) (P1 P2 : List Rat), vs = [v1, v2] ∧ RS H v1 P1 ∧ RS H v2 P2 ∧ P1 ≠ [] ∧ P1.length ≤ 500 ∧ P2.length ≤ 500 ∧ (∀ i, Sm (K9M.coef P1 i)) ∧ (∀ i, Sm (K9M.coef P2 i)) ∧
  ∀ H' v, Same H H' → RS H' v (ltrim ((List.range (max P1.length P2.length)).map fun i => K9M.coef P1 i + K9M.coef P2 i)) → Q v H'
section
variable {P : Program} {w : World} {K : PySem.W.Frag} {mg : Str → Option Value} {base : Heap}
abbrev s_law_sum : Stmt := topS 46
abbrev N_law_sum : List Str := ["_law_one", "_law_other", "_law_found", "_law_power", "_law_near", "_law_far"]
theorem sc_law_sum : FnScope N_law_sum ["_law_one", "_law_other"] (defScope s_law_sum) := ⟨rfl, rfl, rfl, by decide +kernel, rfl, by decide +kernel, by decide +kernel⟩
theorem kn_law_sum (D : DefAt K mg "_law_sum" s_law_sum) (T : Wd mg) (k_law_add : Kn P w K mg base CX0 3 "_law_add" ["_law_one", "_law_other"] (sp_num2 (· + ·))) (k_law_trim : Kn P w K mg base CX0 1 "_law_trim" ["_law_told"] sp_law_trim) : Kn P w K mg base CX0 4 "_law_sum" ["_law_one", "_law_other"] sp_law_sum := by
  have S := sc_law_sum
  refine Kn.of D S (fun vs H Q E h => ?_) (fun _ _ _ _ _ _ us hl => match us, hl with | [_, _], _ => rfl) fun f cdv A outer s H vs Q E hr h => ?_
  · obtain ⟨_, _, _, _, rfl, _⟩ := h; rfl
  obtain ⟨_, _, P1, P2, rfl, ⟨p1, xs, rfl, hp1, rx⟩, ⟨p2, ys, rfl, hp2, ry⟩, n0, n1, n2, m1, m2, k⟩ := h
  refine ⟨_, PSs.nox (pss_cons (ps_set (i := 2) S.nd rfl (Or.inl rfl) (pe_lst pa_nil))
    (pss_cons (ps_for PassesOwn.never rfl (pi_range1 (by rfl) T.range (pa_cons (pe_callB (call_max2 rfl) (by rfl) T.max (by decide +kernel) (pa_cons (pe_callB (lenK (K := K) rfl) (by rfl) T.len PySem.boot_len (pa_cons (pv 0) pa_nil)) (pa_cons (pe_callB (lenK (K := K) rfl) (by rfl) T.len PySem.boot_len (pa_cons (pv 1) pa_nil)) pa_nil))) pa_nil)) (pg_name (i := 3) S.nd rfl (by first | exact .inl rfl | exact .inr rfl))
      (pss_cons (ps_set (i := 4) S.nd rfl (Or.inl rfl) (pe_ifExp (pt_cmpR op_lt (pv 3) (pe_callB (lenK (K := K) rfl) (by rfl) T.len PySem.boot_len (pa_cons (pv 0) pa_nil)) (nomark _)) (pe_ix (ixT (K := K) rfl) (pv 0) (pv 3) (fun _ _ => rfl)) (pe_tup (pa_cons pe_int (pa_cons pe_int pa_nil)))))
      (pss_cons (ps_set (i := 5) S.nd rfl (Or.inl rfl) (pe_ifExp (pt_cmpR op_lt (pv 3) (pe_callB (lenK (K := K) rfl) (by rfl) T.len PySem.boot_len (pa_cons (pv 1) pa_nil)) (nomark _)) (pe_ix (ixT (K := K) rfl) (pv 1) (pv 3) (fun _ _ => rfl)) (pe_tup (pa_cons pe_int (pa_cons pe_int pa_nil)))))
      (pss_one (ps_expr (pe_bm PySem.F.plainAttrs_list PySem.F.slot_list_append PySem.F.type_list_append mt_append (pv 2) (pa_cons (pe_kn k_law_add (hr.mono (by decide)) (by rfl) pass0 (pa_cons (pv 4) (pa_cons (pv 5) pa_nil))) pa_nil)))))))
    (pss_one (ps_ret (pe_kn k_law_trim (hr.mono (by decide)) (by rfl) pass0 (pa_cons (pv 2) pa_nil)))))), ?_⟩
  have lx := rx.1
  have ly := ry.1
  walk_at "k9"
  refine ⟨by show 0 ≤ sizeLine; decide, fun l hl => ?_⟩
  walk_at "k9"
  refine ⟨p1, _, rfl, .inr (.of (mem_upd hl hp1)), ?_⟩
  walk_at "k9"
  refine ⟨p2, _, rfl, .inr (.of (mem_upd hl hp2)), ?_⟩
  walk_at "k9"
  refine ⟨_, _, rfl, ?_⟩
  rw [lx, ly, show (if ((P2.length : Nat) : Int) > ((P1.length : Nat) : Int) then ((P2.length : Nat) : Int) else ((P1.length : Nat) : Int)) = ((max P1.length P2.length : Nat) : Int) by split <;> omega]
  walk_at "k9"
  refine ⟨_, rfl, by omega, by omega, ?_⟩
  rw [Int.toNat_natCast]
  refine for_range (fun i σ' H' => ∃ x y z ws, σ' = [some (.ref p1), some (.ref p2), some (.ref l), x, y, z] ∧ Same H H' ∧ H' l = some (.lst ws) ∧ Rqs H' ws ((List.range i).map fun i => K9M.coef P1 i + K9M.coef P2 i)) ⟨none, none, none, [], rfl, same_upd hl, upd_same, .nil⟩ ?_ ?_
  · rintro i _ H' hi ⟨_, _, _, ws, rfl, s1, hl', rw'⟩
    have lw := rw'.1
    rw [List.length_map, List.length_range] at lw
    walk_at "k9"
    rw [Int.zero_add]
    refine ⟨p1, _, rfl, .inr (.of (s1 _ _ hp1)), ?_⟩
    walk_at "k9"
    have go : ∀ v H2, Same H' H2 → RQ H2 v (K9M.coef P1 i) → ∀ v2 H3, Same H2 H3 → RQ H3 v2 (K9M.coef P2 i) → ∀ QQ : VK, (∀ v3 H4, Same H3 H4 → RQ H4 v3 (K9M.coef P1 i + K9M.coef P2 i) → QQ v3 H4) → sp_num2 (· + ·) [v, v2] H3 QQ E0 := fun v H2 s2 r2 v2 H3 s3 r3 QQ kq =>
      ⟨_, _, _, _, rfl, r2.same s3, r3, m1 i, m2 i, fun H4 v3 s4 r4 => kq v3 H4 s4 r4⟩
    have fin : ∀ v3 H4, Same H' H4 → RQ H4 v3 (K9M.coef P1 i + K9M.coef P2 i) → H4 l = some (.lst ws) ∧ ws.length ≤ 100000 ∧ Same H (upd H4 l (.lst (ws ++ [v3]))) ∧ Rqs (upd H4 l (.lst (ws ++ [v3]))) (ws ++ [v3]) ((List.range (i + 1)).map fun i => K9M.coef P1 i + K9M.coef P2 i) := fun v3 H4 s4 r4 => by
      refine ⟨s4 _ _ hl', by omega, fun b o e => ?_, ?_⟩
      · rw [upd_ne (fun z => by rw [z, hl] at e; cases e)]
        exact s4 _ _ (s1 _ _ e)
      · rw [List.range_succ, List.map_append]
        exact ((rw'.tsame (Same.tup s4)).snoc r4).tsame (tsame_lst (s4 _ _ hl'))
    by_cases h1 : i < xs.length
    · refine x_yes (decide_eq_true (by omega)) ?_
      walk_at "k9"
      obtain ⟨v, e, r⟩ := rx.at (j := i) (by omega)
      refine x_ixT (s1 _ _ hp1) (atI_nat e) ?_
      have r1 := r.tsame (Same.tup s1)
      walk_at "k9"
      refine ⟨p2, _, rfl, .inr (.of (s1 _ _ hp2)), ?_⟩
      walk_at "k9"
      by_cases h2 : i < ys.length
      · refine x_yes (decide_eq_true (by omega)) ?_
        walk_at "k9"
        obtain ⟨v2, e2, r2⟩ := ry.at (j := i) (by omega)
        refine x_ixT (s1 _ _ hp2) (atI_nat e2) ?_
        walk_at "k9"
        refine x_tyL hl' ?_
        walk_at "k9"
        refine go v _ (fun _ _ h => h) r1 v2 _ (fun _ _ h => h) (r2.tsame (Same.tup s1)) _ fun v3 H4 s4 r4 => ?_
        obtain ⟨f1, f2, f3, f4⟩ := fin v3 H4 s4 r4
        walk_at "k9"
        refine x_append f1 f2 ?_
        exact ⟨_, _, _, _, rfl, f3, upd_same, f4⟩
      · refine x_no (decide_eq_false (by omega)) ?_
        walk_at "k9"
        refine ⟨by show 2 ≤ sizeLine; decide, fun t ht => ?_⟩
        have sa : Same H' (upd H' t (.tup [.int 0, .int 1])) := same_upd ht
        walk_at "k9"
        refine x_tyL (sa _ _ hl') ?_
        walk_at "k9"
        refine go v _ sa (r1.same sa) (.ref t) _ (fun _ _ h => h) (by rw [K9M.coef_out (l := P2) (by omega)]; exact rq01 ht) _ fun v3 H4 s4 r4 => ?_
        obtain ⟨f1, f2, f3, f4⟩ := fin v3 H4 (fun b o e => s4 _ _ (sa _ _ e)) r4
        walk_at "k9"
        refine x_append f1 f2 ?_
        exact ⟨_, _, _, _, rfl, f3, upd_same, f4⟩
    · refine x_no (decide_eq_false (by omega)) ?_
      walk_at "k9"
      refine ⟨by show 2 ≤ sizeLine; decide, fun t0 ht0 => ?_⟩
      have s0 : Same H' (upd H' t0 (.tup [.int 0, .int 1])) := same_upd ht0
      have r1 : RQ (upd H' t0 (.tup [.int 0, .int 1])) (.ref t0) (K9M.coef P1 i) := by rw [K9M.coef_out (l := P1) (by omega)]; exact rq01 ht0
      walk_at "k9"
      refine ⟨p2, _, rfl, .inr (.of (s0 _ _ (s1 _ _ hp2))), ?_⟩
      walk_at "k9"
      have h2 : i < ys.length := by omega
      refine x_yes (decide_eq_true (by omega)) ?_
      walk_at "k9"
      obtain ⟨v2, e2, r2⟩ := ry.at (j := i) (by omega)
      refine x_ixT (s0 _ _ (s1 _ _ hp2)) (atI_nat e2) ?_
      walk_at "k9"
      refine x_tyL (s0 _ _ hl') ?_
      walk_at "k9"
      refine go _ _ s0 r1 v2 _ (fun _ _ h => h) ((r2.tsame (Same.tup s1)).same s0) _ fun v3 H4 s4 r4 => ?_
      obtain ⟨f1, f2, f3, f4⟩ := fin v3 H4 (fun b o e => s4 _ _ (s0 _ _ e)) r4
      walk_at "k9"
      refine x_append f1 f2 ?_
      exact ⟨_, _, _, _, rfl, f3, upd_same, f4⟩
  rintro _ H' ⟨_, _, _, ws, rfl, s1, hl', rw'⟩
  walk_at "k9"
  have := List.length_pos_iff.mpr n0
  exact ⟨_, _, rfl, ⟨l, ws, rfl, hl', rw'⟩, (by intro z; have h2 := congrArg List.length z; rw [List.length_map, List.length_range, List.length_nil] at h2; omega), by simp; omega, fun H2 v s2 r2 => k _ _ (fun b o e => s2 _ _ (s1 _ _ e)) r2⟩
end
end K9

set_option Elab.async false
set_option linter.all false
set_option maxRecDepth 100000
set_option maxHeartbeats 4000000
namespace K9
open PySem PySem.Spec PyProof.Rows L2
local macro_rules | `(tactic| walk_at "k9mem") => `(tactic| first | with_reducible assumption | exact upd_same | ((with_reducible refine mem_upd (by with_reducible assumption) ?_); walk_at "k9mem") | ((with_reducible refine mem_same (by with_reducible assumption) ?_); walk_at "k9mem"))
local macro_rules | `(tactic| walk_at "k91") => `(tactic| with_reducible (first | refine x_seq ?_ | refine x_asg ?_ | refine x_name ?_ | refine x_ret ?_ | refine x_drop ?_ | refine x_next ?_ | refine x_ifs ?_ | refine x_if ?_ | refine x_test ?_ | refine x_tb ?_ | refine x_tnot ?_ | refine x_tand ?_ | refine x_tor ?_ | refine x_andv ?_ | refine x_orv ?_ | refine x_notv ?_ | refine x_var rfl ?_ | refine x_c ?_ | refine x_op ?_ | refine x_un ?_ | refine x_i0 ?_ | refine x_par ?_ | refine x_two ?_ | refine x_eqI ?_ | refine x_neI ?_ | refine x_u ?_ | refine x_call ?_ | refine x_cb ?_ | refine x_cons ?_ | refine x_nil ?_ | refine x_tup ?_ | refine x_lst ?_ | refine x_gcd ?_ | refine x_for ?_ | refine x_iL ?_ | refine x_iT ?_ | refine x_iR1 ?_ | refine x_iR2 ?_ | refine x_lc ?_ | refine x_bm ?_ | refine x_bm0 ?_ | refine x_sl ?_ | refine x_nopart ?_ | refine x_part ?_ | refine x_some ?_ | refine x_bl ?_))
local macro_rules | `(tactic| walk_at "k9") => `(tactic| repeat (walk_at "k91"))
def sp_law_product : Sp := fun vs H Q _ => ∃ (v1 v2 : V) (P1 P2 : List Rat) (D : Int) (M m : Nat), vs = [v1, v2] ∧ RS H v1 P1 ∧ RS H v2 P2 ∧ P1 ≠ [] ∧ P2 ≠ [] ∧ P1.length ≤ 20 ∧ P2.length ≤ 20 ∧ 0 < D ∧ D < 2 ^ 50 ∧ M < 2 ^ 100 ∧ m < 2 ^ 100 ∧ (∀ q ∈ P1, Mb D M q) ∧ (∀ q ∈ P2, Mb 1 m q) ∧
  ∀ H' v R, Same H H' → R.length = P1.length + P2.length - 1 → (∀ q ∈ R, Mb D (P1.length * (M * m)) q) → K9M.lastQ R = K9M.lastQ P1 * K9M.lastQ P2 → RS H' v (ltrim R) → Q v H'
theorem coef_mem {l : List Rat} {i : Nat} (h : i < l.length) : K9M.coef l i ∈ l := get_mem (get_coef h)
section
variable {P : Program} {w : World} {K : PySem.W.Frag} {mg : Str → Option Value} {base : Heap}
abbrev s_law_product : Stmt := topS 47
abbrev N_law_product : List Str := ["_law_one", "_law_other", "_law_found", "_law_near", "_law_first", "_law_far", "_law_second"]
theorem sc_law_product : FnScope N_law_product ["_law_one", "_law_other"] (defScope s_law_product) := ⟨rfl, rfl, rfl, by decide +kernel, rfl, by decide +kernel, by decide +kernel⟩
theorem kn_law_product (D : DefAt K mg "_law_product" s_law_product) (T : Wd mg) (k_law_add : Kn P w K mg base CX0 3 "_law_add" ["_law_one", "_law_other"] (sp_num2 (· + ·))) (k_law_mul : Kn P w K mg base CX0 3 "_law_mul" ["_law_one", "_law_other"] (sp_num2 (· * ·))) (k_law_trim : Kn P w K mg base CX0 1 "_law_trim" ["_law_told"] sp_law_trim) :
    Kn P w K mg base CX0 4 "_law_product" ["_law_one", "_law_other"] sp_law_product := by
  have S := sc_law_product
  refine Kn.of D S (fun vs H Q E h => ?_) (fun _ _ _ _ _ _ us hl => match us, hl with | [_, _], _ => rfl) fun f cdv A outer s H vs Q E hr h => ?_
  · obtain ⟨_, _, _, _, _, _, _, rfl, _⟩ := h; rfl
  obtain ⟨_, _, P1, P2, D0, M, m, rfl, ⟨p1, xs, rfl, hp1, rx⟩, ⟨p2, ys, rfl, hp2, ry⟩, e1, e2, n1, n2, d0, d1, hM, hm, b1, b2, k⟩ := h
  refine ⟨_, PSs.nox (pss_cons (ps_set (i := 2) S.nd rfl (Or.inl rfl) (pe_op op_rep (pe_lst (pa_cons (pe_tup (pa_cons pe_int (pa_cons pe_int pa_nil))) pa_nil)) (pe_op op_sub (pe_op op_add (pe_callB (lenK (K := K) rfl) (by rfl) T.len PySem.boot_len (pa_cons (pv 0) pa_nil)) (pe_callB (lenK (K := K) rfl) (by rfl) T.len PySem.boot_len (pa_cons (pv 1) pa_nil))) pe_int)))
    (pss_cons (ps_for PassesOwn.never rfl (pi_enumT (by rfl) T.enumerate (pa_cons (pv 0) pa_nil)) (pg_tup rfl (pgs_cons (pg_name (i := 3) S.nd rfl (by first | exact .inl rfl | exact .inr rfl)) (pgs_cons (pg_name (i := 4) S.nd rfl (by first | exact .inl rfl | exact .inr rfl)) pgs_nil)))
      (pss_one (ps_for PassesOwn.never rfl (pi_enumT (by rfl) T.enumerate (pa_cons (pv 1) pa_nil)) (pg_tup rfl (pgs_cons (pg_name (i := 5) S.nd rfl (by first | exact .inl rfl | exact .inr rfl)) (pgs_cons (pg_name (i := 6) S.nd rfl (by first | exact .inl rfl | exact .inr rfl)) pgs_nil)))
        (pss_one (ps_asg (pe_kn k_law_add (hr.mono (by decide)) (by rfl) pass0 (pa_cons (pe_ix (ixL (K := K) rfl) (pv 2) (pe_op op_add (pv 3) (pv 5)) (fun _ _ => rfl)) (pa_cons (pe_kn k_law_mul (hr.mono (by decide)) (by rfl) pass0 (pa_cons (pv 4) (pa_cons (pv 6) pa_nil))) pa_nil))) (pg_sub (pv 2) (pe_op op_add (pv 3) (pv 5)) set_list))))))
    (pss_one (ps_ret (pe_kn k_law_trim (hr.mono (by decide)) (by rfl) pass0 (pa_cons (pv 2) pa_nil)))))), ?_⟩
  have lx := rx.1
  have ly := ry.1
  have l1 := List.length_pos_iff.mpr e1
  have l2 := List.length_pos_iff.mpr e2
  have mm : M * m < 2 ^ 200 := by
    have : M * m < 2 ^ 100 * 2 ^ 100 := Nat.mul_lt_mul'' hM hm
    rw [← Nat.pow_add] at this
    exact this
  have mb : ∀ i, i ≤ 20 → i * (M * m) < 2 ^ 1000 := fun i hi => by
    have : i * (M * m) ≤ 20 * (M * m) := Nat.mul_le_mul hi (Nat.le_refl _)
    have : 20 * 2 ^ 200 < 2 ^ 1000 := by decide
    omega
  have sm : ∀ {i q}, i ≤ 20 → Mb D0 (i * (M * m)) q → Sm q := fun {i q} hi h => h.sm (mb i hi) d0 (by omega)
  have s1m : ∀ i, i < P1.length → Sm (K9M.coef P1 i) := fun i hi => (b1 _ (coef_mem hi)).sm (Nat.lt_of_lt_of_le hM (Nat.pow_le_pow_right (by decide) (by decide))) d0 (by omega)
  have s2m : ∀ i, i < P2.length → Sm (K9M.coef P2 i) := fun i hi => (b2 _ (coef_mem hi)).sm (Nat.lt_of_lt_of_le hm (Nat.pow_le_pow_right (by decide) (by decide))) (by decide) (by decide)
  walk_at "k9"
  refine ⟨by show 2 ≤ sizeLine; decide, fun t1 ht1 => ?_⟩
  refine ⟨by show 1 ≤ sizeLine; decide, fun t2 ht2 => ?_⟩
  walk_at "k9"
  refine ⟨p1, _, rfl, .inr (.of (mem_upd ht2 (mem_upd ht1 hp1))), ?_⟩
  walk_at "k9"
  refine ⟨p2, _, rfl, .inr (.of (mem_upd ht2 (mem_upd ht1 hp2))), ?_⟩
  walk_at "k9"
  rw [lx, ly, show ((P1.length : Nat) : Int) + ((P2.length : Nat) : Int) - 1 = ((P1.length + P2.length - 1 : Nat) : Int) by omega]
  refine x_rep upd_same (by omega) (by omega) ?_
  rw [Int.toNat_natCast]
  intro l hl
  have sl : Same H (upd (upd (upd H t1 (.tup [.int 0, .int 1])) t2 (.lst [.ref t1])) l (.lst (List.replicate (P1.length + P2.length - 1) (.ref t1)))) := fun b o e => mem_upd hl (mem_upd ht2 (mem_upd ht1 e))
  have hln : H l = none := free_upd (free_upd hl)
  have hl0 : upd (upd (upd H t1 (.tup [.int 0, .int 1])) t2 (.lst [.ref t1])) l (.lst (List.replicate (P1.length + P2.length - 1) (.ref t1))) l = some (.lst (List.replicate (P1.length + P2.length - 1) (.ref t1))) := upd_same
  have rz : Rqs (upd (upd (upd H t1 (.tup [.int 0, .int 1])) t2 (.lst [.ref t1])) l (.lst (List.replicate (P1.length + P2.length - 1) (.ref t1)))) (List.replicate (P1.length + P2.length - 1) (.ref t1)) (List.replicate (P1.length + P2.length - 1) 0) :=
    Rqs.rep _ ⟨t1, rfl, mem_upd hl (mem_upd ht2 upd_same)⟩
  generalize upd (upd (upd H t1 (.tup [.int 0, .int 1])) t2 (.lst [.ref t1])) l (.lst (List.replicate (P1.length + P2.length - 1) (.ref t1))) = H1 at *
  walk_at "k9"
  refine x_enumT ?_
  walk_at "k9"
  refine ⟨p1, xs, rfl, .of (sl _ _ hp1), ?_⟩
  refine for_it (walk_enumT (xs := xs)) (fun i σ' H' => ∃ x3 x4 x5 x6 ws rs, σ' = [some (.ref p1), some (.ref p2), some (.ref l), x3, x4, x5, x6] ∧ Same H H' ∧ H' l = some (.lst ws) ∧ Rqs H' ws rs ∧ rs.length = P1.length + P2.length - 1 ∧
    (∀ k, Mb D0 (i * (M * m)) (K9M.coef rs k)) ∧ (i < P1.length → K9M.coef rs (P1.length + P2.length - 2) = 0) ∧ (i = P1.length → K9M.coef rs (P1.length + P2.length - 2) = K9M.lastQ P1 * K9M.lastQ P2))
    ⟨none, none, none, none, _, _, rfl, sl, hl0, rz, by simp, fun k => by rw [coef_rep]; exact Mb.zero _ _, fun _ => coef_rep _ _, fun z => by omega⟩ (fun i σ' H' _ h => by obtain ⟨_, _, _, _, _, _, _, s, _⟩ := h; exact .of (s _ _ hp1)) ?_ ?_
  · rintro i _ _ H2 _ hi ⟨_, _, _, _, ws, rs, rfl, s2, hl2, rr, lr, bb, t0, _⟩ ⟨T1, _, x, rfl, hT1, rfl, hx1, hx⟩
    cases hx1
    refine x_gT2n (by rfl) upd_same ?_
    have st1 : Same H2 (upd H2 T1 (.tup [.int ((i : Nat) : Int), x])) := same_upd hT1
    have rx1 : RQ (upd H2 T1 (.tup [.int ((i : Nat) : Int), x])) x (K9M.coef P1 i) := by
      obtain ⟨q, e, r⟩ := rx.2 i x hx
      rw [K9M.coef_of e]
      exact (r.tsame (Same.tup s2)).same st1
    have hl3 := st1 _ _ hl2
    have rr1 := rr.tsame (Same.tup st1)
    have s3 : Same H (upd H2 T1 (.tup [.int ((i : Nat) : Int), x])) := fun b o e => st1 _ _ (s2 _ _ e)
    have hi1 : i < P1.length := by omega
    clear hl2 rr s2
    generalize upd H2 T1 (.tup [.int ((i : Nat) : Int), x]) = H3 at *
    walk_at "k9"
    refine x_enumT ?_
    walk_at "k9"
    refine ⟨p2, ys, rfl, .of (s3 _ _ hp2), ?_⟩
    refine for_it (walk_enumT (xs := ys)) (fun j σ' H' => ∃ x5 x6 ws rs, σ' = [some (.ref p1), some (.ref p2), some (.ref l), some (.int ((i : Nat) : Int)), some x, x5, x6] ∧ Same H H' ∧ TSame H3 H' ∧ H' l = some (.lst ws) ∧ Rqs H' ws rs ∧ rs.length = P1.length + P2.length - 1 ∧
      (∀ k, i + j ≤ k → Mb D0 (i * (M * m)) (K9M.coef rs k)) ∧ (∀ k, Mb D0 ((i + 1) * (M * m)) (K9M.coef rs k)) ∧ (i + j ≤ P1.length + P2.length - 2 → K9M.coef rs (P1.length + P2.length - 2) = 0) ∧ (i + j = P1.length + P2.length - 1 → K9M.coef rs (P1.length + P2.length - 2) = K9M.lastQ P1 * K9M.lastQ P2))
      ⟨_, _, ws, rs, rfl, s3, fun _ _ h => h, hl3, rr1, lr, fun k _ => bb k, fun k => (bb k).mono (Nat.mul_le_mul (by omega) (Nat.le_refl _)), fun _ => t0 hi1, fun z => by omega⟩ (fun j σ' H' _ h => by obtain ⟨_, _, _, _, _, s, _⟩ := h; exact .of (s _ _ hp2)) ?_ ?_
    · rintro j _ _ H4 _ hj ⟨_, _, ws, rs, rfl, s4, ts4, hl4, rr4, lr4, c1, c2, c3, c4⟩ ⟨T2, _, y, rfl, hT2, rfl, hy1, hy⟩
      cases hy1
      refine x_gT2n (by rfl) upd_same ?_
      have st2 : Same H4 (upd H4 T2 (.tup [.int ((j : Nat) : Int), y])) := same_upd hT2
      have ry1 : RQ (upd H4 T2 (.tup [.int ((j : Nat) : Int), y])) y (K9M.coef P2 j) := by
        obtain ⟨q, e, r⟩ := ry.2 j y hy
        rw [K9M.coef_of e]
        exact (r.tsame (Same.tup s4)).same st2
      have rx2 : RQ (upd H4 T2 (.tup [.int ((j : Nat) : Int), y])) x (K9M.coef P1 i) := (rx1.tsame ts4).same st2
      have hl5 := st2 _ _ hl4
      have rr5 := rr4.tsame (Same.tup st2)
      have s5 : Same H (upd H4 T2 (.tup [.int ((j : Nat) : Int), y])) := fun b o e => st2 _ _ (s4 _ _ e)
      have ts5 : TSame H3 (upd H4 T2 (.tup [.int ((j : Nat) : Int), y])) := fun b o e => Same.tup st2 _ _ (ts4 _ _ e)
      clear hl4 rr4 s4 ts4
      generalize upd H4 T2 (.tup [.int ((j : Nat) : Int), y]) = H5 at *
      have hj2 : j < P2.length := by omega
      have hlw := rr5.1
      obtain ⟨v0, ev, r0⟩ := rr5.at (j := i + j) (by omega)
      have old : Mb D0 (i * (M * m)) (K9M.coef rs (i + j)) := c1 _ (Nat.le_refl _)
      have pr : Mb D0 (M * m) (K9M.coef P1 i * K9M.coef P2 j) := (b1 _ (coef_mem hi1)).mul (b2 _ (coef_mem hj2))
      have new : Mb D0 ((i + 1) * (M * m)) (K9M.coef rs (i + j) + K9M.coef P1 i * K9M.coef P2 j) := by
        rw [Nat.add_mul, Nat.one_mul]; exact old.add pr
      walk_at "k9"
      rw [show ((i : Nat) : Int) + ((j : Nat) : Int) = ((i + j : Nat) : Int) by omega]
      refine x_ixL hl5 (atI_nat ev) ?_
      walk_at "k9"
      refine ⟨_, _, _, _, rfl, rx2, ry1, s1m i hi1, s2m j hj2, fun H6 v6 s6 r6 => ?_⟩
      walk_at "k9"
      refine ⟨_, _, _, _, rfl, r0.same s6, r6, sm (by omega) old, ?_, fun H7 v7 s7 r7 => ?_⟩
      · exact pr.sm (by have := mb 1 (by omega); omega) d0 (by omega)
      refine x_gsub ?_
      walk_at "k9"
      have s57 : Same H5 H7 := fun b o e => s7 _ _ (s6 _ _ e)
      refine x_setL (j := i + j) (s57 _ _ hl5) (by omega) (by omega) ?_
      have tl := tsame_lst (o := .lst (ws.set (i + j) v7)) (s57 _ _ hl5)
      have cs : ∀ k, K9M.coef (rs.set (i + j) (K9M.coef rs (i + j) + K9M.coef P1 i * K9M.coef P2 j)) k = if k = i + j then K9M.coef rs (i + j) + K9M.coef P1 i * K9M.coef P2 j else K9M.coef rs k := fun k => K9M.coef_set (by omega) k
      refine ⟨_, _, _, rs.set (i + j) (K9M.coef rs (i + j) + K9M.coef P1 i * K9M.coef P2 j), rfl, fun b o e => ?_, fun b o e => tl _ _ (Same.tup s57 _ _ (ts5 _ _ e)), upd_same, ((rr5.tsame (Same.tup s57)).set r7).tsame tl, by rw [List.length_set]; exact lr4, fun k hk => ?_, fun k => ?_, fun hk => ?_, fun hk => ?_⟩
      · rw [upd_ne (fun z => by rw [z, hln] at e; cases e)]
        exact s57 _ _ (s5 _ _ e)
      · rw [cs, if_neg (by omega)]
        exact c1 k (by omega)
      · rw [cs]
        split
        · exact new
        · exact c2 k
      · rw [cs, if_neg (by omega)]
        exact c3 (by omega)
      · have ei : i = P1.length - 1 := by omega
        have ej : j = P2.length - 1 := by omega
        rw [cs, if_pos (by omega), show i + j = P1.length + P2.length - 2 by omega, c3 (by omega), Rat.zero_add, ei, ej]
        rfl
    rintro _ H4 ⟨_, _, ws, rs, rfl, s4, ts4, hl4, rr4, lr4, c1, c2, c3, c4⟩
    exact ⟨_, _, _, _, ws, rs, rfl, s4, hl4, rr4, lr4, c2, fun hk => c3 (by omega), fun hk => c4 (by omega)⟩
  rintro _ H2 ⟨_, _, _, _, ws, rs, rfl, s2, hl2, rr, lr, bb, _, tp⟩
  rw [lx] at bb tp
  walk_at "k9"
  refine ⟨_, rs, rfl, ⟨l, ws, rfl, hl2, rr⟩, (by intro z; rw [z] at lr; simp at lr; omega), by omega, fun H3 v s3 r3 => k _ _ rs (fun b o e => s3 _ _ (s2 _ _ e)) lr (fun q hq => ?_) ?_ r3⟩
  · obtain ⟨i, hi, rfl⟩ := List.mem_iff_getElem.mp hq
    rw [← K9M.coef_lt hi]
    exact bb i
  · rw [← tp rfl]
    unfold K9M.lastQ
    rw [lr]
    congr 1
end
end K9

set_option Elab.async false
set_option linter.all false
set_option maxRecDepth 100000
set_option maxHeartbeats 4000000
namespace K9
open PySem PySem.Spec PyProof.Rows L2
local macro_rules | `(tactic| walk_at "k9mem") => `(tactic| first | with_reducible assumption | exact upd_same | ((with_reducible refine mem_upd (by with_reducible assumption) ?_); walk_at "k9mem") | ((with_reducible refine mem_same (by with_reducible assumption) ?_); walk_at "k9mem"))
local macro_rules | `(tactic| walk_at "k91") => `(tactic| with_reducible (first | refine x_seq ?_ | refine x_asg ?_ | refine x_name ?_ | refine x_ret ?_ | refine x_drop ?_ | refine x_next ?_ | refine x_ifs ?_ | refine x_if ?_ | refine x_test ?_ | refine x_tb ?_ | refine x_tnot ?_ | refine x_tand ?_ | refine x_tor ?_ | refine x_andv ?_ | refine x_orv ?_ | refine x_notv ?_ | refine x_var rfl ?_ | refine x_c ?_ | refine x_op ?_ | refine x_un ?_ | refine x_i0 ?_ | refine x_par ?_ | refine x_two ?_ | refine x_eqI ?_ | refine x_neI ?_ | refine x_u ?_ | refine x_call ?_ | refine x_cb ?_ | refine x_cons ?_ | refine x_nil ?_ | refine x_tup ?_ | refine x_lst ?_ | refine x_gcd ?_ | refine x_for ?_ | refine x_iL ?_ | refine x_iT ?_ | refine x_iR1 ?_ | refine x_iR2 ?_ | refine x_lc ?_ | refine x_bm ?_ | refine x_bm0 ?_ | refine x_sl ?_ | refine x_nopart ?_ | refine x_part ?_ | refine x_some ?_ | refine x_bl ?_))
local macro_rules | `(tactic| walk_at "k9") => `(tactic| repeat (walk_at "k91"))
theorem x_revT {K : PySem.W.Frag} {σ : L2.St} {H : Hp} {Q : VK} {te : TE} (k : te σ H fun x H1 => ∃ a xs, x = .ref a ∧ SqT K H1 a xs ∧ ∀ p, H1 p = none → Q (.ref p) (upd H1 p (.tup xs.reverse))) : tRevT K te σ H Q := k
def Wn : Nat → Nat
  | 0 => 0
  | i + 1 => 10 * (Wn i * 3) + 6
def addc (R : List Rat) (q : Rat) : List Rat := (List.range (max R.length ([q] : List Rat).length)).map fun k => K9M.coef R k + K9M.coef [q] k
theorem addc_len (R : List Rat) (q : Rat) (h : 1 ≤ R.length) : (addc R q).length = R.length := by
  unfold addc
  rw [List.length_map, List.length_range, List.length_singleton]
  omega
theorem addc_get (R : List Rat) (q : Rat) {k : Nat} (h : k < max R.length 1) : K9M.coef (addc R q) k = K9M.coef R k + K9M.coef [q] k := by
  refine K9M.coef_of ?_
  unfold addc
  rw [List.getElem?_map, List.getElem?_range (by simpa using h)]
  rfl
theorem coef_one0 (q : Rat) : K9M.coef [q] 0 = q := rfl
theorem coef_one1 (q : Rat) (k : Nat) (h : 1 ≤ k) : K9M.coef [q] k = 0 := K9M.coef_out (by simpa using h)
theorem addc_mb {R : List Rat} {q : Rat} {D : Int} {M N : Nat} (h : ∀ r ∈ R, Mb D M r) (k : Mb D N q) : ∀ r ∈ addc R q, Mb D (M + N) r := fun r hr => by
  unfold addc at hr
  obtain ⟨i, _, rfl⟩ := List.mem_map.mp hr
  refine Mb.add ?_ ?_
  · rcases Nat.lt_or_ge i R.length with z | z
    · exact h _ (coef_mem z)
    · rw [K9M.coef_out z]; exact Mb.zero _ _
  · rcases Nat.eq_zero_or_pos i with z | z
    · rw [z]; exact k
    · rw [coef_one1 q i z]; exact Mb.zero _ _
theorem mb_coef {R : List Rat} {D : Int} {M : Nat} (h : ∀ r ∈ R, Mb D M r) (i : Nat) : Mb D M (K9M.coef R i) := by
  rcases Nat.lt_or_ge i R.length with z | z
  · exact h _ (coef_mem z)
  · rw [K9M.coef_out z]; exact Mb.zero _ _
theorem mb_zero {D : Int} {q : Rat} (h : Mb D 0 q) (hD : 0 < D) : q = 0 := by
  obtain ⟨z, e, l⟩ := h
  have : z = 0 := by omega
  rw [this, Rat.intCast_zero] at e
  rcases Rat.mul_eq_zero.mp e with h | h
  · exact h
  · exact absurd h (K9M.cast_ne (by omega))
def sp_law_within : Sp := fun vs H Q _ => ∃ (v1 v2 : V) (P1 P2 : List Rat), vs = [v1, v2] ∧ RS H v1 P1 ∧ RS H v2 P2 ∧ 2 ≤ P1.length ∧ P1.length ≤ 4 ∧ 1 ≤ P2.length ∧ P2.length ≤ 4 ∧ (∀ q ∈ P1, Mb 1 3 q) ∧ (∀ q ∈ P2, Mb 2 6 q) ∧ K9M.lastQ P1 ≠ 0 ∧ K9M.lastQ P2 ≠ 0 ∧
  ∀ H' v R, Same H H' → RS H' v R → R.length = (P2.length - 1) * (P1.length - 1) + 1 → K9M.lastQ R ≠ 0 → (∀ q ∈ R, Mb 2 167586 q) → Q v H'
theorem lastQ_mul {p q : Rat} (h : p ≠ 0) (k : q ≠ 0) : p * q ≠ 0 := fun z => by
  rcases Rat.mul_eq_zero.mp z with e | e
  · exact h e
  · exact k e
section
variable {P : Program} {w : World} {K : PySem.W.Frag} {mg : Str → Option Value} {base : Heap}
abbrev s_law_within : Stmt := topS 48
abbrev N_law_within : List Str := ["_law_inner", "_law_outer", "_law_found", "_law_number_here"]
theorem sc_law_within : FnScope N_law_within ["_law_inner", "_law_outer"] (defScope s_law_within) := ⟨rfl, rfl, rfl, by decide +kernel, rfl, by decide +kernel, by decide +kernel⟩
theorem kn_law_within (D : DefAt K mg "_law_within" s_law_within) (T : Wd mg) (k_law_sum : Kn P w K mg base CX0 4 "_law_sum" ["_law_one", "_law_other"] sp_law_sum) (k_law_product : Kn P w K mg base CX0 4 "_law_product" ["_law_one", "_law_other"] sp_law_product) :
    Kn P w K mg base CX0 5 "_law_within" ["_law_inner", "_law_outer"] sp_law_within := by
  have S := sc_law_within
  refine Kn.of D S (fun vs H Q E h => ?_) (fun _ _ _ _ _ _ us hl => match us, hl with | [_, _], _ => rfl) fun f cdv A outer s H vs Q E hr h => ?_
  · obtain ⟨_, _, _, _, rfl, _⟩ := h; rfl
  obtain ⟨v1, _, P1, P2, rfl, hv1, ⟨p2, ys, rfl, hp2, ry⟩, l1, l1', l2, l2', b1, b2, z1, z2, k⟩ := h
  refine ⟨_, PSs.nox (pss_cons (ps_set (i := 2) S.nd rfl (Or.inl rfl) (pe_tup (pa_cons (pe_tup (pa_cons pe_int (pa_cons pe_int pa_nil))) pa_nil)))
    (pss_cons (ps_for PassesOwn.never rfl (pi_tup (pe_revT (pv 1))) (pg_name (i := 3) S.nd rfl (by first | exact .inl rfl | exact .inr rfl))
      (pss_one (ps_set (i := 2) S.nd rfl (Or.inl rfl) (pe_kn k_law_sum (hr.mono (by decide)) (by rfl) pass0 (pa_cons (pe_kn k_law_product (hr.mono (by decide)) (by rfl) pass0 (pa_cons (pv 2) (pa_cons (pv 0) pa_nil))) (pa_cons (pe_tup (pa_cons (pv 3) pa_nil)) pa_nil))))))
    (pss_one (ps_ret (pv 2))))), ?_⟩
  have ly := ry.1
  walk_at "k9"
  refine ⟨by show 2 ≤ sizeLine; decide, fun t1 ht1 => ?_⟩
  refine ⟨by show 1 ≤ sizeLine; decide, fun t2 ht2 => ?_⟩
  walk_at "k9"
  refine x_revT ?_
  walk_at "k9"
  refine ⟨p2, ys, rfl, .of (mem_upd ht2 (mem_upd ht1 hp2)), fun t3 ht3 => ?_⟩
  have s1 : Same H (upd (upd (upd H t1 (.tup [.int 0, .int 1])) t2 (.tup [.ref t1])) t3 (.tup ys.reverse)) := fun b o e => mem_upd ht3 (mem_upd ht2 (mem_upd ht1 e))
  have r0 : RS (upd (upd (upd H t1 (.tup [.int 0, .int 1])) t2 (.tup [.ref t1])) t3 (.tup ys.reverse)) (.ref t2) [0] := ⟨t2, _, rfl, mem_upd ht3 upd_same, .one ⟨t1, rfl, mem_upd ht3 (mem_upd ht2 upd_same)⟩⟩
  have h3 : upd (upd (upd H t1 (.tup [.int 0, .int 1])) t2 (.tup [.ref t1])) t3 (.tup ys.reverse) t3 = some (.tup ys.reverse) := upd_same
  generalize upd (upd (upd H t1 (.tup [.int 0, .int 1])) t2 (.tup [.ref t1])) t3 (.tup ys.reverse) = H1 at *
  have rrev := ry.rev
  have hne : P1 ≠ [] := fun z => by subst z; simp at l1
  refine x_forT h3 (fun i σ' H' => ∃ v F x3, σ' = [some v1, some (.ref p2), some v, x3] ∧ Same H1 H' ∧ RS H' v F ∧ F ≠ [] ∧ (∀ q ∈ F, Mb 2 (Wn i) q) ∧ (i = 0 → F = [0]) ∧ (1 ≤ i → F.length = (i - 1) * (P1.length - 1) + 1 ∧ K9M.lastQ F ≠ 0)) ⟨_, [0], none, rfl, fun _ _ h => h, r0, by simp, fun q hq => by rw [List.mem_singleton.mp hq]; exact Mb.zero _ _, fun _ => rfl, fun z => by omega⟩ (fun i σ' H' h => by obtain ⟨_, _, _, _, s, _⟩ := h; exact s _ _ h3) ?_ ?_
  · rintro i x _ H2 hx ⟨v, F, _, rfl, s2, rF, fne, fb, f0, f1⟩
    obtain ⟨q, eq, rq⟩ := rrev.2 i x hx
    have hi : i < P2.length := by have := (List.getElem?_eq_some_iff.mp eq).1; simpa using this
    have qb : Mb 2 6 q := b2 _ (List.mem_reverse.mp (get_mem eq))
    have hfl : F.length ≤ 10 := by
      rcases Nat.eq_zero_or_pos i with z | z
      · rw [f0 z]; decide
      · rw [(f1 z).1]
        have : (i - 1) * (P1.length - 1) ≤ 2 * 3 := Nat.mul_le_mul (by omega) (by omega)
        omega
    have wn : Wn i ≤ 167586 := by
      have : i = 0 ∨ i = 1 ∨ i = 2 ∨ i = 3 := by omega
      rcases this with e | e | e | e <;> subst e <;> decide
    walk_at "k9"
    refine ⟨_, _, F, P1, 2, Wn i, 3, rfl, rF, hv1.same (fun b o e => s2 _ _ (s1 _ _ e)), fne, hne, by omega, by omega, by decide, by decide, Nat.lt_of_le_of_lt wn (by decide), by decide, fb, b1, fun H3 w3 R s3 lR bR tR rR => ?_⟩
    have bR' : ∀ r ∈ R, Mb 2 (10 * (Wn i * 3)) r := fun r hr => (bR r hr).mono (Nat.mul_le_mul hfl (Nat.le_refl _))
    have lFp := List.length_pos_iff.mpr fne
    have hRne : R ≠ [] := fun z => by subst z; simp at lR; omega
    have sm1 : ∀ k, Sm (K9M.coef (ltrim R) k) := fun k => by
      have : Mb 2 (10 * (Wn i * 3)) (K9M.coef (ltrim R) k) := by
        unfold ltrim
        split
        · exact mb_coef (fun r hr => by rw [List.mem_singleton.mp hr]; exact Mb.zero _ _) k
        · exact mb_coef (fun r hr => bR' r (K9M.trim_mem hr)) k
      exact this.sm (Nat.lt_of_le_of_lt (by omega : 10 * (Wn i * 3) ≤ 5027580) (Nat.lt_of_lt_of_le (by decide : 5027580 < 2 ^ 30) (Nat.pow_le_pow_right (by decide) (by decide)))) (by decide) (by decide)
    have smq : Sm q := qb.sm (Nat.lt_of_lt_of_le (by decide : 6 < 2 ^ 30) (Nat.pow_le_pow_right (by decide) (by decide))) (by decide) (by decide)
    walk_at "k9"
    refine ⟨by show 1 ≤ sizeLine; decide, fun t4 ht4 => ?_⟩
    have s4 : Same H3 (upd H3 t4 (.tup [x])) := same_upd ht4
    have rx : RS (upd H3 t4 (.tup [x])) (.ref t4) [q] := ⟨t4, _, rfl, upd_same, .one ((rq.tsame (Same.tup s1)).tsame (Same.tup (fun b o e => s4 _ _ (s3 _ _ (s2 _ _ e)))))⟩
    have s24 : Same H2 (upd H3 t4 (.tup [x])) := fun b o e => s4 _ _ (s3 _ _ e)
    replace rR := rR.same s4
    generalize upd H3 t4 (.tup [x]) = H4 at *
    walk_at "k9"
    have lt0 : ltrim R ≠ [] ∧ (ltrim R).length ≤ R.length := by
      unfold ltrim
      split
      · exact ⟨by simp, List.length_pos_iff.mpr hRne⟩
      · rename_i hz; exact ⟨hz, K9M.trim_len R⟩
    refine ⟨_, _, ltrim R, [q], rfl, rR, rx, lt0.1, by omega, by simp, sm1, fun k => ?_, fun H5 w5 s5 r5 => ?_⟩
    · rcases Nat.eq_zero_or_pos k with z | z
      · rw [z]; exact smq
      · rw [coef_one1 q k z]; exact (Mb.zero 2 0).sm (by decide) (by decide) (by decide)
    replace r5 : RS H5 w5 (ltrim (addc (ltrim R) q)) := r5
    have s25 : Same H1 H5 := fun b o e => s5 _ _ (s24 _ _ (s2 _ _ e))
    rcases Nat.eq_zero_or_pos i with z | z
    · subst z
      have eR : ltrim R = [0] := lastQ_zero (fun r hr => mb_zero ((bR r hr).mono (by show F.length * (0 * 3) ≤ 0; omega)) (by decide)) hRne
      have ea : addc (ltrim R) q = [q] := by
        rw [eR]
        show [(0 : Rat) + q] = [q]
        rw [Rat.zero_add]
      rw [ea, ltrim_one] at r5
      refine ⟨_, _, _, rfl, s25, r5, by simp, fun r hr => by rw [List.mem_singleton.mp hr]; exact qb, fun h => by omega, fun _ => ⟨by simp, ?_⟩⟩
      have : q = K9M.lastQ P2 := by
        unfold K9M.lastQ
        have e2 := eq
        rw [List.getElem?_reverse (by omega)] at e2
        exact (K9M.coef_of e2).symm
      show q ≠ 0
      rw [this]; exact z2
    · have eR : ltrim R = R := ltrim_last hRne (by rw [tR]; exact lastQ_mul (f1 z).2 z1)
      rw [eR] at r5
      have lR2 : R.length = i * (P1.length - 1) + 1 := by
        rw [lR, (f1 z).1]
        obtain ⟨i', rfl⟩ : ∃ i', i = i' + 1 := ⟨i - 1, by omega⟩
        rw [Nat.add_sub_cancel, Nat.add_mul, Nat.one_mul]
        omega
      have i1 : 1 * 1 ≤ i * (P1.length - 1) := Nat.mul_le_mul z (by omega)
      have la := addc_len R q (by omega)
      have lq : K9M.lastQ (addc R q) ≠ 0 := by
        unfold K9M.lastQ
        rw [la, addc_get R q (by omega), coef_one1 q _ (by omega), Rat.add_zero]
        have := lastQ_mul (f1 z).2 z1
        rw [← tR] at this
        exact this
      rw [ltrim_last (fun h => by rw [h] at la; simp at la; omega) lq] at r5
      exact ⟨_, _, _, rfl, s25, r5, fun h => by rw [h] at la; simp at la; omega, addc_mb bR' qb, fun h => by omega, fun _ => ⟨by rw [la, lR2, Nat.add_sub_cancel], lq⟩⟩
  rintro _ H2 ⟨v, F, _, rfl, s2, rF, fne, fb, f0, f1⟩
  rw [List.length_reverse, ly] at *
  walk_at "k9"
  have wn : Wn P2.length ≤ 167586 := by
    have : P2.length = 1 ∨ P2.length = 2 ∨ P2.length = 3 ∨ P2.length = 4 := by omega
    rcases this with e | e | e | e <;> rw [e] <;> decide
  exact k _ _ F (fun b o e => s2 _ _ (s1 _ _ e)) rF (f1 l2).1 (f1 l2).2 fun q hq => (fb q hq).mono wn
end
end K9

set_option Elab.async false
set_option linter.all false
set_option maxRecDepth 100000
set_option maxHeartbeats 4000000
namespace K9
open PySem PySem.Spec PyProof.Rows L2
local macro_rules | `(tactic| walk_at "k9mem") => `(tactic| first | with_reducible assumption | exact upd_same | ((with_reducible refine mem_upd (by with_reducible assumption) ?_); walk_at "k9mem") | ((with_reducible refine mem_same (by with_reducible assumption) ?_); walk_at "k9mem"))
local macro_rules | `(tactic| walk_at "k91") => `(tactic| with_reducible (first | refine x_seq ?_ | refine x_asg ?_ | refine x_name ?_ | refine x_ret ?_ | refine x_drop ?_ | refine x_next ?_ | refine x_ifs ?_ | refine x_if ?_ | refine x_test ?_ | refine x_tb ?_ | refine x_tnot ?_ | refine x_tand ?_ | refine x_tor ?_ | refine x_andv ?_ | refine x_orv ?_ | refine x_notv ?_ | refine x_var rfl ?_ | refine x_c ?_ | refine x_op ?_ | refine x_un ?_ | refine x_i0 ?_ | refine x_par ?_ | refine x_two ?_ | refine x_eqI ?_ | refine x_neI ?_ | refine x_u ?_ | refine x_call ?_ | refine x_cb ?_ | refine x_cons ?_ | refine x_nil ?_ | refine x_tup ?_ | refine x_lst ?_ | refine x_gcd ?_ | refine x_for ?_ | refine x_iL ?_ | refine x_iT ?_ | refine x_iR1 ?_ | refine x_iR2 ?_ | refine x_lc ?_ | refine x_bm ?_ | refine x_bm0 ?_ | refine x_sl ?_ | refine x_nopart ?_ | refine x_part ?_ | refine x_some ?_ | refine x_bl ?_))
local macro_rules | `(tactic| walk_at "k9") => `(tactic| repeat (walk_at "k91"))
theorem Rqs.take {H : Hp} {vs : List V} {qs : List Rat} (h : Rqs H vs qs) (k : Nat) : Rqs H (vs.take k) (qs.take k) := by
  refine ⟨by simp [h.1], fun i x e => ?_⟩
  rw [List.getElem?_take] at e
  rw [List.getElem?_take]
  split at e
  · rename_i hl; rw [if_pos hl]; exact h.2 i x e
  · cases e
theorem Rqs.drop {H : Hp} {vs : List V} {qs : List Rat} (h : Rqs H vs qs) (k : Nat) : Rqs H (vs.drop k) (qs.drop k) := by
  refine ⟨by simp [h.1], fun i x e => ?_⟩
  rw [List.getElem?_drop] at e
  rw [List.getElem?_drop]
  exact h.2 _ x e
theorem cut_from (xs : List V) (m : Nat) (h : m ≤ xs.length) : cutV xs (some (m : Int)) none = xs.drop m := by
  unfold cutV
  rw [HT.sIx_none, HT.sIx_nat, Nat.min_eq_left h]
  exact List.take_of_length_le (by rw [List.length_drop]; exact Nat.le_refl _)
/-- what the law draws -/
structure Told (qs : List Rat) : Prop where
  len : qs.length = 5 ∨ qs.length = 7 ∨ qs.length = 9 ∨ qs.length = 10
  mb : ∀ q ∈ qs, Mb 6 502761 q
  last : K9M.lastQ qs ≠ 0
theorem fr_mb {m b : Nat} {q : Rat} (h : Fr m b q) (hb : b ≤ 3) (k : b = 1 ∨ b = 2 ∨ b = 3) : Mb (if b = 1 then 1 else if b = 2 then 2 else 6) (if b = 1 then m else if b = 2 then 2 * m else 6 * m) q := by
  obtain ⟨x, y, rfl, hx, y1, y2⟩ := h
  have yn := K9M.cast_ne (D := y) (by omega)
  have key : ∀ (D e : Int), D = y * e → ((x : Rat) / (y : Rat)) * (D : Rat) = ((x * e : Int) : Rat) := fun D e h => by
    rw [h, Rat.intCast_mul, Rat.intCast_mul]; grind
  rcases k with e | e | e <;> subst e
  · have : y = 1 := by omega
    subst this
    exact ⟨x * 1, key 1 1 (by decide), by show (x * 1).natAbs ≤ m; omega⟩
  · have : y = 1 ∨ y = 2 := by omega
    rcases this with e | e <;> subst e
    · exact ⟨x * 2, key 2 2 (by decide), by show (x * 2).natAbs ≤ 2 * m; omega⟩
    · exact ⟨x * 1, key 2 1 (by decide), by show (x * 1).natAbs ≤ 2 * m; omega⟩
  · have : y = 1 ∨ y = 2 ∨ y = 3 := by omega
    rcases this with e | e | e <;> subst e
    · exact ⟨x * 6, key 6 6 (by decide), by show (x * 6).natAbs ≤ 6 * m; omega⟩
    · exact ⟨x * 3, key 6 3 (by decide), by show (x * 3).natAbs ≤ 6 * m; omega⟩
    · exact ⟨x * 2, key 6 2 (by decide), by show (x * 2).natAbs ≤ 6 * m; omega⟩
theorem Mb.three {M : Nat} {q : Rat} (h : Mb 2 M q) : Mb 6 (3 * M) q := by
  obtain ⟨z, e, l⟩ := h
  refine ⟨z * 3, ?_, by omega⟩
  rw [show (6 : Int) = 2 * 3 from rfl, Rat.intCast_mul, Rat.intCast_mul, ← e]; grind
def sp_law_drawn : Sp := fun vs H Q _ => ∃ (a c l : Addr) (n : Nat), vs = [.ref a] ∧ RSt a c l H n ∧ n + 40 < 2 ^ 20 ∧ ∀ H' v qs n', n' ≤ n + 30 → SB a l H H' → RSt a c l H' n' → RS H' v qs → Told qs → Q v H'
section
variable {P : Program} {w : World} {K : PySem.W.Frag} {mg : Str → Option Value} {base : Heap}
abbrev s_law_drawn : Stmt := topS 55
abbrev N_law_drawn : List Str := ["_law_state", "_law_told", "_law_place", "_law_pick", "_law_size"]
theorem sc_law_drawn : FnScope N_law_drawn ["_law_state"] (defScope s_law_drawn) := ⟨rfl, rfl, rfl, by decide +kernel, rfl, by decide +kernel, by decide +kernel⟩
theorem kn_law_drawn (D : DefAt K mg "_law_drawn" s_law_drawn) (T : Wd mg) (k_law_draw : Kn P w K mg base CX0 2 "_law_draw" ["_law_state", "_law_limit"] sp_law_draw) (k_law_step : Kn P w K mg base CX0 4 "_law_step" ["_law_state", "_law_size", "_law_most", "_law_below"] sp_law_step)
    (k_law_within : Kn P w K mg base CX0 5 "_law_within" ["_law_inner", "_law_outer"] sp_law_within) (k_law_add : Kn P w K mg base CX0 3 "_law_add" ["_law_one", "_law_other"] (sp_num2 (· + ·))) : Kn P w K mg base CX0 6 "_law_drawn" ["_law_state"] sp_law_drawn := by
  have S := sc_law_drawn
  refine Kn.of D S (fun vs H Q E h => ?_) (fun _ _ _ _ _ _ us hl => match us, hl with | [_], _ => rfl) fun f cdv A outer s H vs Q E hr h => ?_
  · obtain ⟨_, _, _, _, rfl, _⟩ := h; rfl
  obtain ⟨a, c, l, n, rfl, st, hn, k⟩ := h
  refine ⟨_, PSs.nox (pss_cons (ps_par (i := 3) (j := 4) (by rfl) S.nd rfl rfl (by decide) rfl rfl (pa_cons (pe_kn k_law_draw (hr.mono (by decide)) (by rfl) pass0 (pa_cons (pv 0) (pa_cons pe_int pa_nil))) (pa_cons (pe_op op_add pe_int (pe_kn k_law_draw (hr.mono (by decide)) (by rfl) pass0 (pa_cons (pv 0) (pa_cons pe_int pa_nil)))) pa_nil)) (by rfl))
    (pss_cons (ps_if (pt_cmpR op_eq (pv 3) pe_int (nomark _))
      (pss_one (ps_ret (pe_kn k_law_step (hr.mono (by decide)) (by rfl) pass0 (pa_cons (pv 0) (pa_cons (pe_ix (ixL (K := K) rfl) (pe_lst (pa_cons pe_int (pa_cons pe_int (pa_cons pe_int pa_nil)))) (pe_kn k_law_draw (hr.mono (by decide)) (by rfl) pass0 (pa_cons (pv 0) (pa_cons pe_int pa_nil))) (fun _ _ => rfl)) (pa_cons pe_int (pa_cons pe_int pa_nil))))))) pss_nil)
    (pss_cons (ps_set (i := 1) S.nd rfl (Or.inl rfl) (pe_kn k_law_within (hr.mono (by decide)) (by rfl) pass0 (pa_cons (pe_kn k_law_step (hr.mono (by decide)) (by rfl) pass0 (pa_cons (pv 0) (pa_cons (pv 4) (pa_cons pe_int (pa_cons pe_int pa_nil))))) (pa_cons (pe_kn k_law_step (hr.mono (by decide)) (by rfl) pass0 (pa_cons (pv 0) (pa_cons (pe_op op_add pe_int (pe_kn k_law_draw (hr.mono (by decide)) (by rfl) pass0 (pa_cons (pv 0) (pa_cons pe_int pa_nil)))) (pa_cons pe_int (pa_cons pe_int pa_nil))))) pa_nil))))
    (pss_cons (ps_if (pt_cmpR op_eq (pv 3) pe_int (nomark _))
      (pss_one (ps_ret (pv 1))) pss_nil)
    (pss_cons (ps_set (i := 2) S.nd rfl (Or.inl rfl) (pe_op op_add pe_int (pe_kn k_law_draw (hr.mono (by decide)) (by rfl) pass0 (pa_cons (pv 0) (pa_cons (pe_op op_sub (pe_callB (lenK (K := K) rfl) (by rfl) T.len PySem.boot_len (pa_cons (pv 1) pa_nil)) pe_int) pa_nil)))))
    (pss_one (ps_ret (pe_op op_catA (pe_op op_catA (pe_slice sl_tupA (pv 1) po_none (po_some (pv 2))) (pe_tup (pa_cons (pe_kn k_law_add (hr.mono (by decide)) (by rfl) pass0 (pa_cons (pe_ix (ixT (K := K) rfl) (pv 1) (pv 2) (fun _ _ => rfl)) (pa_cons (pe_tup (pa_cons pe_int (pa_cons pe_int pa_nil))) pa_nil))) pa_nil))) (pe_slice sl_tupA (pv 1) (po_some (pe_op op_add (pv 2) pe_int)) po_none))))))))), ?_⟩
  walk_at "k9"
  refine ⟨a, c, l, n, _, rfl, st, by omega, by decide, by decide, fun H1 i i0 i1 sb1 st1 => ?_⟩
  walk_at "k9"
  refine ⟨a, c, l, n + 1, _, rfl, st1, by omega, by decide, by decide, fun H2 j j0 j1 sb2 st2 => ?_⟩
  walk_at "k9"
  by_cases hi : i = 0
  · refine x_yes (decide_eq_true hi) ?_
    walk_at "k9"
    refine ⟨by show 3 ≤ sizeLine; decide, fun t ht => ?_⟩
    obtain ⟨ta, tc, tl⟩ := st2.newc ht
    walk_at "k9"
    refine ⟨a, c, l, n + 1 + 1, _, rfl, st2.put ta tc tl, by omega, by decide, by decide, fun H3 e e0 e1 sb3 st3 => ?_⟩
    have hs : e = 0 ∨ e = 1 ∨ e = 2 := by omega
    have sb13 : SB a l H H3 := (sb1.trans sb2).trans (SB.trans (Same.sb (same_upd ht)) sb3)
    have fin : ∀ z : Nat, (z = 4 ∨ z = 6 ∨ z = 8) → sp_law_step [.ref a, .int (z : Nat), .int ((4 : Nat) : Int), .int ((3 : Nat) : Int)] H3 Q E0 := fun z hz => by
      refine ⟨a, c, l, n + 1 + 1 + 1, z, 4, 3, rfl, st3, by omega, by omega, by decide, by decide, by decide, by decide, fun H4 v qs sb4 st4 r4 l4 f4 z4 => ?_⟩
      exact k _ _ qs _ (by omega) (sb13.trans sb4) st4 r4 ⟨by omega, fun q hq => (fr_mb (f4 q hq) (by decide) (.inr (.inr rfl))).mono (by decide), z4⟩
    rcases hs with e | e | e <;> subst e
    · refine x_ixL (v := .int 4) (sb3 _ _ ta tl upd_same) rfl ?_
      walk_at "k9"
      exact fin 4 (.inl rfl)
    · refine x_ixL (v := .int 6) (sb3 _ _ ta tl upd_same) rfl ?_
      walk_at "k9"
      exact fin 6 (.inr (.inl rfl))
    · refine x_ixL (v := .int 8) (sb3 _ _ ta tl upd_same) rfl ?_
      walk_at "k9"
      exact fin 8 (.inr (.inr rfl))
  refine x_no (decide_eq_false hi) ?_
  walk_at "k9"
  obtain ⟨z, hz, ez⟩ : ∃ z : Nat, (z = 2 ∨ z = 3) ∧ 2 + j = (z : Int) := ⟨(2 + j).toNat, by omega, by omega⟩
  rw [ez]
  refine ⟨a, c, l, n + 1 + 1, z, 3, 1, rfl, st2, by omega, by omega, by decide, by decide, by decide, by decide, fun H3 v1 P1 sb3 st3 r1 l1 f1 z1 => ?_⟩
  walk_at "k9"
  refine ⟨a, c, l, _, _, rfl, st3, by omega, by decide, by decide, fun H4 y y0 y1 sb4 st4 => ?_⟩
  walk_at "k9"
  obtain ⟨x, hx, ex⟩ : ∃ x : Nat, (x = 2 ∨ x = 3) ∧ 2 + y = (x : Int) := ⟨(2 + y).toNat, by omega, by omega⟩
  rw [ex]
  refine ⟨a, c, l, _, x, 3, 2, rfl, st4, by omega, by omega, by decide, by decide, by decide, by decide, fun H5 v2 P2 sb5 st5 r2 l2 f2 z2 => ?_⟩
  walk_at "k9"
  have ts : TSame H3 H5 := st3.tup (sb4.trans sb5)
  refine ⟨v1, v2, P1, P2, rfl, r1.tsame ts, r2, by omega, by omega, by omega, by omega, fun q hq => fr_mb (f1 q hq) (by decide) (.inl rfl), fun q hq => fr_mb (f2 q hq) (by decide) (.inr (.inl rfl)), z1, z2, fun H6 v3 R s6 r3 l3 z3 b3 => ?_⟩
  have sb6 : SB a l H H6 := ((((sb1.trans sb2).trans sb3).trans sb4).trans sb5).trans (Same.sb s6)
  have st6 := st5.same s6
  have lR : R.length = 5 ∨ R.length = 7 ∨ R.length = 10 := by
    have ea : P1.length - 1 = z := by omega
    have eb : P2.length - 1 = x := by omega
    rw [ea, eb] at l3
    rcases hz with e | e <;> rcases hx with e' | e' <;> subst e <;> subst e' <;> omega
  walk_at "k9"
  by_cases hi1 : i = 1
  · refine x_yes (decide_eq_true hi1) ?_
    walk_at "k9"
    exact k _ _ R _ (by omega) sb6 st6 r3 ⟨by omega, fun q hq => (b3 q hq).three.mono (by decide), z3⟩
  refine x_no (decide_eq_false hi1) ?_
  obtain ⟨p3, xs, rfl, hp3, rx⟩ := r3
  have lx := rx.1
  walk_at "k9"
  refine ⟨p3, _, rfl, .inr (.of hp3), ?_⟩
  rw [lx]
  walk_at "k9"
  refine ⟨a, c, l, _, _, rfl, st6, by omega, by omega, by omega, fun H7 g g0 g1 sb7 st7 => ?_⟩
  have ts7 := st6.tup sb7
  have hp7 := ts7 _ _ hp3
  have rx7 := rx.tsame ts7
  walk_at "k9"
  obtain ⟨m, hm, em⟩ : ∃ m : Nat, (1 ≤ m ∧ m + 2 ≤ R.length) ∧ 1 + g = (m : Int) := ⟨(1 + g).toNat, by omega, by omega⟩
  rw [em]
  refine ⟨p3, xs, rfl, .of hp7, fun hw => ?_, fun _ t1 ht1 => ?_⟩
  · have h2 := hw.2
    rw [HT.sIx_nat] at h2
    omega
  rw [cut_to _ _ (by omega)]
  walk_at "k9"
  refine x_ixT (mem_upd ht1 hp7) (atI_nat (List.getElem?_eq_getElem (by omega : m < xs.length))) ?_
  have hrm : RQ (upd H7 t1 (.tup (xs.take m))) xs[m] (K9M.coef R m) := by
    obtain ⟨q, e, r⟩ := rx7.2 m _ (List.getElem?_eq_getElem (by omega : m < xs.length))
    rw [K9M.coef_of e]
    exact r.tsame (Same.tup (same_upd ht1))
  walk_at "k9"
  refine ⟨by show 2 ≤ sizeLine; decide, fun t2 ht2 => ?_⟩
  walk_at "k9"
  have mbm : Mb 2 167586 (K9M.coef R m) := mb_coef b3 m
  have half : RQ (upd (upd H7 t1 (.tup (xs.take m))) t2 (.tup [.int 1, .int 2])) (.ref t2) ((1 : Rat) / 2) := ⟨t2, rfl, by
    rw [show ((1 : Rat) / 2).num = 1 by decide +kernel, show ((1 : Rat) / 2).den = 2 by decide +kernel]
    exact upd_same⟩
  have mbh : Mb 2 1 ((1 : Rat) / 2) := ⟨1, by rw [Rat.intCast_one]; exact Rat.div_mul_cancel (a := (1 : Rat)) (by decide), by decide⟩
  refine ⟨_, _, _, _, rfl, hrm.same (same_upd ht2), half, mbm.sm (Nat.lt_of_lt_of_le (by decide : 167586 < 2 ^ 30) (Nat.pow_le_pow_right (by decide) (by decide))) (by decide) (by decide), mbh.sm (Nat.lt_of_lt_of_le (by decide : 1 < 2 ^ 30) (Nat.pow_le_pow_right (by decide) (by decide))) (by decide) (by decide), fun H8 v8 s8 r8 => ?_⟩
  walk_at "k9"
  refine ⟨by show 1 ≤ sizeLine; decide, fun t3 ht3 => ?_⟩
  have m1 : upd H8 t3 (.tup [v8]) t1 = some (.tup (xs.take m)) := mem_upd ht3 (s8 _ _ (mem_upd ht2 upd_same))
  have ltk : (xs.take m).length = m := by rw [List.length_take]; omega
  refine ⟨t1, t3, _, _, rfl, rfl, .of m1, .of upd_same, by rw [ltk]; show m + 1 ≤ sizeLine; exact Nat.le_trans (by omega : m + 1 ≤ 20) (by decide), fun z => by rw [z] at ltk; simp at ltk; omega, fun _ z => by simp at z, fun _ _ t4 ht4 => ?_⟩
  have hp8 : upd (upd H8 t3 (.tup [v8])) t4 (.tup (xs.take m ++ [v8])) p3 = some (.tup xs) := mem_upd ht4 (mem_upd ht3 (s8 _ _ (mem_upd ht2 (mem_upd ht1 hp7))))
  walk_at "k9"
  refine ⟨p3, xs, rfl, .of hp8, fun hw => ?_, fun _ t5 ht5 => ?_⟩
  · have h2 := hw.1
    rw [show ((m : Nat) : Int) + 1 = ((m + 1 : Nat) : Int) by omega, HT.sIx_nat] at h2
    omega
  rw [show ((m : Nat) : Int) + 1 = ((m + 1 : Nat) : Int) by omega, cut_from _ _ (by omega)]
  have ldr : (xs.drop (m + 1)).length = xs.length - (m + 1) := List.length_drop
  refine ⟨t4, t5, _, _, rfl, rfl, .of (mem_upd ht5 upd_same), .of upd_same, ?_, fun z => by simp at z, fun _ z => by rw [z] at ldr; simp at ldr; omega, fun _ _ t6 ht6 => ?_⟩
  · rw [ldr, List.length_append, ltk]
    show m + 1 + (xs.length - (m + 1)) ≤ sizeLine
    exact Nat.le_trans (by omega : _ ≤ 20) (by decide)
  have s89 : Same H8 (upd (upd (upd (upd H8 t3 (.tup [v8])) t4 (.tup (xs.take m ++ [v8]))) t5 (.tup (xs.drop (m + 1)))) t6 (.tup (xs.take m ++ [v8] ++ xs.drop (m + 1)))) := fun b o e => mem_upd ht6 (mem_upd ht5 (mem_upd ht4 (mem_upd ht3 e)))
  have s79 : Same H7 (upd (upd (upd (upd H8 t3 (.tup [v8])) t4 (.tup (xs.take m ++ [v8]))) t5 (.tup (xs.drop (m + 1)))) t6 (.tup (xs.take m ++ [v8] ++ xs.drop (m + 1)))) := fun b o e => s89 _ _ (s8 _ _ (mem_upd ht2 (mem_upd ht1 e)))
  have rx9 := rx7.tsame (Same.tup s79)
  refine k _ _ (R.take m ++ [K9M.coef R m + 1 / 2] ++ R.drop (m + 1)) _ ?_ ((sb6.trans sb7).trans (Same.sb s79)) (st7.same s79) ⟨t6, _, rfl, upd_same, ((rx9.take m).snoc (r8.same s89)).app (rx9.drop (m + 1))⟩ ⟨by simp; omega, fun q hq => ?_, ?_⟩
  · omega
  · rcases List.mem_append.mp hq with h | h
    · rcases List.mem_append.mp h with h | h
      · exact (b3 q (List.mem_of_mem_take h)).three.mono (by decide)
      · rw [List.mem_singleton.mp h]
        exact (mbm.add mbh).three.mono (by decide)
    · exact (b3 q (List.mem_of_mem_drop h)).three.mono (by decide)
  · have : K9M.lastQ (R.take m ++ [K9M.coef R m + 1 / 2] ++ R.drop (m + 1)) = K9M.lastQ R := by
      unfold K9M.lastQ
      refine K9M.coef_of ?_
      have hl : (R.take m ++ [K9M.coef R m + 1 / 2] ++ R.drop (m + 1)).length = R.length := by simp; omega
      have hl2 : (R.take m ++ [K9M.coef R m + 1 / 2]).length = m + 1 := by simp; omega
      rw [hl, List.getElem?_append_right (by omega), hl2, List.getElem?_drop, show m + 1 + (R.length - 1 - (m + 1)) = R.length - 1 by omega]
      exact get_coef (by omega)
    rw [this]; exact z3
end
end K9

set_option Elab.async false
set_option linter.all false
set_option maxRecDepth 100000
set_option maxHeartbeats 4000000
namespace K9
open PySem PySem.Spec PyProof.Rows L2
local macro_rules | `(tactic| walk_at "k9mem") => `(tactic| first | with_reducible assumption | exact upd_same | ((with_reducible refine mem_upd (by with_reducible assumption) ?_); walk_at "k9mem") | ((with_reducible refine mem_same (by with_reducible assumption) ?_); walk_at "k9mem"))
local macro_rules | `(tactic| walk_at "k91") => `(tactic| with_reducible (first | refine x_seq ?_ | refine x_asg ?_ | refine x_name ?_ | refine x_ret ?_ | refine x_drop ?_ | refine x_next ?_ | refine x_ifs ?_ | refine x_if ?_ | refine x_test ?_ | refine x_tb ?_ | refine x_tnot ?_ | refine x_tand ?_ | refine x_tor ?_ | refine x_andv ?_ | refine x_orv ?_ | refine x_notv ?_ | refine x_var rfl ?_ | refine x_c ?_ | refine x_op ?_ | refine x_un ?_ | refine x_i0 ?_ | refine x_par ?_ | refine x_two ?_ | refine x_eqI ?_ | refine x_neI ?_ | refine x_u ?_ | refine x_call ?_ | refine x_cb ?_ | refine x_cons ?_ | refine x_nil ?_ | refine x_tup ?_ | refine x_lst ?_ | refine x_gcd ?_ | refine x_for ?_ | refine x_iL ?_ | refine x_iT ?_ | refine x_iR1 ?_ | refine x_iR2 ?_ | refine x_lc ?_ | refine x_bm ?_ | refine x_bm0 ?_ | refine x_sl ?_ | refine x_nopart ?_ | refine x_part ?_ | refine x_some ?_ | refine x_bl ?_))
local macro_rules | `(tactic| walk_at "k9") => `(tactic| repeat (walk_at "k91"))
def numD (q : Rat) : PyData := .tuple [.int q.num, .int ((q.den : Nat) : Int)]
theorem dp_nums {K : PySem.W.Frag} {H : Hp} : ∀ {vs : List V} {qs : List Rat}, Rqs H vs qs → DpAll K H vs (qs.map numD)
  | [], qs, h => by
    have : qs = [] := List.length_eq_zero_iff.mp h.1.symm
    subst this
    exact .nil
  | v :: vs, [], h => by have := h.1; simp at this
  | v :: vs, q :: qs, h => by
    obtain ⟨q', e, b, rfl, hb⟩ := h.2 0 v rfl
    cases e
    exact .cons (dp_num hb) (dp_nums ⟨by simpa using h.1, fun i x e => by simpa using h.2 (i + 1) x (by simpa using e)⟩)
theorem lay_nums : ∀ qs : List Rat, PyData.canLayAll0 (qs.map numD) = true
  | [] => by simp [PyData.canLayAll0]
  | q :: qs => by
    rw [List.map_cons]
    simp [PyData.canLayAll0, PyData.canLay0, numD, lay_nums qs]
theorem deep_nums : ∀ qs : List Rat, PyData.depthAll (qs.map numD) ≤ 1
  | [] => by simp [PyData.depthAll]
  | q :: qs => by
    have := deep_nums qs
    rw [List.map_cons]
    simp only [PyData.depthAll, PyData.depth, numD]
    omega
theorem shaped_nums (qs : List Rat) : SeqAt.shaped (.list (qs.map numD)) = true := by
  have h1 := deep_nums qs
  have h2 : PyData.depth (.list (qs.map numD)) ≤ 64 := by simp only [PyData.depth]; omega
  unfold SeqAt.shaped
  rw [Bool.and_eq_true]
  exact ⟨by simp only [PyData.canLay0]; exact lay_nums qs, decide_eq_true h2⟩
theorem x_neNilQ {K : PySem.W.Frag} {H : Hp} {Q : VK} {l t : Addr} {vs : List V} {qs : List Rat} (h : H l = some (.lst vs)) (r : Rqs H vs qs) (h2 : H t = some (.lst [])) (k : Q (.bl (decide (qs ≠ []))) H) : rNeD K (.ref l) (.ref t) H Q := by
  refine ⟨_, _, .lst (.of h) (dp_nums r), .lst (.of h2) .nil, shaped_nums qs, shaped_nums [], ?_⟩
  have : (!PyData.eqv (.list (qs.map numD)) (.list [])) = decide (qs ≠ []) := by
    cases qs with
    | nil => rfl
    | cons q qs => simp [PyData.eqv, PyData.eqvAll]
  rw [this]
  exact k
/-- all but l stands -/
def SBl (l : Addr) (H H' : Hp) : Prop := ∀ b o, b ≠ l → H b = some o → H' b = some o
theorem x_strip {K K2 : PySem.W.Frag} {σ : L2.St} {H : Hp} {D : Ends} {i : Nat} {l : Addr} {ws : List V} {rs : List Rat} (hs : σ[i]? = some (some (.ref l))) (hl : H l = some (.lst ws)) (r : Rqs H ws rs)
    (k : ∀ H' ws', SBl l H H' → H' l = some (.lst ws') → Rqs H' ws' (K9M.trim rs) → D.nx σ H') :
    tWhile (tAnd (tTest (tOp (rNeD K) (tVar i) (tLst tNil))) (tTest (tOp (rEqD K) (tOp (rIxL K) (tVar i) (tUn (rU fun i => .int (-i)) (tC (.int 1)))) (tTup (tCons (tC (.int 0)) (tCons (tC (.int 1)) tNil))))))
      (tDrop (tBM0 K2 "list" rPop (tVar i))) D σ H := by
  refine x_while (fun m σ' H' => ∃ ws' rs', σ = σ' ∧ rs'.length = m ∧ SBl l H H' ∧ H' l = some (.lst ws') ∧ Rqs H' ws' rs' ∧ K9M.trim rs' = K9M.trim rs) rs.length ⟨ws, rs, rfl, rfl, fun _ _ _ h => h, hl, r, rfl⟩ ?_
  rintro m _ H1 ⟨ws1, rs1, rfl, rfl, s1, hl1, r1, et⟩
  refine x_tand ?_
  refine x_test ?_
  refine x_op ?_
  refine x_var hs ?_
  refine x_lst ?_
  refine x_nil ?_
  refine ⟨by show 0 ≤ sizeLine; decide, fun t ht => ?_⟩
  have s2 : Same H1 (upd H1 t (.lst [])) := same_upd ht
  refine x_neNilQ (s2 _ _ hl1) (r1.tsame (Same.tup s2)) upd_same ?_
  refine x_bl ?_
  by_cases hz : rs1 = []
  · subst hz
    refine x_no (by simp) ?_
    refine x_no rfl ?_
    refine k _ ws1 (fun b o h e => s2 _ _ (s1 _ _ h e)) (s2 _ _ hl1) ?_
    rw [← et]
    exact r1.tsame (Same.tup s2)
  obtain ⟨r0, q0, rfl⟩ := snoc_of hz
  obtain ⟨w0, v0, rfl, rw0, rq0⟩ := r1.unsnoc
  refine x_yes (by simp) ?_
  refine x_test ?_
  refine x_op ?_
  refine x_op ?_
  refine x_var hs ?_
  refine x_un ?_
  refine x_c ?_
  refine x_u ?_
  refine x_ixL (s2 _ _ hl1) (atI_last _ _) ?_
  refine x_tup ?_
  refine x_cons ?_
  refine x_c ?_
  refine x_cons ?_
  refine x_c ?_
  refine x_nil ?_
  refine ⟨by show 2 ≤ sizeLine; decide, fun t2 ht2 => ?_⟩
  have s3 : Same H1 (upd (upd H1 t (.lst [])) t2 (.tup [.int 0, .int 1])) := fun b o e => mem_upd ht2 (s2 _ _ e)
  refine x_eq01 (rq0.same s3) upd_same ?_
  refine x_bl ?_
  by_cases hq : q0 = 0
  · refine x_yes (decide_eq_true hq) ?_
    refine x_turn ?_
    refine x_drop ?_
    refine x_bm0 ?_
    refine x_var hs ?_
    refine x_tyL (s3 _ _ hl1) ?_
    refine x_pop (s3 _ _ hl1) ?_
    subst hq
    refine ⟨r0.length, by simp, w0, r0, rfl, rfl, fun b o h e => ?_, upd_same, (rw0.tsame (Same.tup s3)).tsame (tsame_lst (s3 _ _ hl1)), ?_⟩
    · rw [upd_ne h]
      exact s3 _ _ (s1 _ _ h e)
    · rw [← et, K9M.trim_snoc_zero]
  · refine x_no (decide_eq_false hq) ?_
    refine k _ _ (fun b o h e => s3 _ _ (s1 _ _ h e)) (s3 _ _ hl1) ?_
    rw [← et, K9M.trim_snoc hq]
    exact r1.tsame (Same.tup s3)
/-- the two lists of a division -/
def RDL (H0 H : Hp) (v : V) (P1 P2 : List Rat) : Prop := ∃ p f r ws us, v = .ref p ∧ H p = some (.tup [.ref f, .ref r]) ∧ H f = some (.lst ws) ∧ H r = some (.lst us) ∧ Rqs H ws P1 ∧ Rqs H us P2 ∧ H0 f = none ∧ H0 r = none
def sp_law_divided : Sp := fun vs H Q _ => ∃ (v1 v2 : V) (P U : List Rat) (S b c R k : Nat) (B D : Int), vs = [v1, v2] ∧ RL H v1 P ∧ RS H v2 U ∧ DS U P S b c R k B D ∧ U.length ≤ P.length ∧
  ∀ H' v, Same H H' → RDL H H' v (K9M.divQ U P).1 (K9M.divQ U P).2 → Q v H'
theorem neg_rq {H : Hp} {t : Addr} {q : Rat} (h : H t = some (.tup [.int (-q.num), .int ((q.den : Nat) : Int)])) : RQ H (.ref t) (-q) := ⟨t, rfl, by rw [h, Rat.neg_num, Rat.neg_den]⟩
theorem less_coef {w : Rat} {U r : List Rat} (h : U.length ≤ r.length) (k : Nat) : K9M.coef (K9M.less w U r) k = if r.length - U.length ≤ k ∧ k < r.length then K9M.coef r k + -w * K9M.coef U (k - (r.length - U.length)) else K9M.coef r k := by
  have hl := K9M.less_len (w := w) h
  rcases Nat.lt_or_ge k r.length with z | z
  · have e : (K9M.less w U r)[k]? = some (K9M.coef r k - w * K9M.coef (List.replicate (r.length - U.length) 0 ++ U) k) := by
      unfold K9M.less
      rw [List.getElem?_zipWith, get_coef z, get_coef (l := List.replicate (r.length - U.length) 0 ++ U) (by simp; omega)]
    rw [K9M.coef_of e]
    split
    · rename_i hk
      have : K9M.coef (List.replicate (r.length - U.length) 0 ++ U) k = K9M.coef U (k - (r.length - U.length)) := by
        refine K9M.coef_of ?_
        rw [List.getElem?_append_right (by simp; omega), List.length_replicate]
        exact get_coef (by omega)
      rw [this]
      grind
    · have : K9M.coef (List.replicate (r.length - U.length) 0 ++ U) k = 0 := by
        refine K9M.coef_of ?_
        rw [List.getElem?_append_left (by simp; omega), List.getElem?_replicate, if_pos (by omega)]
      rw [this]
      grind
  · rw [K9M.coef_out (by omega), if_neg (by omega), K9M.coef_out z]
theorem list_ext {a b : List Rat} (hl : a.length = b.length) (h : ∀ k, K9M.coef a k = K9M.coef b k) : a = b := by
  refine List.ext_getElem? fun i => ?_
  rcases Nat.lt_or_ge i a.length with z | z
  · rw [get_coef z, get_coef (by omega), h]
  · rw [List.getElem?_eq_none z, List.getElem?_eq_none (by omega)]
end K9

set_option Elab.async false
set_option linter.all false
set_option maxRecDepth 100000
set_option maxHeartbeats 4000000
namespace K9
open PySem PySem.Spec PyProof.Rows L2
local macro_rules | `(tactic| walk_at "k9mem") => `(tactic| first | with_reducible assumption | exact upd_same | ((with_reducible refine mem_upd (by with_reducible assumption) ?_); walk_at "k9mem") | ((with_reducible refine mem_same (by with_reducible assumption) ?_); walk_at "k9mem"))
local macro_rules | `(tactic| walk_at "k91") => `(tactic| with_reducible (first | refine x_seq ?_ | refine x_asg ?_ | refine x_name ?_ | refine x_ret ?_ | refine x_drop ?_ | refine x_next ?_ | refine x_ifs ?_ | refine x_if ?_ | refine x_test ?_ | refine x_tb ?_ | refine x_tnot ?_ | refine x_tand ?_ | refine x_tor ?_ | refine x_andv ?_ | refine x_orv ?_ | refine x_notv ?_ | refine x_var rfl ?_ | refine x_c ?_ | refine x_op ?_ | refine x_un ?_ | refine x_i0 ?_ | refine x_par ?_ | refine x_two ?_ | refine x_eqI ?_ | refine x_neI ?_ | refine x_u ?_ | refine x_call ?_ | refine x_cb ?_ | refine x_cons ?_ | refine x_nil ?_ | refine x_tup ?_ | refine x_lst ?_ | refine x_gcd ?_ | refine x_for ?_ | refine x_iL ?_ | refine x_iT ?_ | refine x_iR1 ?_ | refine x_iR2 ?_ | refine x_lc ?_ | refine x_bm ?_ | refine x_bm0 ?_ | refine x_sl ?_ | refine x_nopart ?_ | refine x_part ?_ | refine x_some ?_ | refine x_bl ?_))
local macro_rules | `(tactic| walk_at "k9") => `(tactic| repeat (walk_at "k91"))
section
variable {P : Program} {w : World} {K : PySem.W.Frag} {mg : Str → Option Value} {base : Heap}
abbrev s_law_divided : Stmt := topS 49
abbrev N_law_divided : List Str := ["_law_told", "_law_base", "_law_back", "_law_rest", "_law_found", "_law_place", "_law_worth", "_law_at", "_law_item"]
theorem sc_law_divided : FnScope N_law_divided ["_law_told", "_law_base"] (defScope s_law_divided) := ⟨rfl, rfl, rfl, by decide +kernel, rfl, by decide +kernel, by decide +kernel⟩
theorem kn_law_divided (D : DefAt K mg "_law_divided" s_law_divided) (T : Wd mg) (k_law_add : Kn P w K mg base CX0 3 "_law_add" ["_law_one", "_law_other"] (sp_num2 (· + ·))) (k_law_mul : Kn P w K mg base CX0 3 "_law_mul" ["_law_one", "_law_other"] (sp_num2 (· * ·))) :
    Kn P w K mg base CX0 4 "_law_divided" ["_law_told", "_law_base"] sp_law_divided := by
  have S := sc_law_divided
  refine Kn.of D S (fun vs H Q E h => ?_) (fun _ _ _ _ _ _ us hl => match us, hl with | [_, _], _ => rfl) fun f cdv A outer s H vs Q E hr h => ?_
  · obtain ⟨_, _, _, _, _, _, _, _, _, _, _, rfl, _⟩ := h; rfl
  obtain ⟨_, _, P1, U, S0, b0, c0, R, k0, B, D0, rfl, ⟨p1, xs, rfl, hp1, rx⟩, ⟨p2, us, rfl, hp2, ru⟩, ds, hle, k⟩ := h
  refine ⟨_, PSs.nox (pss_cons (ps_par (i := 3) (j := 4) (by rfl) S.nd rfl rfl (by decide) rfl rfl (pa_cons (pe_callTy call_list_of (by rfl) T.list (by decide +kernel) (pa_cons (pv 0) pa_nil)) (pa_cons (pe_op op_rep (pe_lst (pa_cons (pe_tup (pa_cons pe_int (pa_cons pe_int pa_nil))) pa_nil)) (pe_callB (call_max2 rfl) (by rfl) T.max (by decide +kernel) (pa_cons pe_int (pa_cons (pe_op op_add (pe_op op_sub (pe_callB (lenK (K := K) rfl) (by rfl) T.len PySem.boot_len (pa_cons (pv 0) pa_nil)) (pe_callB (lenK (K := K) rfl) (by rfl) T.len PySem.boot_len (pa_cons (pv 1) pa_nil))) pe_int) pa_nil)))) pa_nil)) (by rfl))
    (pss_cons (ps_set (i := 2) S.nd rfl (Or.inl rfl) (pe_ifExp (pt_cmpR op_gt (pe_ix (ixT (K := K) rfl) (pe_ix (ixT (K := K) rfl) (pv 1) (pe_un un_neg pe_int) (fun _ _ => rfl)) pe_int (fun _ _ => rfl)) pe_int (nomark _)) (pe_tup (pa_cons (pe_ix (ixT (K := K) rfl) (pe_ix (ixT (K := K) rfl) (pv 1) (pe_un un_neg pe_int) (fun _ _ => rfl)) pe_int (fun _ _ => rfl)) (pa_cons (pe_ix (ixT (K := K) rfl) (pe_ix (ixT (K := K) rfl) (pv 1) (pe_un un_neg pe_int) (fun _ _ => rfl)) pe_int (fun _ _ => rfl)) pa_nil))) (pe_tup (pa_cons (pe_un un_neg (pe_ix (ixT (K := K) rfl) (pe_ix (ixT (K := K) rfl) (pv 1) (pe_un un_neg pe_int) (fun _ _ => rfl)) pe_int (fun _ _ => rfl))) (pa_cons (pe_un un_neg (pe_ix (ixT (K := K) rfl) (pe_ix (ixT (K := K) rfl) (pv 1) (pe_un un_neg pe_int) (fun _ _ => rfl)) pe_int (fun _ _ => rfl))) pa_nil)))))
    (pss_cons (ps_while PassesOwn.never (pt_cmpR op_ge (pe_callB (lenK (K := K) rfl) (by rfl) T.len PySem.boot_len (pa_cons (pv 3) pa_nil)) (pe_callB (lenK (K := K) rfl) (by rfl) T.len PySem.boot_len (pa_cons (pv 1) pa_nil)) (nomark _))
      (pss_cons (ps_par (i := 5) (j := 6) (by rfl) S.nd rfl rfl (by decide) rfl rfl (pa_cons (pe_op op_sub (pe_callB (lenK (K := K) rfl) (by rfl) T.len PySem.boot_len (pa_cons (pv 3) pa_nil)) (pe_callB (lenK (K := K) rfl) (by rfl) T.len PySem.boot_len (pa_cons (pv 1) pa_nil))) (pa_cons (pe_kn k_law_mul (hr.mono (by decide)) (by rfl) pass0 (pa_cons (pe_ix (ixL (K := K) rfl) (pv 3) (pe_un un_neg pe_int) (fun _ _ => rfl)) (pa_cons (pv 2) pa_nil))) pa_nil)) (by rfl))
      (pss_cons (ps_asg (pv 6) (pg_sub (pv 4) (pv 5) set_list))
      (pss_cons (ps_for PassesOwn.never rfl (pi_enumT (by rfl) T.enumerate (pa_cons (pv 1) pa_nil)) (pg_tup rfl (pgs_cons (pg_name (i := 7) S.nd rfl (by first | exact .inl rfl | exact .inr rfl)) (pgs_cons (pg_name (i := 8) S.nd rfl (by first | exact .inl rfl | exact .inr rfl)) pgs_nil)))
        (pss_one (ps_asg (pe_kn k_law_add (hr.mono (by decide)) (by rfl) pass0 (pa_cons (pe_ix (ixL (K := K) rfl) (pv 3) (pe_op op_add (pv 5) (pv 7)) (fun _ _ => rfl)) (pa_cons (pe_kn k_law_mul (hr.mono (by decide)) (by rfl) pass0 (pa_cons (pe_tup (pa_cons (pe_un un_neg (pe_ix (ixT (K := K) rfl) (pv 6) pe_int (fun _ _ => rfl))) (pa_cons (pe_ix (ixT (K := K) rfl) (pv 6) pe_int (fun _ _ => rfl)) pa_nil))) (pa_cons (pv 8) pa_nil))) pa_nil))) (pg_sub (pv 3) (pe_op op_add (pv 5) (pv 7)) set_list))))
      (pss_one (ps_while PassesOwn.never (PW.pt (pw_and (pt_cmpR (neD (K := K) hr.units rfl) (pv 3) (pe_lst pa_nil) (nomark _)) (pw_and1 (pt_cmpR (eqD (K := K) hr.units rfl) (pe_ix (ixL (K := K) rfl) (pv 3) (pe_un un_neg pe_int) (fun _ _ => rfl)) (pe_tup (pa_cons pe_int (pa_cons pe_int pa_nil))) (nomark _)))))
        (pss_one (ps_expr (pe_bm0 PySem.F.plainAttrs_list PySem.F.slot_list_pop PySem.F.type_list_pop mt_pop (pv 3))))))))))
    (pss_one (ps_ret (pe_tup (pa_cons (pv 4) (pa_cons (pv 3) pa_nil)))))))), ?_⟩
  have hU := U_ne ds.m
  have lx := rx.1
  have lu := ru.1
  have hUp := List.length_pos_iff.mpr hU
  have nP := ds.nP
  have dpos := ds.pos
  obtain ⟨vb, evb, pb, rfl, hpb⟩ := ru.lastAt hUp
  rw [ds.m] at hpb
  walk_at "k9"
  refine ⟨p1, _, rfl, .inl (.of hp1), fun rl hrl => ?_⟩
  walk_at "k9"
  refine ⟨by show 2 ≤ sizeLine; decide, fun t1 ht1 => ?_⟩
  refine ⟨by show 1 ≤ sizeLine; decide, fun t2 ht2 => ?_⟩
  have s1 : Same H (upd (upd (upd H rl (.lst xs)) t1 (.tup [.int 0, .int 1])) t2 (.lst [.ref t1])) := fun b o e => mem_upd ht2 (mem_upd ht1 (mem_upd hrl e))
  walk_at "k9"
  refine ⟨p1, _, rfl, .inl (.of (s1 _ _ hp1)), ?_⟩
  walk_at "k9"
  refine ⟨p2, _, rfl, .inr (.of (s1 _ _ hp2)), ?_⟩
  walk_at "k9"
  refine ⟨_, _, rfl, ?_⟩
  rw [lx, lu, show (if ((P1.length : Nat) : Int) - ((U.length : Nat) : Int) + 1 > 1 then ((P1.length : Nat) : Int) - ((U.length : Nat) : Int) + 1 else 1) = ((max 1 (P1.length + 1 - U.length) : Nat) : Int) by split <;> omega]
  refine x_rep upd_same (by omega) (by omega) ?_
  rw [Int.toNat_natCast]
  intro fl hfl
  have s2 : Same H (upd (upd (upd (upd H rl (.lst xs)) t1 (.tup [.int 0, .int 1])) t2 (.lst [.ref t1])) fl (.lst (List.replicate (max 1 (P1.length + 1 - U.length)) (.ref t1)))) := fun b o e => mem_upd hfl (s1 _ _ e)
  have m1 : upd (upd (upd (upd H rl (.lst xs)) t1 (.tup [.int 0, .int 1])) t2 (.lst [.ref t1])) fl (.lst (List.replicate (max 1 (P1.length + 1 - U.length)) (.ref t1))) rl = some (.lst xs) := mem_upd hfl (mem_upd ht2 (mem_upd ht1 upd_same))
  have m2 : upd (upd (upd (upd H rl (.lst xs)) t1 (.tup [.int 0, .int 1])) t2 (.lst [.ref t1])) fl (.lst (List.replicate (max 1 (P1.length + 1 - U.length)) (.ref t1))) fl = some (.lst (List.replicate (max 1 (P1.length + 1 - U.length)) (.ref t1))) := upd_same
  have rz : Rqs (upd (upd (upd (upd H rl (.lst xs)) t1 (.tup [.int 0, .int 1])) t2 (.lst [.ref t1])) fl (.lst (List.replicate (max 1 (P1.length + 1 - U.length)) (.ref t1)))) (List.replicate (max 1 (P1.length + 1 - U.length)) (.ref t1)) (List.replicate (max 1 (P1.length + 1 - U.length)) 0) :=
    Rqs.rep _ ⟨t1, rfl, mem_upd hfl (mem_upd ht2 upd_same)⟩
  have flrl : fl ≠ rl := fun z => by
    have := mem_upd ht2 (mem_upd ht1 (upd_same (H := H) (a := rl) (o := .lst xs))) (o := .lst [.ref t1])
    rw [z] at hfl
    rw [hfl] at this; cases this
  have hfl0 : H fl = none := free_upd (free_upd (free_upd hfl))
  have rx2 := rx.tsame (Same.tup s2)
  generalize upd (upd (upd (upd H rl (.lst xs)) t1 (.tup [.int 0, .int 1])) t2 (.lst [.ref t1])) fl (.lst (List.replicate (max 1 (P1.length + 1 - U.length)) (.ref t1))) = H1 at *
  walk_at "k9"
  refine x_ixT (s2 _ _ hp2) evb ?_
  walk_at "k9"
  refine x_ixT (s2 _ _ hpb) rfl ?_
  walk_at "k9"
  refine x_yes (by decide) ?_
  walk_at "k9"
  refine x_ixT (s2 _ _ hp2) evb ?_
  walk_at "k9"
  refine x_ixT (s2 _ _ hpb) rfl ?_
  walk_at "k9"
  refine x_ixT (s2 _ _ hp2) evb ?_
  walk_at "k9"
  refine x_ixT (s2 _ _ hpb) rfl ?_
  walk_at "k9"
  refine ⟨by show 2 ≤ sizeLine; decide, fun bk hbk => ?_⟩
  have s3 : Same H1 (upd H1 bk (.tup [.int ((1 : Rat).den : Nat), .int (1 : Rat).num])) := same_upd hbk
  have rbk : RQ (upd H1 bk (.tup [.int ((1 : Rat).den : Nat), .int (1 : Rat).num])) (.ref bk) 1 := ⟨bk, rfl, upd_same⟩
  have m1' := s3 _ _ m1
  have m2' := s3 _ _ m2
  have rx3 := rx2.tsame (Same.tup s3)
  have rz3 := rz.tsame (Same.tup s3)
  have s4 : Same H (upd H1 bk (.tup [.int ((1 : Rat).den : Nat), .int (1 : Rat).num])) := fun b o e => s3 _ _ (s2 _ _ e)
  generalize upd H1 bk (.tup [.int ((1 : Rat).den : Nat), .int (1 : Rat).num]) = H2 at *
  walk_at "k9"
  refine x_whileK (fun m σ' H' => ∃ f r fs ws x5 x6 x7 x8, σ' = [some (.ref p1), some (.ref p2), some (.ref bk), some (.ref rl), some (.ref fl), x5, x6, x7, x8] ∧ r.length = m ∧ DT U P1 S0 b0 c0 R k0 B D0 f r ∧ Same H H' ∧ TSame H2 H' ∧ H' rl = some (.lst ws) ∧ Rqs H' ws r ∧ H' fl = some (.lst fs) ∧ Rqs H' fs f)
    (fun σ' H' => ∃ fs ws x5 x6 x7 x8, σ' = [some (.ref p1), some (.ref p2), some (.ref bk), some (.ref rl), some (.ref fl), x5, x6, x7, x8] ∧ Same H H' ∧ H' rl = some (.lst ws) ∧ Rqs H' ws (K9M.divQ U P1).2 ∧ H' fl = some (.lst fs) ∧ Rqs H' fs (K9M.divQ U P1).1) P1.length
    ⟨_, P1, _, xs, none, none, none, none, rfl, rfl, DT.start ds, s4, fun _ _ h => h, m1', rx3, m2', rz3⟩ ?_ ?_
  · rintro _ H' ⟨fs, ws, _, _, _, _, rfl, s5, hr5, rr5, hf5, rf5⟩
    walk_at "k9"
    refine ⟨by show 2 ≤ sizeLine; decide, fun t ht => ?_⟩
    have st := same_upd (o := .tup [.ref fl, .ref rl]) ht
    exact k _ _ (fun b o e => st _ _ (s5 _ _ e)) ⟨t, fl, rl, fs, ws, rfl, upd_same, st _ _ hf5, st _ _ hr5, rf5.tsame (Same.tup st), rr5.tsame (Same.tup st), hfl0, hrl⟩
  rintro hd m _ H' ⟨f0, r, fs, ws, _, _, _, _, rfl, hm, dt, s5, ts5, hr5, rr5, hf5, rf5⟩
  have lws := rr5.1
  have lfs := rf5.1
  have nle := dt.le
  walk_at "k9"
  refine ⟨rl, _, rfl, .inl (.of hr5), ?_⟩
  walk_at "k9"
  refine ⟨p2, _, rfl, .inr (.of (s5 _ _ hp2)), ?_⟩
  walk_at "k9"
  rw [lws, lu]
  by_cases hlt : U.length ≤ r.length
  rotate_left
  · refine x_no (decide_eq_false (by omega)) ?_
    have e : (f0, r) = K9M.divQ U P1 := by rw [← dt.go, K9M.divF_end (by omega)]
    exact hd _ _ ⟨fs, ws, _, _, _, _, rfl, s5, hr5, by rw [← e]; exact rr5, hf5, by rw [← e]; exact rf5⟩
  refine x_yes (decide_eq_true (by omega)) ?_
  refine x_turn ?_
  have all := dt.all ds
  have smr : ∀ i, Sm (K9M.coef r i) := fun i => sm_of (all.2.coef i) ds.hR dpos ds.hz
  obtain ⟨k1, R1, D1, _, sr1, hk1, eR1, eD1, hD1⟩ := dt.ex
  have hB0 := ds.hB0
  obtain ⟨k2, rfl⟩ : ∃ k2, k1 = k2 + 1 := ⟨k1 - 1, by omega⟩
  have rb : R1 + (c0 + 1) ≤ RN := by
    have := ds.hR
    have : (k2 + 1) * (c0 + 1) = k2 * (c0 + 1) + (c0 + 1) := by rw [Nat.add_mul, Nat.one_mul]
    omega
  have db : (D1 * B).natAbs < 2 ^ 4500 ∧ 0 < D1 * B := by
    have h1 : 0 < D1 * B := Int.mul_pos hD1 hB0
    have h2 : D1 * B * 1 ≤ D1 * B * B ^ k2 := Int.mul_le_mul_of_nonneg_left (Int.pow_pos hB0) (by omega)
    have h3 : D1 * B * B ^ k2 = D0 * B ^ k0 := by rw [← eD1, Int.pow_succ, Int.mul_assoc, Int.mul_comm B]
    have := nat_le h1 (by omega : D1 * B ≤ D0 * B ^ k0)
    have := ds.hz
    exact ⟨by omega, h1⟩
  have wb := SC_last sr1
  have smp : ∀ i, Sm (-(K9M.lastQ r) * K9M.coef U i) := fun i => sm_of (wb.neg.mul (ds.hU.coef i)) (by have := ds.sc; omega) db.2 db.1
  have smw : Sm (-(K9M.lastQ r)) := by
    have h := smr (r.length - 1)
    unfold Sm at *
    rw [Rat.neg_num, Rat.neg_den, Int.natAbs_neg]
    exact h
  have Ble : B.natAbs < 2 ^ 4500 := by
    have h2 : B * 1 ≤ B * D1 := Int.mul_le_mul_of_nonneg_left (by omega) (by omega)
    rw [Int.mul_comm B D1] at h2
    have := nat_le hB0 (by omega : B ≤ D1 * B)
    omega
  have smU : ∀ i, Sm (K9M.coef U i) := fun i => sm_of (ds.hU.coef i) (by have := ds.sc; omega) hB0 Ble
  walk_at "k9"
  refine ⟨rl, _, rfl, .inl (.of hr5), ?_⟩
  walk_at "k9"
  refine ⟨p2, _, rfl, .inr (.of (s5 _ _ hp2)), ?_⟩
  walk_at "k9"
  rw [lws, lu, show ((r.length : Nat) : Int) - ((U.length : Nat) : Int) = ((r.length - U.length : Nat) : Int) by omega]
  obtain ⟨vl, evl, rvl⟩ := rr5.lastAt (by omega)
  refine x_ixL hr5 evl ?_
  walk_at "k9"
  refine ⟨_, _, _, _, rfl, rvl, rbk.tsame ts5, smr (r.length - 1), ⟨Nat.lt_of_lt_of_le (by decide : (1 : Rat).num.natAbs < 2 ^ 2) (Nat.pow_le_pow_right (by decide) (by unfold RN; decide)), Nat.lt_of_lt_of_le (by decide : (1 : Rat).den < 2 ^ 2) (Nat.pow_le_pow_right (by decide) (by decide))⟩, fun H3 wv s6 rw6 => ?_⟩
  replace rw6 : RQ H3 wv (K9M.lastQ r) := by have h : RQ H3 wv (K9M.lastQ r * 1) := rw6; rw [Rat.mul_one] at h; exact h
  walk_at "k9"
  refine x_gsub ?_
  walk_at "k9"
  have dfl := dt.fl
  refine x_setL (j := r.length - U.length) (s6 _ _ hf5) rfl (by omega) ?_
  have tl := tsame_lst (o := .lst (fs.set (r.length - U.length) wv)) (s6 _ _ hf5)
  have n1 : upd H3 fl (.lst (fs.set (r.length - U.length) wv)) rl = some (.lst ws) := upd_other (Ne.symm flrl) (s6 _ _ hr5)
  have n2 : upd H3 fl (.lst (fs.set (r.length - U.length) wv)) fl = some (.lst (fs.set (r.length - U.length) wv)) := upd_same
  have n3 : Same H (upd H3 fl (.lst (fs.set (r.length - U.length) wv))) := fun b o e => by
    rw [upd_ne (fun z => by rw [z, hfl0] at e; cases e)]
    exact s6 _ _ (s5 _ _ e)
  have n4 : TSame H2 (upd H3 fl (.lst (fs.set (r.length - U.length) wv))) := fun b o e => tl _ _ (Same.tup s6 _ _ (ts5 _ _ e))
  have n5 := (rr5.tsame (Same.tup s6)).tsame tl
  have n6 := ((rf5.tsame (Same.tup s6)).set (j := r.length - U.length) rw6).tsame tl
  have n7 := rw6.tsame tl
  generalize upd H3 fl (.lst (fs.set (r.length - U.length) wv)) = H4 at *
  walk_at "k9"
  refine x_enumT ?_
  walk_at "k9"
  refine ⟨p2, us, rfl, .of (n3 _ _ hp2), ?_⟩
  refine for_it (walk_enumT (xs := us)) (fun j σ' H' => ∃ x7 x8 ws' rs', σ' = [some (.ref p1), some (.ref p2), some (.ref bk), some (.ref rl), some (.ref fl), some (.int ((r.length - U.length : Nat) : Int)), some wv, x7, x8] ∧ Same H H' ∧ TSame H4 H' ∧ H' rl = some (.lst ws') ∧ Rqs H' ws' rs' ∧ H' fl = some (.lst (fs.set (r.length - U.length) wv)) ∧ rs'.length = r.length ∧
    ∀ k, K9M.coef rs' k = if r.length - U.length ≤ k ∧ k < r.length - U.length + j then K9M.coef r k + -(K9M.lastQ r) * K9M.coef U (k - (r.length - U.length)) else K9M.coef r k)
    ⟨_, _, ws, r, rfl, n3, fun _ _ h => h, n1, n5, n2, rfl, fun k => by rw [if_neg (by omega)]⟩ (fun j σ' H' _ h => by obtain ⟨_, _, _, _, _, s, _⟩ := h; exact .of (s _ _ hp2)) ?_ ?_
  · rintro j _ _ H5 _ hj ⟨_, _, ws', rs', rfl, s7, ts7, hr7, rr7, hf7, lr7, c7⟩ ⟨T2, _, y, rfl, hT2, rfl, hy1, hy⟩
    cases hy1
    refine x_gT2n (by rfl) upd_same ?_
    have st2 : Same H5 (upd H5 T2 (.tup [.int ((j : Nat) : Int), y])) := same_upd hT2
    have ry1 : RQ (upd H5 T2 (.tup [.int ((j : Nat) : Int), y])) y (K9M.coef U j) := by
      obtain ⟨q, e, r⟩ := ru.2 j y hy
      rw [K9M.coef_of e]
      exact (r.tsame (Same.tup s7)).same st2
    have rw8 := (n7.tsame ts7).same st2
    have hr8 := st2 _ _ hr7
    have hf8 := st2 _ _ hf7
    have rr8 := rr7.tsame (Same.tup st2)
    have s8 : Same H (upd H5 T2 (.tup [.int ((j : Nat) : Int), y])) := fun b o e => st2 _ _ (s7 _ _ e)
    have ts8 : TSame H4 (upd H5 T2 (.tup [.int ((j : Nat) : Int), y])) := fun b o e => Same.tup st2 _ _ (ts7 _ _ e)
    clear hr7 rr7 hf7 s7 ts7
    generalize upd H5 T2 (.tup [.int ((j : Nat) : Int), y]) = H6 at *
    have hj2 : j < U.length := by omega
    have lw8 := rr8.1
    obtain ⟨v0, ev, r0⟩ := rr8.at (j := r.length - U.length + j) (by omega)
    rw [c7, if_neg (by omega)] at r0
    obtain ⟨pw, rfl, hpw⟩ := rw8
    walk_at "k9"
    rw [show ((r.length - U.length : Nat) : Int) + ((j : Nat) : Int) = ((r.length - U.length + j : Nat) : Int) by omega]
    refine x_ixL hr8 (atI_nat ev) ?_
    walk_at "k9"
    refine x_ixT hpw rfl ?_
    walk_at "k9"
    refine x_ixT hpw rfl ?_
    walk_at "k9"
    refine ⟨by show 2 ≤ sizeLine; decide, fun tn htn => ?_⟩
    have sn := same_upd (o := .tup [.int (-(K9M.lastQ r).num), .int (((K9M.lastQ r).den : Nat) : Int)]) htn
    have rneg := neg_rq (H := upd H6 tn (.tup [.int (-(K9M.lastQ r).num), .int (((K9M.lastQ r).den : Nat) : Int)])) (t := tn) (q := K9M.lastQ r) upd_same
    walk_at "k9"
    refine ⟨_, _, _, _, rfl, rneg, ry1.same sn, smw, smU j, fun H7 v7 s9 r9 => ?_⟩
    walk_at "k9"
    have s69 : Same H6 H7 := fun b o e => s9 _ _ (sn _ _ e)
    refine ⟨_, _, _, _, rfl, r0.same s69, r9, smr _, smp j, fun H8 v8 s10 r10 => ?_⟩
    have s68 : Same H6 H8 := fun b o e => s10 _ _ (s69 _ _ e)
    refine x_gsub ?_
    walk_at "k9"
    refine x_setL (j := r.length - U.length + j) (s68 _ _ hr8) (by omega) (by omega) ?_
    have tl8 := tsame_lst (o := .lst (ws'.set (r.length - U.length + j) v8)) (s68 _ _ hr8)
    refine ⟨_, _, _, rs'.set (r.length - U.length + j) (K9M.coef r (r.length - U.length + j) + -(K9M.lastQ r) * K9M.coef U j), rfl, fun b o e => ?_, fun b o e => tl8 _ _ (Same.tup s68 _ _ (ts8 _ _ e)), upd_same, ((rr8.tsame (Same.tup s68)).set r10).tsame tl8, upd_other flrl (s68 _ _ hf8), by rw [List.length_set]; exact lr7, fun k => ?_⟩
    · rw [upd_ne (fun z => by rw [z, hrl] at e; cases e)]
      exact s68 _ _ (s8 _ _ e)
    · rw [K9M.coef_set (by omega), c7]
      by_cases hk : k = r.length - U.length + j
      · rw [if_pos hk, if_pos (by omega), hk, show r.length - U.length + j - (r.length - U.length) = j by omega]
      · rw [if_neg hk]
        by_cases hk2 : r.length - U.length ≤ k ∧ k < r.length - U.length + j
        · rw [if_pos hk2, if_pos (by omega)]
        · rw [if_neg hk2, if_neg (by omega)]
  rintro _ H5 ⟨_, _, ws', rs', rfl, s7, ts7, hr7, rr7, hf7, lr7, c7⟩
  rw [lu] at c7
  have er : rs' = K9M.less (K9M.lastQ r) U r := list_ext (by rw [lr7, K9M.less_len hlt]) fun k => by
    rw [c7, less_coef hlt, show r.length - U.length + U.length = r.length by omega]
  refine x_strip rfl hr7 rr7 fun H6 ws6 s8 hr8 rr8 => ?_
  rw [er] at rr8
  have dn := dt.next ds hlt
  have lt := K9M.stepR_lt hU hlt ds.m
  have s8t : TSame H5 H6 := fun b o e => s8 _ _ (fun z => by rw [z, hr7] at e; cases e) e
  exact ⟨_, by omega, _, _, _, ws6, _, _, _, _, rfl, rfl, dn, fun b o e => s8 _ _ (fun z => by rw [z, hrl] at e; cases e) (s7 _ _ e), fun b o e => s8t _ _ (ts7 _ _ (n4 _ _ e)), hr8, rr8, s8 _ _ flrl hf7, (n6.tsame ts7).tsame s8t⟩
end
end K9

set_option Elab.async false
set_option linter.all false
set_option maxRecDepth 100000
set_option maxHeartbeats 4000000
namespace K9
open PySem PySem.Spec PyProof.Rows L2
local macro_rules | `(tactic| walk_at "k9mem") => `(tactic| first | with_reducible assumption | exact upd_same | ((with_reducible refine mem_upd (by with_reducible assumption) ?_); walk_at "k9mem") | ((with_reducible refine mem_same (by with_reducible assumption) ?_); walk_at "k9mem"))
local macro_rules | `(tactic| walk_at "k91") => `(tactic| with_reducible (first | refine x_seq ?_ | refine x_asg ?_ | refine x_name ?_ | refine x_ret ?_ | refine x_drop ?_ | refine x_next ?_ | refine x_ifs ?_ | refine x_if ?_ | refine x_test ?_ | refine x_tb ?_ | refine x_tnot ?_ | refine x_tand ?_ | refine x_tor ?_ | refine x_andv ?_ | refine x_orv ?_ | refine x_notv ?_ | refine x_var rfl ?_ | refine x_c ?_ | refine x_op ?_ | refine x_un ?_ | refine x_i0 ?_ | refine x_par ?_ | refine x_two ?_ | refine x_eqI ?_ | refine x_neI ?_ | refine x_u ?_ | refine x_call ?_ | refine x_cb ?_ | refine x_cons ?_ | refine x_nil ?_ | refine x_tup ?_ | refine x_lst ?_ | refine x_gcd ?_ | refine x_for ?_ | refine x_iL ?_ | refine x_iT ?_ | refine x_iR1 ?_ | refine x_iR2 ?_ | refine x_lc ?_ | refine x_bm ?_ | refine x_bm0 ?_ | refine x_sl ?_ | refine x_nopart ?_ | refine x_part ?_ | refine x_some ?_ | refine x_bl ?_))
local macro_rules | `(tactic| walk_at "k9") => `(tactic| repeat (walk_at "k91"))
/-- a tuple of steps -/
def RT (H : Hp) (vs : List V) (rs : List (List Rat)) : Prop := vs.length = rs.length ∧ ∀ (i : Nat) (x : V), vs[i]? = some x → ∃ r, rs[i]? = some r ∧ RS H x r
theorem RT.tsame {H H' : Hp} {vs : List V} {rs : List (List Rat)} (h : RT H vs rs) (s : TSame H H') : RT H' vs rs := ⟨h.1, fun i x e => let ⟨r, a, b⟩ := h.2 i x e; ⟨r, a, b.tsame s⟩⟩
theorem RT.snoc {H : Hp} {vs : List V} {rs : List (List Rat)} {v : V} {r : List Rat} (h : RT H vs rs) (k : RS H v r) : RT H (vs ++ [v]) (rs ++ [r]) := by
  refine ⟨by simp [h.1], fun i x e => ?_⟩
  rcases Nat.lt_or_ge i vs.length with z | z
  · rw [List.getElem?_append_left z] at e
    obtain ⟨q', e', r'⟩ := h.2 i x e
    exact ⟨q', by rw [List.getElem?_append_left (by rw [← h.1]; exact z)]; exact e', r'⟩
  · rw [List.getElem?_append_right z] at e
    have : i - vs.length = 0 := by
      rcases Nat.eq_zero_or_pos (i - vs.length) with z | z
      · exact z
      · rw [List.getElem?_eq_none (by simp; omega)] at e; cases e
    rw [this] at e
    cases e
    exact ⟨r, by rw [List.getElem?_append_right (by rw [← h.1]; exact z), ← h.1, this]; rfl, k⟩
def sp_law_powers_of : Sp := fun vs H Q _ => ∃ (v1 v2 : V) (P U : List Rat) (S b c : Nat) (B : Int), vs = [v1, v2] ∧ RS H v1 P ∧ RS H v2 U ∧ UZ U S b c B ∧ RB U b c B P ∧ P.length ≤ 1000 ∧
  ∀ H' p ws, Same H H' → H' p = some (.tup ws) → RT H' ws (K9M.remsQ U P) → Q (.ref p) H'
section
variable {P : Program} {w : World} {K : PySem.W.Frag} {mg : Str → Option Value} {base : Heap}
abbrev s_law_powers_of : Stmt := topS 50
abbrev N_law_powers_of : List Str := ["_law_told", "_law_base", "_law_found", "_law_here", "_law_more", "_law_rest"]
theorem sc_law_powers_of : FnScope N_law_powers_of ["_law_told", "_law_base"] (defScope s_law_powers_of) := ⟨rfl, rfl, rfl, by decide +kernel, rfl, by decide +kernel, by decide +kernel⟩
theorem kn_law_powers_of (D : DefAt K mg "_law_powers_of" s_law_powers_of) (T : Wd mg) (k_law_divided : Kn P w K mg base CX0 4 "_law_divided" ["_law_told", "_law_base"] sp_law_divided) : Kn P w K mg base CX0 5 "_law_powers_of" ["_law_told", "_law_base"] sp_law_powers_of := by
  have S := sc_law_powers_of
  refine Kn.of D S (fun vs H Q E h => ?_) (fun _ _ _ _ _ _ us hl => match us, hl with | [_, _], _ => rfl) fun f cdv A outer s H vs Q E hr h => ?_
  · obtain ⟨_, _, _, _, _, _, _, _, rfl, _⟩ := h; rfl
  obtain ⟨_, v2, P1, U, S0, b0, c0, B, rfl, ⟨p1, xs, rfl, hp1, rx⟩, hv2, uz, rb, nP, k⟩ := h
  have hv2' := hv2
  obtain ⟨p2, us, rfl, hp2, ru⟩ := hv2'
  refine ⟨_, PSs.nox (pss_cons (ps_par (i := 2) (j := 3) (by rfl) S.nd rfl rfl (by decide) rfl rfl (pa_cons (pe_lst pa_nil) (pa_cons (pe_callTy call_list_of (by rfl) T.list (by decide +kernel) (pa_cons (pv 0) pa_nil)) pa_nil)) (by rfl))
    (pss_cons (ps_while PassesOwn.never (pt_cmpR (neD (K := K) hr.units rfl) (pv 3) (pe_lst pa_nil) (nomark _))
      (pss_one (ps_if (pt_cmpR op_lt (pe_callB (lenK (K := K) rfl) (by rfl) T.len PySem.boot_len (pa_cons (pv 3) pa_nil)) (pe_callB (lenK (K := K) rfl) (by rfl) T.len PySem.boot_len (pa_cons (pv 1) pa_nil)) (nomark _))
        (pss_cons (ps_expr (pe_bm PySem.F.plainAttrs_list PySem.F.slot_list_append PySem.F.type_list_append mt_append (pv 2) (pa_cons (pe_callTy call_tuple_of (by rfl) T.tuple (by decide +kernel) (pa_cons (pv 3) pa_nil)) pa_nil)))
        (pss_one (ps_set (i := 3) S.nd rfl (Or.inl rfl) (pe_lst pa_nil)))) (pss_cons (ps_asg (pe_kn k_law_divided (hr.mono (by decide)) (by rfl) pass0 (pa_cons (pv 3) (pa_cons (pv 1) pa_nil))) (pg_tup rfl (pgs_cons (pg_name (i := 4) S.nd rfl (by first | exact .inl rfl | exact .inr rfl)) (pgs_cons (pg_name (i := 5) S.nd rfl (by first | exact .inl rfl | exact .inr rfl)) pgs_nil))))
        (pss_cons (ps_expr (pe_bm PySem.F.plainAttrs_list PySem.F.slot_list_append PySem.F.type_list_append mt_append (pv 2) (pa_cons (pe_callTy call_tuple_of (by rfl) T.tuple (by decide +kernel) (pa_cons (pv 5) pa_nil)) pa_nil)))
        (pss_cons (ps_set (i := 3) S.nd rfl (Or.inl rfl) (pe_callTy call_list_of (by rfl) T.list (by decide +kernel) (pa_cons (pv 4) pa_nil)))
        (pss_one (ps_while PassesOwn.never (PW.pt (pw_and (pt_cmpR (neD (K := K) hr.units rfl) (pv 3) (pe_lst pa_nil) (nomark _)) (pw_and1 (pt_cmpR (eqD (K := K) hr.units rfl) (pe_ix (ixL (K := K) rfl) (pv 3) (pe_un un_neg pe_int) (fun _ _ => rfl)) (pe_tup (pa_cons pe_int (pa_cons pe_int pa_nil))) (nomark _)))))
          (pss_one (ps_expr (pe_bm0 PySem.F.plainAttrs_list PySem.F.slot_list_pop PySem.F.type_list_pop mt_pop (pv 3))))))))))))
    (pss_one (ps_ret (pe_callTy call_tuple_of (by rfl) T.tuple (by decide +kernel) (pa_cons (pv 2) pa_nil)))))), ?_⟩
  have lx := rx.1
  have lu := ru.1
  have u2 := uz.u2
  walk_at "k9"
  refine ⟨by show 0 ≤ sizeLine; decide, fun fl hfl => ?_⟩
  walk_at "k9"
  refine ⟨p1, _, rfl, .inr (.of (mem_upd hfl hp1)), fun hl hhl => ?_⟩
  walk_at "k9"
  have s1 : Same H (upd (upd H fl (.lst [])) hl (.lst xs)) := fun b o e => mem_upd hhl (mem_upd hfl e)
  have hfn : fl ≠ hl := fun z => by rw [← z, upd_same] at hhl; cases hhl
  refine x_whileK (fun m σ' H' => ∃ hl P' ws vs rs x4 x5, σ' = [some (.ref p1), some (.ref p2), some (.ref fl), some (.ref hl), x4, x5] ∧ P'.length = m ∧ Same H H' ∧ H' hl = some (.lst ws) ∧ Rqs H' ws P' ∧ hl ≠ fl ∧ H hl = none ∧ H' fl = some (.lst vs) ∧ RT H' vs rs ∧ rs ++ K9M.remsQ U P' = K9M.remsQ U P1 ∧ RB U b0 c0 B P' ∧ P'.length ≤ P1.length)
    (fun σ' H' => ∃ hl vs x4 x5, σ' = [some (.ref p1), some (.ref p2), some (.ref fl), some (.ref hl), x4, x5] ∧ Same H H' ∧ H' fl = some (.lst vs) ∧ RT H' vs (K9M.remsQ U P1)) P1.length
    ⟨hl, P1, xs, [], [], none, none, rfl, rfl, s1, upd_same, rx.tsame (Same.tup s1), Ne.symm hfn, free_upd hhl, mem_upd hhl upd_same, ⟨rfl, fun i x e => by simp at e⟩, rfl, rb, Nat.le_refl _⟩ ?_ ?_
  · rintro _ H' ⟨_, vs, _, _, rfl, s2, hf2, rt⟩
    walk_at "k9"
    refine ⟨fl, vs, rfl, .inl ⟨.of hf2, fun t ht => k _ _ _ (fun b o e => mem_upd ht (s2 _ _ e)) upd_same (rt.tsame (Same.tup (same_upd ht)))⟩⟩
  clear s1 hfn hhl
  rintro hd m _ H' ⟨hl, P', ws, vs, rs, _, _, rfl, hm, s2, hh2, rw2, hne, hh0, hf2, rt, er, rb', le⟩
  have lw := rw2.1
  have lvr := rt.1
  have rsl : rs.length ≤ 1000 := by
    have h1 : rs.length ≤ (K9M.remsQ U P1).length := by rw [← er, List.length_append]; omega
    have := remsQ_len u2 P1
    omega
  walk_at "k9"
  refine ⟨by show 0 ≤ sizeLine; decide, fun t1 ht1 => ?_⟩
  have st1 : Same H' (upd H' t1 (.lst [])) := same_upd ht1
  refine x_neNilQ (st1 _ _ hh2) (rw2.tsame (Same.tup st1)) upd_same ?_
  walk_at "k9"
  have s3 : Same H (upd H' t1 (.lst [])) := fun b o e => st1 _ _ (s2 _ _ e)
  have hh3 := st1 _ _ hh2
  have hf3 := st1 _ _ hf2
  have rw3 := rw2.tsame (Same.tup st1)
  have rt3 := rt.tsame (Same.tup st1)
  clear hh2 hf2 rw2 rt s2
  generalize upd H' t1 (.lst []) = H2 at *
  by_cases hz : P' = []
  · refine x_no (by simp [hz]) ?_
    refine hd _ _ ⟨_, vs, _, _, rfl, s3, hf3, ?_⟩
    rw [← er, hz, K9M.remsQ_nil, List.append_nil]
    exact rt3
  refine x_yes (by simp [hz]) ?_
  refine x_turn ?_
  have hpos := List.length_pos_iff.mpr hz
  walk_at "k9"
  refine ⟨hl, _, rfl, .inl (.of hh3), ?_⟩
  walk_at "k9"
  refine ⟨p2, _, rfl, .inr (.of (s3 _ _ hp2)), ?_⟩
  walk_at "k9"
  rw [lw, lu]
  by_cases hs : P'.length < U.length
  · refine x_yes (decide_eq_true (by omega)) ?_
    walk_at "k9"
    refine x_tyL hf3 ?_
    walk_at "k9"
    refine ⟨hl, ws, rfl, .inl ⟨.of hh3, fun t2 ht2 => ?_⟩⟩
    have st2 : Same H2 (upd H2 t2 (.tup ws)) := same_upd ht2
    walk_at "k9"
    refine x_append (st2 _ _ hf3) (by omega) ?_
    have tl := tsame_lst (o := .lst (vs ++ [.ref t2])) (st2 _ _ hf3)
    have rS : RS (upd (upd H2 t2 (.tup ws)) fl (.lst (vs ++ [.ref t2]))) (.ref t2) P' := ⟨t2, ws, rfl, tl _ _ upd_same, (rw3.tsame (Same.tup st2)).tsame tl⟩
    have rt4 := ((rt3.tsame (Same.tup st2)).tsame tl).snoc rS
    have hf4 : upd (upd H2 t2 (.tup ws)) fl (.lst (vs ++ [.ref t2])) fl = some (.lst (vs ++ [.ref t2])) := upd_same
    have s4 : Same H (upd (upd H2 t2 (.tup ws)) fl (.lst (vs ++ [.ref t2]))) := fun b o e => by
      rw [upd_ne (fun z => by rw [z, hfl] at e; cases e)]
      exact st2 _ _ (s3 _ _ e)
    generalize upd (upd H2 t2 (.tup ws)) fl (.lst (vs ++ [.ref t2])) = H4 at *
    walk_at "k9"
    refine ⟨by show 0 ≤ sizeLine; decide, fun t3 ht3 => ?_⟩
    have st3 : Same H4 (upd H4 t3 (.lst [])) := same_upd ht3
    refine ⟨0, by omega, t3, [], [], _, rs ++ [P'], _, _, rfl, rfl, fun b o e => st3 _ _ (s4 _ _ e), upd_same, .nil, fun z => (by rw [z, hf4] at ht3; cases ht3), s4.free ht3, st3 _ _ hf4, rt4.tsame (Same.tup st3), ?_, ?_, by simp⟩
    · rw [K9M.remsQ_nil, List.append_nil, ← er, K9M.remsQ_short u2 hz hs]
    · obtain ⟨n, R, D, _, h2, _, h4, h5⟩ := rb'
      refine ⟨n, R, D, fun q hq => by simp at hq, h2, Nat.zero_le _, Nat.le_trans (Nat.add_le_add_left (Nat.mul_le_mul (K9M.tot_mono _ _ _ _ (Nat.zero_le _)) (Nat.le_refl _)) _) h4, ?_⟩
      have a1 := pow_le uz.hB0 (K9M.tot_mono (U.length - 1) n ([] : List Rat).length P'.length (Nat.zero_le _))
      have a2 := Int.mul_le_mul_of_nonneg_left a1 (by omega : 0 ≤ D)
      have := nat_le (Int.mul_pos h2 (Int.pow_pos uz.hB0)) a2
      omega
  · refine x_no (decide_eq_false (by omega)) ?_
    obtain ⟨⟨R, D0, k0, ds⟩, rb2⟩ := rb'.step uz hz (by omega)
    walk_at "k9"
    refine ⟨_, _, P', U, S0, b0, c0, R, k0, B, D0, rfl, ⟨hl, ws, rfl, hh3, rw3⟩, hv2.same s3, ds, by omega, fun H3 v3 s4 r3 => ?_⟩
    obtain ⟨pt, mf, mr, ms, us2, rfl, mpt, mmf, mmr, rq, rr, nf, nr⟩ := r3
    refine x_gT2n (by rfl) mpt ?_
    walk_at "k9"
    refine x_tyL (s4 _ _ hf3) ?_
    walk_at "k9"
    refine ⟨mr, us2, rfl, .inl ⟨.of mmr, fun t2 ht2 => ?_⟩⟩
    have st2 : Same H3 (upd H3 t2 (.tup us2)) := same_upd ht2
    have hf5 := st2 _ _ (s4 _ _ hf3)
    walk_at "k9"
    refine x_append hf5 (by omega) ?_
    have tl := tsame_lst (o := .lst (vs ++ [.ref t2])) hf5
    have rS : RS (upd (upd H3 t2 (.tup us2)) fl (.lst (vs ++ [.ref t2]))) (.ref t2) (K9M.divQ U P').2 := ⟨t2, us2, rfl, tl _ _ upd_same, (rr.tsame (Same.tup st2)).tsame tl⟩
    have rt4 := ((rt3.tsame (Same.tup (fun b o e => st2 _ _ (s4 _ _ e)))).tsame tl).snoc rS
    have hf6 : upd (upd H3 t2 (.tup us2)) fl (.lst (vs ++ [.ref t2])) fl = some (.lst (vs ++ [.ref t2])) := upd_same
    have nmf : mf ≠ fl := fun z => by rw [z, hf3] at nf; cases nf
    have mf6 : upd (upd H3 t2 (.tup us2)) fl (.lst (vs ++ [.ref t2])) mf = some (.lst ms) := upd_other nmf (st2 _ _ mmf)
    have rq6 := (rq.tsame (Same.tup st2)).tsame tl
    have s6 : Same H (upd (upd H3 t2 (.tup us2)) fl (.lst (vs ++ [.ref t2]))) := fun b o e => by
      rw [upd_ne (fun z => by rw [z, hfl] at e; cases e)]
      exact st2 _ _ (s4 _ _ (s3 _ _ e))
    generalize upd (upd H3 t2 (.tup us2)) fl (.lst (vs ++ [.ref t2])) = H6 at *
    walk_at "k9"
    refine ⟨mf, ms, rfl, .inl (.of mf6), fun h2 hh2 => ?_⟩
    have st3 : Same H6 (upd H6 h2 (.lst ms)) := same_upd hh2
    have n2 : h2 ≠ fl := fun z => by rw [z, hf6] at hh2; cases hh2
    have hf7 := st3 _ _ hf6
    have h0 : H h2 = none := s6.free hh2
    have s7 : Same H (upd H6 h2 (.lst ms)) := fun b o e => st3 _ _ (s6 _ _ e)
    walk_at "k9"
    refine x_strip rfl upd_same (rq6.tsame (Same.tup st3)) fun H8 ws8 s8 hr8 rr8 => ?_
    have t8 : TSame (upd H6 h2 (.lst ms)) H8 := fun b o e => s8 _ _ (fun z => by rw [z, upd_same] at e; cases e) e
    have lt := K9M.quot_lt (U := U) (P := P') u2 hz
    refine ⟨_, by omega, h2, _, ws8, _, rs ++ [(K9M.divQ U P').2], _, _, rfl, rfl, fun b o e => s8 _ _ (fun z => by rw [z, h0] at e; cases e) (s7 _ _ e), hr8, rr8, n2, h0, s8 _ _ (Ne.symm n2) hf7, (rt4.tsame (Same.tup st3)).tsame t8, ?_, rb2, by omega⟩
    rw [← er, K9M.remsQ_cons u2 hz, List.append_assoc]; rfl
end
end K9

set_option Elab.async false
set_option linter.all false
set_option maxRecDepth 100000
set_option maxHeartbeats 4000000
namespace K9
open PySem PySem.Spec PyProof.Rows L2
local macro_rules | `(tactic| walk_at "k9mem") => `(tactic| first | with_reducible assumption | exact upd_same | ((with_reducible refine mem_upd (by with_reducible assumption) ?_); walk_at "k9mem") | ((with_reducible refine mem_same (by with_reducible assumption) ?_); walk_at "k9mem"))
local macro_rules | `(tactic| walk_at "k91") => `(tactic| with_reducible (first | refine x_seq ?_ | refine x_asg ?_ | refine x_name ?_ | refine x_ret ?_ | refine x_drop ?_ | refine x_next ?_ | refine x_ifs ?_ | refine x_if ?_ | refine x_test ?_ | refine x_tb ?_ | refine x_tnot ?_ | refine x_tand ?_ | refine x_tor ?_ | refine x_andv ?_ | refine x_orv ?_ | refine x_notv ?_ | refine x_var rfl ?_ | refine x_c ?_ | refine x_op ?_ | refine x_un ?_ | refine x_i0 ?_ | refine x_par ?_ | refine x_two ?_ | refine x_eqI ?_ | refine x_neI ?_ | refine x_u ?_ | refine x_call ?_ | refine x_cb ?_ | refine x_cons ?_ | refine x_nil ?_ | refine x_tup ?_ | refine x_lst ?_ | refine x_gcd ?_ | refine x_for ?_ | refine x_iL ?_ | refine x_iT ?_ | refine x_iR1 ?_ | refine x_iR2 ?_ | refine x_lc ?_ | refine x_bm ?_ | refine x_bm0 ?_ | refine x_sl ?_ | refine x_nopart ?_ | refine x_part ?_ | refine x_some ?_ | refine x_bl ?_))
local macro_rules | `(tactic| walk_at "k9") => `(tactic| repeat (walk_at "k91"))
def rowF (i : Nat) : Nat → List Rat → List (Nat × Nat)
  | _, [] => []
  | j, x :: xs => if 0 < j ∧ x ≠ 0 then (i, j) :: rowF i (j + 1) xs else rowF i (j + 1) xs
def pairsF : Nat → List (List Rat) → List (Nat × Nat)
  | _, [] => []
  | i, r :: rs => rowF i 0 r ++ pairsF (i + 1) rs
theorem rowF_snoc (i : Nat) (x : Rat) : ∀ (l : List Rat) (j : Nat), rowF i j (l ++ [x]) = rowF i j l ++ (if 0 < j + l.length ∧ x ≠ 0 then [(i, j + l.length)] else [])
  | [], j => by simp [rowF]
  | y :: l, j => by
    have ih := rowF_snoc i x l (j + 1)
    rw [List.cons_append]
    unfold rowF
    rw [ih, List.length_cons, show j + 1 + l.length = j + (l.length + 1) by omega]
    split <;> simp
theorem pairsF_snoc (r : List Rat) : ∀ (rs : List (List Rat)) (i : Nat), pairsF i (rs ++ [r]) = pairsF i rs ++ rowF (i + rs.length) 0 r
  | [], i => by simp [pairsF]
  | y :: rs, i => by
    have ih := pairsF_snoc r rs (i + 1)
    rw [List.cons_append]
    unfold pairsF
    rw [ih, List.length_cons, show i + 1 + rs.length = i + (rs.length + 1) by omega, List.append_assoc]
theorem rowF_mem (i a b : Nat) : ∀ (l : List Rat) (j : Nat), (a, b) ∈ rowF i j l ↔ a = i ∧ 0 < b ∧ j ≤ b ∧ b < j + l.length ∧ K9M.coef l (b - j) ≠ 0
  | [], j => by
    unfold rowF
    constructor
    · intro h; cases h
    · rintro ⟨_, _, h1, h2, _⟩; rw [List.length_nil] at h2; omega
  | x :: l, j => by
    have ih := rowF_mem i a b l (j + 1)
    unfold rowF
    have key : ((a, b) ∈ rowF i (j + 1) l) ↔ a = i ∧ 0 < b ∧ j + 1 ≤ b ∧ b < j + (x :: l).length ∧ K9M.coef (x :: l) (b - j) ≠ 0 := by
      rw [ih, List.length_cons]
      constructor
      · rintro ⟨h0, h1, h2, h3, h4⟩
        refine ⟨h0, h1, h2, by omega, ?_⟩
        rw [show b - j = (b - (j + 1)) + 1 by omega]
        exact h4
      · rintro ⟨h0, h1, h2, h3, h4⟩
        refine ⟨h0, h1, h2, by omega, ?_⟩
        rw [show b - j = (b - (j + 1)) + 1 by omega] at h4
        exact h4
    split
    · rename_i hc
      rw [List.mem_cons, key]
      constructor
      · rintro (e | ⟨h0, h1, h2, h3, h4⟩)
        · cases e
          exact ⟨rfl, hc.1, Nat.le_refl _, by rw [List.length_cons]; omega, by rw [Nat.sub_self]; exact hc.2⟩
        · exact ⟨h0, h1, by omega, h3, h4⟩
      · rintro ⟨h0, h1, h2, h3, h4⟩
        rcases Nat.eq_or_lt_of_le h2 with e | e
        · left; rw [h0, e]
        · right; exact ⟨h0, h1, e, h3, h4⟩
    · rename_i hc
      rw [key]
      constructor
      · rintro ⟨h0, h1, h2, h3, h4⟩
        exact ⟨h0, h1, by omega, h3, h4⟩
      · rintro ⟨h0, h1, h2, h3, h4⟩
        rcases Nat.eq_or_lt_of_le h2 with e | e
        · subst e
          rw [Nat.sub_self] at h4
          exact absurd ⟨h1, h4⟩ hc
        · exact ⟨h0, h1, e, h3, h4⟩
theorem pairsF_mem (a b : Nat) : ∀ (rs : List (List Rat)) (i : Nat), (a, b) ∈ pairsF i rs ↔ i ≤ a ∧ a < i + rs.length ∧ 0 < b ∧ b < (rs.getD (a - i) []).length ∧ K9M.coef (rs.getD (a - i) []) b ≠ 0
  | [], i => by
    unfold pairsF
    constructor
    · intro h; cases h
    · rintro ⟨h1, h2, _⟩; rw [List.length_nil] at h2; omega
  | r :: rs, i => by
    have ih := pairsF_mem a b rs (i + 1)
    unfold pairsF
    rw [List.mem_append, rowF_mem, ih, List.length_cons]
    constructor
    · rintro (⟨h0, h1, h2, h3, h4⟩ | ⟨h0, h1, h2, h3, h4⟩)
      · subst h0
        refine ⟨Nat.le_refl _, by omega, h1, ?_, ?_⟩
        · rw [Nat.sub_self]; show b < r.length; omega
        · rw [Nat.sub_self]; exact h4
      · refine ⟨by omega, by omega, h2, ?_, ?_⟩
        · rw [show a - i = (a - (i + 1)) + 1 by omega]; exact h3
        · rw [show a - i = (a - (i + 1)) + 1 by omega]; exact h4
    · rintro ⟨h0, h1, h2, h3, h4⟩
      rcases Nat.eq_or_lt_of_le h0 with e | e
      · left
        subst e
        rw [Nat.sub_self] at h3 h4
        exact ⟨rfl, h2, Nat.zero_le _, by have : b < r.length := h3; omega, h4⟩
      · right
        rw [show a - i = (a - (i + 1)) + 1 by omega] at h3 h4
        exact ⟨e, by omega, h2, h3, h4⟩
/-- the same as is_break says -/
theorem isB_mem (rs : List (List Rat)) (i j : Int) : isB rs (some (i, j)) = decide (0 ≤ i ∧ 0 ≤ j ∧ (i.toNat, j.toNat) ∈ pairsF 0 rs) := by
  rw [Bool.eq_iff_iff, decide_eq_true_iff]
  show (decide (0 ≤ i) && (decide (i ≤ (rs.length : Int) - 1) && (decide (1 ≤ j) && (decide (j ≤ ((rs.getD i.toNat []).length : Int) - 1) && decide (K9M.coef (rs.getD i.toNat []) j.toNat ≠ 0))))) = true ↔ _
  rw [pairsF_mem, Nat.sub_zero]
  simp only [Bool.and_eq_true, decide_eq_true_iff]
  constructor
  · rintro ⟨h1, h2, h3, h4, h5⟩
    exact ⟨h1, by omega, Nat.zero_le _, by omega, by omega, by omega, h5⟩
  · rintro ⟨h1, h2, h3, h4, h5, h6, h7⟩
    exact ⟨h1, by omega, by omega, by omega, h7⟩
/-- pairs as they stand -/
def Rps (H : Hp) (vs : List V) (ps : List (Nat × Nat)) : Prop := vs.length = ps.length ∧ ∀ (i : Nat) (v : V), vs[i]? = some v → ∃ a b t, ps[i]? = some (a, b) ∧ v = .ref t ∧ H t = some (.tup [.int (a : Nat), .int (b : Nat)])
theorem Rps.tsame {H H' : Hp} {vs : List V} {ps : List (Nat × Nat)} (h : Rps H vs ps) (s : TSame H H') : Rps H' vs ps := ⟨h.1, fun i x e => let ⟨a, b, t, h1, h2, h3⟩ := h.2 i x e; ⟨a, b, t, h1, h2, s _ _ h3⟩⟩
theorem Rps.app {H : Hp} {vs ws : List V} {ps qs : List (Nat × Nat)} (h : Rps H vs ps) (k : Rps H ws qs) : Rps H (vs ++ ws) (ps ++ qs) := by
  refine ⟨by simp [h.1, k.1], fun i x e => ?_⟩
  rcases Nat.lt_or_ge i vs.length with z | z
  · rw [List.getElem?_append_left z] at e
    obtain ⟨a, b, t, e', r'⟩ := h.2 i x e
    exact ⟨a, b, t, by rw [List.getElem?_append_left (by rw [← h.1]; exact z)]; exact e', r'⟩
  · rw [List.getElem?_append_right z] at e
    obtain ⟨a, b, t, e', r'⟩ := k.2 _ x e
    exact ⟨a, b, t, by rw [List.getElem?_append_right (by rw [← h.1]; exact z), ← h.1]; exact e', r'⟩
theorem Rps.one {H : Hp} {t : Addr} {a b : Nat} (h : H t = some (.tup [.int (a : Nat), .int (b : Nat)])) : Rps H [.ref t] [(a, b)] := ⟨rfl, fun i x e => by
  rcases i with _ | i
  · cases e; exact ⟨a, b, t, rfl, rfl, h⟩
  · simp at e⟩
theorem Rps.nil {H : Hp} : Rps H [] [] := ⟨rfl, fun i x e => by simp at e⟩
theorem rowF_len (i : Nat) : ∀ (l : List Rat) (j : Nat), (rowF i j l).length ≤ l.length
  | [], _ => Nat.le_refl _
  | x :: l, j => by
    have := rowF_len i l (j + 1)
    unfold rowF
    split
    · rw [List.length_cons, List.length_cons]; omega
    · rw [List.length_cons]; omega
def sp_law_pairs : Sp := fun vs H Q _ => ∃ (v : V) (qs : List Rat) (d : Nat), vs = [v, .int (d : Nat)] ∧ RS H v qs ∧ Stp qs ∧ Dvs qs d ∧ WZ qs d ∧
  ∀ H' p ws, Same H H' → H p = none → H' p = some (.lst ws) → Rps H' ws (pairsF 0 (K9M.remsQ (K9M.candU qs d) qs)) → Q (.ref p) H'
theorem rems_lt {U : List Rat} (hU : U ≠ []) (m : K9M.lastQ U = 1) : ∀ (n : Nat) (P : List Rat), ∀ r ∈ K9M.rems U n P, r.length < U.length
  | 0, _, r, h => by simp [K9M.rems] at h
  | n + 1, P, r, h => by
    unfold K9M.rems at h
    split at h
    · cases h
    · rcases List.mem_cons.mp h with e | e
      · rw [e]
        exact K9M.divF_short hU m _ _ _ (Nat.le_refl _)
      · exact rems_lt hU m n _ r e
section
variable {P : Program} {w : World} {K : PySem.W.Frag} {mg : Str → Option Value} {base : Heap}
abbrev s_law_pairs : Stmt := topS 53
abbrev N_law_pairs : List Str := ["_law_told", "_law_size", "_law_found", "_law_at", "_law_rest", "_law_place", "_law_worth"]
theorem sc_law_pairs : FnScope N_law_pairs ["_law_told", "_law_size"] (defScope s_law_pairs) := ⟨rfl, rfl, rfl, by decide +kernel, rfl, by decide +kernel, by decide +kernel⟩
theorem kn_law_pairs (D : DefAt K mg "_law_pairs" s_law_pairs) (T : Wd mg) (k_law_powers_of : Kn P w K mg base CX0 5 "_law_powers_of" ["_law_told", "_law_base"] sp_law_powers_of) (k_candidate : Kn P w K mg base (L2.CX P w) 5 "candidate" ["step", "degree"] sp_candidate) :
    Kn P w K mg base CX0 6 "_law_pairs" ["_law_told", "_law_size"] sp_law_pairs := by
  have S := sc_law_pairs
  refine Kn.of D S (fun vs H Q E h => ?_) (fun _ _ _ _ _ _ us hl => match us, hl with | [_, _], _ => rfl) fun f cdv A outer s H vs Q E hr h => ?_
  · obtain ⟨_, _, _, rfl, _⟩ := h; rfl
  obtain ⟨v, qs, d, rfl, hv, st, dv, wz, k⟩ := h
  refine ⟨_, PSs.nox (pss_cons (ps_set (i := 2) S.nd rfl (Or.inl rfl) (pe_lst pa_nil))
    (pss_cons (ps_for PassesOwn.never rfl (pi_enumT (by rfl) T.enumerate (pa_cons (pe_kn k_law_powers_of (hr.mono (by decide)) (by rfl) pass0 (pa_cons (pv 0) (pa_cons (pe_kn k_candidate (hr.mono (by decide)) (by rfl) passL (pa_cons (pv 0) (pa_cons (pv 1) pa_nil))) pa_nil))) pa_nil)) (pg_tup rfl (pgs_cons (pg_name (i := 3) S.nd rfl (by first | exact .inl rfl | exact .inr rfl)) (pgs_cons (pg_name (i := 4) S.nd rfl (by first | exact .inl rfl | exact .inr rfl)) pgs_nil)))
      (pss_one (ps_set (i := 2) S.nd rfl (Or.inl rfl) (pe_op op_cat (pv 2) (pe_lc (own := [("_law_place", 5), ("_law_worth", 6)]) (g := gTup K 2 (gCons (gName 5) (gCons (gName 6) (gNil)))) (by rfl) S.nd (pi_enumT (by rfl) T.enumerate (pa_cons (pv 4) pa_nil)) (blkOk_by (own := [("_law_place", 5), ("_law_worth", 6)]) (N := N_law_pairs) (sc := defScope s_law_pairs) (by decide +kernel)) (fun _ _ _ _ _ => (pg_tup rfl (pgs_cons (pg_name (i := 5) S.nd rfl (by first | exact .inl rfl | exact .inr rfl)) (pgs_cons (pg_name (i := 6) S.nd rfl (by first | exact .inl rfl | exact .inr rfl)) pgs_nil)))) (fun _ _ _ _ _ => pts_one (PW.pt (pw_and (pt_cmpR op_gt (pv 5) pe_int (nomark _)) (pw_and1 (pt_cmpR (neD (K := K) hr.units rfl) (pv 6) (pe_tup (pa_cons pe_int (pa_cons pe_int pa_nil))) (nomark _)))))) (fun _ _ _ _ _ => (pe_tup (pa_cons (pv 3) (pa_cons (pv 5) pa_nil)))))))))
    (pss_one (ps_ret (pv 2))))), ?_⟩
  obtain ⟨S0, b0, c0, B, uz, rb⟩ := wz.uz
  have lo := st.lo
  have hi := st.hi
  have cl := K9M.candU_len (P := qs) dv.1
  walk_at "k9"
  refine ⟨by show 0 ≤ sizeLine; decide, fun fl hfl => ?_⟩
  have s0 : Same H (upd H fl (.lst [])) := same_upd hfl
  walk_at "k9"
  refine x_enumT ?_
  walk_at "k9"
  refine ⟨_, qs, d, rfl, hv.same s0, st, dv, wz, fun H1 u s1 ru => ?_⟩
  walk_at "k9"
  refine ⟨_, _, qs, _, S0, b0, c0, B, rfl, hv.same (fun b o e => s1 _ _ (s0 _ _ e)), ru, uz, rb, by omega, fun H2 p ws s2 hp rt => ?_⟩
  have rl := remsQ_len uz.u2 qs
  have s02 : Same (upd H fl (.lst [])) H2 := fun b o e => s2 _ _ (s1 _ _ e)
  have hrs : ∀ r ∈ K9M.remsQ (K9M.candU qs d) qs, r.length ≤ 65 := fun r h => by
    have h1 := rems_lt (U_ne uz.m) uz.m qs.length qs r h
    have := dv.2.1
    omega
  generalize K9M.remsQ (K9M.candU qs d) qs = rs at *
  have lw := rt.1
  walk_at "k9"
  refine ⟨p, ws, rfl, .of hp, ?_⟩
  refine for_it (walk_enumT (xs := ws)) (fun i σ' H' => ∃ fl x3 x4 vs, σ' = [some v, some (.int (d : Nat)), some (.ref fl), x3, x4, none, none] ∧ Same H H' ∧ TSame H2 H' ∧ H fl = none ∧ H' fl = some (.lst vs) ∧ Rps H' vs (pairsF 0 (rs.take i)) ∧ vs.length ≤ i * 65)
    ⟨fl, none, none, [], rfl, fun b o e => s02 _ _ (s0 _ _ e), fun _ _ h => h, hfl, s02 _ _ upd_same, .nil, by simp⟩ (fun i σ' H' _ h => by obtain ⟨_, _, _, _, _, _, ts, _⟩ := h; exact .of (ts _ _ hp)) ?_ ?_
  · rintro i _ _ H3 _ hi2 ⟨fl, _, _, vs, rfl, s3, ts3, hf0, hf3, rp, lv⟩ ⟨T1, _, y, rfl, hT1, rfl, hy1, hy⟩
    cases hy1
    have hi3 : i < rs.length := by omega
    refine x_gT2n (by rfl) upd_same ?_
    have st1 : Same H3 (upd H3 T1 (.tup [.int ((i : Nat) : Int), y])) := same_upd hT1
    obtain ⟨r, er, q0⟩ := rt.2 i y hy
    have ry := (q0.tsame ts3).same st1
    have hf4 := st1 _ _ hf3
    have rp4 := rp.tsame (Same.tup st1)
    have s4 : Same H (upd H3 T1 (.tup [.int ((i : Nat) : Int), y])) := fun b o e => st1 _ _ (s3 _ _ e)
    have ts4 : TSame H2 (upd H3 T1 (.tup [.int ((i : Nat) : Int), y])) := fun b o e => Same.tup st1 _ _ (ts3 _ _ e)
    have lr65 := hrs r (get_mem er)
    clear hf3 rp s3 ts3
    generalize upd H3 T1 (.tup [.int ((i : Nat) : Int), y]) = H4 at *
    obtain ⟨pr, xs, rfl, hpr, rx⟩ := ry
    have lx := rx.1
    walk_at "k9"
    refine x_enumT ?_
    walk_at "k9"
    refine ⟨pr, xs, rfl, .of hpr, fun D hD => ?_⟩
    have nf : D ≠ fl := fun z => by rw [z, hf4] at hD; cases hD
    refine lc_it (walk_enumT (xs := xs)) (fun j H' => Same H4 H' ∧ ∃ ys, H' D = some (.lst ys) ∧ Rps H' ys (rowF i 0 (r.take j)) ∧ ys.length ≤ j) ⟨same_upd hD, [], upd_same, .nil, Nat.zero_le _⟩ (fun j H' _ h => .of (h.1 _ _ hpr)) ?_ ?_
    · rintro j _ H5 _ hj ⟨s5, ys, e5, rp5, ly⟩ ⟨T2, _, x, rfl, hT2, rfl, hx1, hx⟩
      cases hx1
      refine x_gT2n (by rfl) upd_same ⟨rfl, ?_⟩
      have st2 : Same H5 (upd H5 T2 (.tup [.int ((j : Nat) : Int), x])) := same_upd hT2
      obtain ⟨q, eq, rq⟩ := rx.2 j x hx
      have s6 : Same H4 (upd H5 T2 (.tup [.int ((j : Nat) : Int), x])) := fun b o e => st2 _ _ (s5 _ _ e)
      have rq6 := rq.tsame (Same.tup s6)
      have e6 := st2 _ _ e5
      have rp6 := rp5.tsame (Same.tup st2)
      clear s5 e5 rp5
      generalize upd H5 T2 (.tup [.int ((j : Nat) : Int), x]) = H6 at *
      have tk : (r.take j).length = j := by rw [List.length_take]; omega
      have rowj : rowF i 0 (r.take (j + 1)) = rowF i 0 (r.take j) ++ (if 0 < j ∧ q ≠ 0 then [(i, j)] else []) := by
        rw [take_snoc eq, rowF_snoc, tk, Nat.zero_add]
      walk_at "k9"
      by_cases hj0 : 0 < j
      · refine x_yes (decide_eq_true (by omega)) ?_
        walk_at "k9"
        refine ⟨by show 2 ≤ sizeLine; decide, fun t ht => ?_⟩
        have st3 : Same H6 (upd H6 t (.tup [.int 0, .int 1])) := same_upd ht
        refine x_ne01 (rq6.same st3) upd_same ?_
        walk_at "k9"
        have s7 : Same H4 (upd H6 t (.tup [.int 0, .int 1])) := fun b o e => st3 _ _ (s6 _ _ e)
        have e7 := st3 _ _ e6
        have rp7 := rp6.tsame (Same.tup st3)
        generalize upd H6 t (.tup [.int 0, .int 1]) = H7 at *
        by_cases hq : q = 0
        · refine x_no (by simp [hq]) ?_
          rw [if_neg (fun z => z.2 hq), List.append_nil] at rowj
          exact ⟨s7, ys, e7, by rw [rowj]; exact rp7, by omega⟩
        · refine x_yes (by simp [hq]) ?_
          walk_at "k9"
          refine ⟨by show 2 ≤ sizeLine; decide, fun t2 ht2 => ?_⟩
          have st4 := same_upd (o := .tup [.int ((i : Nat) : Int), .int ((j : Nat) : Int)]) ht2
          refine ⟨ys, st4 _ _ e7, Nat.lt_of_lt_of_le (by omega : ys.length < 1000) (by decide), fun b o e => ?_, ys ++ [.ref t2], upd_same, ?_, by simp; omega⟩
          · rw [upd_ne (fun z => by rw [z, hD] at e; cases e)]
            exact st4 _ _ (s7 _ _ e)
          · rw [rowj, if_pos ⟨hj0, hq⟩]
            have tl := tsame_lst (o := .lst (ys ++ [.ref t2])) (st4 _ _ e7)
            exact ((rp7.tsame (Same.tup st4)).tsame tl).app (.one (tl _ _ upd_same))
      · refine x_no (decide_eq_false (by omega)) ?_
        refine x_no rfl ?_
        rw [if_neg (fun z => hj0 z.1), List.append_nil] at rowj
        exact ⟨s6, ys, e6, by rw [rowj]; exact rp6, by omega⟩
    rintro H5 ⟨s5, ys, e5, rp5, ly⟩
    rw [lx, List.take_length] at rp5
    refine x_cat (s5 _ _ hf4) e5 ?_ fun g hg => ?_
    · have := Nat.mul_le_mul (show i ≤ 65 by omega) (Nat.le_refl 65)
      omega
    have st5 := same_upd (o := .lst (vs ++ ys)) hg
    have s7 : Same H4 (upd H5 g (.lst (vs ++ ys))) := fun b o e => st5 _ _ (s5 _ _ e)
    refine ⟨g, _, _, vs ++ ys, rfl, fun b o e => s7 _ _ (s4 _ _ e), fun b o e => Same.tup s7 _ _ (ts4 _ _ e), ?_, upd_same, ?_, ?_⟩
    · have ss : Same H H5 := fun b o e => s5 _ _ (s4 _ _ e)
      exact ss.free hg
    · rw [take_snoc er, pairsF_snoc, List.length_take, Nat.zero_add, show min i rs.length = i by omega]
      exact (rp4.tsame (Same.tup s7)).app (rp5.tsame (Same.tup st5))
    · rw [List.length_append, Nat.add_mul, Nat.one_mul]
      omega
  rintro _ H3 ⟨fl, _, _, vs, rfl, s3, ts3, hf0, hf3, rp, lv⟩
  walk_at "k9"
  rw [lw, List.take_length] at rp
  exact k _ _ _ s3 hf0 hf3 rp
end
end K9

set_option Elab.async false
set_option linter.all false
set_option maxRecDepth 100000
set_option maxHeartbeats 4000000
namespace L2
open PySem PySem.Spec PyProof.Rows
abbrev popD (D : Ends) (i : Nat) : Ends := { nx := fun σ' H' => D.nx (σ'.set i none) H', rt := D.rt, bk := fun σ' H' => D.bk (σ'.set i none) H', ct := fun σ' H' => D.ct (σ'.set i none) H' }
/-- several clauses, each with the same name -/
def wAll (K : PySem.W.Frag) (D : Ends) (i : Nat) : List (Value × (Addr → Value → Option Addr → TS)) → WX
  | [] => fun _ _ _ _ => False
  | (c, ts) :: r => fun cls d σ H => ∃ b, PySem.W.exmOne K cls c = some b ∧ (b = true → ∀ a, H a = none → ts a cls d (popD D i) (σ.set i (some (.ref a))) H) ∧ (b = false → wAll K D i r cls d σ H)
inductive HdsAs (X : Cx) (n : Str) : List ExceptHandler → List (Value × (Addr → Value → Option Addr → TS)) → Prop
  | nil : HdsAs X n [] []
  | cons {x : Str} {c : Value} {ts : Addr → Value → Option Addr → TS} {b₀ : Stmt} {suite : List Stmt} {np pos' : Pos} {hds : List ExceptHandler} {l : List (Value × (Addr → Value → Option Addr → TS))} (hc : Names X x c)
      (hsu : ∀ (a : Addr) (oe : Obj) (cls : Value) (d : Option Addr) (pn : List (Addr × Obj)), Zc cls d oe → (∃ vs, oe.data = .fields vs) → PSs (X.suite a ((a, oe) :: pn)) (b₀ :: suite) (ts a cls d)) (r : HdsAs X n hds l) :
      HdsAs X n (.ExceptHandler (some (.Name x np)) (some n) (b₀ :: suite) pos' :: hds) ((c, ts) :: l)
section
variable {X : Cx} {n : Str} {i : Nat} {body : List Stmt} {h₀ : ExceptHandler} {hds : List ExceptHandler} {l : List (Value × (Addr → Value → Option Addr → TS))} {pos : Pos} {tb : WX → TS}
theorem ps_try_all (hs : X.stack = X.env :: X.outer) (hf : X.env.frame = some X.env.locals) (hN : X.N.Nodup) (hi : X.N[i]? = some n) (hln : X.env.kindOf n = some .local)
    (hb : ∀ (W : WX) (pn : List (Addr × Obj)) (xe : Value → Shared → Prop), Takes (X.tr pn xe) W → PassesOwn (model X.prog X.w) X.A X.env xe → PSs (X.tr pn xe) body (tb W))
    (hh : HdsAs X n (h₀ :: hds) l) : PS X (.Try body (h₀ :: hds) [] [] pos) (fun D σ H => tb (wAll X.K D i l) D σ H) := by
  refine ⟨fun pins s σ H D I h => ?_⟩
  have ok := I.ok
  have hfr : X.A.frames = some (X.env :: X.outer) := by rw [ok.frames, hs]
  have hloc : Loc X.env.scope n := .inl hln
  refine wpAny_Try_except ?_
  refine wpAny_mono ((hb (wAll X.K D i l) (X.pn ++ pins) (fun e s₁ => wpAny (model X.prog X.w) X.A (noteFrame e X.env) (fun _ s₂ => wpAny (model X.prog X.w) X.A (setFlight e none) (fun _ s₃ =>
    wpAny (model X.prog X.w) X.A (handleBy e X.env (h₀ :: hds)) (SP X pins D) X.xe s₃) X.xe s₂) X.xe s₁) (fun u s' xx => ?_) PassesOwn.looking).run [] s σ H D (I.toTry _) h) (fun f s1 hsp => ?_) (fun e s1 he => he)
  · obtain ⟨a, B, sI, pins', σ', H', cls, d, rfl, J', nb, up, sky, na, os, ag, w⟩ := xx
    have J : Inv X pins σ' H' sI := J'.ofTry ok
    have sky' : Sky B (X.env :: X.outer) a (Zc cls d) X.env.locals s'.heap := by rw [← hs]; exact sky
    show wpAny (model X.prog X.w) X.A (noteFrame (.ref a) X.env) _ _ _
    refine Sky.land Zc.steady hfr hf sky' fun h3 fl3 up3 => ?_
    have J3 : Inv X pins σ' H' { s' with heap := h3 } := J.landed nb fl3.1 (up.trans up3) os ag
    obtain ⟨oe3, vs3, he3, hz3, hd3⟩ := fl3.there
    have notFr : ∀ {h : Heap} {o : Obj} {vs : Array Value}, h.FunFrames B (X.env :: X.outer) → h.get? a = some o → o.data = .fields vs → a ∉ frs (X.env :: X.outer) := fun {h o vs} ff e dd hm => by
      obtain ⟨_, o', e', hnf⟩ := ff.mem hm
      rw [e] at e'
      cases e'
      exact hnf _ dd
    have nfr := notFr fl3.2.2.1 he3 hd3
    have nL : a ≠ X.env.locals := fun z => nfr (List.mem_filterMap.mpr ⟨X.env, List.mem_cons_self, by rw [hf, z]⟩)
    have nF : a ∉ X.fs := fun hm => by
      obtain ⟨e, he, q⟩ := List.mem_filterMap.mp hm
      exact nfr (List.mem_filterMap.mpr ⟨e, List.mem_cons_of_mem _ he, q⟩)
    have S3 := J3.suite he3 hd3 na nL nF
    have go : ∀ {hds' : List ExceptHandler} {l' : List (Value × (Addr → Value → Option Addr → TS))}, HdsAs X n hds' l' → wAll X.K D i l' cls d σ' H' →
        wpAny (model X.prog X.w) X.A (handleBy (.ref a) X.env hds') (SP X pins D) X.xe { s' with heap := h3 } := by
      intro hds' l' hk
      induction hk with
      | nil => exact fun w => w.elim
      | @cons x c ts b₀ suite np pos' hds2 l2 hc hsu r ih =>
        intro w
        obtain ⟨b, hb1, hyes, hno⟩ := w
        refine wpAny_handleBy_cons (codeAny_handlers_test ?_) (by intro q; cases q)
        have LT : PySem.W.Looks (model X.prog X.w) h3 (typeOf (.ref a)) cls := fun A Q E s k q => wpAny_typeOf_ref (k _ _ he3) (by rw [hz3.1]; exact q)
        have LM := PySem.W.exm_one (M := model X.prog X.w) (J3.kIn) LT hb1
        have test : ∀ {Q : Value → Shared → Prop} {E : Value → Shared → Prop}, Q c { s' with heap := h3 } → wpAny (model X.prog X.w) (X.A.mark (some (.ref a))) (eval (.Name x np) X.env) Q E { s' with heap := h3 } := fun {Q E} q => by
          obtain ⟨hg, hdbg, hm | ⟨hm, hv, hnn⟩⟩ := hc
          · exact ld_glob (X := X.suite a ((a, oe3) :: (X.pn ++ pins))) S3 hg hm q hdbg
          · exact ld_blt (X := X.suite a ((a, oe3) :: (X.pn ++ pins))) S3 hg hm hv q hnn hdbg
        refine test (LM.here ?_)
        cases b with
        | true =>
          refine codeAny_handlers_suite_as ?_
          refine HandSPX.lands_againZ fl3 fun h4 fl4 up4 => ?_
          have J4 : Inv X pins σ' H' { s' with heap := h4 } := J.landed nb fl4.1 ((up.trans up3).trans up4) os ag
          obtain ⟨oe4, vs4, he4, hz4, hd4⟩ := fl4.there
          have S4 := J4.suite he4 hd4 na nL nF
          refine store_ok (X := X.suite a ((a, oe4) :: (X.pn ++ pins))) (v := .ref a) S4 hN hi hloc rfl (fun s5 S5 => ?_) (.inr hln)
          refine wpAny_mono ((hsu a oe4 cls d (X.pn ++ pins) hz4 ⟨_, hd4⟩).run [] s5 _ H' _ S5 (hyes rfl a na)) (fun f s6 hsp => ?_) (fun _ _ z => False.elim z)
          have end_ : ∀ {σ6 : St} {H6 : Hp} {Q : Shared → Prop}, Inv (X.suite a ((a, oe4) :: (X.pn ++ pins))) [] σ6 H6 s6 → (∀ s7, Inv X pins (σ6.set i none) H6 s7 → Q s7) →
              wpAny (model X.prog X.w) X.A (do bindName X.env n .none; unbindBehindTheSuite X.env n pos') (fun _ s7 => Q s7) X.xe s6 := fun {σ6 H6 Q} S6 hq => gone_ok (S6.unsuite ok) hN hi hln hq
          cases f with
          | next =>
            obtain ⟨σ6, H6, S6, q6⟩ := hsp
            exact end_ S6 fun s7 J7 => ⟨_, _, J7, q6⟩
          | brk =>
            obtain ⟨σ6, H6, S6, q6⟩ := hsp
            exact end_ S6 fun s7 J7 => ⟨_, _, J7, q6⟩
          | cont =>
            obtain ⟨σ6, H6, S6, q6⟩ := hsp
            exact end_ S6 fun s7 J7 => ⟨_, _, J7, q6⟩
          | ret u =>
            obtain ⟨v6, σ6, H6, S6, r6, q6⟩ := hsp
            exact end_ S6 fun s7 J7 => ⟨_, _, _, J7, r6, q6⟩
        | false =>
          show wpAny _ X.A (handleBy (.ref a) X.env hds2) _ _ _
          exact ih (hno rfl)
    exact go hh w
  · cases f with
    | next =>
      obtain ⟨σ', H', J', q⟩ := hsp
      exact wpAny_execs_nil ⟨σ', H', J'.ofTry ok, q⟩
    | brk =>
      obtain ⟨σ', H', J', q⟩ := hsp
      exact ⟨σ', H', J'.ofTry ok, q⟩
    | cont =>
      obtain ⟨σ', H', J', q⟩ := hsp
      exact ⟨σ', H', J'.ofTry ok, q⟩
    | ret u =>
      obtain ⟨v, σ', H', J', r, q⟩ := hsp
      exact ⟨v, σ', H', J'.ofTry ok, r, q⟩
end
end L2

set_option Elab.async false
set_option linter.all false
set_option maxRecDepth 100000
set_option maxHeartbeats 4000000
namespace PySem
namespace K9X
open PySem.W PySem.Calls PyProof.Rows PySem.HandSPX
section
variable {prog : Program} {w : World} {A : Around} {E : Value → Shared → Prop} {s : Shared} {K : Frag} {x D : Addr} {ox : Obj} {od : Option Obj}
theorem kin_cls {Q : Option Value → Shared → Prop} (C : L2.ExcC K D) (hf : findObj K D od "__class__" = some (.bind (.builtin "getset_descriptor.__get__") (.builtin "object.__class__")))
    (X : K.In s.heap) (I : InstAt s.heap x ox D od) (h : Q (some (.ref D)) { s with toks := s.toks + 1 }) : wpAny (model prog w) A (getAttr? (.ref x) "__class__") Q E s := by
  obtain ⟨hp, g, d, t, os⟩ := s
  have L0 := I.type (M := model prog w)
  have L1 := looks_findIn (M := model prog w) X C.hg
  have L2 := looks_findIn (M := model prog w) X C.hk
  have L3 := looks_find (M := model prog w) X I hf
  have sub : Looks (model prog w) hp (isInstance (.ref x) (.type "BaseException")) true := L0.andThen (looks_subIn X C.hs)
  have hx2 : (Value.builtin "BaseException.__getattribute__" == Value.builtin "object.__getattribute__") = false := by decide +kernel
  unfold getAttr? getAttrBy? getAttrBy
  refine wpAny_bind (wpAny_mkText (wpAny_bind (wpAny_attempt (wpAny_holding (wpAny_bind (L0.at (wpAny_bind (L1.at ?_))))))))
  show wpAny _ _ (if (onTheHeap (Value.ref D) && Value.builtin "BaseException.__getattribute__" == Value.builtin "object.__getattribute__") = true then _ else _) _ _ _
  rw [show (onTheHeap (Value.ref D) && Value.builtin "BaseException.__getattribute__" == Value.builtin "object.__getattribute__") = false by rw [hx2]; rfl, if_neg Bool.false_ne_true]
  unfold getAttrByItsOwn hookBefore
  refine wpAny_bind ?_
  rw [if_pos (show onTheHeap (Value.ref D) = true from rfl)]
  refine L2.at ?_
  refine wpAny_bind (wpAny_attempt (wpAny_holding ?_))
  unfold callGetattribute
  rw [show (false && onTheHeap (Value.builtin "BaseException.__getattribute__")) = false from rfl, if_neg Bool.false_ne_true]
  unfold boundAndCalled
  rw [PySem.F.excAttr_ValueError.ga.bind (.ref x)]
  refine wpAny_bind (wpAny_pure ?_)
  show wpAny _ _ (call (.builtin "BaseException.__getattribute__") [.ref x, .str "__class__" t]) _ _ _
  refine wpAny_call (codeAny_call_builtin PySem.F.excAttr_ValueError.ga.plain PySem.F.entry_bexc_ga ?_)
  refine @check_slot (model prog w) _ _ ⟨hp, g, d, t + 1, os⟩ "BaseException.__getattribute__" "BaseException" "__getattribute__" (.ref x) [.str "__class__" t] [] _ (by decide +kernel) (by decide +kernel) sub (PySem.F.args_bexc_ga (.ref x) (.str "__class__" t)) ?_
  unfold Builtin.«object.__getattribute__»
  refine wpAny_bind (wpAny_of_eq (a := ((Value.ref x : Value), [Value.str "__class__" t])) (by first | rfl | (simp only [slotArgs]; rfl)) ?_)
  refine wpAny_bind (wpAny_pure (wpAny_bind (L0.at (wpAny_bind (L3.at ?_)))))
  show wpAny _ _ (holding [Value.builtin "object.__class__"] (call (.builtin "getset_descriptor.__get__") [.builtin "object.__class__", .ref x, .ref D]) >>= ret) _ _ _
  refine wpAny_bind (wpAny_holding (wpAny_call (class_get (s := ⟨hp, g, d, t + 1, os⟩) (ox := ox) (od := od) X I C.hm ?_)))
  refine wpAny_pure ?_
  show wpAny _ _ (handedOut (.ref D)) _ _ _
  rw [handedOut_of (v := .ref D) rfl]
  first
    | exact wpAny_pure (wpAny_pure h)
    | exact wpAny_pure h
    | exact wpAny_pure (wpAny_bind (wpAny_pure (wpAny_pure h)))
theorem kitx_any (C : L2.ExcC K D) (hf : findObj K D od "__class__" = some (.bind (.builtin "getset_descriptor.__get__") (.builtin "object.__class__"))) : KitX K (.ref x) (.ref D) (fun h => InstAt h x ox D od) where
  ty := fun _ _ _ I => I.type
  it := fun _ _ X _ => by
    obtain ⟨cdD, hcD, _⟩ := any_some C.hd
    unfold clsIn at hcD
    split at hcD
    · rename_i c' d' cd' sl' ho
      intro A' Q' E' s' k q
      unfold isType loadHead
      exact wpAny_bind (wpAny_loadPart (k _ _ (X _ _ ho)) (wpAny_pure q))
    · cases hcD
  ne := fun h tp dd its n sl X htp => by
    obtain ⟨cdD, hcD, _⟩ := any_some C.hd
    refine Bool.eq_false_iff.mpr fun q => ?_
    have e : D = tp := Value.ref.inj (beq_iff_eq.mp q)
    subst e
    unfold clsIn at hcD
    split at hcD
    · rename_i c' d' cd' sl' ho
      have z := (X _ _ ho).symm.trans htp
      cases z
    · cases hcD
  ca := fun X I k => kin_cls C hf X I k
end
end K9X
end PySem
namespace L2
open PySem PySem.Spec PyProof.Rows
/-- isinstance(e, c), e the exception that the suite holds, with its dict or without one -/
def rIsX (K : PySem.W.Frag) (D a : Addr) (cls : Value) (d : Option Addr) : List V → Hp → VK → Prop := fun xs H Q => ∃ (c : V) (cv : Value) (b : Bool), xs = [.ref a, c] ∧ (∀ u, RelV c u → u = cv) ∧ PySem.W.kitOne K (.ref D) cv = some b ∧ cls = .ref D ∧
  (d = none ∨ ∃ dd fs, d = some dd ∧ H dd = some (.xd fs)) ∧ Q (.bl b) H
theorem call_isX {X : Cx} {a D : Addr} {oe : Obj} {cls : Value} {d : Option Addr} {pn : List (Addr × Obj)} (C : ExcC X.K D) (hz : Zc cls d oe) (hf : ∃ vs, oe.data = .fields vs) : CallR (X.suite a ((a, oe) :: pn)) (.builtin "isinstance") (rIsX X.K D a cls d) := by
  intro pins s σ H xs us Q I r h
  obtain ⟨c, cv, b, rfl, hcv, e, ec, ed, q⟩ := h
  subst ec
  cases r with
  | cons rx rr =>
    cases rr with
    | cons rt rr =>
      cases rr
      cases rx
      have ec := hcv _ rt
      subst ec
      obtain ⟨hget, _⟩ := I.pin (a, oe) (List.mem_append.mpr (.inl List.mem_cons_self))
      obtain ⟨vs, hv⟩ := hf
      have hcls : (PySem.W.clsIn X.K D).isSome = true := by obtain ⟨cd, hc, _⟩ := PySem.W.any_some C.hd; rw [hc]; rfl
      rcases ed with ed | ⟨dd, fs, ed, hd⟩
      · subst ed
        have J : PySem.W.InstAt s.heap a oe D none := by
          obtain ⟨oc, od, oda, osl⟩ := oe
          obtain ⟨h1, h2⟩ := hz
          dsimp only at h1 h2 hv
          subst h1 h2 hv
          exact ⟨hget, rfl, rfl, True.intro⟩
        exact PySem.W.kia_one (PySem.K9X.kitx_any C (PySem.W.findObj_dataN hcls C.ha C.hn C.ht)) I.kIn J e (fun z => nomatch z) fun tk => ⟨.bl b, H, I.kept (t' := tk) fun _ _ z => z, rfl, q⟩
      · subst ed
        have hx : ObjOk X.prog X.w H s.heap dd (.xd fs) := I.hok dd _ hd
        obtain ⟨mA, hns, hr⟩ := hx
        obtain ⟨od, ho, hl⟩ := lookIn_ns hns
        have J : PySem.W.InstAt s.heap a oe D (some od) := ⟨hget, hz.1, by unfold PySem.W.notCls; rw [hv] <;> rfl, by rw [hz.2]; exact ho⟩
        exact PySem.W.kia_one (PySem.K9X.kitx_any C (PySem.W.findObj_data hcls C.ha C.hn C.ht)) I.kIn J e (fun z => nomatch z) fun tk => ⟨.bl b, H, I.kept (t' := tk) fun _ _ z => z, rfl, q⟩
end L2

set_option Elab.async false
set_option linter.all false
set_option maxRecDepth 100000
set_option maxHeartbeats 4000000
namespace K9
open PySem PySem.Spec PyProof.Rows L2
local macro_rules | `(tactic| walk_at "k9mem") => `(tactic| first | with_reducible assumption | exact upd_same | ((with_reducible refine mem_upd (by with_reducible assumption) ?_); walk_at "k9mem") | ((with_reducible refine mem_same (by with_reducible assumption) ?_); walk_at "k9mem"))
local macro_rules | `(tactic| walk_at "k91") => `(tactic| with_reducible (first | refine x_seq ?_ | refine x_asg ?_ | refine x_name ?_ | refine x_ret ?_ | refine x_drop ?_ | refine x_next ?_ | refine x_ifs ?_ | refine x_if ?_ | refine x_test ?_ | refine x_tb ?_ | refine x_tnot ?_ | refine x_tand ?_ | refine x_tor ?_ | refine x_andv ?_ | refine x_orv ?_ | refine x_notv ?_ | refine x_var rfl ?_ | refine x_c ?_ | refine x_op ?_ | refine x_un ?_ | refine x_i0 ?_ | refine x_par ?_ | refine x_two ?_ | refine x_eqI ?_ | refine x_neI ?_ | refine x_u ?_ | refine x_call ?_ | refine x_cb ?_ | refine x_cons ?_ | refine x_nil ?_ | refine x_tup ?_ | refine x_lst ?_ | refine x_gcd ?_ | refine x_for ?_ | refine x_iL ?_ | refine x_iT ?_ | refine x_iR1 ?_ | refine x_iR2 ?_ | refine x_lc ?_ | refine x_bm ?_ | refine x_bm0 ?_ | refine x_sl ?_ | refine x_nopart ?_ | refine x_part ?_ | refine x_some ?_ | refine x_bl ?_))
local macro_rules | `(tactic| walk_at "k9") => `(tactic| repeat (walk_at "k91"))
abbrev s_law_heard : Stmt := topS 51
abbrev N_law_heard : List Str := ["_law_call", "_law_told", "error_so"]
theorem sc_law_heard : FnScope N_law_heard ["_law_call"] (defScope s_law_heard) := ⟨rfl, rfl, rfl, by decide +kernel, rfl, by decide +kernel, by decide +kernel⟩
/-- what the written part says of the errors' classes -/
structure HX (P : Program) (K : PySem.W.Frag) (mg : Str → Option Value) (CS CP CN CE : Addr) : Prop where
  xs : ExV P K mg "BadStep" CS
  xp : ExV P K mg "BadParameter" CP
  xn : ExN P K mg "NoRow" CN
  ge : mg "StepError" = some (.ref CE)
  ss : PySem.W.exmOne K (.ref CS) (.ref CS) = some true
  ps : PySem.W.exmOne K (.ref CP) (.ref CS) = some false
  pp : PySem.W.exmOne K (.ref CP) (.ref CP) = some true
  ns : PySem.W.exmOne K (.ref CN) (.ref CS) = some false
  np : PySem.W.exmOne K (.ref CN) (.ref CP) = some false
  nn : PySem.W.exmOne K (.ref CN) (.ref CN) = some true
  is : PySem.W.kitOne K (.ref CS) (.ref CE) = some true
  ip : PySem.W.kitOne K (.ref CP) (.ref CE) = some true
  in_ : PySem.W.kitOne K (.ref CN) (.ref CE) = some true
  es : ExcC K CS
  ep : ExcC K CP
  en : ExcC K CN
def TupTo (H : Hp) (Q : VK) (xs : List V) : Prop := ∀ t, H t = none → Q (.ref t) (upd H t (.tup xs))
/-- what _law_heard makes of what it calls -/
def EH (CS CP CN : Addr) (Q : VK) : XK := fun cls d H' => (cls = .ref CS ∧ ∃ dd v, d = some dd ∧ H' dd = some (.xd [(("value" : Str), v)]) ∧ TupTo H' Q [.str "step", v, .bl true]) ∨ (cls = .ref CP ∧ ∃ dd v, d = some dd ∧ H' dd = some (.xd [(("value" : Str), v)]) ∧ TupTo H' Q [.str "parameter", v, .bl true]) ∨
    (cls = .ref CN ∧ d = none ∧ TupTo H' Q [.str "none", .bl true])
def TTH (CS CP CN : Addr) : (XK → Hp → VK → Prop) → Hp → VK → Prop := fun tl H Q => ∀ R : VK, (∀ v H', TupTo H' Q [.str "is", v] → R v H') → tl (EH CS CP CN Q) H R
theorem takes_len {X : Cx} {W : WX} (t : Takes X W) : Takes X (fun c d σ H => σ.length = X.N.length → W c d σ H) := fun u s' ⟨a, B, sI, pins, σ, H, cls, d, e, I, nb, up, sky, na, os, ag, w⟩ => t u s' ⟨a, B, sI, pins, σ, H, cls, d, e, I, nb, up, sky, na, os, ag, w I.len⟩
theorem three {σ : L2.St} (h : σ.length = 3) : ∃ x y z, σ = [x, y, z] := by
  match σ, h with
  | [x, y, z], _ => exact ⟨x, y, z, rfl⟩
theorem x_byV {C a : Addr} {cls : Value} {d : Option Addr} {te : TE} {σ : L2.St} {H : Hp} {Q : VK} (k : te σ H fun x H1 => x = .ref a ∧ cls = .ref C ∧ ∃ (dd : Addr) (v : V), d = some dd ∧ H1 dd = some (.xd [(("value" : Str), v)]) ∧ Q v H1) : tByV C a cls d te σ H Q := k
open LamX in
theorem heard_gives {X : Cx} {CS CP CN CE g : Addr} {cdg : Value} {q : Str} (T : Wd X.mg) (hx : HX X.prog X.K X.mg CS CP CN CE) :
    GivesTo X N_law_heard "_law_heard" (defScope s_law_heard) g cdg (defBody s_law_heard) "_law_call" q (TTH CS CP CN) := by
  intro f c' s H Q tl act hc h
  have S := sc_law_heard
  refine ⟨_, pss_cons (ps_set (i := 1) S.nd rfl (Or.inl rfl) pe_non) (pss_cons (ps_try_all (i := 2)
      (tb := fun W D σ H => ∃ Ech : XK, (∀ cls d σ' H', Ech cls d H' → σ'.length = 3 → W cls d σ' H') ∧ tAsg (tTup (tCons (tC (.str "is")) (tCons (fun σZ HZ Q => σZ[0]? = some (some (.ref f)) ∧ HZ c' = some (CodeO c' q) ∧ tl Ech HZ Q) tNil))) (gName 1) D σ H)
      rfl rfl S.nd rfl rfl (fun W pn xe tk _ => ?_)
      (.cons (c := .ref CS) ⟨rfl, by decide, .inl hx.xs.g⟩ (fun a oe cls d pn hz hf => pss_one (ps_set (i := 1) S.nd rfl (Or.inl rfl) (pe_tup (pa_cons pe_str (pa_cons (pe_byV hx.xs.b hz hf (pv 2)) (pa_cons (pe_callB (call_isX hx.es hz hf) (by rfl) T.isinstance (by decide +kernel) (pa_cons (pv 2) (pa_cons (pe_glob (v := .ref CE) (by rfl) hx.ge rfl) pa_nil))) pa_nil))))))
      (.cons (c := .ref CP) ⟨rfl, by decide, .inl hx.xp.g⟩ (fun a oe cls d pn hz hf => pss_one (ps_set (i := 1) S.nd rfl (Or.inl rfl) (pe_tup (pa_cons pe_str (pa_cons (pe_byV hx.xp.b hz hf (pv 2)) (pa_cons (pe_callB (call_isX hx.ep hz hf) (by rfl) T.isinstance (by decide +kernel) (pa_cons (pv 2) (pa_cons (pe_glob (v := .ref CE) (by rfl) hx.ge rfl) pa_nil))) pa_nil))))))
      (.cons (c := .ref CN) ⟨rfl, by decide, .inl hx.xn.g⟩ (fun a oe cls d pn hz hf => pss_one (ps_set (i := 1) S.nd rfl (Or.inl rfl) (pe_tup (pa_cons pe_str (pa_cons (pe_callB (call_isX hx.en hz hf) (by rfl) T.isinstance (by decide +kernel) (pa_cons (pv 2) (pa_cons (pe_glob (v := .ref CE) (by rfl) hx.ge rfl) pa_nil))) pa_nil))))) .nil))))
    (pss_one (ps_ret (pv 1)))), ?_⟩
  · refine ⟨fun pins s' σ H' D I h' => ?_⟩
    obtain ⟨Ech, hW, h3⟩ := h'
    exact PSs.run (pss_one (ps_set (i := 1) S.nd rfl (Or.inl rfl) (pe_tup (pa_cons pe_str (pa_cons (act _ pn xe Ech _ _ (takes_len tk) hW) pa_nil))))) pins s' σ H' D I h3
  walk_at "k9"
  refine ⟨EH CS CP CN Q, fun cls d σ' H' he hl => ?_, ?_⟩
  rotate_left
  · walk_at "k9"
    refine ⟨rfl, hc, ?_⟩
    refine h _ fun v H1 k => ?_
    refine x_nil ?_
    exact ⟨by show 2 ≤ sizeLine; decide, fun p hp => ⟨_, rfl, k p hp⟩⟩
  · obtain ⟨x, y, z, rfl⟩ := three hl
    unfold wAll
    rcases he with ⟨rfl, dd, v, rfl, hd, k⟩ | ⟨rfl, dd, v, rfl, hd, k⟩ | ⟨rfl, rfl, k⟩
    · refine ⟨true, hx.ss, fun _ a ha => ?_, (fun z => by cases z)⟩
      walk_at "k9"
      refine x_byV ?_
      walk_at "k9"
      refine ⟨rfl, rfl, dd, v, rfl, hd, ?_⟩
      walk_at "k9"
      refine ⟨.ref CE, .ref CE, true, rfl, fun u h => h, hx.is, rfl, .inr ⟨dd, _, rfl, hd⟩, ?_⟩
      walk_at "k9"
      exact ⟨by show 3 ≤ sizeLine; decide, fun p hp => ⟨_, rfl, k p hp⟩⟩
    · refine ⟨false, hx.ps, (fun z => by cases z), fun _ => ?_⟩
      unfold wAll
      refine ⟨true, hx.pp, fun _ a ha => ?_, (fun z => by cases z)⟩
      walk_at "k9"
      refine x_byV ?_
      walk_at "k9"
      refine ⟨rfl, rfl, dd, v, rfl, hd, ?_⟩
      walk_at "k9"
      refine ⟨.ref CE, .ref CE, true, rfl, fun u h => h, hx.ip, rfl, .inr ⟨dd, _, rfl, hd⟩, ?_⟩
      walk_at "k9"
      exact ⟨by show 3 ≤ sizeLine; decide, fun p hp => ⟨_, rfl, k p hp⟩⟩
    · refine ⟨false, hx.ns, (fun z => by cases z), fun _ => ?_⟩
      unfold wAll
      refine ⟨false, hx.np, (fun z => by cases z), fun _ => ?_⟩
      unfold wAll
      refine ⟨true, hx.nn, fun _ a ha => ?_, (fun z => by cases z)⟩
      walk_at "k9"
      refine ⟨.ref CE, .ref CE, true, rfl, fun u h => h, hx.in_, rfl, .inl rfl, ?_⟩
      walk_at "k9"
      exact ⟨by show 2 ≤ sizeLine; decide, fun p hp => ⟨_, rfl, k p hp⟩⟩
end K9

set_option Elab.async false
set_option linter.all false
set_option maxRecDepth 100000
set_option maxHeartbeats 4000000
namespace K9
open PySem PySem.Spec PyProof.Rows L2
local macro_rules | `(tactic| walk_at "k9mem") => `(tactic| first | with_reducible assumption | exact upd_same | ((with_reducible refine mem_upd (by with_reducible assumption) ?_); walk_at "k9mem") | ((with_reducible refine mem_same (by with_reducible assumption) ?_); walk_at "k9mem"))
local macro_rules | `(tactic| walk_at "k91") => `(tactic| with_reducible (first | refine x_seq ?_ | refine x_asg ?_ | refine x_name ?_ | refine x_ret ?_ | refine x_drop ?_ | refine x_next ?_ | refine x_ifs ?_ | refine x_if ?_ | refine x_test ?_ | refine x_tb ?_ | refine x_tnot ?_ | refine x_tand ?_ | refine x_tor ?_ | refine x_andv ?_ | refine x_orv ?_ | refine x_notv ?_ | refine x_var rfl ?_ | refine x_c ?_ | refine x_op ?_ | refine x_un ?_ | refine x_i0 ?_ | refine x_par ?_ | refine x_two ?_ | refine x_eqI ?_ | refine x_neI ?_ | refine x_u ?_ | refine x_call ?_ | refine x_cb ?_ | refine x_cons ?_ | refine x_nil ?_ | refine x_tup ?_ | refine x_lst ?_ | refine x_gcd ?_ | refine x_for ?_ | refine x_iL ?_ | refine x_iT ?_ | refine x_iR1 ?_ | refine x_iR2 ?_ | refine x_lc ?_ | refine x_bm ?_ | refine x_bm0 ?_ | refine x_sl ?_ | refine x_nopart ?_ | refine x_part ?_ | refine x_some ?_ | refine x_bl ?_))
local macro_rules | `(tactic| walk_at "k9") => `(tactic| repeat (walk_at "k91"))
/-! a def that is run where no repr is under way -/
structure FnG (P : Program) (w : World) (K : PySem.W.Frag) (mg : Str → Option Value) (base : Heap) (k : Nat) (f : Addr) (fd : FuncData) (ps : List Str) (sp : Sp) : Prop where
  len : ∀ vs H Q E, sp vs H Q E → vs.length = ps.length
  run : ∀ (A : Around) (outer : List Env) (s : Shared) (H : Hp) (args : Args) (us : List Value) (vs : List V) (Q : VK) (E : XK), A.guards = some [] → Room k A → Env0 P w K mg base A outer s H → BindsTo s fd args (ps.zip us) → Vals vs us → sp vs H Q E →
    codeAny (model P w) A (.call (.ref f) args) (CR CX0 outer P w H s Q E) s
structure KnG (P : Program) (w : World) (K : PySem.W.Frag) (mg : Str → Option Value) (base : Heap) (k : Nat) (x : Str) (ps : List Str) (sp : Sp) : Prop where
  ex : ∃ f fd, FnG P w K mg base k f fd ps sp ∧ mg x = some (.ref f) ∧ PySem.W.keepIn K (.ref f) = true ∧ Binds K fd ps []
section
variable {P : Program} {w : World} {K : PySem.W.Frag} {mg : Str → Option Value} {base : Heap}
theorem KnG.of {x : Str} {st : Stmt} {N ps : List Str} {k : Nat} {sp : Sp} (D : DefAt K mg x st) (S : FnScope N ps (defScope st)) (len : ∀ vs H Q E, sp vs H Q E → vs.length = ps.length)
    (bnd : ∀ (kV doc pm : Value) (an : Option Addr) (cdv ct : Value) (us : List Value), us.length = ps.length → bindArgs (PySem.W.fnOf x x (defArgs st) (defBody st) (defScope st) .none kV doc pm an cdv ct) ⟨us, []⟩ = pure (ps.zip us))
    (body : ∀ (oc : Value) (od : Option Addr) (dV kV doc pm : Value) (an : Option Addr) (cdv ct : Value) (osl : Array (Option Value)), K.lookup (He.ga K x) = some ⟨oc, od, .func (PySem.W.fnOf x x (defArgs st) (defBody st) (defScope st) dV kV doc pm an cdv ct), osl⟩ →
      ∀ (A : Around) (outer : List Env) (s : Shared) (H : Hp) (vs : List V) (Q : VK) (E : XK), A.guards = some [] → Room k (A.deeper (envOfC x (defScope st) s.heap.objs.size (He.ga K x) cdv)) → sp vs H Q E →
      ∃ t, PSs (cxOf CX0 P w K mg base N x (defScope st) (He.ga K x) cdv A outer s H E) (defBody st) t ∧ t { nx := fun _ H' => Q .non H', rt := Q } (start N vs) H) : KnG P w K mg base (k + 1) x ps sp := by
  obtain ⟨⟨fd, F⟩, hm⟩ := D
  have Fb := F.bindsN bnd
  obtain ⟨oc, od, dV, kV, doc, pm, an, cdv, ct, osl, rfl, lk, hcd, _, _⟩ := F.ex
  refine ⟨_, _, ⟨len, fun A outer s H args us vs Q E hg hr e0 hb r hsp => ?_⟩, hm, F.kp, Fb⟩
  exact LamX.run_ofS lk hcd S hr e0 hb r (len _ _ _ _ hsp) fun hr' => body oc od dV kV doc pm an cdv ct osl lk A outer s H vs Q E hg hr' hsp
end
section
variable {X : Cx}
theorem pe_knG {k : Nat} {x : Str} {ps : List Str} {sp : Sp} {p pos : Pos} {e : Expr} {es : List Expr} {t : TA} (h : KnG X.prog X.w X.K X.mg X.base k x ps sp) (hgu : X.A.guards = some []) (hr : Room k X.A) (hg : Gl X x) (ha : PA X (e :: es) t)
    (hdb : (x == ("__debug__" : Str)) = false := by decide) (he : starEach (e :: es) X.env = (false, eval e X.env) :: starEach es X.env := by rfl) (hpl : (backTo pos (starEach es X.env)).any (·.1) = false := by rfl) :
    PE X (.Call (.Name x p) (e :: es) [] pos) (tCall sp [] E0 t) := by
  obtain ⟨f, fd, F, a, b, c⟩ := h.ex
  refine ⟨fun pins s σ H Q I q => ?_⟩
  refine wpAny_Call_Name_kw (ld_glob I hg a ?_ hdb)
  refine PySem.W.callWith_K (h₀ := X.base) I.ok.mod.kin b (thn (ha.run pos pins s σ H _ I q) fun us s1 ⟨vs, H1, I1, r, q1⟩ => ⟨I1.kIn, ?_⟩) he hpl
  have r2 : Vals (vs ++ []) us := by rw [List.append_nil]; exact r
  have hl : us.length = ps.length := by rw [← r2.length]; exact F.len _ _ _ _ q1
  have hb := c s1 us I1.kIn (by rw [List.append_nil]; exact hl)
  rw [List.append_nil] at hb
  refine wpAny_call (codeAny_mono (F.run X.A X.stack s1 H1 ⟨us, []⟩ us (vs ++ []) Q E0 hgu hr I1.env0 hb r2 q1) fun r s' hq => ?_)
  cases r with
  | error e => exact (show False from hq).elim
  | ok fl =>
    cases fl with
    | ret u => exact I1.after hq
    | next => exact False.elim hq
    | brk => exact False.elim hq
    | cont => exact False.elim hq
theorem pe_knG0 {k : Nat} {x : Str} {sp : Sp} {p pos : Pos} (h : KnG X.prog X.w X.K X.mg X.base k x [] sp) (hgu : X.A.guards = some []) (hr : Room k X.A) (hg : Gl X x) (hdb : (x == ("__debug__" : Str)) = false := by decide) :
    PE X (.Call (.Name x p) [] [] pos) (tCall sp [] E0 tNil) := by
  obtain ⟨f, fd, F, a, b, c⟩ := h.ex
  refine ⟨fun pins s σ H Q I q => ?_⟩
  refine wpAny_Call_Name_kw (ld_glob I hg a ?_ hdb)
  refine PySem.W.callWith_K0 I.kIn b ?_
  have hb := c s [] I.kIn rfl
  refine wpAny_call (codeAny_mono (F.run X.A X.stack s H ⟨[], []⟩ [] [] Q E0 hgu hr I.env0 hb .nil q) fun r s' hq => ?_)
  cases r with
  | error e => exact (show False from hq).elim
  | ok fl =>
    cases fl with
    | ret u => exact I.after hq
    | next => exact False.elim hq
    | brk => exact False.elim hq
    | cont => exact False.elim hq
end
/-! repr of data -/
structure OkD (d : PyData) : Prop where
  lay : d.layable0 = true
  show_ : d.showable = true
  short : d.intsShort 13 = true
  nod : d.hasDict = false
  deep : d.depth ≤ 10
def rRep (K : PySem.W.Frag) : List V → Hp → VK → Prop := fun vs H Q => ∃ x d, vs = [x] ∧ Dp K H x d ∧ OkD d ∧ Q (.str d.shown) H
theorem call_rep {X : Cx} (hgu : X.A.guards = some []) (hu : X.A.units + 64 < cLine) : CallR X (.builtin "repr") (rRep X.K) := by
  intro pins s σ H xs us Q I r h
  obtain ⟨x, d, rfl, dp, ok, q⟩ := h
  obtain ⟨u, rfl, ru⟩ := vals1 r
  have hsz := PyData.shown_fits_of_layable0 (B := 13) (by decide) (by decide) ok.lay ok.short
  obtain ⟨as, rd⟩ := Dp.reads I d x u dp ru
  have byref : ∀ a, u = .ref a → wpAny (model X.prog X.w) X.A (call (.builtin "repr") [u]) (EP X pins σ Q) X.xe s := fun a e => by
    subst e
    refine repr_of_reads' rd ok.show_ (fun z => by rw [ok.nod] at z; cases z) hgu (by have := ok.deep; omega) (fun _ _ z => z) (fun h' u' tk k => ?_) hsz
    exact ⟨.str d.shown, H, I.kept (t' := tk) k, ⟨_, rfl⟩, q⟩
  cases dp with
  | non => cases ru; exact PySem.P.repr_of_none ⟨.str _, H, I.tok _, ⟨_, rfl⟩, q⟩
  | bl b => cases ru; exact PySem.P.repr_of_bool ⟨.str _, H, I.tok _, ⟨_, rfl⟩, by
      have e : PyData.shown (.bool b) = (if b = true then "True" else "False" : String) := by cases b <;> rfl
      first | exact q | (rw [e] at q; exact q)⟩
  | int i =>
    obtain ⟨t, rfl⟩ := ru
    have hs := ok.show_
    refine PySem.P.repr_of_int (of_decide_eq_true (by simpa [PyData.showable] using hs)) ⟨.str _, H, I.tok _, ⟨_, rfl⟩, q⟩
  | str z =>
    obtain ⟨t, rfl⟩ := ru
    exact PySem.P.repr_of_str ⟨.str _, H, I.tok _, ⟨_, rfl⟩, q⟩ hsz
  | lst h1 h2 => exact byref _ ru
  | tup h1 h2 => exact byref _ ru
def sp_law_like (K : PySem.W.Frag) : Sp := fun vs H Q _ => ∃ x y d, vs = [x, y] ∧ Dp K H x d ∧ Dp K H y d ∧ OkD d ∧ Q (.bl true) H
section
variable {P : Program} {w : World} {K : PySem.W.Frag} {mg : Str → Option Value} {base : Heap}
abbrev s_law_like : Stmt := topS 52
abbrev N_law_like : List Str := ["_law_got", "_law_due"]
theorem sc_law_like : FnScope N_law_like ["_law_got", "_law_due"] (defScope s_law_like) := ⟨rfl, rfl, rfl, by decide +kernel, rfl, by decide +kernel, by decide +kernel⟩
theorem kn_law_like (D : DefAt K mg "_law_like" s_law_like) (T : Wd mg) : KnG P w K mg base 1 "_law_like" ["_law_got", "_law_due"] (sp_law_like K) := by
  have S := sc_law_like
  refine KnG.of D S (fun vs H Q E h => ?_) (fun _ _ _ _ _ _ us hl => match us, hl with | [_, _], _ => rfl) fun oc od dV kV doc pm an cdv ct osl lk A outer s H vs Q E hgu hr h => ?_
  · obtain ⟨_, _, _, rfl, _⟩ := h; rfl
  obtain ⟨x, y, d, rfl, dx, dy, ok, q⟩ := h
  refine ⟨_, PSs.nox (pss_one (ps_ret (pe_cmpR op_eq (pe_callB (call_rep hgu hr.units) (by rfl) T.repr (by decide +kernel) (pa_cons (pv 0) pa_nil)) (pe_callB (call_rep hgu hr.units) (by rfl) T.repr (by decide +kernel) (pa_cons (pv 1) pa_nil)) (nomark _)))), ?_⟩
  walk_at "k9"
  refine ⟨x, d, rfl, dx, ok, ?_⟩
  walk_at "k9"
  refine ⟨y, d, rfl, dy, ok, ?_⟩
  refine ⟨rfl, ?_⟩
  rw [decide_eq_true rfl]
  exact q
end
end K9

set_option Elab.async false
set_option linter.all false
set_option maxRecDepth 100000
set_option maxHeartbeats 4000000
namespace K9
open PySem PySem.Spec PyProof.Rows L2
local macro_rules | `(tactic| walk_at "k9mem") => `(tactic| first | with_reducible assumption | exact upd_same | ((with_reducible refine mem_upd (by with_reducible assumption) ?_); walk_at "k9mem") | ((with_reducible refine mem_same (by with_reducible assumption) ?_); walk_at "k9mem"))
local macro_rules | `(tactic| walk_at "k91") => `(tactic| with_reducible (first | refine x_seq ?_ | refine x_asg ?_ | refine x_name ?_ | refine x_ret ?_ | refine x_drop ?_ | refine x_next ?_ | refine x_ifs ?_ | refine x_if ?_ | refine x_test ?_ | refine x_tb ?_ | refine x_tnot ?_ | refine x_tand ?_ | refine x_tor ?_ | refine x_andv ?_ | refine x_orv ?_ | refine x_notv ?_ | refine x_var rfl ?_ | refine x_c ?_ | refine x_op ?_ | refine x_un ?_ | refine x_i0 ?_ | refine x_par ?_ | refine x_two ?_ | refine x_eqI ?_ | refine x_neI ?_ | refine x_u ?_ | refine x_call ?_ | refine x_cb ?_ | refine x_cons ?_ | refine x_nil ?_ | refine x_tup ?_ | refine x_lst ?_ | refine x_gcd ?_ | refine x_for ?_ | refine x_iL ?_ | refine x_iT ?_ | refine x_iR1 ?_ | refine x_iR2 ?_ | refine x_lc ?_ | refine x_bm ?_ | refine x_bm0 ?_ | refine x_sl ?_ | refine x_nopart ?_ | refine x_part ?_ | refine x_some ?_ | refine x_bl ?_))
local macro_rules | `(tactic| walk_at "k9") => `(tactic| repeat (walk_at "k91"))
/-- sizes that the law reaches -/
structure TW (qs : List Rat) : Prop where
  len : qs.length ∈ ([2, 5, 7, 9, 10] : List Nat)
  mb : ∀ q ∈ qs, Mb 6 502761 q
  last : K9M.lastQ qs ≠ 0
theorem Told.tw {qs : List Rat} (t : Told qs) : TW qs := ⟨by rcases t.len with e | e | e | e <;> rw [e] <;> decide, t.mb, t.last⟩
def fits (L d : Nat) : Bool := decide (3 + 34 * (d - 1) * K9M.tot d L L ≤ 4000) && decide (1 + (4 + 34 * (d - 1) * K9M.tot d L L) * K9M.cnt d L L ≤ 9000) && decide (20 + K9M.tot d L L * (80 * (d - 1) + 2) ≤ 1000000) && decide (1 ≤ (L - 1) / d) && decide ((L - 1) / d ≤ 9) && decide (d ≤ 9)
theorem fits_all : ∀ L ∈ ([2, 5, 7, 9, 10] : List Nat), ∀ d, d < 10 → 1 ≤ d → d ≤ L - 1 → (L - 1) % d = 0 → fits L d = true := by decide +kernel
theorem TW.le {qs : List Rat} (t : TW qs) : 2 ≤ qs.length ∧ qs.length ≤ 10 := by
  have h := t.len
  simp only [List.mem_cons, List.not_mem_nil, or_false] at h
  omega
theorem TW.ne {qs : List Rat} (t : TW qs) : qs ≠ [] := fun z => by have := t.le; rw [z] at this; simp at this
theorem TW.tr {qs : List Rat} (t : TW qs) : K9M.Tr qs := fun x hx => by
  rw [List.getLast?_eq_getElem?, K9M.lastQ_get t.ne] at hx
  cases hx
  exact t.last
theorem TW.sc {qs : List Rat} (t : TW qs) : K9M.SC 20 6 qs := fun q hq => (t.mb q hq).bd (by decide)
theorem TW.stp {qs : List Rat} (t : TW qs) : Stp qs := by
  have h := t.le
  refine ⟨h.1, by omega, fun q hq => ?_, t.last⟩
  have h1 := (t.sc q hq).num_lt (by decide)
  have h2 := (t.sc q hq).den_le (by decide)
  exact ⟨Nat.le_trans (Nat.le_of_lt h1) (by decide), by have : (6 : Nat) ≤ 10 ^ 60 := by decide
                                                        omega⟩
theorem TW.scE {qs : List Rat} (t : TW qs) : ∃ R D, K9M.SC R D qs ∧ 0 < D ∧ R ≤ 9000 ∧ D.natAbs < 2 ^ 4500 := ⟨20, 6, t.sc, by decide, by decide, Nat.lt_of_lt_of_le (by decide : (6 : Int).natAbs < 2 ^ 3) (Nat.pow_le_pow_right (by decide) (by decide))⟩
theorem TW.wz {qs : List Rat} (t : TW qs) {d : Nat} (dv : Dvs qs d) : WZ qs d := by
  have hl := t.le
  have ft := fits_all qs.length t.len d (by have := dv.2.1; omega) dv.1 dv.2.1 dv.2.2
  unfold fits at ft
  simp only [Bool.and_eq_true, decide_eq_true_iff] at ft
  obtain ⟨⟨⟨⟨⟨f1, f2⟩, f3⟩, f4⟩, f5⟩, f6⟩ := ft
  obtain ⟨zl, el, bl⟩ := t.mb _ (coef_mem (i := qs.length - 1) (by omega))
  have el' : K9M.lastQ qs * ((6 : Int) : Rat) = (zl : Rat) := el
  have zl0 : zl ≠ 0 := fun z => by
    rw [z, Rat.intCast_zero] at el'
    rcases Rat.mul_eq_zero.mp el' with e | e
    · exact t.last e
    · exact absurd e (by decide)
  have hh : 0 < ((zl.natAbs : Nat) : Int) := by omega
  have cz : CZ qs d ((zl.natAbs : Nat) : Int) ((((qs.length - 1) / d : Nat) : Int) * 840 * ((zl.natAbs : Nat) : Int)) := by
    refine ⟨dv.1, f6, f4, f5, rfl, ?_, fun b h1 h2 => ?_, hh⟩
    · rw [Int.natAbs_mul, Int.natAbs_mul, Int.natAbs_natCast, Int.natAbs_natCast]
      refine Nat.le_trans (Nat.mul_le_mul (Nat.mul_le_mul f5 (Nat.le_refl _)) bl) (by decide)
    · have hb : qs.length - 1 - b < qs.length := by omega
      obtain ⟨zc, ec, bc⟩ := t.mb _ (coef_mem hb)
      have e : K9M.itm qs b = (zc : Rat) / (zl : Rat) := by
        unfold K9M.itm
        have a1 := K9M.cast_ne zl0
        rw [← ec, ← el'] at *
        have := t.last
        have h6 : (((6 : Int)) : Rat) ≠ 0 := by decide
        grind
      rw [e]
      exact K9M.Bd.div (Nat.lt_of_le_of_lt bc (by decide)) zl0
  have ul := K9M.candU_len (P := qs) dv.1
  have um := K9M.candU_last (P := qs) dv.1
  have pw := K9M.pow_nat cz.hE2 (d - 1)
  have usc := K9M.candU_SC cz.hd cz.hd9 cz.hr cz.hr9 cz.hE cz.hE2 cz.hit
  have uz : UZ (K9M.candU qs d) (80 * (d - 1) + 1) (34 * (d - 1)) (80 * (d - 1) + 1) (((((qs.length - 1) / d : Nat) : Int) * 840 * ((zl.natAbs : Nat) : Int)) ^ (d - 1)) :=
    ⟨um, by rw [ul]; have := dv.1; omega, usc, Int.pow_pos cz.E0, pw, by omega, Nat.le_refl _, by rw [ul]; omega⟩
  generalize ((((qs.length - 1) / d : Nat) : Int) * 840 * ((zl.natAbs : Nat) : Int)) = E at *
  have ud : (K9M.candU qs d).length - 1 = d := by rw [ul]; omega
  have big : ((6 : Int) * (E ^ (d - 1)) ^ K9M.tot d qs.length qs.length).natAbs < 2 ^ (4 + 34 * (d - 1) * K9M.tot d qs.length qs.length) := by
    rw [Int.natAbs_mul]
    have h1 := K9M.pow_nat (B := E ^ (d - 1)) (b := 34 * (d - 1)) pw (K9M.tot d qs.length qs.length)
    have h2 : (6 : Int).natAbs * ((E ^ (d - 1)) ^ K9M.tot d qs.length qs.length).natAbs ≤ 8 * 2 ^ (34 * (d - 1) * K9M.tot d qs.length qs.length) := Nat.mul_le_mul (by decide) h1
    have h3 : 2 ^ (4 + 34 * (d - 1) * K9M.tot d qs.length qs.length) = 16 * 2 ^ (34 * (d - 1) * K9M.tot d qs.length qs.length) := by rw [Nat.pow_add]
    have h4 := Nat.two_pow_pos (34 * (d - 1) * K9M.tot d qs.length qs.length)
    omega
  have rc := K9M.rems_SC uz.u2 uz.m uz.hU uz.hB uz.bc uz.sc qs.length 20 6 qs t.sc
  rw [ud] at rc
  refine ⟨t.tr, t.ne, by omega, ⟨_, _, cz⟩, t.scE, ⟨_, _, _, _, uz, qs.length, 20, 6, t.sc, by decide, Nat.le_refl _, ?_, ?_⟩, ⟨4 + 34 * (d - 1) * K9M.tot d qs.length qs.length, 20 + K9M.tot d qs.length qs.length * (80 * (d - 1) + 1 + 1), 6 * (E ^ (d - 1)) ^ K9M.tot d qs.length qs.length, rc.1, Int.mul_pos (by decide) (Int.pow_pos uz.hB0), big, f3, by omega, ?_⟩⟩
  · rw [ud]; exact f3
  · rw [ud]
    exact Nat.lt_of_lt_of_le big (Nat.pow_le_pow_right (by decide) (by omega))
  · have h1 : (K9M.remsQ (K9M.candU qs d) qs).length ≤ K9M.cnt d qs.length qs.length := rc.2
    exact Nat.le_trans (Nat.add_le_add_left (Nat.mul_le_mul (Nat.le_refl _) h1) _) f2
end K9

set_option Elab.async false
set_option linter.all false
set_option maxRecDepth 100000
set_option maxHeartbeats 4000000
namespace K9
open PySem PySem.Spec PyProof.Rows L2
local macro_rules | `(tactic| walk_at "k9mem") => `(tactic| first | with_reducible assumption | exact upd_same | ((with_reducible refine mem_upd (by with_reducible assumption) ?_); walk_at "k9mem") | ((with_reducible refine mem_same (by with_reducible assumption) ?_); walk_at "k9mem"))
local macro_rules | `(tactic| walk_at "k91") => `(tactic| with_reducible (first | refine x_seq ?_ | refine x_asg ?_ | refine x_name ?_ | refine x_ret ?_ | refine x_drop ?_ | refine x_next ?_ | refine x_ifs ?_ | refine x_if ?_ | refine x_test ?_ | refine x_tb ?_ | refine x_tnot ?_ | refine x_tand ?_ | refine x_tor ?_ | refine x_andv ?_ | refine x_orv ?_ | refine x_notv ?_ | refine x_var rfl ?_ | refine x_c ?_ | refine x_op ?_ | refine x_un ?_ | refine x_i0 ?_ | refine x_par ?_ | refine x_two ?_ | refine x_eqI ?_ | refine x_neI ?_ | refine x_u ?_ | refine x_call ?_ | refine x_cb ?_ | refine x_cons ?_ | refine x_nil ?_ | refine x_tup ?_ | refine x_lst ?_ | refine x_gcd ?_ | refine x_for ?_ | refine x_iL ?_ | refine x_iT ?_ | refine x_iR1 ?_ | refine x_iR2 ?_ | refine x_lc ?_ | refine x_bm ?_ | refine x_bm0 ?_ | refine x_sl ?_ | refine x_nopart ?_ | refine x_part ?_ | refine x_some ?_ | refine x_bl ?_))
local macro_rules | `(tactic| walk_at "k9") => `(tactic| repeat (walk_at "k91"))
/-- the last pair of the first power -/
def firstOf : List (Nat × Nat) → Option (Nat × Nat)
  | [] => none
  | p :: ps => ((p :: ps).filter fun x => decide (x.1 = p.1)).getLast?
theorem rowF_fst (i : Nat) (l : List Rat) (j : Nat) : ∀ p ∈ rowF i j l, p.1 = i := fun ⟨a, b⟩ h => ((rowF_mem i a b l j).mp h).1
theorem pairsF_ge (rs : List (List Rat)) (i : Nat) : ∀ p ∈ pairsF i rs, i ≤ p.1 := fun ⟨a, b⟩ h => ((pairsF_mem a b rs i).mp h).1
theorem rowF_short (i : Nat) {r : List Rat} (h : r.length ≤ 1) : rowF i 0 r = [] := by
  match r, h with
  | [], _ => rfl
  | [x], _ => rfl
theorem rowF_long (i : Nat) {r : List Rat} (h : 1 < r.length) (t : K9M.Tr r) : ∃ L, rowF i 0 r = L ++ [(i, r.length - 1)] := by
  obtain ⟨r0, x, rfl⟩ := snoc_of (l := r) (fun z => by rw [z] at h; simp at h)
  have hx : x ≠ 0 := t x (by simp)
  have hl : (r0 ++ [x]).length = r0.length + 1 := by simp
  refine ⟨rowF i 0 r0, ?_⟩
  rw [rowF_snoc, if_pos ⟨by omega, hx⟩, hl, Nat.zero_add, Nat.add_sub_cancel]
theorem firstOf_brk : ∀ (rs : List (List Rat)) (k : Nat), (∀ r ∈ rs, K9M.Tr r) → firstOf (pairsF k rs) = brkF k rs
  | [], _, _ => rfl
  | r :: rs, k, ht => by
    have ih := firstOf_brk rs (k + 1) fun q hq => ht q (List.mem_cons_of_mem _ hq)
    unfold pairsF brkF
    by_cases h : 1 < r.length
    · rw [if_pos h]
      obtain ⟨L, eL⟩ := rowF_long k h (ht r List.mem_cons_self)
      have hf : ∀ q : Nat × Nat, q.1 = k → (rowF k 0 r ++ pairsF (k + 1) rs).filter (fun x => decide (x.1 = q.1)) = rowF k 0 r := fun q hq => by
        rw [List.filter_append, List.filter_eq_self.mpr (fun p hp => by rw [rowF_fst k r 0 p hp, hq]; simp), List.filter_eq_nil_iff.mpr (fun p hp => by have := pairsF_ge rs (k + 1) p hp; simp; omega), List.append_nil]
      cases hc : rowF k 0 r ++ pairsF (k + 1) rs with
      | nil => rw [eL] at hc; simp at hc
      | cons p ps =>
        have hp : p.1 = k := by
          have : p ∈ rowF k 0 r := by
            cases h2 : rowF k 0 r with
            | nil => rw [eL] at h2; simp at h2
            | cons p' ps' => rw [h2] at hc; cases hc; exact List.mem_cons_self
          exact rowF_fst k r 0 p this
        show ((p :: ps).filter fun x => decide (x.1 = p.1)).getLast? = _
        rw [← hc, hf p hp, eL]
        simp
    · rw [if_neg h, rowF_short k (by omega), List.nil_append]
      exact ih
theorem brk_ex : ∀ (rs : List (List Rat)) (k : Nat), brkF k rs = none ↔ ¬ ∃ r ∈ rs, 1 < r.length
  | [], _ => by simp [brkF]
  | r :: rs, k => by
    have ih := brk_ex rs (k + 1)
    unfold brkF
    by_cases h : 1 < r.length
    · rw [if_pos h]
      constructor
      · intro z; cases z
      · intro z; exact absurd ⟨r, List.mem_cons_self, h⟩ z
    · rw [if_neg h, ih]
      constructor
      · rintro z ⟨q, hq, hl⟩
        rcases List.mem_cons.mp hq with e | e
        · rw [e] at hl; exact h hl
        · exact z ⟨q, e, hl⟩
      · rintro z ⟨q, hq, hl⟩
        exact z ⟨q, List.mem_cons_of_mem _ hq, hl⟩
theorem brk_lt : ∀ (rs : List (List Rat)) (k i j : Nat), brkF k rs = some (i, j) → k ≤ i ∧ i < k + rs.length ∧ ∃ r ∈ rs, j = r.length - 1
  | [], _, _, _, h => by cases h
  | r :: rs, k, i, j, h => by
    unfold brkF at h
    split at h
    · cases h
      exact ⟨Nat.le_refl _, by rw [List.length_cons]; omega, r, List.mem_cons_self, rfl⟩
    · obtain ⟨h1, h2, q, hq, e⟩ := brk_lt rs (k + 1) i j h
      exact ⟨by omega, by rw [List.length_cons]; omega, q, List.mem_cons_of_mem _ hq, e⟩
/-- what the tellings are as data -/
def pD (p : Nat × Nat) : PyData := .tuple [.int (p.1 : Nat), .int (p.2 : Nat)]
def okB (d : PyData) : Bool := d.layable0 && (d.showable && (d.intsShort 13 && (!d.hasDict && decide (d.depth ≤ 10))))
theorem okB_ok {d : PyData} (h : okB d = true) : OkD d := by
  unfold okB at h
  simp only [Bool.and_eq_true, Bool.not_eq_true', decide_eq_true_iff] at h
  exact ⟨h.1, h.2.1, h.2.2.1, h.2.2.2.1, h.2.2.2.2⟩
theorem ok_is : ∀ i, i < 16 → ∀ j, j < 16 → okB (.tuple [.str "is", pD (i, j)]) = true := by decide +kernel
theorem ok_none : okB (.tuple [.str "none", .bool true]) = true := by decide +kernel
theorem ok_s1 : okB (.str "is") = true := by decide +kernel
theorem ok_s2 : okB (.str "none") = true := by decide +kernel
theorem ok_b : ∀ b, okB (.bool b) = true := by decide +kernel
/-- whether a pair stands in the list of pairs -/
theorem eqv_pD (p : Nat × Nat) (i j : Int) : PyData.eqv (pD p) (.tuple [.int i, .int j]) = decide ((p.1 : Int) = i ∧ (p.2 : Int) = j) := by
  unfold pD
  simp only [PyData.eqv, PyData.eqvAll, Bool.and_true]
  rw [Bool.eq_iff_iff]
  simp
theorem any_pD (ps : List (Nat × Nat)) (i j : Int) : ((ps.map pD).any fun z => PyData.eqv z (.tuple [.int i, .int j])) = decide (0 ≤ i ∧ 0 ≤ j ∧ (i.toNat, j.toNat) ∈ ps) := by
  rw [Bool.eq_iff_iff, decide_eq_true_iff, List.any_map, List.any_eq_true]
  constructor
  · rintro ⟨⟨a, b⟩, hm, e⟩
    have e2 : PyData.eqv (pD (a, b)) (.tuple [.int i, .int j]) = true := e
    rw [eqv_pD, decide_eq_true_iff] at e2
    obtain ⟨e3, e4⟩ := e2
    dsimp only at e3 e4
    refine ⟨by omega, by omega, ?_⟩
    rw [show i.toNat = a by omega, show j.toNat = b by omega]
    exact hm
  · rintro ⟨h1, h2, hm⟩
    refine ⟨_, hm, ?_⟩
    show PyData.eqv (pD (i.toNat, j.toNat)) (.tuple [.int i, .int j]) = true
    rw [eqv_pD, decide_eq_true_iff]
    exact ⟨by show ((i.toNat : Nat) : Int) = i; omega, by show ((j.toNat : Nat) : Int) = j; omega⟩
theorem dp_pairs {K : PySem.W.Frag} {H : Hp} : ∀ {vs : List V} {ps : List (Nat × Nat)}, Rps H vs ps → DpAll K H vs (ps.map pD)
  | [], ps, h => by
    have : ps = [] := List.length_eq_zero_iff.mp h.1.symm
    subst this
    exact .nil
  | v :: vs, [], h => by have := h.1; simp at this
  | v :: vs, q :: qs, h => by
    obtain ⟨a, b, t, e, rfl, hb⟩ := h.2 0 v rfl
    cases e
    exact .cons (dp_num hb) (dp_pairs ⟨by simpa using h.1, fun i x e => by simpa using h.2 (i + 1) x (by simpa using e)⟩)
theorem lay_pairs : ∀ qs : List (Nat × Nat), PyData.canLayAll0 (qs.map pD) = true
  | [] => by simp [PyData.canLayAll0]
  | q :: qs => by
    rw [List.map_cons]
    simp [PyData.canLayAll0, PyData.canLay0, pD, lay_pairs qs]
theorem deep_pairs : ∀ qs : List (Nat × Nat), PyData.depthAll (qs.map pD) ≤ 1
  | [] => by simp [PyData.depthAll]
  | q :: qs => by
    have := deep_pairs qs
    rw [List.map_cons]
    simp only [PyData.depthAll, PyData.depth, pD]
    omega
theorem shaped_pairs (qs : List (Nat × Nat)) : SeqAt.shaped (.list (qs.map pD)) = true := by
  have h1 := deep_pairs qs
  have h2 : PyData.depth (.list (qs.map pD)) ≤ 64 := by simp only [PyData.depth]; omega
  unfold SeqAt.shaped
  rw [Bool.and_eq_true]
  exact ⟨by simp only [PyData.canLay0]; exact lay_pairs qs, decide_eq_true h2⟩
theorem x_nePs {K : PySem.W.Frag} {H : Hp} {Q : VK} {l t : Addr} {vs : List V} {ps : List (Nat × Nat)} (h : H l = some (.lst vs)) (r : Rps H vs ps) (h2 : H t = some (.lst [])) (k : Q (.bl (decide (ps ≠ []))) H) : rNeD K (.ref l) (.ref t) H Q := by
  refine ⟨_, _, .lst (.of h) (dp_pairs r), .lst (.of h2) .nil, shaped_pairs ps, shaped_pairs [], ?_⟩
  have : (!PyData.eqv (.list (ps.map pD)) (.list [])) = decide (ps ≠ []) := by
    cases ps with
    | nil => rfl
    | cons q qs => simp [PyData.eqv, PyData.eqvAll]
  rw [this]
  exact k
/-- [-1:] -/
theorem cut_last (xs : List V) : cutV xs (some (-1)) none = xs.drop (xs.length - 1) := by
  unfold cutV
  rw [HT.sIx_none]
  have : HT.sIx xs.length 0 (some (-1)) = xs.length - 1 := by
    show (if (-1 : Int) < 0 then ((-1 : Int) + (xs.length : Int)).toNat else min (-1 : Int).toNat xs.length) = _
    rw [if_pos (by decide)]
    omega
  rw [this]
  exact List.take_of_length_le (by rw [List.length_drop]; exact Nat.le_refl _)
theorem Rps.drop {H : Hp} {vs : List V} {ps : List (Nat × Nat)} (h : Rps H vs ps) (k : Nat) : Rps H (vs.drop k) (ps.drop k) := by
  refine ⟨by simp [h.1], fun i x e => ?_⟩
  rw [List.getElem?_drop] at e
  rw [List.getElem?_drop]
  exact h.2 _ x e
theorem drop_last {α : Type} (l : List α) : l.drop (l.length - 1) = l.getLast?.toList := by
  rcases List.eq_nil_or_concat l with h | ⟨r, x, h⟩
  · subst h; rfl
  · rw [List.concat_eq_append] at h
    subst h
    simp
theorem rems_trimmed {U : List Rat} {P : List Rat} (t : K9M.Tr P) : ∀ r ∈ K9M.remsQ U P, K9M.Tr r := K9M.rems_tr _ _ t
end K9

set_option Elab.async false
set_option linter.all false
set_option maxRecDepth 100000
set_option maxHeartbeats 4000000
namespace K9
open PySem PySem.Spec PyProof.Rows L2
local macro_rules | `(tactic| walk_at "k9mem") => `(tactic| first | with_reducible assumption | exact upd_same | ((with_reducible refine mem_upd (by with_reducible assumption) ?_); walk_at "k9mem") | ((with_reducible refine mem_same (by with_reducible assumption) ?_); walk_at "k9mem"))
local macro_rules | `(tactic| walk_at "k91") => `(tactic| with_reducible (first | refine x_seq ?_ | refine x_asg ?_ | refine x_name ?_ | refine x_ret ?_ | refine x_drop ?_ | refine x_next ?_ | refine x_ifs ?_ | refine x_if ?_ | refine x_test ?_ | refine x_tb ?_ | refine x_tnot ?_ | refine x_tand ?_ | refine x_tor ?_ | refine x_andv ?_ | refine x_orv ?_ | refine x_notv ?_ | refine x_var rfl ?_ | refine x_c ?_ | refine x_op ?_ | refine x_un ?_ | refine x_i0 ?_ | refine x_par ?_ | refine x_two ?_ | refine x_eqI ?_ | refine x_neI ?_ | refine x_u ?_ | refine x_call ?_ | refine x_cb ?_ | refine x_cons ?_ | refine x_nil ?_ | refine x_tup ?_ | refine x_lst ?_ | refine x_gcd ?_ | refine x_for ?_ | refine x_iL ?_ | refine x_iT ?_ | refine x_iR1 ?_ | refine x_iR2 ?_ | refine x_lc ?_ | refine x_bm ?_ | refine x_bm0 ?_ | refine x_sl ?_ | refine x_nopart ?_ | refine x_part ?_ | refine x_some ?_ | refine x_bl ?_))
local macro_rules | `(tactic| walk_at "k9") => `(tactic| repeat (walk_at "k91"))
/-- all but the state and the tables of code stands -/
def LS (a l : Addr) (H H' : Hp) : Prop := ∀ b o, b ≠ a → b ≠ l → (∀ ps, o ≠ .tbl ps) → H b = some o → H' b = some o
theorem LS.trans {a l : Addr} {H H' H'' : Hp} (s : LS a l H H') (t : LS a l H' H'') : LS a l H H'' := fun b o h1 h2 h3 e => t b o h1 h2 h3 (s b o h1 h2 h3 e)
theorem LS.of {a l : Addr} {H H' : Hp} (s : LamX.ExtN H H') : LS a l H H' := fun b o _ _ h3 e => s b o e h3
theorem LS.sb {a l : Addr} {H H' : Hp} (s : SB a l H H') : LS a l H H' := fun b o h1 h2 _ e => s b o h1 h2 e
theorem ext_tup {H H' : Hp} (s : LamX.ExtN H H') : TSame H H' := fun b xs e => s b _ e fun ps z => by cases z
theorem RSt.ext {a c l : Addr} {H H' : Hp} {n : Nat} (r : RSt a c l H n) (s : LamX.ExtN H H') : RSt a c l H' n := let ⟨cs, ls, e1, e2, e3, h⟩ := r.ex; ⟨cs, ls, s _ _ e1 (fun ps z => by cases z), s _ _ e2 (fun ps z => by cases z), s _ _ e3 (fun ps z => by cases z), h⟩
theorem tabs_sb {TL : List (Addr × Str)} {a c l : Addr} {H H' : Hp} {n : Nat} (r : RSt a c l H n) (t : LamX.Tabs TL H) (s : SB a l H H') : LamX.Tabs TL H' := fun p hp => by
  obtain ⟨cs, ls, e1, e2, e3, _⟩ := r.ex
  obtain ⟨ps, h1, h2, h3⟩ := t p hp
  refine ⟨ps, s _ _ (fun z => ?_) (fun z => ?_) h1, h2, fun pos cv hc => ?_⟩
  · rw [z, e1] at h1; cases h1
  · rw [z, e3] at h1; cases h1
  · obtain ⟨c', e, hc'⟩ := h3 pos cv hc
    refine ⟨c', e, s _ _ (fun z => ?_) (fun z => ?_) hc'⟩
    · rw [z, e1] at hc'; cases hc'
    · rw [z, e3] at hc'; cases hc'
theorem x_lam {T : List (Addr × Str)} {TT : (XK → Hp → VK → Prop) → Hp → VK → Prop} {t : XK → TE} {σ : L2.St} {H : Hp} {Q : VK} (h : LamX.Tabs T H) (k : ∀ H1, LamX.ExtN H H1 → LamX.Tabs T H1 → TT (fun E H' Q' => t E σ H' Q') H1 Q) : LamX.tLam T TT t σ H Q := ⟨h, k⟩
/-- the code object and the table of a def with lambdas -/
structure TC (K : PySem.W.Frag) (mg : Str → Option Value) (base : Heap) (x : Str) (c P : Addr) : Prop where
  code : ∀ oc od fd osl, K.lookup (He.ga K x) = some ⟨oc, od, .func fd, osl⟩ → fd.code = .ref c
  tb : LamX.TabB base mg c P
def q1 : Str := ("_law_degree_right" : Str) ++ ".<locals>." ++ "<lambda>"
def q2 : Str := ("_law_by_hand" : Str) ++ ".<locals>." ++ "<lambda>"
abbrev tl2 (P1 P2 : Addr) : List (Addr × Str) := [(P1, q1), (P2, q2)]
def sp_law_degree_right (TL : List (Addr × Str)) : Sp := fun vs H Q _ => ∃ (a c l : Addr) (n : Nat) (v : V) (qs : List Rat) (d : Nat), vs = [.ref a, v, .int (d : Nat)] ∧ RSt a c l H n ∧ n < 2 ^ 20 ∧ RS H v qs ∧ TW qs ∧ Dvs qs d ∧ LamX.Tabs TL H ∧
  ∀ H', LS a l H H' → RSt a c l H' (n + 1) → LamX.Tabs TL H' → Q (.bl true) H'
theorem pairsF_len (B : Nat) : ∀ (rs : List (List Rat)) (i : Nat), (∀ r ∈ rs, r.length ≤ B) → (pairsF i rs).length ≤ rs.length * B
  | [], _, _ => by simp [pairsF]
  | r :: rs, i, h => by
    have ih := pairsF_len B rs (i + 1) fun q hq => h q (List.mem_cons_of_mem _ hq)
    have h1 := rowF_len i r 0
    have h2 := h r List.mem_cons_self
    unfold pairsF
    rw [List.length_append, List.length_cons, Nat.succ_mul]
    omega
theorem atI0 (x : V) (xs : List V) : atI (x :: xs) 0 = some x := by
  have : ixN (x :: xs).length 0 = some 0 := by
    unfold ixN
    rw [if_pos (by decide), if_pos (by rw [List.length_cons]; omega)]
    rfl
  unfold atI
  rw [this]
  rfl
theorem x_ifJ {σ : L2.St} {H : Hp} {Q : VK} {c : Bool} {te ue : TE} (R : V → Hp → Prop) (h1 : c = true → (∀ v H', R v H' → Q v H') → te σ H Q) (h2 : c = false → (∀ v H', R v H' → Q v H') → ue σ H Q) (F : ∀ v H', R v H' → Q v H') : if c = true then te σ H Q else ue σ H Q := by
  cases c with
  | true => rw [if_pos rfl]; exact h1 rfl F
  | false => rw [if_neg (by decide)]; exact h2 rfl F
/-- what _law_heard tells of first_break -/
def RDue (H : Hp) (v : V) : Option (Nat × Nat) → Prop
  | none => ∃ t, v = .ref t ∧ H t = some (.tup [.str "none", .bl true])
  | some (i, j) => ∃ t t2, v = .ref t ∧ H t = some (.tup [.str "is", .ref t2]) ∧ H t2 = some (.tup [.int (i : Nat), .int (j : Nat)])
theorem RDue.tsame {H H' : Hp} {v : V} {o : Option (Nat × Nat)} (h : RDue H v o) (s : TSame H H') : RDue H' v o := by
  cases o with
  | none => obtain ⟨t, e, m⟩ := h; exact ⟨t, e, s _ _ m⟩
  | some ij => obtain ⟨t, t2, e, m, m2⟩ := h; exact ⟨t, t2, e, s _ _ m, s _ _ m2⟩
def dueD : Option (Nat × Nat) → PyData
  | none => .tuple [.str "none", .bool true]
  | some p => .tuple [.str "is", pD p]
theorem RDue.dp {K : PySem.W.Frag} {H : Hp} {v : V} {o : Option (Nat × Nat)} (h : RDue H v o) : Dp K H v (dueD o) := by
  cases o with
  | none => obtain ⟨t, rfl, m⟩ := h; exact .tup (.of m) (.cons (.str _) (.cons (.bl _) .nil))
  | some ij => obtain ⟨t, t2, rfl, m, m2⟩ := h; exact .tup (.of m) (.cons (.str _) (.cons (dp_num m2) .nil))
theorem ok_due {o : Option (Nat × Nat)} (h : ∀ i j, o = some (i, j) → i < 16 ∧ j < 16) : OkD (dueD o) := by
  cases o with
  | none => exact okB_ok ok_none
  | some ij => obtain ⟨i, j⟩ := ij; obtain ⟨h1, h2⟩ := h i j rfl; exact okB_ok (ok_is i h1 j h2)
open LamX in
theorem x_heard1 {TL : List (Addr × Str)} {CS CP CN : Addr} {v : V} {qs : List Rat} {d : Nat} {σ : L2.St} {H : Hp} {Q : VK} (tb : Tabs TL H) (hv : RS H v qs) (st : Stp qs) (tw : TW qs) (dv : Dvs qs d) (wz : WZ qs d) (h1 : σ[1]? = some (some v)) (h2 : σ[2]? = some (some (.int (d : Nat))))
    (F : ∀ x H', ExtN H H' → Tabs TL H' → RDue H' x (brkF 0 (K9M.remsQ (K9M.candU qs d) qs)) → Q x H') : tLam TL (TTH CS CP CN) (fun E => tCall (sp_first_break CP CN) [] E (tCons (tVar 1) (tCons (tVar 2) tNil))) σ H Q := by
  refine x_lam tb fun H5 e5 tb5 R hR => ?_
  refine x_call (x_cons (x_var h1 (x_cons (x_var h2 (x_nil ?_)))))
  refine ⟨v, qs, d, rfl, hv.tsame (ext_tup e5), st, tw.scE, tw.tr, fun z => absurd dv z, fun _ => ⟨wz, fun hn => fun H' s' => .inr (.inr ⟨rfl, rfl, fun t ht => ?_⟩), fun i j hs H' v' s' rb => hR _ _ fun t ht => ?_⟩⟩
  · have s2 := same_upd (o := .tup [.str "none", .bl true]) ht
    exact F _ _ (e5.trans (.of fun b o e => s2 _ _ (s' _ _ e))) (tb5.ext fun b o e => s2 _ _ (s' _ _ e)) (by rw [hn]; exact ⟨t, rfl, upd_same⟩)
  · have s2 := same_upd (o := .tup [.str "is", v']) ht
    obtain ⟨t2, rfl, m⟩ := rb
    exact F _ _ (e5.trans (.of fun b o e => s2 _ _ (s' _ _ e))) (tb5.ext fun b o e => s2 _ _ (s' _ _ e)) (by rw [hs]; exact ⟨t, t2, rfl, upd_same, s2 _ _ m⟩)
def wordO (o : Option (Nat × Nat)) : Str := if o.isSome then "none" else "is"
open LamX in
theorem x_heard2 {TL : List (Addr × Str)} {CS CP CN : Addr} {v : V} {qs : List Rat} {d : Nat} {σ : L2.St} {H : Hp} {Q : VK} (tb : Tabs TL H) (hv : RS H v qs) (st : Stp qs) (dv : Dvs qs d) (wz : WZ qs d) (h1 : σ[1]? = some (some v)) (h2 : σ[2]? = some (some (.int (d : Nat))))
    (F : ∀ t xs H', ExtN H H' → Tabs TL H' → H' t = some (.tup (.str (wordO (brkF 0 (K9M.remsQ (K9M.candU qs d) qs))) :: xs)) → Q (.ref t) H') : tLam TL (TTH CS CP CN) (fun E => tCall (sp_first_part CP CN) [] E (tCons (tVar 1) (tCons (tVar 2) tNil))) σ H Q := by
  refine x_lam tb fun H5 e5 tb5 R hR => ?_
  refine x_call (x_cons (x_var h1 (x_cons (x_var h2 (x_nil ?_)))))
  have key := brk_ex (K9M.remsQ (K9M.candU qs d) qs) 0
  refine ⟨v, qs, d, rfl, hv.tsame (ext_tup e5), st, dv, wz, fun hn => fun H' s' => .inr (.inr ⟨rfl, rfl, fun t ht => ?_⟩), fun hs H' v' s' rb => hR _ _ fun t ht => ?_⟩
  · have s2 := same_upd (o := .tup [.str "none", .bl true]) ht
    refine F t [.bl true] _ (e5.trans (.of fun b o e => s2 _ _ (s' _ _ e))) (tb5.ext fun b o e => s2 _ _ (s' _ _ e)) ?_
    cases hb : brkF 0 (K9M.remsQ (K9M.candU qs d) qs) with
    | none => exact absurd hn (key.mp hb)
    | some ij => exact upd_same
  · have s2 := same_upd (o := .tup [.str "is", v']) ht
    refine F t [v'] _ (e5.trans (.of fun b o e => s2 _ _ (s' _ _ e))) (tb5.ext fun b o e => s2 _ _ (s' _ _ e)) ?_
    rw [key.mpr hs]
    exact upd_same
section
variable {P : Program} {w : World} {K : PySem.W.Frag} {mg : Str → Option Value} {base : Heap}
variable {CS CP CN CE : Addr}
abbrev s_law_degree_right : Stmt := topS 54
abbrev N_law_degree_right : List Str := ["_law_state", "_law_told", "_law_size", "_law_pairs_so", "_law_first", "_law_due", "_law_whole", "_law_near", "_law_good", "_law_lot", "_law_odd", "_law_far", "_law_pair"]
theorem sc_law_degree_right : FnScope N_law_degree_right ["_law_state", "_law_told", "_law_size"] (defScope s_law_degree_right) := ⟨rfl, rfl, rfl, by decide +kernel, rfl, by decide +kernel, by decide +kernel⟩
theorem kn_law_degree_right (D : DefAt K mg "_law_degree_right" s_law_degree_right) (T : Wd mg) (hx : HX P K mg CS CP CN CE) (Dh : DefAt K mg "_law_heard" s_law_heard) {cA P1 P2 : Addr} (tc : TC K mg base "_law_degree_right" cA P1) (hP : P1 ≠ P2)
    (k_law_pairs : Kn P w K mg base CX0 6 "_law_pairs" ["_law_told", "_law_size"] sp_law_pairs) (k_law_like : KnG P w K mg base 1 "_law_like" ["_law_got", "_law_due"] (sp_law_like K)) (k_law_of : Kn P w K mg base CX0 3 "_law_of" ["_law_state", "_law_some"] sp_law_of)
    (k_first_break : Kn P w K mg base (L2.CX P w) 6 "first_break" ["step", "degree"] (sp_first_break CP CN)) (k_first_part : Kn P w K mg base (L2.CX P w) 6 "first_part" ["step", "degree"] (sp_first_part CP CN)) (k_is_break : Kn P w K mg base (L2.CX P w) 5 "is_break" ["step", "degree", "value"] (sp_is_break CS CP)) :
    KnG P w K mg base 12 "_law_degree_right" ["_law_state", "_law_told", "_law_size"] (sp_law_degree_right (tl2 P1 P2)) := by
  have S := sc_law_degree_right
  refine KnG.of D S (fun vs H Q E h => ?_) (fun _ _ _ _ _ _ us hl => match us, hl with | [_, _, _], _ => rfl) fun oc od dV kV doc pm an cdv ct osl lk A outer s H vs Q E hgu hr h => ?_
  · obtain ⟨_, _, _, _, _, _, _, rfl, _⟩ := h; rfl
  obtain ⟨a, c, l, n, v, qs, d, rfl, st, hn, hv, tw, dv, tb, k⟩ := h
  obtain ⟨⟨fdh, Fh⟩, gh⟩ := Dh
  have bh := Fh.bindsN (ps := ["_law_call"]) fun _ _ _ _ _ _ us hl => match us, hl with | [_], _ => rfl
  have Fkp := Fh.kp
  obtain ⟨och, odh, dVh, kVh, doch, pmh, anh, cdvh, cth, oslh, rfl, lkh, hcdh, _, _⟩ := Fh.ex
  have TB := tc.tb
  have hcode : cdv = .ref cA := tc.code _ _ _ _ lk
  generalize hTL : tl2 P1 P2 = TL at *
  have hu65 := (show ∀ {B : Around}, Room 11 B → B.units + 65 < cLine from fun r => by have := r.un; omega) hr
  have hmT : (P1, q1) ∈ TL := by rw [← hTL]; exact List.mem_cons_self
  have hu : ∀ p ∈ TL, p.1 = P1 → p.2 = q1 := fun p hp e => by
    rw [← hTL] at hp
    rcases List.mem_cons.mp hp with h | h
    · rw [h]
    · rw [List.mem_singleton.mp h] at e; exact absurd e.symm hP
  refine ⟨_, PSs.nox (pss_cons (ps_set (i := 3) S.nd rfl (Or.inr rfl) (pe_kn k_law_pairs (hr.mono (by decide)) (by rfl) pass0 (pa_cons (pv 1) (pa_cons (pv 2) pa_nil))))
    (pss_cons (ps_set (i := 4) S.nd rfl (Or.inl rfl) (pe_slice sl_list (pe_lc (own := [("_law_pair", 12)]) (g := gName 12) (by rfl) S.nd (pi_list (pv 3)) (blkOk_by (own := [("_law_pair", 12)]) (N := N_law_degree_right) (sc := defScope s_law_degree_right) (by decide +kernel)) (fun _ _ _ _ _ => (pg_name (i := 12) S.nd rfl (by first | exact .inl rfl | exact .inr rfl))) (fun _ _ _ _ _ => pts_one (pt_cmpR op_eq (pe_ix (ixT (K := K) rfl) (pv 12) pe_int (fun _ _ => rfl)) (pe_ix (ixT (K := K) rfl) (pe_ix (ixL (K := K) rfl) (pv 3) pe_int (fun _ _ => rfl)) pe_int (fun _ _ => rfl)) (nomark _))) (fun _ _ _ _ _ => (pv 12))) (po_some (pe_un un_neg pe_int)) po_none))
    (pss_cons (ps_set (i := 5) S.nd rfl (Or.inl rfl) (pe_ifExp (pt_cmpR (neD (K := K) hr.units rfl) (pv 4) (pe_lst pa_nil) (nomark _)) (pe_tup (pa_cons pe_str (pa_cons (pe_ix (ixL (K := K) rfl) (pv 4) pe_int (fun _ _ => rfl)) pa_nil))) (pe_tup (pa_cons pe_str (pa_cons pe_bl pa_nil)))))
    (pss_cons (ps_if (pt_not (pt_val (pe_knG k_law_like hgu (hr.mono (by decide)) (by rfl) (pa_cons (LamX.pe_lamcall (k := 8) (T := TL) (TT := TTH CS CP CN) (by rfl) gh Fkp lkh hcdh bh sc_law_heard rfl (Or.inl rfl) (heard_gives T hx) TB hcode hmT hu (hr.mono (j := 10) (by decide)) (LamX.lamS_by (sc := defScope s_law_degree_right) (by decide +kernel)) (by rfl) (fun _ _ _ _ _ => by first | rfl | with_unfolding_all rfl) (fun A outer s H E f c' hr' => (pe_kn k_first_break (hr'.mono (by decide)) (by rfl) (passes_call (takes_of rfl rfl rfl rfl) fun _ _ _ _ h => h) (pa_cons (pv 1) (pa_cons (pv 2) pa_nil))))) (pa_cons (pv 5) pa_nil)))))
      (pss_one (ps_ret pe_bl)) pss_nil)
    (pss_cons (ps_if (pt_not (pt_val (pe_knG k_law_like hgu (hr.mono (by decide)) (by rfl) (pa_cons (pe_ix (ixT (K := K) rfl) (LamX.pe_lamcall (k := 8) (T := TL) (TT := TTH CS CP CN) (by rfl) gh Fkp lkh hcdh bh sc_law_heard rfl (Or.inl rfl) (heard_gives T hx) TB hcode hmT hu (hr.mono (j := 10) (by decide)) (LamX.lamS_by (sc := defScope s_law_degree_right) (by decide +kernel)) (by rfl) (fun _ _ _ _ _ => by first | rfl | with_unfolding_all rfl) (fun A outer s H E f c' hr' => (pe_kn k_first_part (hr'.mono (by decide)) (by rfl) (passes_call (takes_of rfl rfl rfl rfl) fun _ _ _ _ h => h) (pa_cons (pv 1) (pa_cons (pv 2) pa_nil))))) pe_int (fun _ _ => rfl)) (pa_cons (pe_ifExp (pt_cmpR (neD (K := K) hr.units rfl) (pv 4) (pe_lst pa_nil) (nomark _)) pe_str pe_str) pa_nil)))))
      (pss_one (ps_ret pe_bl)) pss_nil)
    (pss_cons (ps_set (i := 6) S.nd rfl (Or.inl rfl) (pe_op op_fd (pe_op op_sub (pe_callB (lenK (K := K) rfl) (by rfl) T.len PySem.boot_len (pa_cons (pv 1) pa_nil)) pe_int) (pv 2)))
    (pss_cons (ps_for PassesOwn.never rfl (pi_range2 (by rfl) T.range (pa_cons (pe_un un_neg pe_int) (pa_cons (pe_op op_add (pv 6) pe_int) pa_nil))) (pg_name (i := 7) S.nd rfl (by first | exact .inl rfl | exact .inr rfl))
      (pss_one (ps_for PassesOwn.never rfl (pi_range2 (by rfl) T.range (pa_cons (pe_un un_neg pe_int) (pa_cons (pe_op op_add (pv 2) pe_int) pa_nil))) (pg_name (i := 11) S.nd rfl (by first | exact .inl rfl | exact .inr rfl))
        (pss_one (ps_if (pt_not (pt_val (pe_knG k_law_like hgu (hr.mono (by decide)) (by rfl) (pa_cons (pe_kn k_is_break (hr.mono (by decide)) (by rfl) passL (pa_cons (pv 1) (pa_cons (pv 2) (pa_cons (pe_tup (pa_cons (pv 7) (pa_cons (pv 11) pa_nil))) pa_nil)))) (pa_cons (pe_cmpR (op_inD hu65) (pe_tup (pa_cons (pv 7) (pa_cons (pv 11) pa_nil))) (pv 3) (by rfl)) pa_nil)))))
          (pss_one (ps_ret pe_bl)) pss_nil)))))
    (pss_cons (ps_set (i := 8) S.nd rfl (Or.inl rfl) (pe_ifExp (pt_cmpR (neD (K := K) hr.units rfl) (pv 4) (pe_lst pa_nil) (nomark _)) (pe_ix (ixL (K := K) rfl) (pv 4) pe_int (fun _ _ => rfl)) (pe_tup (pa_cons pe_int (pa_cons pe_int pa_nil)))))
    (pss_cons (ps_set (i := 9) S.nd rfl (Or.inl rfl) (pe_lst (pa_cons pe_non (pa_cons (pe_ix (ixT (K := K) rfl) (pv 8) pe_int (fun _ _ => rfl)) (pa_cons (pe_callTy call_list_of (by rfl) T.list (by decide +kernel) (pa_cons (pv 8) pa_nil)) (pa_cons (pe_op op_catA (pv 8) (pe_tup (pa_cons pe_int pa_nil))) (pa_cons (pe_tup (pa_cons (pv 8) pa_nil)) (pa_cons (pe_tup (pa_cons pe_bl (pa_cons (pe_ix (ixT (K := K) rfl) (pv 8) pe_int (fun _ _ => rfl)) pa_nil))) (pa_cons (pe_tup (pa_cons (pe_ix (ixT (K := K) rfl) (pv 8) pe_int (fun _ _ => rfl)) (pa_cons pe_str pa_nil))) (pa_cons (pe_tup (pa_cons (pe_op op_pow pe_int pe_int) (pa_cons pe_int pa_nil))) (pa_cons (pe_tup pa_nil) pa_nil)))))))))))
    (pss_cons (ps_set (i := 10) S.nd rfl (Or.inl rfl) (pe_kn k_law_of (hr.mono (by decide)) (by rfl) pass0 (pa_cons (pv 0) (pa_cons (pv 9) pa_nil))))
    (pss_one (ps_ret (pe_cmpR op_isBl (pe_kn k_is_break (hr.mono (by decide)) (by rfl) passL (pa_cons (pv 1) (pa_cons (pv 2) (pa_cons (pv 10) pa_nil)))) pe_bl (nomark _)))))))))))))), ?_⟩
  have wz := tw.wz dv
  have st' := tw.stp
  clear D tc hgu k_law_pairs k_law_like k_law_of k_first_break k_first_part k_is_break S lk gh bh Fkp lkh hcdh TB hcode hu hr hu65 Fh hx T
  have hd : 1 ≤ d ∧ d ≤ 9 := ⟨dv.1, by have := dv.2.1; have := tw.le; omega⟩
  walk_at "k9"
  refine ⟨v, qs, d, rfl, hv, st', dv, wz, fun H1 p ws s1 _ hp rp => ?_⟩
  obtain ⟨S0, b0, c0, B, uz, rb⟩ := wz.uz
  have lrs := remsQ_len uz.u2 qs
  have cl := K9M.candU_len (P := qs) dv.1
  have hle := tw.le
  have hrs : ∀ r ∈ K9M.remsQ (K9M.candU qs d) qs, r.length ≤ 10 := fun r h => by
    have h1 := rems_lt (U_ne uz.m) uz.m qs.length qs r h
    have := dv.2.1
    omega
  have htr := rems_trimmed (U := K9M.candU qs d) tw.tr
  have lps := pairsF_len 10 _ 0 hrs
  have ho := firstOf_brk _ 0 htr
  have hsm : ∀ i j, brkF 0 (K9M.remsQ (K9M.candU qs d) qs) = some (i, j) → i < 16 ∧ j < 16 := fun i j e => by
    obtain ⟨h1, h2, r, hr, e2⟩ := brk_lt _ _ _ _ e
    have := hrs r hr
    omega
  have hF1 : ∀ (σ : L2.St) (H : Hp) (Q : VK), LamX.Tabs TL H → RS H v qs → σ[1]? = some (some v) → σ[2]? = some (some (.int (d : Nat))) → (∀ x H', LamX.ExtN H H' → LamX.Tabs TL H' → RDue H' x (brkF 0 (K9M.remsQ (K9M.candU qs d) qs)) → Q x H') →
      LamX.tLam TL (TTH CS CP CN) (fun E => tCall (sp_first_break CP CN) [] E (tCons (tVar 1) (tCons (tVar 2) tNil))) σ H Q := fun σ H Q a b c1 c2 F => x_heard1 a b st' tw dv wz c1 c2 F
  have hF2 : ∀ (σ : L2.St) (H : Hp) (Q : VK), LamX.Tabs TL H → RS H v qs → σ[1]? = some (some v) → σ[2]? = some (some (.int (d : Nat))) → (∀ t xs H', LamX.ExtN H H' → LamX.Tabs TL H' → H' t = some (.tup (.str (wordO (brkF 0 (K9M.remsQ (K9M.candU qs d) qs))) :: xs)) → Q (.ref t) H') →
      LamX.tLam TL (TTH CS CP CN) (fun E => tCall (sp_first_part CP CN) [] E (tCons (tVar 1) (tCons (tVar 2) tNil))) σ H Q := fun σ H Q a b c1 c2 F => x_heard2 a b st' dv wz c1 c2 F
  have hIB : ∀ (u : V) (i j : Option (Int × Int)) (H : Hp) (Q : VK) (E : XK), RS H v qs → AV H u i → (∀ H', Same H H' → Q (.bl (isB (K9M.remsQ (K9M.candU qs d) qs) i)) H') → sp_is_break CS CP ([v, .int (d : Nat), u] ++ []) H Q E := fun u i _ H Q E a b F =>
    ⟨v, u, d, rfl, .inr ⟨qs, i, a, st', tw.scE, tw.tr, fun z => absurd dv z, fun _ => ⟨wz, b, F⟩⟩⟩
  clear uz rb cl
  generalize K9M.remsQ (K9M.candU qs d) qs = rs at *
  have hB : ∀ i j, isB rs (some (i, j)) = ((pairsF 0 rs).map pD).any fun z => PyData.eqv z (.tuple [.int i, .int j]) := fun i j => by rw [isB_mem, any_pD]
  generalize hps : pairsF 0 rs = ps at *
  generalize ho2 : brkF 0 rs = o at *
  have lw := rp.1
  walk_at "k9"
  refine ⟨p, rfl, ⟨ws, .of hp⟩, fun D hD => ?_⟩
  refine lc_it (walk_list (xs := ws)) (fun j H' => Same H1 H' ∧ ∃ ys, H' D = some (.lst ys) ∧ Rps H' ys ((ps.take j).filter fun x => decide (x.1 = (ps.headD (0, 0)).1)) ∧ ys.length ≤ j) ⟨same_upd hD, [], upd_same, .nil, Nat.zero_le _⟩ (fun j H' _ h => .of (h.1 _ _ hp)) ?_ ?_
  · rintro j x H5 _ hj ⟨s5, ys, e5, rp5, ly⟩ ⟨rfl, hx⟩
    obtain ⟨pa, pb, t, ep, rfl, ht⟩ := rp.2 j x hx
    obtain ⟨x0, wr, rfl⟩ : ∃ x0 wr, ws = x0 :: wr := by
      cases ws with
      | nil => simp at hj
      | cons x0 wr => exact ⟨x0, wr, rfl⟩
    obtain ⟨qa, qb, t0, eq, rfl, ht0⟩ := rp.2 0 x0 rfl
    have hh : (ps.headD (0, 0)).1 = qa := by
      cases ps with
      | nil => simp at eq
      | cons q0 pr => cases eq; rfl
    rw [take_snoc ep, List.filter_append, hh]
    rw [hh] at rp5
    refine x_name ⟨rfl, ?_⟩
    walk_at "k9"
    refine x_ixT (s5 _ _ ht) rfl ?_
    walk_at "k9"
    refine x_ixL (s5 _ _ hp) (atI0 _ _) ?_
    walk_at "k9"
    refine x_ixT (s5 _ _ ht0) rfl ?_
    walk_at "k9"
    by_cases hq : pa = qa
    · refine x_yes (decide_eq_true (by rw [hq])) ?_
      walk_at "k9"
      have tl := tsame_lst (o := .lst (ys ++ [.ref t])) e5
      refine ⟨ys, e5, Nat.lt_of_le_of_lt (by omega : ys.length ≤ 1000) (by decide), fun b o e => ?_, ys ++ [.ref t], upd_same, ?_, by simp; omega⟩
      · rw [upd_ne (fun z => by rw [z, hD] at e; cases e)]
        exact s5 _ _ e
      · rw [List.filter_cons_of_pos (by simpa using hq), List.filter_nil]
        exact (rp5.tsame tl).app (.one (tl _ _ (s5 _ _ ht)))
    · refine x_no (decide_eq_false (by omega)) ?_
      rw [List.filter_cons_of_neg (by simpa using hq), List.filter_nil, List.append_nil]
      exact ⟨s5, ys, e5, rp5, by omega⟩
  rintro H2 ⟨s2, ys, e2, rp2, ly⟩
  rw [lw, List.take_length] at rp2
  walk_at "k9"
  refine x_slL e2 fun q hq => ?_
  rw [cut_last]
  have s3 := same_upd (o := .lst (ys.drop (ys.length - 1))) hq
  have ho3 : (ps.filter fun x => decide (x.1 = (ps.headD (0, 0)).1)).getLast? = o := by
    rw [← ho]
    cases ps with
    | nil => rfl
    | cons _ _ => rfl
  have rp3 : Rps (upd H2 q (.lst (ys.drop (ys.length - 1)))) (ys.drop (ys.length - 1)) o.toList := by
    have h := (rp2.drop (ys.length - 1)).tsame (Same.tup s3)
    rw [show ys.length - 1 = (ps.filter fun x => decide (x.1 = (ps.headD (0, 0)).1)).length - 1 by rw [rp2.1], drop_last, ho3] at h
    rw [show ys.length - 1 = (ps.filter fun x => decide (x.1 = (ps.headD (0, 0)).1)).length - 1 by rw [rp2.1]]
    exact h
  have e3 : upd H2 q (.lst (ys.drop (ys.length - 1))) q = some (.lst (ys.drop (ys.length - 1))) := upd_same
  have s03 : Same H (upd H2 q (.lst (ys.drop (ys.length - 1)))) := fun b o e => s3 _ _ (s2 _ _ (s1 _ _ e))
  have hp3 := s3 _ _ (s2 _ _ hp)
  have rpp : Rps (upd H2 q (.lst (ys.drop (ys.length - 1)))) ws ps := (rp.tsame (Same.tup s2)).tsame (Same.tup s3)
  generalize ys.drop (ys.length - 1) = zs at *
  generalize upd H2 q (.lst zs) = H3 at *
  have st3 := st.same s03
  have tb3 := tb.ext s03
  have hv3 := hv.same s03
  have l03 : LS a l H H3 := .of (.of s03)
  clear s03 s3 e2 rp2 ly s2 s1 hp rp tb st hv hD ho ho3
  have hz : (o = none ∧ zs = []) ∨ ∃ i j t, o = some (i, j) ∧ zs = [.ref t] ∧ H3 t = some (.tup [.int (i : Nat), .int (j : Nat)]) := by
    cases o with
    | none => exact .inl ⟨rfl, List.length_eq_zero_iff.mp rp3.1⟩
    | some ij =>
      obtain ⟨i, j⟩ := ij
      match zs, rp3 with
      | [], rp3 => exact absurd rp3.1 (by simp)
      | [z], rp3 =>
        obtain ⟨a, b, t, e, rfl, m⟩ := rp3.2 0 z rfl
        cases e
        exact .inr ⟨_, _, t, rfl, rfl, m⟩
      | z :: z2 :: zr, rp3 => exact absurd rp3.1 (by simp)
  walk_at "k9"
  refine ⟨by show 0 ≤ sizeLine; decide, fun t ht => ?_⟩
  have s4 := same_upd (o := .lst []) ht
  refine x_nePs (s4 _ _ e3) (rp3.tsame (Same.tup s4)) upd_same ?_
  walk_at "k9"
  refine x_ifJ (fun v H' => Same H3 H' ∧ RDue H' v o) (fun hc F => ?_) (fun hc F => ?_) (fun x5 H5 ⟨s5, rd5⟩ => ?_)
  · rcases hz with ⟨rfl, _⟩ | ⟨i, j, t2, rfl, rfl, ht2⟩
    · cases hc
    · walk_at "k9"
      refine x_ixL (s4 _ _ e3) (atI0 _ _) ?_
      walk_at "k9"
      refine ⟨by show 2 ≤ sizeLine; decide, fun t5 ht5 => ?_⟩
      have s5 := same_upd (o := .tup [.str "is", .ref t2]) ht5
      exact F _ _ ⟨fun b o e => s5 _ _ (s4 _ _ e), t5, t2, rfl, upd_same, s5 _ _ (s4 _ _ ht2)⟩
  · rcases hz with ⟨rfl, _⟩ | ⟨i, j, t2, rfl, rfl, ht2⟩
    · walk_at "k9"
      refine ⟨by show 2 ≤ sizeLine; decide, fun t5 ht5 => ?_⟩
      have s5 := same_upd (o := .tup [.str "none", .bl true]) ht5
      exact F _ _ ⟨fun b o e => s5 _ _ (s4 _ _ e), t5, rfl, upd_same⟩
    · cases hc
  clear s4 ht
  walk_at "k9"
  refine hF1 _ _ _ (tb3.ext s5) (hv3.same s5) rfl rfl fun x6 H6 e6 tb6 rd6 => ?_
  walk_at "k9"
  refine ⟨x6, x5, dueD o, rfl, rd6.dp, (rd5.tsame (ext_tup e6)).dp, ok_due hsm, ?_⟩
  walk_at "k9"
  refine x_no rfl ?_
  have e36 : LamX.ExtN H3 H6 := (LamX.ExtN.of s5).trans e6
  walk_at "k9"
  refine hF2 _ _ _ tb6 (hv3.tsame (ext_tup e36)) rfl rfl fun t7 xs7 H7 e7 tb7 m7 => ?_
  have e37 := e36.trans e7
  walk_at "k9"
  refine x_ixT m7 (atI0 _ _) ?_
  have l07 : LS a l H H7 := l03.trans (.of e37)
  have st7 := st3.ext e37
  have hv7 := hv3.tsame (ext_tup e37)
  have q7 := e37 _ _ e3 (fun ps z => by cases z)
  have rp7 := rp3.tsame (ext_tup e37)
  have p7 := e37 _ _ hp3 (fun ps z => by cases z)
  have rpp7 := rpp.tsame (ext_tup e37)
  have hz7 : (o = none ∧ zs = []) ∨ ∃ i j t, o = some (i, j) ∧ zs = [.ref t] ∧ H7 t = some (.tup [.int (i : Nat), .int (j : Nat)]) := by
    rcases hz with h | ⟨i, j, t, h1, h2, h3⟩
    · exact .inl h
    · exact .inr ⟨i, j, t, h1, h2, ext_tup e37 _ _ h3⟩
  clear hz rpp hp3 rp3 e3 hv3 st3 l03 e37 e36 e6 e7 m7 rd6 tb6 tb3 s5 rd5 hF1 hF2
  walk_at "k9"
  refine ⟨by show 0 ≤ sizeLine; decide, fun t ht => ?_⟩
  have s8 := same_upd (o := .lst []) ht
  refine x_nePs (s8 _ _ q7) (rp7.tsame (Same.tup s8)) upd_same ?_
  walk_at "k9"
  refine x_ifJ (fun v H' => H' = upd H7 t (.lst []) ∧ v = .str (wordO o)) (fun hc F => ?_) (fun hc F => ?_) (fun x8 H8 ⟨e8, ew⟩ => ?_)
  · refine x_c (F _ _ ⟨rfl, ?_⟩)
    cases o with
    | none => cases hc
    | some _ => rfl
  · refine x_c (F _ _ ⟨rfl, ?_⟩)
    cases o with
    | none => rfl
    | some _ => cases hc
  subst e8 ew
  walk_at "k9"
  refine ⟨_, _, .str (wordO o), rfl, .str _, .str _, okB_ok (by cases o <;> first | exact ok_s1 | exact ok_s2), ?_⟩
  walk_at "k9"
  refine x_no rfl ?_
  have l08 : LS a l H (upd H7 t (.lst [])) := l07.trans (.of (.of s8))
  have st8 := st7.same s8
  have tb8 := tb7.ext s8
  obtain ⟨pv, vs, rfl, hpv, rv⟩ := hv7.same s8
  have q8 := s8 _ _ q7
  have rp8 := rp7.tsame (Same.tup s8)
  have p8 := s8 _ _ p7
  have rpp8 := rpp7.tsame (Same.tup s8)
  have hz8 : (o = none ∧ zs = []) ∨ ∃ i j t', o = some (i, j) ∧ zs = [.ref t'] ∧ upd H7 t (.lst []) t' = some (.tup [.int (i : Nat), .int (j : Nat)]) := by
    rcases hz7 with h | ⟨i, j, t, h1, h2, h3⟩
    · exact .inl h
    · exact .inr ⟨i, j, t, h1, h2, s8 _ _ h3⟩
  clear hz7 rpp7 p7 rp7 q7 hv7 st7 l07 tb7 s8
  generalize upd H7 t (.lst []) = H8 at *
  have lvs := rv.1
  walk_at "k9"
  refine ⟨pv, vs, rfl, .inr (.of hpv), ?_⟩
  walk_at "k9"
  refine x_i ⟨by omega, Nat.lt_of_lt_of_le (by omega : ((d : Nat) : Int).natAbs < 2 ^ 10) (Nat.pow_le_pow_right (by decide) (by decide))⟩ ?_
  rw [Int.fdiv_eq_ediv_of_nonneg _ (by omega : (0 : Int) ≤ (d : Nat))]
  have hm0 : 0 ≤ ((vs.length : Nat) - 1 : Int) / (d : Nat) := Int.ediv_nonneg (by omega) (by omega)
  have hm9 : ((vs.length : Nat) - 1 : Int) / (d : Nat) ≤ 9 := Int.le_trans (Int.ediv_le_self _ (by omega)) (by omega)
  generalize ((vs.length : Nat) - 1 : Int) / (d : Nat) = m at *
  walk_at "k9"
  refine ⟨_, _, rfl, ⟨by omega, by omega, by omega, by omega⟩, ?_⟩
  refine for_it walk_range (fun i σ' H' => ∃ x7 x11, σ' = [some (.ref a), some (.ref pv), some (.int (d : Nat)), some (.ref p), some (.ref q), some x5, some (.int m), x7, none, none, none, x11, none] ∧ Same H8 H') ⟨none, none, rfl, fun b o e => e⟩ (fun _ _ _ _ _ => trivial) ?_ ?_
  · rintro i x _ H9 H9' hi ⟨x7, x11, rfl, s9⟩ ⟨rfl, rfl⟩
    walk_at "k9"
    refine ⟨_, _, rfl, ⟨by omega, by omega, by omega, by omega⟩, ?_⟩
    refine for_it walk_range (fun j σ' H' => ∃ x11, σ' = [some (.ref a), some (.ref pv), some (.int (d : Nat)), some (.ref p), some (.ref q), some x5, some (.int m), some (.int (-1 + (i : Nat))), none, none, none, x11, none] ∧ Same H8 H') ⟨x11, rfl, s9⟩ (fun _ _ _ _ _ => trivial) ?_ ?_
    · rintro j x _ H10 H10' hj ⟨x11, rfl, s10⟩ ⟨rfl, rfl⟩
      walk_at "k9"
      refine ⟨by show 2 ≤ sizeLine; decide, fun t1 ht1 => ?_⟩
      have s11 := same_upd (o := .tup [.int (-1 + (i : Nat)), .int (-1 + (j : Nat))]) ht1
      walk_at "k9"
      refine hIB _ (some (-1 + (i : Nat), -1 + (j : Nat))) none _ _ _ ⟨pv, vs, rfl, s11 _ _ (s10 _ _ hpv), (rv.tsame (Same.tup s10)).tsame (Same.tup s11)⟩ (.inl ⟨t1, _, _, rfl, upd_same, .inl ⟨_, rfl⟩, .inl ⟨_, rfl⟩, rfl⟩) fun H12 s12 => ?_
      have s8C : Same H8 H12 := fun b o e => s12 _ _ (s11 _ _ (s10 _ _ e))
      walk_at "k9"
      refine ⟨by show 2 ≤ sizeLine; decide, fun t2 ht2 => ?_⟩
      have s13 := same_upd (o := .tup [.int (-1 + (i : Nat)), .int (-1 + (j : Nat))]) ht2
      walk_at "k9"
      refine ⟨_, _, dp_num upd_same, .lst (.of (s13 _ _ (s8C _ _ p8))) (dp_pairs ((rpp8.tsame (Same.tup s8C)).tsame (Same.tup s13))), rfl, shaped_pairs ps, ?_⟩
      walk_at "k9"
      rw [hB]
      refine ⟨_, _, .bool _, rfl, .bl _, .bl _, okB_ok (ok_b _), ?_⟩
      walk_at "k9"
      refine x_no rfl ?_
      walk_at "k9"
      exact ⟨_, rfl, fun b o e => s13 _ _ (s8C _ _ e)⟩
    · rintro _ H10 ⟨x11, rfl, s10⟩
      exact ⟨_, _, rfl, s10⟩
  rintro _ H9 ⟨x7, x11, rfl, s9⟩
  walk_at "k9"
  refine ⟨by show 0 ≤ sizeLine; decide, fun t0 ht0 => ?_⟩
  have sA := same_upd (o := .lst []) ht0
  have s8A : Same H8 (upd H9 t0 (.lst [])) := fun b o e => sA _ _ (s9 _ _ e)
  refine x_nePs (s8A _ _ q8) (rp8.tsame (Same.tup s8A)) upd_same ?_
  walk_at "k9"
  refine x_ifJ (fun v H' => Same H8 H' ∧ ∃ (t : Addr) (i j : Int), v = .ref t ∧ H' t = some (.tup [.int i, .int j])) (fun hc F => ?_) (fun hc F => ?_) (fun xg HB ⟨sB, tg, gi, gj, eg, hg⟩ => ?_)
  · rcases hz8 with ⟨rfl, _⟩ | ⟨i, j, t2, rfl, rfl, ht2⟩
    · cases hc
    · walk_at "k9"
      refine x_ixL (s8A _ _ q8) (atI0 _ _) (F _ _ ⟨s8A, t2, _, _, rfl, s8A _ _ ht2⟩)
  · walk_at "k9"
    refine ⟨by show 2 ≤ sizeLine; decide, fun t2 ht2 => ?_⟩
    have sB := same_upd (o := .tup [.int 0, .int 1]) ht2
    exact F _ _ ⟨fun b o e => sB _ _ (s8A _ _ e), t2, _, _, rfl, upd_same⟩
  subst eg
  have lB : LS a l H HB := l08.trans (.of (.of sB))
  have stB := st8.same sB
  have tbB := tb8.ext sB
  have hpB := sB _ _ hpv
  have rvB := rv.tsame (Same.tup sB)
  clear sA s8A ht0 hz8 rpp8 p8 rp8 q8 hpv rv tb8 st8 l08 s9
  walk_at "k9"
  refine x_ixT hg rfl ?_
  walk_at "k9"
  refine ⟨tg, _, rfl, .inr (.of hg), fun u1 hu1 => ?_⟩
  walk_at "k9"
  refine ⟨by show 1 ≤ sizeLine; decide, fun u2 hu2 => ?_⟩
  refine ⟨_, _, _, _, rfl, rfl, .of (by walk_at "k9mem"), .of upd_same, by show 3 ≤ sizeLine; decide, (fun z => by cases z), (fun _ z => by cases z), fun _ _ u3 hu3 => ?_⟩
  walk_at "k9"
  refine ⟨by show 1 ≤ sizeLine; decide, fun u4 hu4 => ?_⟩
  walk_at "k9"
  refine x_ixT (by walk_at "k9mem") (show atI [V.int gi, V.int gj] 1 = some (.int gj) from rfl) ?_
  walk_at "k9"
  refine ⟨by show 2 ≤ sizeLine; decide, fun u5 hu5 => ?_⟩
  walk_at "k9"
  refine x_ixT (by walk_at "k9mem") (show atI [V.int gi, V.int gj] 0 = some (.int gi) from rfl) ?_
  walk_at "k9"
  refine ⟨by show 2 ≤ sizeLine; decide, fun u6 hu6 => ?_⟩
  walk_at "k9"
  refine x_i (by unfold CPow; decide) ?_
  walk_at "k9"
  refine ⟨by show 2 ≤ sizeLine; decide, fun u7 hu7 => ?_⟩
  walk_at "k9"
  refine ⟨by show 0 ≤ sizeLine; decide, fun u8 hu8 => ?_⟩
  walk_at "k9"
  refine ⟨by show 9 ≤ sizeLine; decide, fun u9 hu9 => ?_⟩
  walk_at "k9"
  have sf : ∀ b o, HB b = some o → _ := fun b o (e : HB b = some o) => (show upd (upd (upd (upd (upd (upd (upd (upd (upd HB u1 (.lst [.int gi, .int gj])) u2 (.tup [.int 0])) u3 (.tup ([.int gi, .int gj] ++ [.int 0]))) u4 (.tup [.ref tg])) u5 (.tup [.bl true, .int gj])) u6 (.tup [.int gi, .str "1"])) u7 (.tup [.int (10 ^ Int.toNat 60), .int 1])) u8 (.tup [])) u9 (.lst [.non, .int gi, .ref u1, .ref u3, .ref u4, .ref u5, .ref u6, .ref u7, .ref u8]) b = some o from by walk_at "k9mem")
  obtain ⟨cs, ls, ea, ec, el, _⟩ := stB.ex
  have m1 : upd (upd (upd (upd (upd (upd (upd (upd (upd HB u1 (.lst [.int gi, .int gj])) u2 (.tup [.int 0])) u3 (.tup ([.int gi, .int gj] ++ [.int 0]))) u4 (.tup [.ref tg])) u5 (.tup [.bl true, .int gj])) u6 (.tup [.int gi, .str "1"])) u7 (.tup [.int (10 ^ Int.toNat 60), .int 1])) u8 (.tup [])) u9 (.lst [.non, .int gi, .ref u1, .ref u3, .ref u4, .ref u5, .ref u6, .ref u7, .ref u8]) u1 = some (.lst [.int gi, .int gj]) := by walk_at "k9mem"
  have m3 : upd (upd (upd (upd (upd (upd (upd (upd (upd HB u1 (.lst [.int gi, .int gj])) u2 (.tup [.int 0])) u3 (.tup ([.int gi, .int gj] ++ [.int 0]))) u4 (.tup [.ref tg])) u5 (.tup [.bl true, .int gj])) u6 (.tup [.int gi, .str "1"])) u7 (.tup [.int (10 ^ Int.toNat 60), .int 1])) u8 (.tup [])) u9 (.lst [.non, .int gi, .ref u1, .ref u3, .ref u4, .ref u5, .ref u6, .ref u7, .ref u8]) u3 = some (.tup ([.int gi, .int gj] ++ [.int 0])) := by walk_at "k9mem"
  have m4 : upd (upd (upd (upd (upd (upd (upd (upd (upd HB u1 (.lst [.int gi, .int gj])) u2 (.tup [.int 0])) u3 (.tup ([.int gi, .int gj] ++ [.int 0]))) u4 (.tup [.ref tg])) u5 (.tup [.bl true, .int gj])) u6 (.tup [.int gi, .str "1"])) u7 (.tup [.int (10 ^ Int.toNat 60), .int 1])) u8 (.tup [])) u9 (.lst [.non, .int gi, .ref u1, .ref u3, .ref u4, .ref u5, .ref u6, .ref u7, .ref u8]) u4 = some (.tup [.ref tg]) := by walk_at "k9mem"
  have m5 : upd (upd (upd (upd (upd (upd (upd (upd (upd HB u1 (.lst [.int gi, .int gj])) u2 (.tup [.int 0])) u3 (.tup ([.int gi, .int gj] ++ [.int 0]))) u4 (.tup [.ref tg])) u5 (.tup [.bl true, .int gj])) u6 (.tup [.int gi, .str "1"])) u7 (.tup [.int (10 ^ Int.toNat 60), .int 1])) u8 (.tup [])) u9 (.lst [.non, .int gi, .ref u1, .ref u3, .ref u4, .ref u5, .ref u6, .ref u7, .ref u8]) u5 = some (.tup [.bl true, .int gj]) := by walk_at "k9mem"
  have m6 : upd (upd (upd (upd (upd (upd (upd (upd (upd HB u1 (.lst [.int gi, .int gj])) u2 (.tup [.int 0])) u3 (.tup ([.int gi, .int gj] ++ [.int 0]))) u4 (.tup [.ref tg])) u5 (.tup [.bl true, .int gj])) u6 (.tup [.int gi, .str "1"])) u7 (.tup [.int (10 ^ Int.toNat 60), .int 1])) u8 (.tup [])) u9 (.lst [.non, .int gi, .ref u1, .ref u3, .ref u4, .ref u5, .ref u6, .ref u7, .ref u8]) u6 = some (.tup [.int gi, .str "1"]) := by walk_at "k9mem"
  have m7 : upd (upd (upd (upd (upd (upd (upd (upd (upd HB u1 (.lst [.int gi, .int gj])) u2 (.tup [.int 0])) u3 (.tup ([.int gi, .int gj] ++ [.int 0]))) u4 (.tup [.ref tg])) u5 (.tup [.bl true, .int gj])) u6 (.tup [.int gi, .str "1"])) u7 (.tup [.int (10 ^ Int.toNat 60), .int 1])) u8 (.tup [])) u9 (.lst [.non, .int gi, .ref u1, .ref u3, .ref u4, .ref u5, .ref u6, .ref u7, .ref u8]) u7 = some (.tup [.int (10 ^ Int.toNat 60), .int 1]) := by walk_at "k9mem"
  have m8 : upd (upd (upd (upd (upd (upd (upd (upd (upd HB u1 (.lst [.int gi, .int gj])) u2 (.tup [.int 0])) u3 (.tup ([.int gi, .int gj] ++ [.int 0]))) u4 (.tup [.ref tg])) u5 (.tup [.bl true, .int gj])) u6 (.tup [.int gi, .str "1"])) u7 (.tup [.int (10 ^ Int.toNat 60), .int 1])) u8 (.tup [])) u9 (.lst [.non, .int gi, .ref u1, .ref u3, .ref u4, .ref u5, .ref u6, .ref u7, .ref u8]) u8 = some (.tup []) := by walk_at "k9mem"
  have m9 : upd (upd (upd (upd (upd (upd (upd (upd (upd HB u1 (.lst [.int gi, .int gj])) u2 (.tup [.int 0])) u3 (.tup ([.int gi, .int gj] ++ [.int 0]))) u4 (.tup [.ref tg])) u5 (.tup [.bl true, .int gj])) u6 (.tup [.int gi, .str "1"])) u7 (.tup [.int (10 ^ Int.toNat 60), .int 1])) u8 (.tup [])) u9 (.lst [.non, .int gi, .ref u1, .ref u3, .ref u4, .ref u5, .ref u6, .ref u7, .ref u8]) u9 = some (.lst [.non, .int gi, .ref u1, .ref u3, .ref u4, .ref u5, .ref u6, .ref u7, .ref u8]) := upd_same
  have n1 : u1 ≠ a ∧ u1 ≠ l := ⟨fun z => (by rw [z, ea] at hu1; cases hu1), fun z => (by rw [z, el] at hu1; cases hu1)⟩
  have n9 : u9 ≠ a ∧ u9 ≠ l := by
    have z1 : ∀ b o, HB b = some o → u9 ≠ b := fun b o e z => by
      have h : upd (upd (upd (upd (upd (upd (upd (upd HB u1 (.lst [.int gi, .int gj])) u2 (.tup [.int 0])) u3 (.tup ([.int gi, .int gj] ++ [.int 0]))) u4 (.tup [.ref tg])) u5 (.tup [.bl true, .int gj])) u6 (.tup [.int gi, .str "1"])) u7 (.tup [.int (10 ^ Int.toNat 60), .int 1])) u8 (.tup []) b = some o := by walk_at "k9mem"
      rw [← z] at h
      exact absurd (hu9.symm.trans h) (by simp)
    exact ⟨z1 _ _ ea, z1 _ _ el⟩
  show sp_law_of ([V.ref a, V.ref u9] ++ []) (upd (upd (upd (upd (upd (upd (upd (upd (upd HB u1 (.lst [.int gi, .int gj])) u2 (.tup [.int 0])) u3 (.tup ([.int gi, .int gj] ++ [.int 0]))) u4 (.tup [.ref tg])) u5 (.tup [.bl true, .int gj])) u6 (.tup [.int gi, .str "1"])) u7 (.tup [.int (10 ^ Int.toNat 60), .int 1])) u8 (.tup [])) u9 (.lst [.non, .int gi, .ref u1, .ref u3, .ref u4, .ref u5, .ref u6, .ref u7, .ref u8])) _ _
  clear hu1 hu2 hu3 hu4 hu5 hu6 hu7 hu8 hu9
  generalize upd (upd (upd (upd (upd (upd (upd (upd (upd HB u1 (.lst [.int gi, .int gj])) u2 (.tup [.int 0])) u3 (.tup ([.int gi, .int gj] ++ [.int 0]))) u4 (.tup [.ref tg])) u5 (.tup [.bl true, .int gj])) u6 (.tup [.int gi, .str "1"])) u7 (.tup [.int (10 ^ Int.toNat 60), .int 1])) u8 (.tup [])) u9 (.lst [.non, .int gi, .ref u1, .ref u3, .ref u4, .ref u5, .ref u6, .ref u7, .ref u8]) = HF at *
  have stF := stB.same sf
  have tbF := tbB.ext sf
  have lF : LS a l H HF := lB.trans (.of (.of sf))
  have hpF := sf _ _ hpB
  have rvF := rvB.tsame (Same.tup sf)
  have key : ∀ x ∈ ([.non, .int gi, .ref u1, .ref u3, .ref u4, .ref u5, .ref u6, .ref u7, .ref u8] : List V), ∃ o, isB rs o = false ∧ ∀ H', SB a l HF H' → AV H' x o := by
    refine List.forall_mem_cons.mpr ⟨⟨none, rfl, fun H' sb => .inr ⟨rfl, .inl rfl⟩⟩, ?_⟩
    refine List.forall_mem_cons.mpr ⟨⟨none, rfl, fun H' sb => .inr ⟨rfl, .inr (.inl ⟨_, rfl⟩)⟩⟩, ?_⟩
    refine List.forall_mem_cons.mpr ⟨⟨none, rfl, fun H' sb => .inr ⟨rfl, .inr (.inr (.inl ⟨_, _, rfl, sb _ _ n1.1 n1.2 m1⟩))⟩⟩, ?_⟩
    refine List.forall_mem_cons.mpr ⟨⟨none, rfl, fun H' sb => .inr ⟨rfl, .inr (.inr (.inr ⟨_, _, rfl, stF.tup sb _ _ m3, by simp⟩))⟩⟩, ?_⟩
    refine List.forall_mem_cons.mpr ⟨⟨none, rfl, fun H' sb => .inr ⟨rfl, .inr (.inr (.inr ⟨_, _, rfl, stF.tup sb _ _ m4, by simp⟩))⟩⟩, ?_⟩
    refine List.forall_mem_cons.mpr ⟨⟨none, rfl, fun H' sb => .inl ⟨_, _, _, rfl, stF.tup sb _ _ m5, .inr (.inl ⟨_, rfl⟩), .inl ⟨_, rfl⟩, rfl⟩⟩, ?_⟩
    refine List.forall_mem_cons.mpr ⟨⟨none, rfl, fun H' sb => .inl ⟨_, _, _, rfl, stF.tup sb _ _ m6, .inl ⟨_, rfl⟩, .inr (.inr ⟨_, rfl⟩), rfl⟩⟩, ?_⟩
    refine List.forall_mem_cons.mpr ⟨⟨some (10 ^ Int.toNat 60, 1), ?_, fun H' sb => .inl ⟨_, _, _, rfl, stF.tup sb _ _ m7, .inl ⟨_, rfl⟩, .inl ⟨_, rfl⟩, rfl⟩⟩, ?_⟩
    · have hbig : ¬ ((10 : Int) ^ Int.toNat 60 ≤ (rs.length : Int) - 1) := by
        have : (100 : Int) < 10 ^ Int.toNat 60 := by decide
        omega
      show (decide (0 ≤ (10 : Int) ^ Int.toNat 60) && (decide ((10 : Int) ^ Int.toNat 60 ≤ (rs.length : Int) - 1) && _)) = false
      rw [decide_eq_false hbig, Bool.false_and, Bool.and_false]
    refine List.forall_mem_cons.mpr ⟨⟨none, rfl, fun H' sb => .inr ⟨rfl, .inr (.inr (.inr ⟨_, _, rfl, stF.tup sb _ _ m8, by simp⟩))⟩⟩, ?_⟩
    intro x hx
    cases hx
  refine ⟨a, c, l, u9, n, _, rfl, stF, hn, m9, n9.1, n9.2, by simp, by simp, fun HG x hx sb stG => ?_⟩
  obtain ⟨o', hfo, hav⟩ := key x hx
  have tsG := stF.tup sb
  walk_at "k9"
  refine hIB _ o' none _ _ _ ⟨pv, vs, rfl, tsG _ _ hpF, rvF.tsame tsG⟩ (hav _ sb) fun HI sI => ?_
  walk_at "k9"
  refine ⟨_, _, rfl, rfl, ?_⟩
  rw [hfo]
  exact k _ (lF.trans ((LS.sb sb).trans (.of (.of sI)))) (stG.same sI) ((tabs_sb stF tbF sb).ext sI)
end
end K9

set_option Elab.async false
set_option linter.all false
set_option maxRecDepth 100000
set_option maxHeartbeats 4000000
namespace K9
open PySem PySem.Spec PyProof.Rows L2
local macro_rules | `(tactic| walk_at "k9mem") => `(tactic| first | with_reducible assumption | exact upd_same | ((with_reducible refine mem_upd (by with_reducible assumption) ?_); walk_at "k9mem") | ((with_reducible refine mem_same (by with_reducible assumption) ?_); walk_at "k9mem"))
local macro_rules | `(tactic| walk_at "k91") => `(tactic| with_reducible (first | refine x_seq ?_ | refine x_asg ?_ | refine x_name ?_ | refine x_ret ?_ | refine x_drop ?_ | refine x_next ?_ | refine x_ifs ?_ | refine x_if ?_ | refine x_test ?_ | refine x_tb ?_ | refine x_tnot ?_ | refine x_tand ?_ | refine x_tor ?_ | refine x_andv ?_ | refine x_orv ?_ | refine x_notv ?_ | refine x_var rfl ?_ | refine x_c ?_ | refine x_op ?_ | refine x_un ?_ | refine x_i0 ?_ | refine x_par ?_ | refine x_two ?_ | refine x_eqI ?_ | refine x_neI ?_ | refine x_u ?_ | refine x_call ?_ | refine x_cb ?_ | refine x_cons ?_ | refine x_nil ?_ | refine x_tup ?_ | refine x_lst ?_ | refine x_gcd ?_ | refine x_for ?_ | refine x_iL ?_ | refine x_iT ?_ | refine x_iR1 ?_ | refine x_iR2 ?_ | refine x_lc ?_ | refine x_bm ?_ | refine x_bm0 ?_ | refine x_sl ?_ | refine x_nopart ?_ | refine x_part ?_ | refine x_some ?_ | refine x_bl ?_))
local macro_rules | `(tactic| walk_at "k9") => `(tactic| repeat (walk_at "k91"))
theorem sql_same {K : PySem.W.Frag} {H H' : Hp} {a : Addr} {xs : List V} (h : SqL K H a xs) (s : Same H H') : SqL K H' a xs := by
  rcases h with (h | ⟨o, h⟩) | h
  · exact .inl (.inl (s _ _ h))
  · exact .inl (.inr ⟨o, s _ _ h⟩)
  · exact .inr h
theorem x_neScr {K : PySem.W.Frag} {H : Hp} {Q : VK} {a b : Addr} {ns : List Int} (h : SqL K H a (ns.map .int)) (h2 : H b = some (.lst [])) (k : Q (.bl (!ns.isEmpty)) H) : rNeD K (.ref a) (.ref b) H Q :=
  ⟨_, _, .lst h (dp_all ns), .lst (.of h2) .nil, PySem.W.shaped_ints ns, PySem.W.shaped_ints [], by rw [eqv_nil]; exact k⟩
theorem begin_ints : ∀ {ys : List V}, (∀ (i : Nat) v, ys[i]? = some v → ∃ z : Int, v = .int z ∧ 0 ≤ z) → ∃ ls : List Int, ys = ls.map .int ∧ ∀ x ∈ ls, 0 ≤ x
  | [], _ => ⟨[], rfl, fun x h => by cases h⟩
  | y :: ys, h => by
    obtain ⟨z, rfl, hz⟩ := h 0 y rfl
    obtain ⟨ls, rfl, hl⟩ := begin_ints (ys := ys) fun i v e => h (i + 1) v (by simpa using e)
    exact ⟨z :: ls, rfl, fun x hx => by exact (List.mem_cons.mp hx).elim (fun e => e ▸ hz) (hl x)⟩
theorem merge_kvs (c l : Addr) : mergeK [] (kvs c l 0) = kvs c l 0 := by rfl
theorem RSt.ltup {a c l : Addr} {H H' : Hp} {n : Nat} (r : RSt a c l H n) (s : LS a l H H') : TSame H H' := fun b xs e => by
  obtain ⟨cs, ls, e1, e2, e3, _⟩ := r.ex
  refine s b _ (fun z => ?_) (fun z => ?_) (fun ps z => by cases z) e
  · rw [z, e1] at e; cases e
  · rw [z, e3] at e; cases e
def sp_law_begin (K : PySem.W.Frag) : Sp := fun vs H Q _ => ∃ (p : Addr) (ns : List Int), vs = [.ref p] ∧ SqL K H p (ns.map .int) ∧ ns.length ≤ 1000 ∧ ∀ H' a c l, Same H H' → RSt a c l H' 0 → Q (.ref a) H'
def sp_law_by_hand (TL : List (Addr × Str)) : Sp := fun vs H Q _ => vs = [] ∧ LamX.Tabs TL H ∧ ∀ H', Q (.bl true) H'
def sp_law (K : PySem.W.Frag) (TL : List (Addr × Str)) : Sp := fun vs H Q _ => ∃ (p : Addr) (ns : List Int), vs = [.ref p] ∧ SqL K H p (ns.map .int) ∧ ns.length ≤ 1000 ∧ LamX.Tabs TL H ∧ ∀ H', Q (.bl true) H'
section
variable {P : Program} {w : World} {K : PySem.W.Frag} {mg : Str → Option Value} {base : Heap}
abbrev s_law_begin : Stmt := topS 36
abbrev N_law_begin : List Str := ["_law_script", "_law_cells_so", "_law_cell"]
theorem sc_law_begin : FnScope N_law_begin ["_law_script"] (defScope s_law_begin) := ⟨rfl, rfl, rfl, by decide +kernel, rfl, by decide +kernel, by decide +kernel⟩
theorem kn_law_begin (D : DefAt K mg "_law_begin" s_law_begin) (T : Wd mg) : Kn P w K mg base CX0 1 "_law_begin" ["_law_script"] (sp_law_begin K) := by
  have S := sc_law_begin
  refine Kn.of D S (fun vs H Q E h => ?_) (fun _ _ _ _ _ _ us hl => match us, hl with | [_], _ => rfl) fun f cdv A outer s H vs Q E hr h => ?_
  · obtain ⟨_, _, rfl, _⟩ := h; rfl
  obtain ⟨p, ns, rfl, hp, hn, k⟩ := h
  refine ⟨_, PSs.nox (pss_cons (ps_set (i := 1) S.nd rfl (Or.inl rfl) (pe_ifExp (pt_cmpR (neD (K := K) hr.units rfl) (pv 0) (pe_lst pa_nil) (nomark _)) (pe_callTy call_list_of (by rfl) T.list (by decide +kernel) (pa_cons (pv 0) pa_nil)) (pe_lst (pa_cons pe_int pa_nil))))
    (pss_one (ps_ret (pe_disp (pps_cons pe_str (pv 1) (pps_cons pe_str (pe_lc (own := [("_law_cell", 2)]) (g := gName 2) (by rfl) S.nd (pi_list (pv 1)) (blkOk_by (own := [("_law_cell", 2)]) (N := N_law_begin) (sc := defScope s_law_begin) (by decide +kernel)) (fun _ _ _ _ _ => (pg_name (i := 2) S.nd rfl (by first | exact .inl rfl | exact .inr rfl))) (fun _ _ _ _ _ => pts_nil) (fun _ _ _ _ _ => (pe_ifExp (pt_cmpR op_ge (pv 2) (pe_op op_pow pe_int pe_int) (nomark _)) (pv 2) pe_int))) (pps_cons pe_str pe_int pps_nil))) (by rfl) (by rfl) (fun z => by cases z) (by decide))))), ?_⟩
  clear hr D
  walk_at "k9"
  refine ⟨by show 0 ≤ sizeLine; decide, fun t ht => ?_⟩
  have s1 := same_upd (o := .lst []) ht
  refine x_neScr (sql_same hp s1) upd_same ?_
  walk_at "k9"
  refine x_ifJ (fun v H' => ∃ (c : Addr) (cs : List Int), v = .ref c ∧ Same H H' ∧ H' c = some (.lst (cs.map .int)) ∧ 0 < cs.length ∧ cs.length ≤ 1000) (fun hc F => ?_) (fun hc F => ?_) (fun x1 H1 ⟨c, cs, e1, s1, hc, h0, h1⟩ => ?_)
  · walk_at "k9"
    refine ⟨p, _, rfl, .inl (sql_same hp s1), fun c hc2 => ?_⟩
    have s2 := same_upd (o := .lst (ns.map .int)) hc2
    refine F _ _ ⟨c, ns, rfl, fun b o e => s2 _ _ (s1 _ _ e), upd_same, ?_, hn⟩
    cases ns with
    | nil => cases hc
    | cons => simp
  · walk_at "k9"
    refine ⟨by show 1 ≤ sizeLine; decide, fun c hc2 => ?_⟩
    have s2 := same_upd (o := .lst [.int 0]) hc2
    exact F _ _ ⟨c, [0], rfl, fun b o e => s2 _ _ (s1 _ _ e), upd_same, by simp, by simp⟩
  subst e1
  clear ht hp
  walk_at "k9"
  intro a ha
  have s2 := same_upd (o := .dK []) ha
  walk_at "k9"
  unfold tPairs
  walk_at "k9"
  unfold tPairs
  walk_at "k9"
  refine x_lcL (fun _ v _ => ∃ z : Int, v = .int z ∧ 0 ≤ z) (s2 _ _ hc) (by simp; omega) (fun _ => rfl) (fun _ _ _ _ h _ => h) (fun i x H' hx s' Q' KQ => ?_) fun H' l ys s3 hl hl2 ly hys => ?_
  · rw [List.getElem?_map] at hx
    obtain ⟨z, hz, rfl⟩ := Option.map_eq_some_iff.mp hx
    walk_at "k9"
    refine x_i (by unfold CPow; decide) ?_
    walk_at "k9"
    refine x_ifV (.int (if (10 : Int) ^ Int.toNat 18 ≤ z then z else 0)) (fun hc F => ?_) (fun hc F => ?_) (KQ _ _ (fun b o e => e) ⟨_, rfl, ?_⟩)
    · have hc2 := of_decide_eq_true hc
      rw [if_pos hc2] at F
      walk_at "k9"
      exact F
    · have hc2 := of_decide_eq_false hc
      rw [if_neg hc2] at F
      walk_at "k9"
      exact F
    · split
      · rename_i h
        have : (0 : Int) ≤ 10 ^ Int.toNat 18 := by decide
        omega
      · exact Int.le_refl _
  obtain ⟨ls, rfl, hls⟩ := begin_ints hys
  have ha3 := s3 _ _ (upd_same (H := H1) (a := a) (o := .dK []))
  have ha0 : H a = none := s1.free ha
  have hc3 := s3 _ _ (s2 _ _ hc)
  have nca : c ≠ a := fun z => by rw [z, ha] at hc; cases hc
  have nla : l ≠ a := fun z => by rw [z, upd_same] at hl; cases hl
  have ncl : c ≠ l := fun z => by rw [← z, s2 _ _ hc] at hl; cases hl
  unfold tPairs
  walk_at "k9"
  unfold tPairs
  refine ⟨ha3, kvs c l 0, rfl, by show 3 ≤ 15; decide, ?_⟩
  rw [merge_kvs]
  refine k _ a c l (fun b o e => ?_) ⟨cs, ls, upd_same, (upd_ne nca).trans hc3, (upd_ne nla).trans hl2, h0, by simpa using ly, h1, hls, ncl⟩
  rw [upd_ne (fun z => by rw [z, ha0] at e; cases e)]
  exact s3 _ _ (s2 _ _ (s1 _ _ e))
end
section
variable {P : Program} {w : World} {K : PySem.W.Frag} {mg : Str → Option Value} {base : Heap}
abbrev s_law : Stmt := topS 57
abbrev N_law : List Str := ["_law_script", "_law_state", "_law_turn", "_law_told", "_law_size"]
theorem sc_law : FnScope N_law ["_law_script"] (defScope s_law) := ⟨rfl, rfl, rfl, by decide +kernel, rfl, by decide +kernel, by decide +kernel⟩
theorem kn_law (D : DefAt K mg "law" s_law) (T : Wd mg) {P1 P2 : Addr} (k_law_begin : Kn P w K mg base CX0 1 "_law_begin" ["_law_script"] (sp_law_begin K)) (k_law_drawn : Kn P w K mg base CX0 7 "_law_drawn" ["_law_state"] sp_law_drawn)
    (k_law_degree_right : KnG P w K mg base 12 "_law_degree_right" ["_law_state", "_law_told", "_law_size"] (sp_law_degree_right (tl2 P1 P2))) (k_law_by_hand : KnG P w K mg base 12 "_law_by_hand" [] (sp_law_by_hand (tl2 P1 P2))) :
    KnG P w K mg base 13 "law" ["_law_script"] (sp_law K (tl2 P1 P2)) := by
  have S := sc_law
  refine KnG.of D S (fun vs H Q E h => ?_) (fun _ _ _ _ _ _ us hl => match us, hl with | [_], _ => rfl) fun oc od dV kV doc pm an cdv ct osl lk A outer s H vs Q E hgu hr h => ?_
  · obtain ⟨_, _, rfl, _⟩ := h; rfl
  obtain ⟨p, ns, rfl, hp, hn, tb, k⟩ := h
  refine ⟨_, PSs.nox (pss_cons (ps_set (i := 1) S.nd rfl (Or.inl rfl) (pe_kn k_law_begin (hr.mono (by decide)) (by rfl) pass0 (pa_cons (pv 0) pa_nil)))
    (pss_cons (ps_for PassesOwn.never rfl (pi_range1 (by rfl) T.range (pa_cons pe_int pa_nil)) (pg_name (i := 2) S.nd rfl (by first | exact .inl rfl | exact .inr rfl))
      (pss_cons (ps_set (i := 3) S.nd rfl (Or.inl rfl) (pe_kn k_law_drawn (hr.mono (by decide)) (by rfl) pass0 (pa_cons (pv 1) pa_nil)))
      (pss_one (ps_for PassesOwn.never rfl (pi_range2 (by rfl) T.range (pa_cons pe_int (pa_cons (pe_callB (lenK (K := K) rfl) (by rfl) T.len PySem.boot_len (pa_cons (pv 3) pa_nil)) pa_nil))) (pg_name (i := 4) S.nd rfl (by first | exact .inl rfl | exact .inr rfl))
        (pss_one (ps_if (PW.pt (pw_and (pt_cmpR op_eq (pe_op op_mod (pe_op op_sub (pe_callB (lenK (K := K) rfl) (by rfl) T.len PySem.boot_len (pa_cons (pv 3) pa_nil)) pe_int) (pv 4)) pe_int (nomark _)) (pw_and1 (pt_not (pt_val (pe_knG k_law_degree_right hgu (hr.mono (by decide)) (by rfl) (pa_cons (pv 1) (pa_cons (pv 3) (pa_cons (pv 4) pa_nil)))))))))
          (pss_one (ps_ret pe_bl)) pss_nil))))))
    (pss_one (ps_ret (pe_knG0 k_law_by_hand hgu (hr.mono (by decide)) (by rfl)))))), ?_⟩
  clear hgu hr lk D S T k_law_begin k_law_drawn k_law_degree_right k_law_by_hand
  walk_at "k9"
  refine ⟨p, ns, rfl, hp, hn, fun H1 a c l s1 st1 => ?_⟩
  have tb1 := tb.ext s1
  walk_at "k9"
  refine ⟨_, rfl, by decide, by decide, ?_⟩
  refine for_it walk_range (fun i σ' H' => ∃ (x2 x3 x4 : Option V) (n : Nat), σ' = [some (.ref p), some (.ref a), x2, x3, x4] ∧ RSt a c l H' n ∧ LamX.Tabs (tl2 P1 P2) H' ∧ n ≤ 1000 * i) ⟨none, none, none, 0, rfl, st1, tb1, Nat.le_refl _⟩ (fun _ _ _ _ _ => trivial) ?_ ?_
  · rintro i x _ H2 _ hi ⟨x2, x3, x4, n, rfl, st2, tb2, ln⟩ ⟨rfl, rfl⟩
    have hi3 : i < 3 := hi
    walk_at "k9"
    refine ⟨a, c, l, n, rfl, st2, by omega, fun H3 v qs n' hn' sb st3 hv told => ?_⟩
    have tb3 := tabs_sb st2 tb2 sb
    have tw := told.tw
    have hle := tw.le
    walk_at "k9"
    obtain ⟨pv, vs, rfl, hpv, rv⟩ := hv
    have lvs := rv.1
    refine ⟨pv, vs, rfl, .inr (.of hpv), ?_⟩
    walk_at "k9"
    refine ⟨_, _, rfl, ⟨by omega, by omega, by omega, by omega⟩, ?_⟩
    refine for_it walk_range (fun j σ' H' => ∃ (x4 : Option V) (n2 : Nat), σ' = [some (.ref p), some (.ref a), some (.int (0 + (i : Nat))), some (.ref pv), x4] ∧ RSt a c l H' n2 ∧ LamX.Tabs (tl2 P1 P2) H' ∧ H' pv = some (.tup vs) ∧ Rqs H' vs qs ∧ n2 ≤ n' + j) ⟨x4, n', rfl, st3, tb3, hpv, rv, Nat.le_refl _⟩ (fun _ _ _ _ _ => trivial) ?_ ?_
    · rintro j x _ H4 _ hj ⟨x4, n2, rfl, st4, tb4, hpv4, rv4, ln2⟩ ⟨rfl, rfl⟩
      have hj2 : j < vs.length - 1 := by omega
      walk_at "k9"
      refine ⟨pv, vs, rfl, .inr (.of hpv4), ?_⟩
      walk_at "k9"
      refine x_i (by show (0 : Int) < 1 + (j : Nat); omega) ?_
      walk_at "k9"
      by_cases hm : ((vs.length : Int) - 1) % (1 + (j : Nat)) = 0
      · refine x_yes (decide_eq_true hm) ?_
        have dv : Dvs qs (j + 1) := ⟨by omega, by omega, by
          have h1 : (((vs.length - 1 : Nat) : Int)) % ((j + 1 : Nat) : Int) = 0 := by
            rw [show ((vs.length - 1 : Nat) : Int) = (vs.length : Int) - 1 by omega, show ((j + 1 : Nat) : Int) = 1 + (j : Nat) by omega]
            exact hm
          rw [← lvs]
          exact_mod_cast h1⟩
        walk_at "k9"
        refine ⟨a, c, l, n2, _, qs, j + 1, (by show [V.ref a, V.ref pv, V.int (1 + (j : Nat))] = _; rw [show ((j + 1 : Nat) : Int) = 1 + (j : Nat) by omega]), st4, by omega, ⟨pv, vs, rfl, hpv4, rv4⟩, tw, dv, tb4, fun H5 ls st5 tb5 => ?_⟩
        walk_at "k9"
        refine x_no rfl ?_
        have ts := st4.ltup ls
        exact ⟨_, n2 + 1, rfl, st5, tb5, ts _ _ hpv4, rv4.tsame ts, by omega⟩
      · refine x_no (decide_eq_false hm) ?_
        refine x_no rfl ?_
        exact ⟨_, n2, rfl, st4, tb4, hpv4, rv4, by omega⟩
    · rintro _ H4 ⟨x4, n2, rfl, st4, tb4, _, _, ln2⟩
      exact ⟨_, _, _, n2, rfl, st4, tb4, by omega⟩
  rintro _ H2 ⟨x2, x3, x4, n, rfl, st2, tb2, ln⟩
  walk_at "k9"
  exact ⟨rfl, tb2, k⟩
end
end K9

set_option Elab.async false
set_option linter.all false
set_option maxRecDepth 100000
set_option maxHeartbeats 4000000
namespace K9
open PySem PySem.Spec PyProof.Rows L2
local macro_rules | `(tactic| walk_at "k9mem") => `(tactic| first | with_reducible assumption | exact upd_same | ((with_reducible refine mem_upd (by with_reducible assumption) ?_); walk_at "k9mem") | ((with_reducible refine mem_same (by with_reducible assumption) ?_); walk_at "k9mem"))
local macro_rules | `(tactic| walk_at "k91") => `(tactic| with_reducible (first | refine x_seq ?_ | refine x_asg ?_ | refine x_name ?_ | refine x_ret ?_ | refine x_drop ?_ | refine x_next ?_ | refine x_ifs ?_ | refine x_if ?_ | refine x_test ?_ | refine x_tb ?_ | refine x_tnot ?_ | refine x_tand ?_ | refine x_tor ?_ | refine x_andv ?_ | refine x_orv ?_ | refine x_notv ?_ | refine x_var rfl ?_ | refine x_c ?_ | refine x_op ?_ | refine x_un ?_ | refine x_i0 ?_ | refine x_par ?_ | refine x_two ?_ | refine x_eqI ?_ | refine x_neI ?_ | refine x_u ?_ | refine x_call ?_ | refine x_cb ?_ | refine x_cons ?_ | refine x_nil ?_ | refine x_tup ?_ | refine x_lst ?_ | refine x_gcd ?_ | refine x_for ?_ | refine x_iL ?_ | refine x_iT ?_ | refine x_iR1 ?_ | refine x_iR2 ?_ | refine x_lc ?_ | refine x_bm ?_ | refine x_bm0 ?_ | refine x_sl ?_ | refine x_nopart ?_ | refine x_part ?_ | refine x_some ?_ | refine x_bl ?_))
local macro_rules | `(tactic| walk_at "k9") => `(tactic| repeat (walk_at "k91"))
/-! the hand-made steps -/
def q4 : List Rat := [0, 0, 0, 1, 1]
def q5 : List Rat := [0, 1, 2, 2, 1]
def qL : List Rat := [3, 2]
theorem mbi {m : Int} (h : (m * 6).natAbs ≤ 502761) : Mb 6 502761 (m : Rat) := ⟨m * 6, by rw [Rat.intCast_mul], h⟩
theorem tw4 : TW q4 := ⟨by decide, fun q hq => by
  simp only [q4, List.mem_cons, List.not_mem_nil, or_false] at hq
  rcases hq with rfl | rfl | rfl | rfl | rfl
  · exact mbi (m := 0) (by decide)
  · exact mbi (m := 0) (by decide)
  · exact mbi (m := 0) (by decide)
  · exact mbi (m := 1) (by decide)
  · exact mbi (m := 1) (by decide), by decide⟩
theorem tw5 : TW q5 := ⟨by decide, fun q hq => by
  simp only [q5, List.mem_cons, List.not_mem_nil, or_false] at hq
  rcases hq with rfl | rfl | rfl | rfl | rfl
  · exact mbi (m := 0) (by decide)
  · exact mbi (m := 1) (by decide)
  · exact mbi (m := 2) (by decide)
  · exact mbi (m := 2) (by decide)
  · exact mbi (m := 1) (by decide), by decide⟩
theorem twL : TW qL := ⟨by decide, fun q hq => by
  simp only [qL, List.mem_cons, List.not_mem_nil, or_false] at hq
  rcases hq with rfl | rfl
  · exact mbi (m := 3) (by decide)
  · exact mbi (m := 2) (by decide), by decide⟩
theorem dv42 : Dvs q4 2 := by unfold Dvs; decide
theorem dv44 : Dvs q4 4 := by unfold Dvs; decide
theorem dv43 : ¬ Dvs q4 3 := by unfold Dvs; decide
theorem dv40 : ¬ Dvs q4 0 := by unfold Dvs; decide
theorem dv52 : Dvs q5 2 := by unfold Dvs; decide
theorem dvL1 : Dvs qL 1 := by unfold Dvs; decide
theorem br42 : brkF 0 (K9M.remsQ (K9M.candU q4 2) q4) = some (0, 1) := by decide +kernel
theorem br44 : brkF 0 (K9M.remsQ (K9M.candU q4 4) q4) = none := by decide +kernel
theorem br52 : brkF 0 (K9M.remsQ (K9M.candU q5 2) q5) = none := by decide +kernel
theorem brL1 : brkF 0 (K9M.remsQ (K9M.candU qL 1) qL) = none := by decide +kernel
theorem isb4a : isB (K9M.remsQ (K9M.candU q4 2) q4) (some (0, 1)) = true := by decide +kernel
theorem isb4b : isB (K9M.remsQ (K9M.candU q4 2) q4) (some (1, 1)) = false := by decide +kernel
theorem isb5 : isB (K9M.remsQ (K9M.candU q5 2) q5) (some (0, 1)) = false := by decide +kernel
/-! f(k = v, ..) -/
def tCallW (sp : Sp) (gV : List V → List V) (E : XK) (tk : TA) : TE := fun σ H Q => tk σ H fun zs H2 => sp (gV zs) H2 Q E
section
variable {X : Cx}
theorem pe_kw {CX : CXT} {k : Nat} {x : Str} {st : Stmt} {ps ks : List Str} {sp : Sp} {p pos : Pos} {kws : List Keyword} {tk : TA} {E : XK} (gV : List V → List V) (g : List Value → List Value) (h : Kn X.prog X.w X.K X.mg X.base CX k x ps sp) (D : DefAt X.K X.mg x st)
    (hr : Room k X.A) (hg : Gl X x) (hx : Passes CX X E) (hgr : ∀ {zs : List V} {ws : List Value}, Vals zs ws → Vals (gV zs) (g ws))
    (hb : ∀ (kV doc pm : Value) (an : Option Addr) (cdv ct : Value) (ws : List Value), (g ws).length = ps.length → bindArgs (PySem.W.fnOf x x (defArgs st) (defBody st) (defScope st) .none kV doc pm an cdv ct) ⟨[], ks.zip ws⟩ = pure (ps.zip (g ws)))
    (hkw : PK X kws tk) (hall : (backToKw pos (keywordEach kws X.env)).all (·.1.isSome) = true := by rfl) (hks : (backToKw pos (keywordEach kws X.env)).filterMap (·.1) = ks := by rfl) (hdb : (x == ("__debug__" : Str)) = false := by decide)
    (hpl : ((backTo pos (starEach [] X.env)).any (·.1) || (backToKw pos (keywordEach kws X.env)).any (·.1.isNone)) = false := by rfl) : PE X (.Call (.Name x p) [] kws pos) (tCallW sp gV E tk) := by
  obtain ⟨f, fd, F, a, b, _, oc, od, osl, lk⟩ := h.ex
  obtain ⟨⟨fd', Fd⟩, hm⟩ := D
  obtain ⟨oc', od', dV, kV, doc, pm, an, cdv, ct, osl', efd, lk', _, hD, _⟩ := Fd.ex
  obtain rfl : f = He.ga X.K x := by
    have z := a.symm.trans hm
    cases z
    rfl
  obtain rfl : fd = fd' := by
    have z := lk.symm.trans lk'
    cases z
    rfl
  have dN : dV = .none := by
    rcases hD with ⟨_, e⟩ | ⟨e, _⟩
    · exact e
    · exact absurd rfl e
  subst dN
  refine ⟨fun pins s0 σ H0 Q I0 q0 => ?_⟩
  refine wpAny_Call_Name_kw (ld_glob I0 hg a ?_ hdb)
  refine PySem.W.callWith_KW0 (h₀ := X.base) I0.ok.mod.kin b hall (thn (hkw.run pos pins s0 σ H0 _ I0 q0) fun ws s1 ⟨zs, H1, I1, rz, q1⟩ => ⟨I1.kIn, ?_⟩) hpl
  rw [hks]
  have rr := hgr rz
  have hl : (g ws).length = ps.length := rr.length.symm.trans (F.len _ _ _ _ q1)
  have bt : BindsTo s1 fd ⟨[], ks.zip ws⟩ (ps.zip (g ws)) := .of_eq (by rw [efd]; exact hb kV doc pm an cdv ct ws hl)
  refine wpAny_call (codeAny_mono (F.run X.A X.stack s1 H1 _ _ _ Q E hr I1.env0 bt rr q1) fun res s2 h2 => ?_)
  cases res with
  | error er => exact hx pins σ H1 s1 er s2 I1 h2
  | ok fl =>
    cases fl with
    | next => exact h2.elim
    | brk => exact h2.elim
    | cont => exact h2.elim
    | ret u => exact I1.after h2
end
theorem rqs_nil {H : Hp} : Rqs H [] [] := ⟨rfl, fun i v e => by simp at e⟩
theorem rqs_cons {H : Hp} {t : Addr} {q : Rat} {vs : List V} {qs : List Rat} (h : H t = some (.tup [.int q.num, .int ((q.den : Nat) : Int)])) (r : Rqs H vs qs) : Rqs H (.ref t :: vs) (q :: qs) := ⟨by simp [r.1], fun i v e => by
  rcases i with _ | i
  · cases e; exact ⟨q, rfl, t, rfl, h⟩
  · exact r.2 i v (by simpa using e)⟩
theorem x_callW {σ : L2.St} {H : Hp} {Q : VK} {sp : Sp} {gV : List V → List V} {E : XK} {tk : TA} (k : tk σ H fun zs H2 => sp (gV zs) H2 Q E) : tCallW sp gV E tk σ H Q := k
theorem x_isb {CS CP : Addr} {H : Hp} {Q : VK} {E : XK} {v u : V} {qs : List Rat} {d : Nat} {o : Option (Int × Int)} {b : Bool} (tw : TW qs) (dv : Dvs qs d) (hv : RS H v qs) (ha : AV H u o) (hb : isB (K9M.remsQ (K9M.candU qs d) qs) o = b) (F : ∀ H', Same H H' → Q (.bl b) H') : sp_is_break CS CP [v, .int (d : Nat), u] H Q E :=
  ⟨v, u, d, rfl, .inr ⟨qs, o, hv, tw.stp, tw.scE, tw.tr, fun z => absurd dv z, fun _ => ⟨tw.wz dv, ha, by rw [hb]; exact F⟩⟩⟩
section
variable {CS CP CN : Addr} {H : Hp} {Q : VK} {v : V}
theorem rsP (F : ∀ t H', Same H H' → H' t = some (.tup [.str "parameter", v, .bl true]) → Q (.ref t) H') : Rsd CP v H (EH CS CP CN Q) := fun H' d s hd => .inr (.inl ⟨rfl, d, v, rfl, hd, fun t ht => F t _ (fun b o e => same_upd ht _ _ (s _ _ e)) upd_same⟩)
theorem rsS (F : ∀ t H', Same H H' → H' t = some (.tup [.str "step", v, .bl true]) → Q (.ref t) H') : Rsd CS v H (EH CS CP CN Q) := fun H' d s hd => .inl ⟨rfl, d, v, rfl, hd, fun t ht => F t _ (fun b o e => same_upd ht _ _ (s _ _ e)) upd_same⟩
theorem rsN (F : ∀ t H', Same H H' → H' t = some (.tup [.str "none", .bl true]) → Q (.ref t) H') : RsdN CN H (EH CS CP CN Q) := fun H' s => .inr (.inr ⟨rfl, rfl, fun t ht => F t _ (fun b o e => same_upd ht _ _ (s _ _ e)) upd_same⟩)
end
/-- tuples as they stand -/
def Tps (H : Hp) : List V → List (List V) → Prop
  | [], [] => True
  | x :: xs, c :: cs => (∃ t, x = .ref t ∧ H t = some (.tup c)) ∧ Tps H xs cs
  | _, _ => False
theorem Tps.tsame {H H' : Hp} (s : TSame H H') : ∀ {xs : List V} {cs : List (List V)}, Tps H xs cs → Tps H' xs cs
  | [], [], h => h
  | x :: xs, c :: cs, ⟨⟨t, e, m⟩, h⟩ => ⟨⟨t, e, s _ _ m⟩, Tps.tsame s h⟩
theorem Tps.snoc {H : Hp} {t : Addr} {c : List V} (m : H t = some (.tup c)) : ∀ {xs : List V} {cs : List (List V)}, Tps H xs cs → Tps H (xs ++ [.ref t]) (cs ++ [c])
  | [], [], _ => ⟨⟨t, rfl, m⟩, trivial⟩
  | x :: xs, c' :: cs, ⟨h1, h2⟩ => ⟨h1, Tps.snoc m h2⟩
theorem Tps.dp {K : PySem.W.Frag} {H : Hp} {cs0 : List (List V)} (D : List V → List PyData) (hD : ∀ c ∈ cs0, DpAll K H c (D c)) : ∀ {xs : List V} {cs : List (List V)}, (∀ c ∈ cs, c ∈ cs0) → Tps H xs cs → DpAll K H xs (cs.map fun c => .tuple (D c))
  | [], [], _, _ => .nil
  | x :: xs, c :: cs, hc, ⟨⟨t, e, m⟩, h2⟩ => by
    subst e
    exact .cons (.tup (.of m) (hD c (hc c List.mem_cons_self))) (Tps.dp D hD (fun c' h => hc c' (List.mem_cons_of_mem _ h)) h2)
/-- what stands while the tellings are gathered -/
structure In6 (TL : List (Addr × Str)) (f4 f5 l : Addr) (H : Hp) (xs : List V) (cs : List (List V)) : Prop where
  r4 : RS H (.ref f4) q4
  r5 : RS H (.ref f5) q5
  tb : LamX.Tabs TL H
  at_ : H l = some (.lst xs)
  tp : Tps H xs cs
theorem x_lamE {TL : List (Addr × Str)} {CS CP CN : Addr} {t : XK → TE} {σ : L2.St} {H : Hp} {Q : VK} (tb : LamX.Tabs TL H) (h : ∀ H1, LamX.ExtN H H1 → LamX.Tabs TL H1 → ∀ R, t (EH CS CP CN Q) σ H1 R) : LamX.tLam TL (TTH CS CP CN) t σ H Q := x_lam tb fun H5 e5 tb5 R _ => h H5 e5 tb5 R
theorem x_appL {K : PySem.W.Frag} {TL : List (Addr × Str)} {CS CP CN f4 f5 l : Addr} {t : XK → TE} {σ : L2.St} {H : Hp} {D : Ends} {xs : List V} {cs : List (List V)} {c : List V} (I : In6 TL f4 f5 l H xs cs) (h0 : σ[0]? = some (some (.ref l))) (hl : xs.length ≤ 1000)
    (h : ∀ H1, RS H1 (.ref f4) q4 → RS H1 (.ref f5) q5 → ∀ Q R, (∀ t H', Same H1 H' → H' t = some (.tup c) → Q (.ref t) H') → t (EH CS CP CN Q) σ H1 R) (k : ∀ x H', In6 TL f4 f5 l H' (xs ++ [x]) (cs ++ [c]) → D.nx σ H') :
    tDrop (tBM K "list" rAppend (tVar 0) (tCons (LamX.tLam TL (TTH CS CP CN) t) tNil)) D σ H := by
  refine x_drop (x_bm (x_var h0 (x_tyL I.at_ (x_cons (x_lamE I.tb fun H1 e1 tb1 R => h H1 (I.r4.tsame (ext_tup e1)) (I.r5.tsame (ext_tup e1)) _ R fun t H2 s2 m => x_nil ?_)))))
  have l2 := s2 _ _ (e1 _ _ I.at_ fun ps z => by cases z)
  refine x_append l2 (Nat.le_trans hl (by decide)) (k (.ref t) _ ?_)
  have ts : TSame H H2 := fun b xs e => Same.tup s2 _ _ (ext_tup e1 _ _ e)
  have tl := tsame_lst (o := .lst (xs ++ [.ref t])) l2
  refine ⟨(I.r4.tsame ts).tsame tl, (I.r5.tsame ts).tsame tl, fun p hp => ?_, upd_same, ((I.tp.tsame ts).tsame tl).snoc (tl _ _ m)⟩
  obtain ⟨ps, e, tr, hc⟩ := tb1.ext s2 p hp
  refine ⟨ps, (upd_ne fun z => by rw [z, l2] at e; cases e).trans e, tr, fun pos cv hcv => ?_⟩
  obtain ⟨c', ec, m'⟩ := hc pos cv hcv
  exact ⟨c', ec, (upd_ne fun z => by rw [z, l2] at m'; cases m').trans m'⟩
end K9

set_option Elab.async false
set_option linter.all false
set_option maxRecDepth 100000
set_option maxHeartbeats 4000000
namespace K9
open PySem PySem.Spec PyProof.Rows L2
local macro_rules | `(tactic| walk_at "k9mem") => `(tactic| first | with_reducible assumption | exact upd_same | ((with_reducible refine mem_upd (by with_reducible assumption) ?_); walk_at "k9mem") | ((with_reducible refine mem_same (by with_reducible assumption) ?_); walk_at "k9mem"))
local macro_rules | `(tactic| walk_at "k91") => `(tactic| with_reducible (first | refine x_seq ?_ | refine x_asg ?_ | refine x_name ?_ | refine x_ret ?_ | refine x_drop ?_ | refine x_next ?_ | refine x_ifs ?_ | refine x_if ?_ | refine x_test ?_ | refine x_tb ?_ | refine x_tnot ?_ | refine x_tand ?_ | refine x_tor ?_ | refine x_andv ?_ | refine x_orv ?_ | refine x_notv ?_ | refine x_var rfl ?_ | refine x_c ?_ | refine x_op ?_ | refine x_un ?_ | refine x_i0 ?_ | refine x_par ?_ | refine x_two ?_ | refine x_eqI ?_ | refine x_neI ?_ | refine x_u ?_ | refine x_call ?_ | refine x_cb ?_ | refine x_cons ?_ | refine x_nil ?_ | refine x_tup ?_ | refine x_lst ?_ | refine x_gcd ?_ | refine x_for ?_ | refine x_iL ?_ | refine x_iT ?_ | refine x_iR1 ?_ | refine x_iR2 ?_ | refine x_lc ?_ | refine x_bm ?_ | refine x_bm0 ?_ | refine x_sl ?_ | refine x_nopart ?_ | refine x_part ?_ | refine x_some ?_ | refine x_bl ?_))
local macro_rules | `(tactic| walk_at "k9") => `(tactic| repeat (walk_at "k91"))
section
variable {X : Cx}
theorem pe_kw2 {CX : CXT} {k : Nat} {x k1 k2 : Str} {st : Stmt} {ps : List Str} {sp : Sp} {p pos : Pos} {kws : List Keyword} {tk : TA} {E : XK} (h : Kn X.prog X.w X.K X.mg X.base CX k x ps sp) (D : DefAt X.K X.mg x st)
    (hr : Room k X.A) (hg : Gl X x) (hx : Passes CX X E)
    (hb : ∀ (kV doc pm : Value) (an : Option Addr) (cdv ct : Value) (u1 u2 : Value), bindArgs (PySem.W.fnOf x x (defArgs st) (defBody st) (defScope st) .none kV doc pm an cdv ct) ⟨[], [(k1, u1), (k2, u2)]⟩ = pure (ps.zip [u2, u1]))
    (hkw : PK X kws tk) (hall : (backToKw pos (keywordEach kws X.env)).all (·.1.isSome) = true := by rfl) (hks : (backToKw pos (keywordEach kws X.env)).filterMap (·.1) = [k1, k2] := by rfl) (hdb : (x == ("__debug__" : Str)) = false := by decide)
    (hpl : ((backTo pos (starEach [] X.env)).any (·.1) || (backToKw pos (keywordEach kws X.env)).any (·.1.isNone)) = false := by rfl) (hl2 : ps.length = 2 := by rfl) : PE X (.Call (.Name x p) [] kws pos) (tCallW sp (fun zs => match zs with | [a, b] => [b, a] | _ => []) E tk) :=
  pe_kw (ks := [k1, k2]) _ (fun ws => match ws with | [a, b] => [b, a] | _ => []) h D hr hg hx (fun {zs ws} r => match zs, ws, r with
    | _, _, .cons a (.cons b .nil) => .cons b (.cons a .nil)
    | _, _, .nil => .nil
    | _, _, .cons _ .nil => .nil
    | _, _, .cons _ (.cons _ (.cons _ _)) => .nil) (fun kV doc pm an cdv ct ws hl => match ws, hl with
    | [a, b], _ => hb kV doc pm an cdv ct a b
    | [], h => absurd (h.trans hl2) (show ¬ (0 : Nat) = 2 by decide)
    | [_], h => absurd (h.trans hl2) (show ¬ (0 : Nat) = 2 by decide)
    | _ :: _ :: _ :: _, h => absurd (h.trans hl2) (show ¬ (0 : Nat) = 2 by decide)) hkw hall hks hdb hpl
theorem pe_kw3 {CX : CXT} {k : Nat} {x k1 k2 k3 : Str} {st : Stmt} {ps : List Str} {sp : Sp} {p pos : Pos} {kws : List Keyword} {tk : TA} {E : XK} (h : Kn X.prog X.w X.K X.mg X.base CX k x ps sp) (D : DefAt X.K X.mg x st)
    (hr : Room k X.A) (hg : Gl X x) (hx : Passes CX X E)
    (hb : ∀ (kV doc pm : Value) (an : Option Addr) (cdv ct : Value) (u1 u2 u3 : Value), bindArgs (PySem.W.fnOf x x (defArgs st) (defBody st) (defScope st) .none kV doc pm an cdv ct) ⟨[], [(k1, u1), (k2, u2), (k3, u3)]⟩ = pure (ps.zip [u3, u2, u1]))
    (hkw : PK X kws tk) (hall : (backToKw pos (keywordEach kws X.env)).all (·.1.isSome) = true := by rfl) (hks : (backToKw pos (keywordEach kws X.env)).filterMap (·.1) = [k1, k2, k3] := by rfl) (hdb : (x == ("__debug__" : Str)) = false := by decide)
    (hpl : ((backTo pos (starEach [] X.env)).any (·.1) || (backToKw pos (keywordEach kws X.env)).any (·.1.isNone)) = false := by rfl) (hl2 : ps.length = 3 := by rfl) : PE X (.Call (.Name x p) [] kws pos) (tCallW sp (fun zs => match zs with | [a, b, c] => [c, b, a] | _ => []) E tk) :=
  pe_kw (ks := [k1, k2, k3]) _ (fun ws => match ws with | [a, b, c] => [c, b, a] | _ => []) h D hr hg hx (fun {zs ws} r => match zs, ws, r with
    | _, _, .cons a (.cons b (.cons c .nil)) => .cons c (.cons b (.cons a .nil))
    | _, _, .nil => .nil
    | _, _, .cons _ .nil => .nil
    | _, _, .cons _ (.cons _ .nil) => .nil
    | _, _, .cons _ (.cons _ (.cons _ (.cons _ _))) => .nil) (fun kV doc pm an cdv ct ws hl => match ws, hl with
    | [a, b, c], _ => hb kV doc pm an cdv ct a b c
    | [], h => absurd (h.trans hl2) (show ¬ (0 : Nat) = 3 by decide)
    | [_], h => absurd (h.trans hl2) (show ¬ (0 : Nat) = 3 by decide)
    | [_, _], h => absurd (h.trans hl2) (show ¬ (0 : Nat) = 3 by decide)
    | _ :: _ :: _ :: _ :: _, h => absurd (h.trans hl2) (show ¬ (0 : Nat) = 3 by decide)) hkw hall hks hdb hpl
end
theorem x_st5 {a b c d e : Int} {σ : L2.St} {H : Hp} {Q : VK} (F : ∀ p H', Same H H' → RS H' (.ref p) [((a : Int) : Rat), ((b : Int) : Rat), ((c : Int) : Rat), ((d : Int) : Rat), ((e : Int) : Rat)] → Q (.ref p) H') : tTup (tCons (tTup (tCons (tC (.int a)) (tCons (tC (.int 1)) tNil))) (tCons (tTup (tCons (tC (.int b)) (tCons (tC (.int 1)) tNil))) (tCons (tTup (tCons (tC (.int c)) (tCons (tC (.int 1)) tNil))) (tCons (tTup (tCons (tC (.int d)) (tCons (tC (.int 1)) tNil))) (tCons (tTup (tCons (tC (.int e)) (tCons (tC (.int 1)) tNil))) tNil))))) σ H Q := by
  refine x_tup ?_
  refine x_cons (x_tup (x_cons (x_c (x_cons (x_c (x_nil ⟨by show 2 ≤ sizeLine; decide, fun t1 ht1 => ?_⟩))))))
  refine x_cons (x_tup (x_cons (x_c (x_cons (x_c (x_nil ⟨by show 2 ≤ sizeLine; decide, fun t2 ht2 => ?_⟩))))))
  refine x_cons (x_tup (x_cons (x_c (x_cons (x_c (x_nil ⟨by show 2 ≤ sizeLine; decide, fun t3 ht3 => ?_⟩))))))
  refine x_cons (x_tup (x_cons (x_c (x_cons (x_c (x_nil ⟨by show 2 ≤ sizeLine; decide, fun t4 ht4 => ?_⟩))))))
  refine x_cons (x_tup (x_cons (x_c (x_cons (x_c (x_nil ⟨by show 2 ≤ sizeLine; decide, fun t5 ht5 => ?_⟩))))))
  refine x_nil ⟨by show 5 ≤ sizeLine; decide, fun p hp => ?_⟩
  refine F p _ (fun bb oo ee => (show (upd (upd (upd (upd (upd (upd H t1 (.tup [.int a, .int 1])) t2 (.tup [.int b, .int 1])) t3 (.tup [.int c, .int 1])) t4 (.tup [.int d, .int 1])) t5 (.tup [.int e, .int 1])) p (.tup [.ref t1, .ref t2, .ref t3, .ref t4, .ref t5])) bb = some oo from by walk_at "k9mem")) ⟨p, _, rfl, upd_same, ?_⟩
  exact (rqs_cons (show (upd (upd (upd (upd (upd (upd H t1 (.tup [.int a, .int 1])) t2 (.tup [.int b, .int 1])) t3 (.tup [.int c, .int 1])) t4 (.tup [.int d, .int 1])) t5 (.tup [.int e, .int 1])) p (.tup [.ref t1, .ref t2, .ref t3, .ref t4, .ref t5])) t1 = some (.tup [.int a, .int 1]) from by walk_at "k9mem") (rqs_cons (show (upd (upd (upd (upd (upd (upd H t1 (.tup [.int a, .int 1])) t2 (.tup [.int b, .int 1])) t3 (.tup [.int c, .int 1])) t4 (.tup [.int d, .int 1])) t5 (.tup [.int e, .int 1])) p (.tup [.ref t1, .ref t2, .ref t3, .ref t4, .ref t5])) t2 = some (.tup [.int b, .int 1]) from by walk_at "k9mem") (rqs_cons (show (upd (upd (upd (upd (upd (upd H t1 (.tup [.int a, .int 1])) t2 (.tup [.int b, .int 1])) t3 (.tup [.int c, .int 1])) t4 (.tup [.int d, .int 1])) t5 (.tup [.int e, .int 1])) p (.tup [.ref t1, .ref t2, .ref t3, .ref t4, .ref t5])) t3 = some (.tup [.int c, .int 1]) from by walk_at "k9mem") (rqs_cons (show (upd (upd (upd (upd (upd (upd H t1 (.tup [.int a, .int 1])) t2 (.tup [.int b, .int 1])) t3 (.tup [.int c, .int 1])) t4 (.tup [.int d, .int 1])) t5 (.tup [.int e, .int 1])) p (.tup [.ref t1, .ref t2, .ref t3, .ref t4, .ref t5])) t4 = some (.tup [.int d, .int 1]) from by walk_at "k9mem") (rqs_cons (show (upd (upd (upd (upd (upd (upd H t1 (.tup [.int a, .int 1])) t2 (.tup [.int b, .int 1])) t3 (.tup [.int c, .int 1])) t4 (.tup [.int d, .int 1])) t5 (.tup [.int e, .int 1])) p (.tup [.ref t1, .ref t2, .ref t3, .ref t4, .ref t5])) t5 = some (.tup [.int e, .int 1]) from by walk_at "k9mem") rqs_nil)))))
theorem x_st2 {a b : Int} {σ : L2.St} {H : Hp} {Q : VK} (F : ∀ p H', Same H H' → RS H' (.ref p) [((a : Int) : Rat), ((b : Int) : Rat)] → Q (.ref p) H') : tTup (tCons (tTup (tCons (tC (.int a)) (tCons (tC (.int 1)) tNil))) (tCons (tTup (tCons (tC (.int b)) (tCons (tC (.int 1)) tNil))) tNil)) σ H Q := by
  refine x_tup ?_
  refine x_cons (x_tup (x_cons (x_c (x_cons (x_c (x_nil ⟨by show 2 ≤ sizeLine; decide, fun t1 ht1 => ?_⟩))))))
  refine x_cons (x_tup (x_cons (x_c (x_cons (x_c (x_nil ⟨by show 2 ≤ sizeLine; decide, fun t2 ht2 => ?_⟩))))))
  refine x_nil ⟨by show 2 ≤ sizeLine; decide, fun p hp => ?_⟩
  refine F p _ (fun bb oo ee => (show (upd (upd (upd H t1 (.tup [.int a, .int 1])) t2 (.tup [.int b, .int 1])) p (.tup [.ref t1, .ref t2])) bb = some oo from by walk_at "k9mem")) ⟨p, _, rfl, upd_same, ?_⟩
  exact (rqs_cons (show (upd (upd (upd H t1 (.tup [.int a, .int 1])) t2 (.tup [.int b, .int 1])) p (.tup [.ref t1, .ref t2])) t1 = some (.tup [.int a, .int 1]) from by walk_at "k9mem") (rqs_cons (show (upd (upd (upd H t1 (.tup [.int a, .int 1])) t2 (.tup [.int b, .int 1])) p (.tup [.ref t1, .ref t2])) t2 = some (.tup [.int b, .int 1]) from by walk_at "k9mem") rqs_nil))
section
variable {P : Program} {w : World} {K : PySem.W.Frag} {mg : Str → Option Value} {base : Heap}
variable {CS CP CN CE : Addr}
abbrev s_law_by_hand : Stmt := topS 56
abbrev N_law_by_hand : List Str := ["_law_got", "_law_due", "_law_four", "_law_two"]
theorem sc_law_by_hand : FnScope N_law_by_hand [] (defScope s_law_by_hand) := ⟨rfl, rfl, rfl, by decide +kernel, rfl, by decide +kernel, by decide +kernel⟩
set_option maxHeartbeats 1500000 in
theorem kn_law_by_hand (D : DefAt K mg "_law_by_hand" s_law_by_hand) (T : Wd mg) (hx : HX P K mg CS CP CN CE) (Dh : DefAt K mg "_law_heard" s_law_heard) (Db : DefAt K mg "first_break" s_first_break) (Di : DefAt K mg "is_break" s_is_break) {cA P1 P2 : Addr} (tc : TC K mg base "_law_by_hand" cA P2) (hP : P1 ≠ P2)
    (k_law_like : KnG P w K mg base 1 "_law_like" ["_law_got", "_law_due"] (sp_law_like K))
    (k_first_break : Kn P w K mg base (L2.CX P w) 6 "first_break" ["step", "degree"] (sp_first_break CP CN)) (k_is_break : Kn P w K mg base (L2.CX P w) 5 "is_break" ["step", "degree", "value"] (sp_is_break CS CP)) :
    KnG P w K mg base 12 "_law_by_hand" [] (sp_law_by_hand (tl2 P1 P2)) := by
  have S := sc_law_by_hand
  refine KnG.of D S (fun vs H Q E h => ?_) (fun _ _ _ _ _ _ us hl => match us, hl with | [], _ => rfl) fun oc od dV kV doc pm an cdv ct osl lk A outer s H vs Q E hgu hr h => ?_
  · obtain ⟨rfl, _⟩ := h; rfl
  obtain ⟨rfl, tb, k⟩ := h
  obtain ⟨⟨fdh, Fh⟩, gh⟩ := Dh
  have bh := Fh.bindsN (ps := ["_law_call"]) fun _ _ _ _ _ _ us hl => match us, hl with | [_], _ => rfl
  have Fkp := Fh.kp
  obtain ⟨och, odh, dVh, kVh, doch, pmh, anh, cdvh, cth, oslh, rfl, lkh, hcdh, _, _⟩ := Fh.ex
  have TB := tc.tb
  have hcode : cdv = .ref cA := tc.code _ _ _ _ lk
  generalize hTL : tl2 P1 P2 = TL at *
  have hmT : (P2, q2) ∈ TL := by rw [← hTL]; exact List.mem_cons_of_mem _ List.mem_cons_self
  have hu : ∀ p ∈ TL, p.1 = P2 → p.2 = q2 := fun p hp e => by
    rw [← hTL] at hp
    rcases List.mem_cons.mp hp with h | h
    · rw [h] at e; exact absurd e hP
    · rw [List.mem_singleton.mp h]
  refine ⟨_, PSs.nox (pss_cons (ps_asg (pe_tup (pa_cons (pe_tup (pa_cons (pe_tup (pa_cons pe_int (pa_cons pe_int pa_nil))) (pa_cons (pe_tup (pa_cons pe_int (pa_cons pe_int pa_nil))) (pa_cons (pe_tup (pa_cons pe_int (pa_cons pe_int pa_nil))) (pa_cons (pe_tup (pa_cons pe_int (pa_cons pe_int pa_nil))) (pa_cons (pe_tup (pa_cons pe_int (pa_cons pe_int pa_nil))) pa_nil)))))) (pa_cons (pe_tup (pa_cons (pe_tup (pa_cons pe_int (pa_cons pe_int pa_nil))) (pa_cons (pe_tup (pa_cons pe_int (pa_cons pe_int pa_nil))) (pa_cons (pe_tup (pa_cons pe_int (pa_cons pe_int pa_nil))) (pa_cons (pe_tup (pa_cons pe_int (pa_cons pe_int pa_nil))) (pa_cons (pe_tup (pa_cons pe_int (pa_cons pe_int pa_nil))) pa_nil)))))) pa_nil))) (pg_tup rfl (pgs_cons (pg_name (i := 2) S.nd rfl (by first | exact .inl rfl | exact .inr rfl)) (pgs_cons (pg_name (i := 3) S.nd rfl (by first | exact .inl rfl | exact .inr rfl)) pgs_nil))))
    (pss_cons (ps_set (i := 0) S.nd rfl (Or.inl rfl) (pe_lst (pa_cons (pe_kw2 (k1 := ("degree" : Str)) (k2 := ("step" : Str)) k_first_break Db (hr.mono (by decide)) (by rfl) passL (fun _ _ _ _ _ _ _ _ => by first | rfl | with_unfolding_all rfl) (pk_cons pe_int (pk_cons (pv 2) pk_nil))) (pa_cons (pe_kw3 (k1 := ("value" : Str)) (k2 := ("degree" : Str)) (k3 := ("step" : Str)) k_is_break Di (hr.mono (by decide)) (by rfl) passL (fun _ _ _ _ _ _ _ _ _ => by first | rfl | with_unfolding_all rfl) (pk_cons (pe_tup (pa_cons pe_int (pa_cons pe_int pa_nil))) (pk_cons pe_int (pk_cons (pv 2) pk_nil)))) (pa_cons (pe_kn k_is_break (hr.mono (by decide)) (by rfl) passL (pa_cons (pv 2) (pa_cons pe_int (pa_cons (pe_tup (pa_cons pe_int (pa_cons pe_int pa_nil))) pa_nil)))) pa_nil)))))
    (pss_cons (ps_set (i := 0) S.nd rfl (Or.inl rfl) (pe_op op_cat (pv 0) (pe_lst (pa_cons (pe_kn k_is_break (hr.mono (by decide)) (by rfl) passL (pa_cons (pv 3) (pa_cons pe_int (pa_cons (pe_tup (pa_cons pe_int (pa_cons pe_int pa_nil))) pa_nil)))) (pa_cons (pe_kn k_is_break (hr.mono (by decide)) (by rfl) passL (pa_cons (pv 2) (pa_cons pe_int (pa_cons (pe_tup (pa_cons pe_int (pa_cons pe_bl pa_nil))) pa_nil)))) (pa_cons (pe_kn k_is_break (hr.mono (by decide)) (by rfl) passL (pa_cons (pv 2) (pa_cons pe_int (pa_cons (pe_tup (pa_cons pe_bl (pa_cons pe_int pa_nil))) pa_nil)))) pa_nil))))))
    (pss_cons (ps_if (pt_not (pt_val (pe_knG k_law_like hgu (hr.mono (by decide)) (by rfl) (pa_cons (pv 0) (pa_cons (pe_lst (pa_cons (pe_tup (pa_cons pe_int (pa_cons pe_int pa_nil))) (pa_cons pe_bl (pa_cons pe_bl (pa_cons pe_bl (pa_cons pe_bl (pa_cons pe_bl pa_nil))))))) pa_nil))))) (pss_one (ps_ret pe_bl)) pss_nil)
    (pss_cons (ps_set (i := 0) S.nd rfl (Or.inl rfl) (pe_lst (pa_cons (LamX.pe_lamcall (k := 8) (T := TL) (TT := TTH CS CP CN) (by rfl) gh Fkp lkh hcdh bh sc_law_heard rfl (Or.inl rfl) (heard_gives T hx) TB hcode hmT hu (hr.mono (j := 10) (by decide)) (LamX.lamS_by (sc := defScope s_law_by_hand) (by decide +kernel)) (by rfl) (fun _ _ _ _ _ => by first | rfl | with_unfolding_all rfl) (fun A outer s H E f c' hr' => (pe_kn k_is_break (hr'.mono (by decide)) (by rfl) (passes_call (takes_of rfl rfl rfl rfl) fun _ _ _ _ h => h) (pa_cons (pv 2) (pa_cons pe_int (pa_cons pe_non pa_nil)))))) pa_nil)))
    (pss_cons (ps_expr (pe_bm PySem.F.plainAttrs_list PySem.F.slot_list_append PySem.F.type_list_append mt_append (pv 0) (pa_cons (LamX.pe_lamcall (k := 8) (T := TL) (TT := TTH CS CP CN) (by rfl) gh Fkp lkh hcdh bh sc_law_heard rfl (Or.inl rfl) (heard_gives T hx) TB hcode hmT hu (hr.mono (j := 10) (by decide)) (LamX.lamS_by (sc := defScope s_law_by_hand) (by decide +kernel)) (by rfl) (fun _ _ _ _ _ => by first | rfl | with_unfolding_all rfl) (fun A outer s H E f c' hr' => (pe_kn k_is_break (hr'.mono (by decide)) (by rfl) (passes_call (takes_of rfl rfl rfl rfl) fun _ _ _ _ h => h) (pa_cons pe_non (pa_cons pe_int (pa_cons pe_non pa_nil)))))) pa_nil)))
    (pss_cons (ps_expr (pe_bm PySem.F.plainAttrs_list PySem.F.slot_list_append PySem.F.type_list_append mt_append (pv 0) (pa_cons (LamX.pe_lamcall (k := 8) (T := TL) (TT := TTH CS CP CN) (by rfl) gh Fkp lkh hcdh bh sc_law_heard rfl (Or.inl rfl) (heard_gives T hx) TB hcode hmT hu (hr.mono (j := 10) (by decide)) (LamX.lamS_by (sc := defScope s_law_by_hand) (by decide +kernel)) (by rfl) (fun _ _ _ _ _ => by first | rfl | with_unfolding_all rfl) (fun A outer s H E f c' hr' => (pe_kn k_first_break (hr'.mono (by decide)) (by rfl) (passes_call (takes_of rfl rfl rfl rfl) fun _ _ _ _ h => h) (pa_cons (pv 3) (pa_cons pe_int pa_nil))))) pa_nil)))
    (pss_cons (ps_expr (pe_bm PySem.F.plainAttrs_list PySem.F.slot_list_append PySem.F.type_list_append mt_append (pv 0) (pa_cons (LamX.pe_lamcall (k := 8) (T := TL) (TT := TTH CS CP CN) (by rfl) gh Fkp lkh hcdh bh sc_law_heard rfl (Or.inl rfl) (heard_gives T hx) TB hcode hmT hu (hr.mono (j := 10) (by decide)) (LamX.lamS_by (sc := defScope s_law_by_hand) (by decide +kernel)) (by rfl) (fun _ _ _ _ _ => by first | rfl | with_unfolding_all rfl) (fun A outer s H E f c' hr' => (pe_kn k_first_break (hr'.mono (by decide)) (by rfl) (passes_call (takes_of rfl rfl rfl rfl) fun _ _ _ _ h => h) (pa_cons (pv 2) (pa_cons pe_int pa_nil))))) pa_nil)))
    (pss_cons (ps_expr (pe_bm PySem.F.plainAttrs_list PySem.F.slot_list_append PySem.F.type_list_append mt_append (pv 0) (pa_cons (LamX.pe_lamcall (k := 8) (T := TL) (TT := TTH CS CP CN) (by rfl) gh Fkp lkh hcdh bh sc_law_heard rfl (Or.inl rfl) (heard_gives T hx) TB hcode hmT hu (hr.mono (j := 10) (by decide)) (LamX.lamS_by (sc := defScope s_law_by_hand) (by decide +kernel)) (by rfl) (fun _ _ _ _ _ => by first | rfl | with_unfolding_all rfl) (fun A outer s H E f c' hr' => (pe_kn k_first_break (hr'.mono (by decide)) (by rfl) (passes_call (takes_of rfl rfl rfl rfl) fun _ _ _ _ h => h) (pa_cons (pv 2) (pa_cons pe_int pa_nil))))) pa_nil)))
    (pss_cons (ps_expr (pe_bm PySem.F.plainAttrs_list PySem.F.slot_list_append PySem.F.type_list_append mt_append (pv 0) (pa_cons (LamX.pe_lamcall (k := 8) (T := TL) (TT := TTH CS CP CN) (by rfl) gh Fkp lkh hcdh bh sc_law_heard rfl (Or.inl rfl) (heard_gives T hx) TB hcode hmT hu (hr.mono (j := 10) (by decide)) (LamX.lamS_by (sc := defScope s_law_by_hand) (by decide +kernel)) (by rfl) (fun _ _ _ _ _ => by first | rfl | with_unfolding_all rfl) (fun A outer s H E f c' hr' => (pe_kn k_first_break (hr'.mono (by decide)) (by rfl) (passes_call (takes_of rfl rfl rfl rfl) fun _ _ _ _ h => h) (pa_cons (pe_tup (pa_cons (pe_tup (pa_cons pe_int (pa_cons pe_int pa_nil))) (pa_cons (pe_tup (pa_cons pe_int (pa_cons pe_int pa_nil))) pa_nil))) (pa_cons pe_int pa_nil))))) pa_nil)))
    (pss_cons (ps_set (i := 1) S.nd rfl (Or.inl rfl) (pe_lst (pa_cons (pe_tup (pa_cons pe_str (pa_cons pe_int (pa_cons pe_bl pa_nil)))) (pa_cons (pe_tup (pa_cons pe_str (pa_cons pe_non (pa_cons pe_bl pa_nil)))) (pa_cons (pe_tup (pa_cons pe_str (pa_cons pe_bl pa_nil))) (pa_cons (pe_tup (pa_cons pe_str (pa_cons pe_int (pa_cons pe_bl pa_nil)))) pa_nil))))))
    (pss_one (ps_ret (pe_knG k_law_like hgu (hr.mono (by decide)) (by rfl) (pa_cons (pv 0) (pa_cons (pe_op op_cat (pv 1) (pe_op op_rep (pe_lst (pa_cons (pe_tup (pa_cons pe_str (pa_cons pe_bl pa_nil))) pa_nil)) pe_int)) pa_nil)))))))))))))))), ?_⟩
  clear D Db Di tc hgu k_law_like k_first_break k_is_break S lk gh bh Fkp lkh hcdh TB hcode hu hr Fh hx T
  refine x_seq (x_asg (x_tup (x_cons (x_st5 fun f4 H1 s1 r4 => x_cons (x_st5 fun f5 H2 s2 r5 => x_nil ⟨by show 2 ≤ sizeLine; decide, fun t ht => ?_⟩)))))
  refine x_gT2n (by rfl) upd_same ?_
  have s3 := same_upd (o := .tup [.ref f4, .ref f5]) ht
  have r43 : RS (upd H2 t (.tup [.ref f4, .ref f5])) (.ref f4) q4 := (RS.same r4 s2).same s3
  have r53 : RS (upd H2 t (.tup [.ref f4, .ref f5])) (.ref f5) q5 := RS.same r5 s3
  have tb3 : LamX.Tabs TL (upd H2 t (.tup [.ref f4, .ref f5])) := ((tb.ext s1).ext s2).ext s3
  clear r4 r5 s1 s2 s3 tb
  generalize upd H2 t (.tup [.ref f4, .ref f5]) = H3 at *
  walk_at "k9"
  refine x_callW ?_
  walk_at "k9"
  refine ⟨.ref f4, q4, 2, rfl, r43, tw4.stp, tw4.scE, tw4.tr, fun z => absurd dv42 z, fun _ => ⟨tw4.wz dv42, (fun z => by rw [br42] at z; cases z), fun i j e H4 v s4 rb => ?_⟩⟩
  rw [br42] at e
  cases e
  obtain ⟨t1, rfl, m1⟩ := rb
  refine x_cons (x_callW ?_)
  walk_at "k9"
  refine ⟨by show 2 ≤ sizeLine; decide, fun t2 ht2 => ?_⟩
  have s5 := same_upd (o := .tup [.int 0, .int 1]) ht2
  walk_at "k9"
  refine x_isb (d := 2) tw4 dv42 ((r43.same s4).same s5) (.inl ⟨t2, _, _, rfl, upd_same, .inl ⟨_, rfl⟩, .inl ⟨_, rfl⟩, rfl⟩) isb4a fun H6 s6 => ?_
  have s36 : Same H3 H6 := fun b o e => s6 _ _ (s5 _ _ (s4 _ _ e))
  have m16 := s6 _ _ (s5 _ _ m1)
  clear s6 s5 s4 m1 ht2
  walk_at "k9"
  refine ⟨by show 2 ≤ sizeLine; decide, fun t3 ht3 => ?_⟩
  have s7 := same_upd (o := .tup [.int 1, .int 1]) ht3
  walk_at "k9"
  refine x_isb (d := 2) tw4 dv42 ((r43.same s36).same s7) (.inl ⟨t3, _, _, rfl, upd_same, .inl ⟨_, rfl⟩, .inl ⟨_, rfl⟩, rfl⟩) isb4b fun H8 s8 => ?_
  have s38 : Same H3 H8 := fun b o e => s8 _ _ (s7 _ _ (s36 _ _ e))
  have m18 := s8 _ _ (s7 _ _ m16)
  clear s8 s7 s36 m16 ht3
  walk_at "k9"
  refine ⟨by show 3 ≤ sizeLine; decide, fun l1 hl1 => ?_⟩
  have s9 := same_upd (o := .lst [.ref t1, .bl true, .bl false]) hl1
  have r4a := (r43.same s38).same s9
  have r5a := (r53.same s38).same s9
  have tba := (tb3.ext s38).ext s9
  have m1a := s9 _ _ m18
  have g1a : upd H8 l1 (.lst [.ref t1, .bl true, .bl false]) l1 = some (.lst [.ref t1, .bl true, .bl false]) := upd_same
  clear r43 r53 tb3 m18 s9 s38 hl1
  generalize upd H8 l1 (.lst [.ref t1, .bl true, .bl false]) = H9 at *
  walk_at "k9"
  refine ⟨by show 2 ≤ sizeLine; decide, fun t2 ht2 => ?_⟩
  have sA := same_upd (o := .tup [.int 0, .int 1]) ht2
  walk_at "k9"
  refine x_isb (d := 2) tw5 dv52 (r5a.same sA) (.inl ⟨t2, _, _, rfl, upd_same, .inl ⟨_, rfl⟩, .inl ⟨_, rfl⟩, rfl⟩) isb5 fun HB sB => ?_
  have sAB : Same H9 HB := fun b o e => sB _ _ (sA _ _ e)
  clear sA sB ht2
  walk_at "k9"
  refine ⟨by show 2 ≤ sizeLine; decide, fun t2 ht2 => ?_⟩
  have sA := same_upd (o := .tup [.int 0, .bl true]) ht2
  walk_at "k9"
  refine x_isb (d := 2) (o := none) (b := false) tw4 dv42 ((r4a.same sAB).same sA) (.inl ⟨t2, _, _, rfl, upd_same, .inl ⟨_, rfl⟩, .inr (.inl ⟨_, rfl⟩), rfl⟩) rfl fun HC sC => ?_
  have sAC : Same H9 HC := fun b o e => sC _ _ (sA _ _ (sAB _ _ e))
  clear sA sAB sC ht2
  walk_at "k9"
  refine ⟨by show 2 ≤ sizeLine; decide, fun t2 ht2 => ?_⟩
  have sA := same_upd (o := .tup [.bl false, .int 1]) ht2
  walk_at "k9"
  refine x_isb (d := 2) (o := none) (b := false) tw4 dv42 ((r4a.same sAC).same sA) (.inl ⟨t2, _, _, rfl, upd_same, .inr (.inl ⟨_, rfl⟩), .inl ⟨_, rfl⟩, rfl⟩) rfl fun HD sD => ?_
  have sAD : Same H9 HD := fun b o e => sD _ _ (sA _ _ (sAC _ _ e))
  clear sA sAC sD ht2
  walk_at "k9"
  refine ⟨by show 3 ≤ sizeLine; decide, fun l2 hl2 => ?_⟩
  have sA := same_upd (o := .lst [.bl false, .bl false, .bl false]) hl2
  refine x_cat (sA _ _ (sAD _ _ g1a)) upd_same (by show 6 ≤ 100000; decide) fun l3 hl3 => ?_
  have sE := same_upd (o := .lst ([.ref t1, .bl true, .bl false] ++ [.bl false, .bl false, .bl false])) hl3
  have s9F : Same H9 (upd (upd HD l2 (.lst [.bl false, .bl false, .bl false])) l3 (.lst ([.ref t1, .bl true, .bl false] ++ [.bl false, .bl false, .bl false]))) := fun b o e => sE _ _ (sA _ _ (sAD _ _ e))
  have g3 : upd (upd HD l2 (.lst [.bl false, .bl false, .bl false])) l3 (.lst ([.ref t1, .bl true, .bl false] ++ [.bl false, .bl false, .bl false])) l3 = some (.lst [.ref t1, .bl true, .bl false, .bl false, .bl false, .bl false]) := upd_same
  have r4b := r4a.same s9F
  have r5b := r5a.same s9F
  have tbb := tba.ext s9F
  have m1b := s9F _ _ m1a
  clear s9F sE sA sAD r4a r5a tba m1a g1a hl2 hl3
  generalize upd (upd HD l2 (.lst [.bl false, .bl false, .bl false])) l3 (.lst ([.ref t1, .bl true, .bl false] ++ [.bl false, .bl false, .bl false])) = HF at *
  walk_at "k9"
  refine ⟨by show 2 ≤ sizeLine; decide, fun t2 ht2 => ?_⟩
  have sA := same_upd (o := .tup [.int 0, .int 1]) ht2
  walk_at "k9"
  refine ⟨by show 6 ≤ sizeLine; decide, fun l4 hl4 => ?_⟩
  have sB := same_upd (o := .lst [.ref t2, .bl true, .bl false, .bl false, .bl false, .bl false]) hl4
  walk_at "k9"
  refine ⟨_, _, .list [.tuple [.int 0, .int 1], .bool true, .bool false, .bool false, .bool false, .bool false], rfl, .lst (.of (sB _ _ (sA _ _ g3))) (.cons (dp_num (sB _ _ (sA _ _ m1b))) (.cons (.bl _) (.cons (.bl _) (.cons (.bl _) (.cons (.bl _) (.cons (.bl _) .nil)))))), .lst (.of upd_same) (.cons (dp_num (sB _ _ upd_same)) (.cons (.bl _) (.cons (.bl _) (.cons (.bl _) (.cons (.bl _) (.cons (.bl _) .nil)))))), okB_ok (by decide +kernel), ?_⟩
  walk_at "k9"
  refine x_no rfl ?_
  have r4c := (r4b.same sA).same sB
  have r5c := (r5b.same sA).same sB
  have tbc := (tbb.ext sA).ext sB
  clear r4b r5b tbb sA sB m1b g3 ht2 hl4
  generalize upd (upd HF t2 (.tup [.int 0, .int 1])) l4 (.lst [.ref t2, .bl true, .bl false, .bl false, .bl false, .bl false]) = HG at *
  walk_at "k9"
  refine x_lamE tbc fun HH eH tbH R => ?_
  walk_at "k9"
  refine ⟨_, _, 3, rfl, .inr ⟨q4, none, r4c.tsame (ext_tup eH), tw4.stp, tw4.scE, tw4.tr, fun _ => rsP fun t5 HI sI mI => ?_, fun z => absurd z dv43⟩⟩
  walk_at "k9"
  refine ⟨by show 1 ≤ sizeLine; decide, fun l5 hl5 => ?_⟩
  have sJ := same_upd (o := .lst [.ref t5]) hl5
  have tsJ : TSame HG (upd HI l5 (.lst [.ref t5])) := fun b xs e => Same.tup sJ _ _ (Same.tup sI _ _ (ext_tup eH _ _ e))
  have I1 : In6 TL f4 f5 l5 (upd HI l5 (.lst [.ref t5])) [.ref t5] [[.str "parameter", .int 3, .bl true]] := ⟨r4c.tsame tsJ, r5c.tsame tsJ, (tbH.ext sI).ext sJ, upd_same, ⟨⟨t5, rfl, sJ _ _ mI⟩, trivial⟩⟩
  clear sJ tsJ sI mI hl5 r4c r5c tbc eH tbH
  generalize upd HI l5 (.lst [.ref t5]) = HJ at *
  refine x_name ?_
  with_reducible refine x_seq ?_
  with_reducible refine x_appL (c := [.str "step", .non, .bl true]) I1 ?_ ?_ ?_ ?_
  · rfl
  · simp
  · intro H1 r4 r5 Q R F
    walk_at "k9"
    exact ⟨.non, _, 3, rfl, .inl ⟨rfl, rsS F⟩⟩
  intro x1 HK I2
  with_reducible refine x_seq ?_
  with_reducible refine x_appL (c := [.str "none", .bl true]) I2 ?_ ?_ ?_ ?_
  · rfl
  · simp
  · intro H1 r4 r5 Q R F
    walk_at "k9"
    exact ⟨_, q5, 2, rfl, r5, tw5.stp, tw5.scE, tw5.tr, fun z => absurd dv52 z, fun _ => ⟨tw5.wz dv52, fun _ => rsN F, fun i j e => by rw [br52] at e; cases e⟩⟩
  intro x2 HL I3
  with_reducible refine x_seq ?_
  with_reducible refine x_appL (c := [.str "parameter", .int 0, .bl true]) I3 ?_ ?_ ?_ ?_
  · rfl
  · simp
  · intro H1 r4 r5 Q R F
    walk_at "k9"
    exact ⟨_, q4, 0, rfl, r4, tw4.stp, tw4.scE, tw4.tr, fun _ => rsP F, fun z => absurd z dv40⟩
  intro x3 HM I4
  with_reducible refine x_seq ?_
  with_reducible refine x_appL (c := [.str "none", .bl true]) I4 ?_ ?_ ?_ ?_
  · rfl
  · simp
  · intro H1 r4 r5 Q R F
    walk_at "k9"
    exact ⟨_, q4, 4, rfl, r4, tw4.stp, tw4.scE, tw4.tr, fun z => absurd dv44 z, fun _ => ⟨tw4.wz dv44, fun _ => rsN F, fun i j e => by rw [br44] at e; cases e⟩⟩
  intro x4 HN I5
  with_reducible refine x_seq ?_
  with_reducible refine x_appL (c := [.str "none", .bl true]) I5 ?_ ?_ ?_ ?_
  · rfl
  · simp
  · intro H1 r4 r5 Q R F
    refine x_call (x_cons (x_st2 fun p H2 s2 rL => ?_))
    walk_at "k9"
    exact ⟨_, qL, 1, rfl, rL, twL.stp, twL.scE, twL.tr, fun z => absurd dvL1 z, fun _ => ⟨twL.wz dvL1, fun _ => rsN fun t H' s' m => F t H' (fun b o e => s' _ _ (s2 _ _ e)) m, fun i j e => by rw [brL1] at e; cases e⟩⟩
  intro x5 HQ I6
  have g := I6.at_
  have tp := I6.tp
  clear I1 I2 I3 I4 I5 I6
  obtain ⟨⟨a1, e1, m1⟩, ⟨a2, rfl, m2⟩, ⟨a3, rfl, m3⟩, ⟨a4, rfl, m4⟩, ⟨a5, rfl, m5⟩, ⟨a6, rfl, m6⟩, _⟩ := tp
  cases e1
  have g2 : HQ l5 = some (.lst [.ref t5, .ref a2, .ref a3, .ref a4, .ref a5, .ref a6]) := g
  clear g
  walk_at "k9"
  refine ⟨by show 3 ≤ sizeLine; decide, fun u1 hu1 => ?_⟩
  walk_at "k9"
  refine ⟨by show 3 ≤ sizeLine; decide, fun u2 hu2 => ?_⟩
  walk_at "k9"
  refine ⟨by show 2 ≤ sizeLine; decide, fun u3 hu3 => ?_⟩
  walk_at "k9"
  refine ⟨by show 3 ≤ sizeLine; decide, fun u4 hu4 => ?_⟩
  walk_at "k9"
  refine ⟨by show 4 ≤ sizeLine; decide, fun l6 hl6 => ?_⟩
  walk_at "k9"
  refine ⟨by show 2 ≤ sizeLine; decide, fun u5 hu5 => ?_⟩
  walk_at "k9"
  refine ⟨by show 1 ≤ sizeLine; decide, fun l7 hl7 => ?_⟩
  walk_at "k9"
  refine x_rep upd_same (by decide) (by decide) fun l8 hl8 => ?_
  refine x_cat (by walk_at "k9mem") upd_same (by show 6 ≤ 100000; decide) fun l9 hl9 => ?_
  walk_at "k9"
  refine ⟨_, _, .list [.tuple [.str "parameter", .int 3, .bool true], .tuple [.str "step", .none, .bool true], .tuple [.str "none", .bool true], .tuple [.str "parameter", .int 0, .bool true], .tuple [.str "none", .bool true], .tuple [.str "none", .bool true]], rfl,
    .lst (xs := [.ref t5, .ref a2, .ref a3, .ref a4, .ref a5, .ref a6]) (.of (by walk_at "k9mem")) (.cons (.tup (.of (by walk_at "k9mem")) (.cons (.str _) (.cons (.int _) (.cons (.bl _) .nil)))) (.cons (.tup (.of (by walk_at "k9mem")) (.cons (.str _) (.cons .non (.cons (.bl _) .nil)))) (.cons (.tup (.of (by walk_at "k9mem")) (.cons (.str _) (.cons (.bl _) .nil)))
      (.cons (.tup (.of (by walk_at "k9mem")) (.cons (.str _) (.cons (.int _) (.cons (.bl _) .nil)))) (.cons (.tup (.of (by walk_at "k9mem")) (.cons (.str _) (.cons (.bl _) .nil))) (.cons (.tup (.of (by walk_at "k9mem")) (.cons (.str _) (.cons (.bl _) .nil))) .nil)))))),
    .lst (xs := [.ref u1, .ref u2, .ref u3, .ref u4, .ref u5, .ref u5]) (.of upd_same) (.cons (.tup (.of (by walk_at "k9mem")) (.cons (.str _) (.cons (.int _) (.cons (.bl _) .nil)))) (.cons (.tup (.of (by walk_at "k9mem")) (.cons (.str _) (.cons .non (.cons (.bl _) .nil)))) (.cons (.tup (.of (by walk_at "k9mem")) (.cons (.str _) (.cons (.bl _) .nil)))
      (.cons (.tup (.of (by walk_at "k9mem")) (.cons (.str _) (.cons (.int _) (.cons (.bl _) .nil)))) (.cons (.tup (.of (by walk_at "k9mem")) (.cons (.str _) (.cons (.bl _) .nil))) (.cons (.tup (.of (by walk_at "k9mem")) (.cons (.str _) (.cons (.bl _) .nil))) .nil)))))), okB_ok (by decide +kernel), ?_⟩
  exact k _
end
end K9

set_option Elab.async false
set_option linter.all false
set_option maxRecDepth 100000
set_option maxHeartbeats 4000000
namespace K9
open PySem PySem.Spec PyProof.Rows L2
local macro_rules | `(tactic| walk_at "k9mem") => `(tactic| first | with_reducible assumption | exact upd_same | ((with_reducible refine mem_upd (by with_reducible assumption) ?_); walk_at "k9mem") | ((with_reducible refine mem_same (by with_reducible assumption) ?_); walk_at "k9mem"))
local macro_rules | `(tactic| walk_at "k91") => `(tactic| with_reducible (first | refine x_seq ?_ | refine x_asg ?_ | refine x_name ?_ | refine x_ret ?_ | refine x_drop ?_ | refine x_next ?_ | refine x_ifs ?_ | refine x_if ?_ | refine x_test ?_ | refine x_tb ?_ | refine x_tnot ?_ | refine x_tand ?_ | refine x_tor ?_ | refine x_andv ?_ | refine x_orv ?_ | refine x_notv ?_ | refine x_var rfl ?_ | refine x_c ?_ | refine x_op ?_ | refine x_un ?_ | refine x_i0 ?_ | refine x_par ?_ | refine x_two ?_ | refine x_eqI ?_ | refine x_neI ?_ | refine x_u ?_ | refine x_call ?_ | refine x_cb ?_ | refine x_cons ?_ | refine x_nil ?_ | refine x_tup ?_ | refine x_lst ?_ | refine x_gcd ?_ | refine x_for ?_ | refine x_iL ?_ | refine x_iT ?_ | refine x_iR1 ?_ | refine x_iR2 ?_ | refine x_lc ?_ | refine x_bm ?_ | refine x_bm0 ?_ | refine x_sl ?_ | refine x_nopart ?_ | refine x_part ?_ | refine x_some ?_ | refine x_bl ?_))
local macro_rules | `(tactic| walk_at "k9") => `(tactic| repeat (walk_at "k91"))
/-! the end, where the law's promise wants that no repr is under way -/
section
variable {P : Program} {w : World} {K : PySem.W.Frag} {mg mb : Str → Option Value} {fa a : Addr} {cs : List (Addr × Addr)} {s₁ : Shared} {vs : List Value} {ns : List Int}
/-- what the run may write or read of the caller: the tables, and the script where the written part has it not -/
def hpOf (K : PySem.W.Frag) (T : List Addr) (a : Addr) (vs : List Value) (ns : List Int) : Hp := fun b =>
  if b ∈ T then some (.tbl #[]) else if b = a ∧ K.lookup a = none then some (.frz { cls := .type "list", data := .seq vs.toArray } (.lst (ns.map V.int))) else none
theorem hpOf_cases {T : List Addr} {b : Addr} {u : HO} (h : hpOf K T a vs ns b = some u) :
    (b ∈ T ∧ u = .tbl #[]) ∨ (b ∉ T ∧ b = a ∧ K.lookup a = none ∧ u = .frz { cls := .type "list", data := .seq vs.toArray } (.lst (ns.map V.int))) := by
  unfold hpOf at h
  by_cases h1 : b ∈ T
  · rw [if_pos h1] at h; cases h; exact .inl ⟨h1, rfl⟩
  · rw [if_neg h1] at h
    by_cases h2 : b = a ∧ K.lookup a = none
    · rw [if_pos h2] at h; cases h; exact .inr ⟨h1, h2.1, h2.2, rfl⟩
    · rw [if_neg h2] at h; cases h
theorem own_end (KX : K.In s₁.heap) (hns : s₁.heap.Ns mainGlobals mg) (hb : s₁.heap.Ns builtinsNs mb) (hbb : ∀ x : Str, x ≠ "__name__" → mb x = bootBuiltins x) (hlim : s₁.heap.NoLimit) (hg : s₁.gens = #[])
    (hT : ∀ p ∈ cs, s₁.heap.get? p.2 = some { cls := .none, data := .fields #[] }) (nT : ∀ p ∈ cs, K.lookup p.2 = none) (C : ∀ p ∈ cs, PySem.W.CodeHd s₁.heap p.1 p.2)
    (hbm : ∃ (bm : Addr) (ob : Obj), mg "__builtins__" = some (.ref bm) ∧ bm ≠ builtinsNs ∧ s₁.heap.get? bm = some ob ∧ ob.cls = .type "module" ∧ ob.dict = some builtinsNs ∧ ob.data = .plain)
    (ha : s₁.heap.get? a = some { cls := .type "list", data := .seq vs.toArray }) (hi : IntsAre vs ns) (hl : ns.length ≤ sizeLine)
    (run : ∀ (base : Heap) (H : Hp), K.In base → base.Ns mainGlobals mg → (∀ p ∈ cs, LamX.TabB base mg p.1 p.2) → Env0 P w K mg base callerA [] s₁ H → (∀ p ∈ cs, H p.2 = some (.tbl #[])) → SqL K H a (ns.map V.int) →
      codeAny (model P w) callerA (.call (.ref fa) ⟨[.ref a], []⟩) (CR CX0 [] P w H s₁ (fun v _ => v = .bl true) fun _ _ _ => False) s₁) :
    codeAny (model P w) callerA (.call (.ref fa) ⟨[.ref a], []⟩) (fun r s' => r = .ok (.ret (.bool true)) ∧ OldK s₁.heap s'.heap ∧ s'.os = s₁.os ∧ AllBare s'.gens) s₁ := by
  have rv := vals_ints hi
  have tab : ∀ b ∈ cs.map (·.2), ∃ c, (c, b) ∈ cs ∧ s₁.heap.get? b = some { cls := .none, data := .fields #[] } := fun b h => by
    obtain ⟨⟨c, b'⟩, m, rfl⟩ := List.mem_map.mp h
    exact ⟨c, m, hT _ m⟩
  have tin : ∀ p ∈ cs, p.2 ∈ cs.map (·.2) := fun p h => List.mem_map_of_mem h
  have na : a ∉ cs.map (·.2) := fun z => by
    obtain ⟨_, _, e⟩ := tab a z
    rw [ha] at e
    cases congrArg Obj.data (Option.some.inj e)
  generalize hH : hpOf K (cs.map (·.2)) a vs ns = H
  -- what is tracked is a table or the script
  have what : ∀ b u, H b = some u → (b ∈ cs.map (·.2) ∧ u = .tbl #[]) ∨ (b = a ∧ K.lookup a = none ∧ u = .frz { cls := .type "list", data := .seq vs.toArray } (.lst (ns.map V.int))) := fun b u h => by
    rw [← hH] at h
    rcases hpOf_cases h with ⟨h1, h2⟩ | ⟨_, h2, h3, h4⟩
    · exact .inl ⟨h1, h2⟩
    · exact .inr ⟨h2, h3, h4⟩
  have ht : ∀ p ∈ cs, H p.2 = some (.tbl #[]) := fun p h => by rw [← hH]; exact if_pos (tin p h)
  have out : ∀ b ob, s₁.heap.get? b = some ob → ob.data ≠ .fields #[] → (∀ xs m, ob.data ≠ .seq xs m) → H b = none := fun b ob e n1 n2 => by
    cases hq : H b with
    | none => rfl
    | some u =>
      rcases what b u hq with ⟨m, _⟩ | ⟨rfl, _⟩
      · obtain ⟨_, _, e'⟩ := tab b m
        rw [e'] at e; cases e; exact absurd rfl n1
      · rw [ha] at e; cases e; exact absurd rfl (n2 _ _)
  have low : ∀ b ob, s₁.heap.get? b = some ob → ob.data ≠ .fields #[] → (∀ xs m, ob.data ≠ .seq xs m) → (hidT s₁.heap H).get? b = some ob := fun b ob e n1 n2 => hidT_get e (out b ob e n1 n2)
  have lns : ∀ (b : Addr) (m : Str → Option Value), s₁.heap.Ns b m → (hidT s₁.heap H).Ns b m := fun b m ⟨ob, es, ep, e, d, r⟩ => ⟨ob, es, ep, low b ob e (by rw [d]; intro z; cases z) (by intro xs m; rw [d]; intro z; cases z), d, r⟩
  have lK : K.In (hidT s₁.heap H) := fun b ob e => hidT_get (KX b ob e) (by
    cases hq : H b with
    | none => rfl
    | some u =>
      rcases what b u hq with ⟨m, _⟩ | ⟨rfl, h2, _⟩
      · obtain ⟨c, m2, _⟩ := tab b m
        rw [show K.lookup b = none from nT _ m2] at e; cases e
      · rw [h2] at e; cases e)
  have lm : Mod K mg (hidT s₁.heap H) := ⟨lK, lns _ _ hns, ⟨mb, lns _ _ hb, hbb⟩, let ⟨mc, h1, h2⟩ := hlim; ⟨mc, lns _ _ h1, h2⟩⟩
  have gT : ∀ p ∈ cs, mainGlobals ≠ p.2 := fun p hp z => by
    obtain ⟨ob, es, ep, e, d, _⟩ := hns
    rw [z, hT p hp] at e
    cases e
    cases d
  have lT : ∀ p ∈ cs, LamX.TabB (hidT s₁.heap H) mg p.1 p.2 := fun p hp => by
    refine ⟨?_, ?_, gT p hp⟩
    · obtain ⟨ob, us, file, tf, flags, tg, inF, text, tt, e, r1, d, r3, r⟩ := C p hp
      refine ⟨ob, us, file, tf, flags, tg, inF, text, tt, low _ _ e (fun z => ?_) (fun xs m z => ?_), r1, d, r3, r⟩
      · rw [d] at z; cases z; simp at r3
      · rw [d] at z; cases z
    · obtain ⟨bm, ob, b1, b2, b3, b4, b5, b6⟩ := hbm
      refine ⟨bm, ob, b1, b2, fun z => ?_, fun z => ?_, low _ _ b3 (by rw [b6]; intro z; cases z) (by intro xs m; rw [b6]; intro z; cases z), b4, b5, b6⟩
      · obtain ⟨o2, es, ep, e, d, _⟩ := hns
        rw [z, e] at b3; cases b3; rw [d] at b6; cases b6
      · rw [z, hT p hp] at b3; cases b3; cases b6
  have hok : HOk P w H s₁.heap := fun b u hq => by
    rcases what b u hq with ⟨m, rfl⟩ | ⟨rfl, _, rfl⟩
    · exact (tab b m).choose_spec.2
    · exact ⟨ha, by rw [List.length_map]; exact hl, vs, _, rv, ha⟩
  have sq : SqL K H a (ns.map V.int) := by
    cases hk : K.lookup a with
    | none => exact .inl (.inr ⟨_, by rw [← hH]; exact (if_neg na).trans (if_pos ⟨rfl, hk⟩)⟩)
    | some ob =>
      have e := KX a ob hk
      rw [ha] at e
      cases e
      exact .inr ⟨_, vs.toArray, _, hk, rfl, rfl, rfl, by rw [List.size_toArray, hi.length]; exact hl, by simpa using rv⟩
  refine codeAny_mono (run _ H lK (lns _ _ hns) lT ⟨rfl, lm, fun b ob e => of_hidT e, Nat.le_of_eq (hidT_size _ _), trivial, (fun b h => by cases h), hok, .of_eq hg⟩ ht sq) fun r s' q => ?_
  match r, q with
  | .error er, q => exact False.elim q
  | .ok .next, q => exact False.elim q
  | .ok .brk, q => exact False.elim q
  | .ok .cont, q => exact False.elim q
  | .ok (.ret u), q =>
    obtain ⟨v, H', os, bare, un, hok', r', hv⟩ := q
    have hv' : v = .bl true := hv
    subst hv'
    have hu : u = Value.bool true := r'
    subst hu
    have stay : ∀ b ob, b ∉ cs.map (·.2) → s₁.heap.get? b = some ob → s'.heap.get? b = some ob := fun b ob nb e => by
      cases hq : H b with
      | none => exact un.keep b ob e hq (fun z => by cases z) (fun z => by cases z)
      | some u =>
        rcases what b u hq with ⟨m, _⟩ | ⟨rfl, _, rfl⟩
        · exact absurd m nb
        · have e2 := (hok' b _ (un.frzs b _ _ hq)).1
          rw [ha] at e
          cases e
          exact e2
    have grow : ∀ p ∈ cs, ∃ more : Array Value, s'.heap.get? p.2 = some { cls := .none, data := .fields more } := fun p hp => by
      obtain ⟨more, e⟩ := un.tbls p.2 #[] (ht p hp)
      exact ⟨_, hok' p.2 _ e⟩
    refine ⟨rfl, ⟨fun b ob e => ?_, fun b ob e => ?_⟩, os, bare⟩
    · by_cases m : b ∈ cs.map (·.2)
      · obtain ⟨c, mc, e2⟩ := tab b m
        obtain ⟨more, e3⟩ := grow _ mc
        rw [e2] at e
        cases e
        exact .inr (.inl ⟨((C _ mc).tab e2).isCodeTable, rfl, #[], more, rfl, by rw [Array.empty_append]; exact e3⟩)
      · exact .inl (stay b ob m e)
    · by_cases m : b ∈ cs.map (·.2)
      · obtain ⟨c, mc, _⟩ := tab b m
        obtain ⟨more, e3⟩ := grow _ mc
        exact ⟨_, e3⟩
      · exact ⟨ob, stay b ob m e⟩
end
/-- an empty table's tables -/
theorem tabs_start {TL : List (Addr × Str)} {H : Hp} (h : ∀ p ∈ TL, H p.1 = some (.tbl #[])) : LamX.Tabs TL H := fun p hp => ⟨#[], h p hp, by
  first
  | exact trivial
  | (constructor)
  | (intro x hx; cases hx), fun pos cv z => by cases z⟩
end K9

set_option Elab.async false
set_option linter.all false
set_option maxRecDepth 100000
set_option maxHeartbeats 4000000
namespace K9
open PySem PySem.Spec PyProof.Rows L2
local macro_rules | `(tactic| walk_at "k9mem") => `(tactic| first | with_reducible assumption | exact upd_same | ((with_reducible refine mem_upd (by with_reducible assumption) ?_); walk_at "k9mem") | ((with_reducible refine mem_same (by with_reducible assumption) ?_); walk_at "k9mem"))
local macro_rules | `(tactic| walk_at "k91") => `(tactic| with_reducible (first | refine x_seq ?_ | refine x_asg ?_ | refine x_name ?_ | refine x_ret ?_ | refine x_drop ?_ | refine x_next ?_ | refine x_ifs ?_ | refine x_if ?_ | refine x_test ?_ | refine x_tb ?_ | refine x_tnot ?_ | refine x_tand ?_ | refine x_tor ?_ | refine x_andv ?_ | refine x_orv ?_ | refine x_notv ?_ | refine x_var rfl ?_ | refine x_c ?_ | refine x_op ?_ | refine x_un ?_ | refine x_i0 ?_ | refine x_par ?_ | refine x_two ?_ | refine x_eqI ?_ | refine x_neI ?_ | refine x_u ?_ | refine x_call ?_ | refine x_cb ?_ | refine x_cons ?_ | refine x_nil ?_ | refine x_tup ?_ | refine x_lst ?_ | refine x_gcd ?_ | refine x_for ?_ | refine x_iL ?_ | refine x_iT ?_ | refine x_iR1 ?_ | refine x_iR2 ?_ | refine x_lc ?_ | refine x_bm ?_ | refine x_bm0 ?_ | refine x_sl ?_ | refine x_nopart ?_ | refine x_part ?_ | refine x_some ?_ | refine x_bl ?_))
local macro_rules | `(tactic| walk_at "k9") => `(tactic| repeat (walk_at "k91"))
namespace Hd
open He
section
variable {K : PySem.W.Frag} {h : Heap} {mg : Str → Option Value}
theorem dAt (X : K.In h) (G : h.Ns mainGlobals mg) (c : SaysK fa fn tf ex xs h K) {x : Str} {i : Nat} (k : Nat) (h1 : fn[k]? = some (dd x i)) (j : Nat) (h2 : fa[j]? = some (.glo x)) : DefAt K mg x (topS i) := by
  obtain ⟨fd, F⟩ := c.d.defs (List.mem_of_getElem? h1)
  exact ⟨⟨fd, F⟩, glo_ok X G (c.d.facts (List.mem_of_getElem? h2))⟩
theorem words (X : K.In h) (G : h.Ns mainGlobals mg) (c : SaysK fa fn tf ex xs h K) : Wd mg := by
  have fr0 : ∀ (j : Nat) (x : Str), fa[j]? = some (.free x) → mg x = none := fun j x e => free_ok X G (c.d.facts (List.mem_of_getElem? e))
  have gc := c.x
  unfold ex at gc
  simp only [Bool.and_eq_true, decide_eq_true_iff] at gc
  refine ⟨fr0 51 _ rfl, PySem.W.mg_of X G gc.2.2.2.2.2.2.2.2.2.2.2.2.1, fr0 52 _ rfl, fr0 53 _ rfl, fr0 54 _ rfl, fr0 55 _ rfl, fr0 56 _ rfl, fr0 57 _ rfl, fr0 58 _ rfl, fr0 59 _ rfl, fr0 60 _ rfl, fr0 61 _ rfl, ?_, ?_⟩
  · exact int_ok X G (c.d.facts (f := .int "MOST_PART" (10 ^ 60)) (List.mem_of_getElem? (i := 63) rfl))
  · exact int_ok X G (c.d.facts (f := .int "MOST_DEGREE" 64) (List.mem_of_getElem? (i := 64) rfl))
abbrev CE (K : PySem.W.Frag) : Addr := ga K "StepError"
abbrev CS (K : PySem.W.Frag) : Addr := ga K "BadStep"
abbrev CP (K : PySem.W.Frag) : Addr := ga K "BadParameter"
abbrev CN (K : PySem.W.Frag) : Addr := ga K "NoRow"
theorem inits (c : SaysK fa fn tf ex xs h K) : initW K "BadStep" = initV "BadStep.__init__" (clsDef 3) ∧ initW K "BadParameter" = initV "BadParameter.__init__" (clsDef 4) ∧ initW K "NoRow" = initV "NoRow.__init__" (clsDef 5) := by
  have e := c.i
  have e2 : [initW K "BadStep", initW K "BadParameter", initW K "NoRow"] = [initV "BadStep.__init__" (clsDef 3), initV "BadParameter.__init__" (clsDef 4), initV "NoRow.__init__" (clsDef 5)] := e
  injection e2 with e3 e4
  injection e4 with e5 e6
  injection e6 with e7 _
  exact ⟨e3, e5, e7⟩
theorem hx (X : K.In h) (G : h.Ns mainGlobals mg) (c : SaysK fa fn tf ex xs h K) : HX PP K mg (CS K) (CP K) (CN K) (CE K) := by
  have gl0 : ∀ (j : Nat) (x : Str), fa[j]? = some (.glo x) → mg x = some (.ref (ga K x)) := fun j x e => glo_ok X G (c.d.facts (List.mem_of_getElem? e))
  have hsup : mg "super" = none := free_ok X G (c.d.facts (List.mem_of_getElem? (i := 62) rfl))
  have gc := c.x
  unfold ex exmB kitB at gc
  simp only [Bool.and_eq_true, decide_eq_true_iff] at gc
  obtain ⟨g1, g2, g3, e1, e2, e3, e4, e5, e6, k1, k2, k3, _, _⟩ := gc
  obtain ⟨i1, i2, i3⟩ := inits c
  have ht : (PP.main.scope.names.lookup ("super" : Str)).isSome = false := by decide +kernel
  obtain ⟨s1, b1, x1⟩ := cls_gives g1 i1 hsup ht
  obtain ⟨s2, b2, x2⟩ := cls_gives g2 i2 hsup ht
  obtain ⟨s3, b3, x3⟩ := cls_gives g3 i3 hsup ht
  refine ⟨⟨⟨_, _, ⟨7, 17, 7, 21⟩, ⟨7, 23, 7, 28⟩, ⟨8, 8, 8, 13⟩, ⟨8, 8, 8, 15⟩, ⟨8, 8, 8, 24⟩, ⟨8, 25, 8, 34⟩, ⟨8, 8, 8, 42⟩, ⟨8, 36, 8, 41⟩, ⟨8, 8, 8, 42⟩, ⟨9, 8, 9, 12⟩, ⟨9, 8, 9, 18⟩, ⟨9, 21, 9, 26⟩, ⟨9, 8, 9, 26⟩, "no step", s1, fun _ => ⟨_, rfl⟩⟩, gl0 1 _ rfl, b1⟩,
    ⟨⟨_, _, ⟨12, 17, 12, 21⟩, ⟨12, 23, 12, 28⟩, ⟨13, 8, 13, 13⟩, ⟨13, 8, 13, 15⟩, ⟨13, 8, 13, 24⟩, ⟨13, 25, 13, 38⟩, ⟨13, 8, 13, 46⟩, ⟨13, 40, 13, 45⟩, ⟨13, 8, 13, 46⟩, ⟨14, 8, 14, 12⟩, ⟨14, 8, 14, 18⟩, ⟨14, 21, 14, 26⟩, ⟨14, 8, 14, 26⟩, "not as told", s2, fun _ => ⟨_, rfl⟩⟩, gl0 2 _ rfl, b2⟩,
    ⟨⟨_, _, ⟨17, 17, 17, 21⟩, ⟨18, 8, 18, 13⟩, ⟨18, 8, 18, 15⟩, ⟨18, 8, 18, 24⟩, ⟨18, 25, 18, 40⟩, ⟨18, 8, 18, 41⟩, ⟨18, 8, 18, 41⟩, "there is none", s3, fun _ => ⟨_, rfl⟩⟩, gl0 3 _ rfl⟩,
    gl0 0 _ rfl, e1, e2, e3, e4, e5, e6, k1, k2, k3, x1, x2, x3⟩
theorem tcOf (c : SaysK fa fn tf ex xs h K) {x : Str} (hp : (x, none) ∈ tf) {base : Heap} (tb : LamX.TabB base mg (cT K (x, none)).1 (cT K (x, none)).2) (i : Nat) (k : Nat) (h1 : fn[k]? = some (dd x i)) : TC K mg base x (cT K (x, none)).1 (cT K (x, none)).2 := by
  refine ⟨fun oc od fd osl lk => ?_, tb⟩
  obtain ⟨fd', F⟩ := c.d.defs (List.mem_of_getElem? h1)
  obtain ⟨oc', od', dV, kV, doc, pm, an, cdv, ct, osl', rfl, lk', hc, _, _⟩ := F.ex
  have lk2 : K.lookup (ga K x) = _ := lk'
  rw [lk] at lk2
  cases lk2
  obtain ⟨cc, e⟩ := codeIn_ref hc
  have e2 := codeOf_eq (p := (x, none)) lk e
  show cdv = .ref (codeOf K (x, none))
  rw [e2]
  exact e
theorem chain (X : K.In h) (G : h.Ns mainGlobals mg) (c : SaysK fa fn tf ex xs h K) (w : World) (base : Heap) (t1 : LamX.TabB base mg (cT K ("_law_degree_right", none)).1 (cT K ("_law_degree_right", none)).2) (t2 : LamX.TabB base mg (cT K ("_law_by_hand", none)).1 (cT K ("_law_by_hand", none)).2) :
    KnG PP w K mg base 13 "law" ["_law_script"] (sp_law K (tl2 (cT K ("_law_degree_right", none)).2 (cT K ("_law_by_hand", none)).2)) := by
  have T := words X G c
  have hx := hx X G c
  have tc1 := tcOf c (x := "_law_degree_right") List.mem_cons_self t1 54 43 rfl
  have tc2 := tcOf c (x := "_law_by_hand") (List.mem_cons_of_mem _ List.mem_cons_self) t2 56 45 rfl
  have hP : (cT K ("_law_degree_right", none)).2 ≠ (cT K ("_law_by_hand", none)).2 := by
    have gc := c.x
    unfold ex at gc
    simp only [Bool.and_eq_true, decide_eq_true_iff] at gc
    exact gc.2.2.2.2.2.2.2.2.2.2.2.2.2
  have D_is_from := dAt X G c (x := "is_from") (i := 9) 0 rfl 4 rfl
  have D_is_number := dAt X G c (x := "is_number") (i := 10) 1 rfl 5 rfl
  have D_is_step := dAt X G c (x := "is_step") (i := 11) 2 rfl 6 rfl
  have D_need_step := dAt X G c (x := "need_step") (i := 12) 3 rfl 7 rfl
  have D_number_of := dAt X G c (x := "number_of") (i := 13) 4 rfl 8 rfl
  have D_number_sum := dAt X G c (x := "number_sum") (i := 14) 5 rfl 9 rfl
  have D_number_times := dAt X G c (x := "number_times") (i := 15) 6 rfl 10 rfl
  have D_reduced := dAt X G c (x := "reduced") (i := 16) 7 rfl 11 rfl
  have D_as_poly := dAt X G c (x := "as_poly") (i := 17) 8 rfl 12 rfl
  have D_as_step := dAt X G c (x := "as_step") (i := 18) 9 rfl 13 rfl
  have D_plus := dAt X G c (x := "plus") (i := 19) 10 rfl 14 rfl
  have D_divided := dAt X G c (x := "divided") (i := 20) 11 rfl 15 rfl
  have D_from_numbers := dAt X G c (x := "from_numbers") (i := 22) 12 rfl 16 rfl
  have D_root_numbers := dAt X G c (x := "root_numbers") (i := 23) 13 rfl 17 rfl
  have D_candidate_so := dAt X G c (x := "candidate_so") (i := 24) 14 rfl 18 rfl
  have D_remainders := dAt X G c (x := "remainders") (i := 25) 15 rfl 19 rfl
  have D_constants := dAt X G c (x := "constants") (i := 26) 16 rfl 20 rfl
  have D_part_so := dAt X G c (x := "part_so") (i := 27) 17 rfl 21 rfl
  have D_need_divisor := dAt X G c (x := "need_divisor") (i := 28) 18 rfl 22 rfl
  have D_candidate := dAt X G c (x := "candidate") (i := 29) 19 rfl 23 rfl
  have D_first_part := dAt X G c (x := "first_part") (i := 30) 20 rfl 24 rfl
  have D_break_so := dAt X G c (x := "break_so") (i := 31) 21 rfl 25 rfl
  have D_first_break := dAt X G c (x := "first_break") (i := 32) 22 rfl 26 rfl
  have D_is_break := dAt X G c (x := "is_break") (i := 33) 23 rfl 27 rfl
  have D__law_mixed := dAt X G c (x := "_law_mixed") (i := 35) 24 rfl 28 rfl
  have D__law_begin := dAt X G c (x := "_law_begin") (i := 36) 25 rfl 29 rfl
  have D__law_draw := dAt X G c (x := "_law_draw") (i := 37) 26 rfl 30 rfl
  have D__law_of := dAt X G c (x := "_law_of") (i := 38) 27 rfl 31 rfl
  have D__law_number := dAt X G c (x := "_law_number") (i := 39) 28 rfl 32 rfl
  have D__law_step := dAt X G c (x := "_law_step") (i := 40) 29 rfl 33 rfl
  have D__law_divisor := dAt X G c (x := "_law_divisor") (i := 41) 30 rfl 34 rfl
  have D__law_frac := dAt X G c (x := "_law_frac") (i := 42) 31 rfl 35 rfl
  have D__law_add := dAt X G c (x := "_law_add") (i := 43) 32 rfl 36 rfl
  have D__law_mul := dAt X G c (x := "_law_mul") (i := 44) 33 rfl 37 rfl
  have D__law_trim := dAt X G c (x := "_law_trim") (i := 45) 34 rfl 38 rfl
  have D__law_sum := dAt X G c (x := "_law_sum") (i := 46) 35 rfl 39 rfl
  have D__law_product := dAt X G c (x := "_law_product") (i := 47) 36 rfl 40 rfl
  have D__law_within := dAt X G c (x := "_law_within") (i := 48) 37 rfl 41 rfl
  have D__law_divided := dAt X G c (x := "_law_divided") (i := 49) 38 rfl 42 rfl
  have D__law_powers_of := dAt X G c (x := "_law_powers_of") (i := 50) 39 rfl 43 rfl
  have D__law_heard := dAt X G c (x := "_law_heard") (i := 51) 40 rfl 44 rfl
  have D__law_like := dAt X G c (x := "_law_like") (i := 52) 41 rfl 45 rfl
  have D__law_pairs := dAt X G c (x := "_law_pairs") (i := 53) 42 rfl 46 rfl
  have D__law_degree_right := dAt X G c (x := "_law_degree_right") (i := 54) 43 rfl 47 rfl
  have D__law_drawn := dAt X G c (x := "_law_drawn") (i := 55) 44 rfl 48 rfl
  have D__law_by_hand := dAt X G c (x := "_law_by_hand") (i := 56) 45 rfl 49 rfl
  have D_law := dAt X G c (x := "law") (i := 57) 46 rfl 50 rfl
  have k_number_of := kn_number_of (P := PP) (w := w) (base := base) D_number_of T
  have k_number_sum := kn_number_sum (P := PP) (w := w) (base := base) D_number_sum T k_number_of
  have k_number_times := kn_number_times (P := PP) (w := w) (base := base) D_number_times T k_number_of
  have k_reduced := kn_reduced (P := PP) (w := w) (base := base) D_reduced T
  have k_as_poly := kn_as_poly (P := PP) (w := w) (base := base) D_as_poly T k_reduced
  have k_as_step := kn_as_step (P := PP) (w := w) (base := base) D_as_step T k_number_of
  have k_from_numbers := kn_from_numbers (P := PP) (w := w) (base := base) D_from_numbers T k_reduced
  have k_plus := kn_plus (P := PP) (w := w) (base := base) D_plus T k_reduced
  have k_divided := kn_divided (P := PP) (w := w) (base := base) D_divided T k_reduced k_plus
  have k_root_numbers := kn_root_numbers (P := PP) (w := w) (base := base) D_root_numbers T k_number_of k_number_sum k_number_times
  have k_candidate_so := kn_candidate_so (P := PP) (w := w) (base := base) D_candidate_so T k_root_numbers k_from_numbers
  have k_remainders := kn_remainders (P := PP) (w := w) (base := base) D_remainders T k_divided
  have k_constants := kn_constants (P := PP) (w := w) (base := base) D_constants T k_number_of k_from_numbers
  have k_part_so := kn_part_so (P := PP) (w := w) (base := base) D_part_so T k_candidate_so k_remainders k_constants
  have k_break_so := kn_break_so (P := PP) (w := w) (base := base) D_break_so T k_candidate_so k_remainders
  have k_is_from := kn_is_from (P := PP) (w := w) (base := base) D_is_from T
  have k_is_number := kn_is_number (P := PP) (w := w) (base := base) D_is_number T k_is_from
  have k_is_step := kn_is_step (P := PP) (w := w) (base := base) D_is_step T k_is_number
  have k_need_step := kn_need_step (P := PP) (w := w) (base := base) D_need_step hx.xs k_is_step
  have k_need_divisor := kn_need_divisor (P := PP) (w := w) (base := base) D_need_divisor T hx.xp k_is_from
  have k_candidate := kn_candidate (P := PP) (w := w) (base := base) D_candidate k_need_step k_need_divisor k_as_poly k_as_step k_candidate_so
  have k_first_part := kn_first_part (P := PP) (w := w) (base := base) D_first_part hx.xn k_need_step k_need_divisor k_as_poly k_as_step k_part_so
  have k_first_break := kn_first_break (P := PP) (w := w) (base := base) D_first_break hx.xn k_need_step k_need_divisor k_as_poly k_break_so
  have k_is_break := kn_is_break (P := PP) (w := w) (base := base) D_is_break T k_is_from k_need_step k_need_divisor k_as_poly k_candidate_so k_remainders
  have k_law_mixed := kn_law_mixed (P := PP) (w := w) (base := base) D__law_mixed T
  have k_law_draw := kn_law_draw (P := PP) (w := w) (base := base) D__law_draw T k_law_mixed
  have k_law_of := kn_law_of (P := PP) (w := w) (base := base) D__law_of T k_law_draw
  have k_law_divisor := kn_law_divisor (P := PP) (w := w) (base := base) D__law_divisor T
  have k_law_frac := kn_law_frac (P := PP) (w := w) (base := base) D__law_frac T k_law_divisor
  have k_law_add := kn_law_add (P := PP) (w := w) (base := base) D__law_add T k_law_frac
  have k_law_mul := kn_law_mul (P := PP) (w := w) (base := base) D__law_mul T k_law_frac
  have k_law_number := kn_law_number (P := PP) (w := w) (base := base) D__law_number T k_law_frac k_law_draw
  have k_law_step := kn_law_step (P := PP) (w := w) (base := base) D__law_step T k_law_number k_law_frac k_law_draw
  have k_law_trim := kn_law_trim (P := PP) (w := w) (base := base) D__law_trim T
  have k_law_sum := kn_law_sum (P := PP) (w := w) (base := base) D__law_sum T k_law_add k_law_trim
  have k_law_product := kn_law_product (P := PP) (w := w) (base := base) D__law_product T k_law_add k_law_mul k_law_trim
  have k_law_within := kn_law_within (P := PP) (w := w) (base := base) D__law_within T k_law_sum k_law_product
  have k_law_drawn := kn_law_drawn (P := PP) (w := w) (base := base) D__law_drawn T k_law_draw k_law_step k_law_within k_law_add
  have k_law_divided := kn_law_divided (P := PP) (w := w) (base := base) D__law_divided T k_law_add k_law_mul
  have k_law_powers_of := kn_law_powers_of (P := PP) (w := w) (base := base) D__law_powers_of T k_law_divided
  have k_law_pairs := kn_law_pairs (P := PP) (w := w) (base := base) D__law_pairs T k_law_powers_of k_candidate
  have k_law_like := kn_law_like (P := PP) (w := w) (base := base) D__law_like T
  have k_law_degree_right := kn_law_degree_right (P := PP) (w := w) (base := base) D__law_degree_right T hx D__law_heard tc1 hP k_law_pairs k_law_like k_law_of k_first_break k_first_part k_is_break
  have k_law_by_hand := kn_law_by_hand (P := PP) (w := w) (base := base) D__law_by_hand T hx D__law_heard D_first_break D_is_break tc2 hP k_law_like k_first_break k_is_break
  have k_law_begin := kn_law_begin (P := PP) (w := w) (base := base) D__law_begin T
  have k_law := kn_law (P := PP) (w := w) (base := base) D_law T k_law_begin (k_law_drawn.mono (by decide)) k_law_degree_right k_law_by_hand
  exact k_law
end
end Hd
end K9

set_option Elab.async false
set_option linter.all false
set_option maxRecDepth 100000
set_option maxHeartbeats 4000000
namespace K9
open PySem PySem.Spec PyProof.Rows L2
local macro_rules | `(tactic| walk_at "k9mem") => `(tactic| first | with_reducible assumption | exact upd_same | ((with_reducible refine mem_upd (by with_reducible assumption) ?_); walk_at "k9mem") | ((with_reducible refine mem_same (by with_reducible assumption) ?_); walk_at "k9mem"))
local macro_rules | `(tactic| walk_at "k91") => `(tactic| with_reducible (first | refine x_seq ?_ | refine x_asg ?_ | refine x_name ?_ | refine x_ret ?_ | refine x_drop ?_ | refine x_next ?_ | refine x_ifs ?_ | refine x_if ?_ | refine x_test ?_ | refine x_tb ?_ | refine x_tnot ?_ | refine x_tand ?_ | refine x_tor ?_ | refine x_andv ?_ | refine x_orv ?_ | refine x_notv ?_ | refine x_var rfl ?_ | refine x_c ?_ | refine x_op ?_ | refine x_un ?_ | refine x_i0 ?_ | refine x_par ?_ | refine x_two ?_ | refine x_eqI ?_ | refine x_neI ?_ | refine x_u ?_ | refine x_call ?_ | refine x_cb ?_ | refine x_cons ?_ | refine x_nil ?_ | refine x_tup ?_ | refine x_lst ?_ | refine x_gcd ?_ | refine x_for ?_ | refine x_iL ?_ | refine x_iT ?_ | refine x_iR1 ?_ | refine x_iR2 ?_ | refine x_lc ?_ | refine x_bm ?_ | refine x_bm0 ?_ | refine x_sl ?_ | refine x_nopart ?_ | refine x_part ?_ | refine x_some ?_ | refine x_bl ?_))
local macro_rules | `(tactic| walk_at "k9") => `(tactic| repeat (walk_at "k91"))
end K9
open PySem PySem.W PySem.Calls PyProof.Rows
theorem PySem.Challenge.cw_stepswithin_k09_whole_breaks_judged_holds : PySem.Challenge.rw_stepswithin_k09_whole_breaks_judged.Holds := by
  w_on; o_law
  refine HandSHeadRun.head_imp (r := K9.Hd.R) (q := K9.Hd.qv) (H := K9.Hd.hk) (ob := K9.Hd.ob) (M := 6000) (loose := K9.Hd.loose) (d := HandSHeadRun.topDef K9.Hd.R.prog 57) (kwd := []) K9.Hd.ob_eq K9.Hd.run
    (by kernel_rfl) (by kernel_rfl) (by kernel_rfl) (by rfl) (by first | assumption | decide +kernel) (by decide +kernel) ⟨rfl, rfl, rfl, rfl, rfl, by decide +kernel⟩ ?hw ?hc
  case hw => w_witness2
  case hc =>
    refine Att.attach_callB (l := K9.Hd.LW) (n := 63) rfl (by kernel_rfl) fun w s₀ s₁ mg mb fa o pm cd doc a vs ns G Y ho hd hcd hmg0 hobj hints hlen hbits hg => ?_
    obtain ⟨K, KX, c⟩ := Y
    have hmg : mg ("law" : PySem.Str) = some (.ref fa) := by
      have e : (HandSHeadRun.topDef K9.Hd.R.prog 57).name = ("law" : PySem.Str) := by kernel_rfl
      rw [← e]
      exact hmg0
    refine K9.own_end (cs := [He.cT K ("_law_degree_right", none), He.cT K ("_law_by_hand", none)]) KX G.T.g G.T.b G.T.builtins G.T.nolimit hg (fun p hp => ?_) (fun p hp => ?_) (fun p hp => ?_) G.T.bmain hobj hints (Nat.le_trans hlen (by decide)) fun base H bK bN bT e0 hH sq => ?_
    · simp only [List.mem_cons, List.not_mem_nil, or_false] at hp
      rcases hp with rfl | rfl
      · exact c.empty _ List.mem_cons_self
      · exact c.empty _ (List.mem_cons_of_mem _ List.mem_cons_self)
    · simp only [List.mem_cons, List.not_mem_nil, or_false] at hp
      rcases hp with rfl | rfl
      · exact c.out _ List.mem_cons_self
      · exact c.out _ (List.mem_cons_of_mem _ List.mem_cons_self)
    · simp only [List.mem_cons, List.not_mem_nil, or_false] at hp
      rcases hp with rfl | rfl
      · exact PySem.W.codeHd_of_K KX (c.hd _ List.mem_cons_self)
      · exact PySem.W.codeHd_of_K KX (c.hd _ (List.mem_cons_of_mem _ List.mem_cons_self))
    · have kl := K9.Hd.chain KX G.T.g c w base (bT _ List.mem_cons_self) (bT _ (List.mem_cons_of_mem _ List.mem_cons_self))
      obtain ⟨f, fd, F, f1, f2, f3⟩ := kl.ex
      obtain rfl : f = fa := by
        have z := f1.symm.trans hmg
        cases z
        rfl
      have hb := f3 s₁ [.ref a] KX rfl
      exact F.run callerA [] s₁ H ⟨[.ref a], []⟩ [.ref a] [.ref a] _ _ rfl ⟨rfl, by decide, by decide⟩ e0 hb (.cons rfl .nil)
        ⟨a, ns, rfl, sq, Nat.le_trans hlen (by decide), K9.tabs_start (fun p hp => by
          rcases List.mem_cons.mp hp with e | e
          · rw [e]; exact hH _ List.mem_cons_self
          · rw [List.mem_singleton.mp e]; exact hH _ (List.mem_cons_of_mem _ List.mem_cons_self)), fun _ => rfl⟩
