import PyProof.Rows.All
import Wide.All
import OpenK.AllK
import Wide.FinOn
import HandS.ForMost
import HandS.Flow
import HandS.IsInst
import HandS.TupAny
import HandS.Wide
import HandS.Defaults
import HandS.Style
import PySem.Challenge.RW_heapturns_k33_whole_words_made_otherwise
import KE.Datum
import PyProof.MaxThree
import KE.KOpsOwn
import KE.DataEq
import HandS.Deep
import HandS.Text
import HandS.AnyAll
import KE.KeyNested
import KE.KDictKeyed
import HandS.DictComp
import HandS.TryOnly
import HandS.More
import HandS.Codes
set_option linter.all false
/-! The mathematics of words: parts, rows of units, how far two rows agree. Plain Lean. -/
namespace Wd
section
variable {A : Type}

/-- a part: a row, two parts, a part repeated; a part that was turned: its shape, its base, by how much -/
inductive Pt (A : Type) where
  | leaf (row : List A)
  | cat (l r : Pt A)
  | rep (p : Pt A) (n : Nat)
  | turn (q b : Pt A) (s : Nat)

def rpt (n : Nat) (xs : List A) : List A := (List.replicate n xs).flatten
theorem rpt_zero (xs : List A) : rpt 0 xs = [] := rfl
theorem rpt_succ (n : Nat) (xs : List A) : rpt (n + 1) xs = xs ++ rpt n xs := by
  unfold rpt; rw [List.replicate_succ, List.flatten_cons]
theorem rpt_one (xs : List A) : rpt 1 xs = xs := by rw [rpt_succ, rpt_zero, List.append_nil]
theorem rpt_add (m n : Nat) (xs : List A) : rpt (m + n) xs = rpt m xs ++ rpt n xs := by
  induction m with
  | zero => rw [Nat.zero_add, rpt_zero, List.nil_append]
  | succ m ih => rw [show m + 1 + n = (m + n) + 1 by omega, rpt_succ, rpt_succ, ih, List.append_assoc]
theorem rpt_mul (m n : Nat) (xs : List A) : rpt (m * n) xs = rpt n (rpt m xs) := by
  induction n with
  | zero => rw [Nat.mul_zero, rpt_zero, rpt_zero]
  | succ n ih => rw [Nat.mul_succ, Nat.add_comm, rpt_add, rpt_succ, ih]
theorem rpt_nil (n : Nat) : rpt n ([] : List A) = [] := by
  induction n with
  | zero => rfl
  | succ n ih => rw [rpt_succ, ih]; rfl
theorem len_rpt (n : Nat) (xs : List A) : (rpt n xs).length = n * xs.length := by
  induction n with
  | zero => rw [rpt_zero, Nat.zero_mul]; rfl
  | succ n ih => rw [rpt_succ, List.length_append, ih, Nat.succ_mul, Nat.add_comm]

def Pt.den : Pt A → List A
  | .leaf row => row
  | .cat l r => l.den ++ r.den
  | .rep p n => rpt n p.den
  | .turn q _ _ => q.den
def Pt.rk : Pt A → Nat
  | .leaf _ => 0
  | .cat l r => max l.rk r.rk
  | .rep p _ => p.rk + 1
  | .turn q b _ => max q.rk b.rk
/-- nothing in it is empty; a turned part is its base, turned -/
def Pt.nz : Pt A → Prop
  | .leaf row => row ≠ []
  | .cat l r => l.nz ∧ r.nz
  | .rep p n => p.nz ∧ 1 ≤ n
  | .turn q b s => q.nz ∧ b.nz ∧ s < b.den.length ∧ q.den = b.den.drop s ++ b.den.take s
theorem Pt.nz_pos : ∀ {p : Pt A}, p.nz → 0 < p.den.length
  | .leaf row, h => List.length_pos_iff.mpr h
  | .cat l r, h => by
    have := Pt.nz_pos h.1
    show 0 < (l.den ++ r.den).length
    rw [List.length_append]; omega
  | .rep p n, h => by
    have h1 := Pt.nz_pos h.1
    have h2 := h.2
    show 0 < (rpt n p.den).length
    rw [len_rpt]
    exact Nat.mul_pos (by omega) h1
  | .turn q _ _, h => Pt.nz_pos (p := q) h.1
/-- a whole part: empty, or nothing in it is -/
def Pt.ok (p : Pt A) : Prop := p = .leaf [] ∨ p.nz

/-- an entry, or a part -/
inductive Un (A : Type) where
  | e (x : A)
  | p (q : Pt A)
abbrev Us (A : Type) := List (Un A × Nat)
def Un.den : Un A → List A
  | .e x => [x]
  | .p q => q.den
def Un.w (u : Un A) : Nat := u.den.length
def Un.rk : Un A → Nat
  | .e _ => 0
  | .p q => q.rk
def Un.nz : Un A → Prop
  | .e _ => True
  | .p q => q.nz
def Un.isE : Un A → Bool
  | .e _ => true
  | .p _ => false
theorem Un.w_pos {u : Un A} (h : u.nz) : 0 < u.w := by
  cases u with
  | e x => exact Nat.one_pos
  | p q => exact Pt.nz_pos h
/-- how deep repetitions go in so many times a unit -/
def Un.lv : Un A → Nat → Nat
  | .e _, _ => 0
  | .p q, t => if 2 ≤ t then q.rk + 1 else q.rk
def den : Us A → List A
  | [] => []
  | (u, t) :: us => rpt t u.den ++ den us
def nzs : Us A → Prop
  | [] => True
  | (u, _) :: us => u.nz ∧ nzs us
theorem den_append : ∀ (us vs : Us A), den (us ++ vs) = den us ++ den vs
  | [], vs => rfl
  | (u, t) :: us, vs => by
    show rpt t u.den ++ den (us ++ vs) = (rpt t u.den ++ den us) ++ den vs
    rw [den_append us vs, List.append_assoc]
theorem nzs_append : ∀ {us vs : Us A}, nzs us → nzs vs → nzs (us ++ vs)
  | [], _, _, h => h
  | (_, _) :: _, _, h, h' => ⟨h.1, nzs_append h.2 h'⟩
/-- what a part opens to -/
def cont : Pt A → Us A
  | .leaf row => row.map fun x => (.e x, 1)
  | .cat l r => [(.p l, 1), (.p r, 1)]
  | .rep p n => [(.p p, n)]
  | .turn q _ _ => cont q
theorem den_ones : ∀ row : List A, den (row.map fun x => ((.e x, 1) : Un A × Nat)) = row
  | [] => rfl
  | x :: row => by
    show rpt 1 [x] ++ den (row.map fun x => ((.e x, 1) : Un A × Nat)) = x :: row
    rw [den_ones row, rpt_one]; rfl
theorem nzs_ones : ∀ row : List A, nzs (row.map fun x => ((.e x, 1) : Un A × Nat))
  | [] => trivial
  | _ :: row => ⟨trivial, nzs_ones row⟩
theorem den_cont : ∀ p : Pt A, den (cont p) = p.den
  | .leaf row => den_ones row
  | .cat l r => by
    show rpt 1 l.den ++ (rpt 1 r.den ++ []) = l.den ++ r.den
    rw [rpt_one, rpt_one, List.append_nil]
  | .rep p n => by
    show rpt n p.den ++ [] = rpt n p.den
    rw [List.append_nil]
  | .turn q _ _ => den_cont q
theorem nzs_cont : ∀ {p : Pt A}, p.nz → nzs (cont p)
  | .leaf row, _ => nzs_ones row
  | .cat _ _, h => ⟨h.1, h.2, trivial⟩
  | .rep _ _, h => ⟨h.1, trivial⟩
  | .turn q _ _, h => nzs_cont (p := q) h.1

/-! ### what is seen within m entries: e bounds the ranks, and the levels of what is seen twice; r the levels -/
def Vis (e r : Nat) : Us A → Nat → Prop
  | [], _ => True
  | (u, t) :: us, m => (0 < m → u.rk ≤ e ∧ u.lv t ≤ r ∧ (u.w < m → u.lv t ≤ e)) ∧ Vis e r us (m - t * u.w)
theorem Un.lv_le (u : Un A) (t : Nat) : u.lv t ≤ u.rk + 1 := by
  cases u with
  | e x => exact Nat.zero_le _
  | p q => show (if 2 ≤ t then q.rk + 1 else q.rk) ≤ q.rk + 1; split <;> omega
theorem Un.rk_le (u : Un A) (t : Nat) : u.rk ≤ u.lv t := by
  cases u with
  | e x => exact Nat.le_refl _
  | p q => show q.rk ≤ (if 2 ≤ t then q.rk + 1 else q.rk); split <;> omega
theorem Un.lv_mono (u : Un A) {s t : Nat} (h : s ≤ t) : u.lv s ≤ u.lv t := by
  cases u with
  | e x => exact Nat.le_refl _
  | p q =>
    show (if 2 ≤ s then q.rk + 1 else q.rk) ≤ (if 2 ≤ t then q.rk + 1 else q.rk)
    split <;> split <;> omega
theorem Un.lv_one (u : Un A) {t : Nat} (h : t ≤ 1) : u.lv t = u.rk := by
  cases u with
  | e x => rfl
  | p q => show (if 2 ≤ t then q.rk + 1 else q.rk) = q.rk; rw [if_neg (by omega)]
theorem Un.lv_two (q : Pt A) {t : Nat} (h : 2 ≤ t) : (Un.p q).lv t = q.rk + 1 := by
  show (if 2 ≤ t then q.rk + 1 else q.rk) = q.rk + 1; rw [if_pos h]
theorem Vis.zero {e r : Nat} : ∀ us : Us A, Vis e r us 0
  | [] => trivial
  | (u, t) :: us => ⟨fun h => absurd h (by omega), by rw [Nat.zero_sub]; exact Vis.zero us⟩
theorem Vis.mono {e r : Nat} : ∀ {us : Us A} {m m' : Nat}, Vis e r us m → m' ≤ m → Vis e r us m'
  | [], _, _, _, _ => trivial
  | (u, t) :: us, m, m', h, hm => ⟨fun hp => by
      obtain ⟨h1, h2, h3⟩ := h.1 (by omega)
      exact ⟨h1, h2, fun hw => h3 (by omega)⟩, Vis.mono h.2 (by omega)⟩
theorem Vis.grow {e r e' r' : Nat} (he : e ≤ e') (hr : r ≤ r') : ∀ {us : Us A} {m : Nat}, Vis e r us m → Vis e' r' us m
  | [], _, _ => trivial
  | (u, t) :: us, m, h => ⟨fun hp => by
      obtain ⟨h1, h2, h3⟩ := h.1 hp
      exact ⟨by omega, by omega, fun hw => by have := h3 hw; omega⟩, Vis.grow he hr h.2⟩
theorem Vis.raw {e r : Nat} : ∀ {us : Us A} {m : Nat}, Vis e r us m → Vis e (e + 1) us m
  | [], _, _ => trivial
  | (u, t) :: us, m, h => ⟨fun hp => by
      obtain ⟨h1, h2, h3⟩ := h.1 hp
      have := u.lv_le t
      exact ⟨h1, by omega, h3⟩, Vis.raw h.2⟩
theorem Vis.append {e r : Nat} : ∀ {us vs : Us A} {m : Nat}, Vis e r us m → Vis e r vs (m - (den us).length) → Vis e r (us ++ vs) m
  | [], vs, m, _, h => by
    have : m - (den ([] : Us A)).length = m := Nat.sub_zero m
    rw [this] at h; exact h
  | (u, t) :: us, vs, m, h, h' => ⟨h.1, Vis.append h.2 (by
      have e1 : (den ((u, t) :: us)).length = t * u.w + (den us).length := by
        show (rpt t u.den ++ den us).length = _
        rw [List.length_append, len_rpt]; rfl
      rw [e1] at h'
      rwa [Nat.sub_sub])⟩
theorem Vis.of_append {e r : Nat} : ∀ {us vs : Us A} {m : Nat}, Vis e r (us ++ vs) m → Vis e r vs (m - (den us).length)
  | [], vs, m, h => h
  | (u, t) :: us, vs, m, h => by
    have e1 : (den ((u, t) :: us)).length = t * u.w + (den us).length := by
      show (rpt t u.den ++ den us).length = _
      rw [List.length_append, len_rpt]; rfl
    rw [e1, ← Nat.sub_sub]
    exact Vis.of_append (us := us) h.2
theorem Vis.ones {e r : Nat} : ∀ (row : List A) (m : Nat), Vis e r (row.map fun x => ((.e x, 1) : Un A × Nat)) m
  | [], _ => trivial
  | _ :: row, m => ⟨fun _ => ⟨Nat.zero_le _, Nat.zero_le _, fun _ => Nat.zero_le _⟩, Vis.ones row _⟩
/-- in a part's contents no level is above its rank -/
theorem Vis.cont : ∀ (p : Pt A) (m : Nat), Vis p.rk p.rk (cont p) m
  | .leaf row, m => Vis.ones row m
  | .cat l r, m => by
    have hl : (Un.p l).lv 1 = l.rk := Un.lv_one _ (Nat.le_refl _)
    have hr : (Un.p r).lv 1 = r.rk := Un.lv_one _ (Nat.le_refl _)
    have h1 : l.rk ≤ (Pt.cat l r).rk := Nat.le_max_left _ _
    have h2 : r.rk ≤ (Pt.cat l r).rk := Nat.le_max_right _ _
    exact ⟨fun _ => ⟨h1, by rw [hl]; exact h1, fun _ => by rw [hl]; exact h1⟩, fun _ => ⟨h2, by rw [hr]; exact h2, fun _ => by rw [hr]; exact h2⟩, trivial⟩
  | .rep p n, m => by
    have h := (Un.p p).lv_le n
    exact ⟨fun _ => ⟨Nat.le_succ _, h, fun _ => h⟩, trivial⟩
  | .turn q b s, m => (Vis.cont q m).grow (Nat.le_max_left _ _) (Nat.le_max_left _ _)
/-- one time a part is opened -/
theorem Vis.open1 {e r : Nat} {p : Pt A} {us : Us A} {m : Nat} (h : Vis e r ((.p p, 1) :: us) m) : Vis e r (Wd.cont p ++ us) m := by
  by_cases hm : 0 < m
  · obtain ⟨h1, h2, _⟩ := h.1 hm
    rw [Un.lv_one _ (Nat.le_refl _)] at h2
    refine Vis.append ((Vis.cont p m).grow h1 h2) ?_
    rw [den_cont]
    have := h.2
    rwa [Nat.one_mul] at this
  · have : m = 0 := by omega
    rw [this]; exact Vis.zero _
/-- some times are gone -/
theorem Vis.less {e r : Nat} {u : Un A} {t j : Nat} {us : Us A} {m : Nat} (h : Vis e r ((u, t) :: us) m) (hj : j ≤ t) : Vis e r ((u, t - j) :: us) (m - j * u.w) := by
  refine ⟨fun hp => ?_, ?_⟩
  · obtain ⟨h1, h2, h3⟩ := h.1 (by omega)
    have hl := u.lv_mono (show t - j ≤ t by omega)
    exact ⟨h1, by omega, fun hw => by have := h3 (by omega); omega⟩
  · have e1 : m - j * u.w - (t - j) * u.w = m - t * u.w := by
      rw [Nat.sub_sub, ← Nat.add_mul]
      congr 2; omega
    rw [e1]; exact h.2
/-- one of several times is opened -/
theorem Vis.opens {e r : Nat} {p : Pt A} {t : Nat} {us : Us A} {m : Nat} (h : Vis e r ((.p p, t) :: us) m) (ht : 1 ≤ t) : Vis e r (Wd.cont p ++ (.p p, t - 1) :: us) m := by
  by_cases hm : 0 < m
  · obtain ⟨h1, h2, h3⟩ := h.1 hm
    have hl := (Un.p p).rk_le t
    have h2' : p.rk ≤ r := Nat.le_trans hl h2
    refine Vis.append ((Vis.cont p m).grow h1 h2') ?_
    rw [den_cont]
    have q := h.less ht
    rw [Nat.one_mul] at q
    exact q
  · have : m = 0 := by omega
    rw [this]; exact Vis.zero _
/-- seen no further than a part and less than itself again: the ranks in it -/
theorem Vis.deeper {p : Pt A} {t : Nat} {us : Us A} {m : Nat} (ht : 2 ≤ t) (hm : m ≤ 2 * p.den.length) : Vis p.rk (p.rk + 1) (Wd.cont p ++ (.p p, t - 1) :: us) m := by
  refine Vis.append ((Vis.cont p m).grow (Nat.le_refl _) (Nat.le_succ _)) ?_
  rw [den_cont]
  have w1 : (Un.p p).w = p.den.length := rfl
  refine ⟨fun _ => ⟨Nat.le_refl _, (Un.p p).lv_le _, fun hw => absurd hw (by rw [w1]; omega)⟩, ?_⟩
  have z : m - p.den.length - (t - 1) * (Un.p p).w = 0 := by
    rw [w1]
    have : p.den.length ≤ (t - 1) * p.den.length := Nat.le_mul_of_pos_left _ (by omega)
    omega
  rw [z]; exact Vis.zero _
/-- seen no further than a part -/
theorem Vis.inner {p : Pt A} {t : Nat} {us : Us A} {m : Nat} (hm : m ≤ p.den.length) : Vis p.rk p.rk (Wd.cont p ++ (.p p, t) :: us) m := by
  refine Vis.append (Vis.cont p m) ?_
  rw [den_cont, Nat.sub_eq_zero_of_le hm]
  exact Vis.zero _
/-- cut within one of several times: what is left, turned -/
theorem Vis.turned {e r : Nat} {u : Un A} {q l : Pt A} {t a : Nat} {us : Us A} {m : Nat} (h : Vis e r ((u, t) :: us) m) (ht : 2 ≤ t) (hq : (q.rk ≤ u.rk ∧ q.den.length = u.w)) (hu : u.isE = false) (hl : l.rk ≤ u.rk) (ha : l.den.length + a = u.w) :
    Vis e r ((.p q, t - 1) :: (.p l, 1) :: us) (m - a) := by
  cases u with
  | e x => cases hu
  | p p =>
    have hrk : (Un.p p).rk = p.rk := rfl
    have wq : (Un.p q).w = q.den.length := rfl
    have wl : (Un.p l).w = l.den.length := rfl
    rw [hrk] at hq hl
    refine ⟨fun hp => ?_, fun hp => ?_, ?_⟩
    · obtain ⟨h1, h2, h3⟩ := h.1 (by omega)
      rw [Un.lv_two p ht] at h2 h3
      have hlv : (Un.p q).lv (t - 1) ≤ p.rk + 1 := Nat.le_trans ((Un.p q).lv_le _) (by show q.rk + 1 ≤ _; omega)
      refine ⟨by show q.rk ≤ e; rw [hrk] at h1; omega, by omega, fun hw => ?_⟩
      have := h3 (by rw [wq] at hw; omega)
      omega
    · obtain ⟨h1, h2, h3⟩ := h.1 (by omega)
      rw [hrk] at h1
      rw [Un.lv_two p ht] at h2
      rw [Un.lv_one _ (Nat.le_refl _)]
      exact ⟨by show l.rk ≤ e; omega, by show l.rk ≤ r; omega, fun _ => by show l.rk ≤ e; omega⟩
    · have e1 : m - a - (t - 1) * (Un.p q).w - 1 * (Un.p l).w = m - t * (Un.p p).w := by
        rw [wq, wl, hq.2, Nat.one_mul, Nat.sub_sub, Nat.sub_sub]
        congr 1
        have : t * (Un.p p).w = (t - 1) * (Un.p p).w + (Un.p p).w := by
          rw [← Nat.succ_mul]; congr 1; omega
        omega
      rw [e1]; exact h.2
end
end Wd
set_option linter.all false
namespace Wd
section
variable {A : Type}
/-! ### sizes, for what ends -/
def Pt.sz : Pt A → Nat
  | .leaf row => row.length + 1
  | .cat l r => l.sz + r.sz + 2
  | .rep p _ => p.sz + 1
  | .turn q _ _ => q.sz
def Un.sz : Un A → Nat
  | .e _ => 0
  | .p q => q.sz
def msr : Us A → Nat
  | [] => 0
  | (u, _) :: us => 1 + u.sz + msr us
theorem msr_append : ∀ us vs : Us A, msr (us ++ vs) = msr us + msr vs
  | [], vs => (Nat.zero_add _).symm
  | (u, t) :: us, vs => by
    show 1 + u.sz + msr (us ++ vs) = (1 + u.sz + msr us) + msr vs
    rw [msr_append us vs]; omega
theorem msr_ones : ∀ row : List A, msr (row.map fun x => ((.e x, 1) : Un A × Nat)) = row.length
  | [] => rfl
  | x :: row => by
    show 1 + 0 + msr (row.map fun x => ((.e x, 1) : Un A × Nat)) = row.length + 1
    rw [msr_ones row]; omega
theorem msr_cont : ∀ p : Pt A, msr (cont p) ≤ p.sz
  | .leaf row => by
    show msr (row.map fun x => ((.e x, 1) : Un A × Nat)) ≤ row.length + 1
    rw [msr_ones]; omega
  | .cat l r => by
    show 1 + l.sz + (1 + r.sz + 0) ≤ l.sz + r.sz + 2
    omega
  | .rep p n => by
    show 1 + p.sz + 0 ≤ p.sz + 1
    omega
  | .turn q _ _ => msr_cont q
/-- the sizes of what is seen within m entries -/
def vm : Us A → Nat → Nat
  | [], _ => 0
  | (u, t) :: us, m => if m = 0 then 0 else 1 + u.sz + vm us (m - t * u.w)
theorem vm_zero (us : Us A) : vm us 0 = 0 := by
  cases us with
  | nil => rfl
  | cons p us => obtain ⟨u, t⟩ := p; show (if 0 = 0 then 0 else _) = 0; rw [if_pos rfl]
theorem vm_pos {u : Un A} {t : Nat} {us : Us A} {m : Nat} (h : 0 < m) : vm ((u, t) :: us) m = 1 + u.sz + vm us (m - t * u.w) := by
  show (if m = 0 then 0 else _) = _; rw [if_neg (by omega)]
theorem vm_mono : ∀ (us : Us A) {m m' : Nat}, m' ≤ m → vm us m' ≤ vm us m
  | [], _, _, _ => Nat.le_refl _
  | (u, t) :: us, m, m', h => by
    by_cases h0 : m' = 0
    · rw [h0, vm_zero]; exact Nat.zero_le _
    · rw [vm_pos (by omega), vm_pos (by omega)]
      have := vm_mono us (show m' - t * u.w ≤ m - t * u.w by omega)
      omega
theorem vm_le : ∀ (us : Us A) (m : Nat), vm us m ≤ msr us
  | [], _ => Nat.le_refl _
  | (u, t) :: us, m => by
    show (if m = 0 then 0 else 1 + u.sz + vm us (m - t * u.w)) ≤ 1 + u.sz + msr us
    have := vm_le us (m - t * u.w)
    split <;> omega
theorem vm_append : ∀ (us vs : Us A) (m : Nat), vm (us ++ vs) m ≤ msr us + vm vs (m - (den us).length)
  | [], vs, m => by
    show vm vs m ≤ 0 + vm vs (m - 0)
    rw [Nat.sub_zero]; omega
  | (u, t) :: us, vs, m => by
    by_cases h : m = 0
    · rw [h, vm_zero]; exact Nat.zero_le _
    · have e1 : (den ((u, t) :: us)).length = t * u.w + (den us).length := by
        show (rpt t u.den ++ den us).length = _
        rw [List.length_append, len_rpt]; rfl
      show vm ((u, t) :: (us ++ vs)) m ≤ _
      rw [vm_pos (by omega), e1, ← Nat.sub_sub]
      have := vm_append us vs (m - t * u.w)
      show 1 + u.sz + vm (us ++ vs) (m - t * u.w) ≤ (1 + u.sz + msr us) + _
      omega
/-- an opened unit that is seen once is smaller -/
theorem vm_opens {p : Pt A} {t t' : Nat} {us : Us A} {m : Nat} (hm : 0 < m) (hw : m ≤ p.den.length) : vm (cont p ++ (.p p, t') :: us) m < vm ((.p p, t) :: us) m := by
  have h1 := vm_append (cont p) ((.p p, t') :: us) m
  rw [den_cont, Nat.sub_eq_zero_of_le hw, vm_zero] at h1
  have h2 := msr_cont p
  rw [vm_pos hm]
  show vm (cont p ++ (.p p, t') :: us) m < 1 + p.sz + _
  omega
theorem vm_open1 {p : Pt A} {us : Us A} {m : Nat} (hm : 0 < m) : vm (cont p ++ us) m < vm ((.p p, 1) :: us) m := by
  have h1 := vm_append (cont p) us m
  rw [den_cont] at h1
  have h2 := msr_cont p
  rw [vm_pos hm, Nat.one_mul]
  show vm (cont p ++ us) m < 1 + p.sz + vm us (m - p.den.length)
  omega
theorem vm_tail {u : Un A} {t : Nat} {us : Us A} {m : Nat} (hm : 0 < m) : vm us (m - t * u.w) < vm ((u, t) :: us) m := by
  rw [vm_pos hm]; omega
theorem vm_less {u : Un A} {t j : Nat} {us : Us A} {m : Nat} (hj : j ≤ t) : vm ((u, t - j) :: us) (m - j * u.w) ≤ vm ((u, t) :: us) m := by
  by_cases h : m - j * u.w = 0
  · rw [h, vm_zero]; exact Nat.zero_le _
  · rw [vm_pos (by omega), vm_pos (by omega)]
    have e1 : m - j * u.w - (t - j) * u.w = m - t * u.w := by
      rw [Nat.sub_sub, ← Nat.add_mul]
      congr 2; omega
    rw [e1]; exact Nat.le_refl _

/-! ### den, taken and dropped -/
theorem drop_rpt {n j : Nat} {xs : List A} (h : j ≤ n) : (rpt n xs).drop (j * xs.length) = rpt (n - j) xs := by
  have e : n = j + (n - j) := by omega
  conv => lhs; rw [e]
  rw [rpt_add, List.drop_append, List.drop_of_length_le (by rw [len_rpt]; exact Nat.le_refl _), len_rpt, Nat.sub_self, List.drop_zero, List.nil_append]
theorem take_rpt {n j : Nat} {xs : List A} (h : j ≤ n) : (rpt n xs).take (j * xs.length) = rpt j xs := by
  have e : n = j + (n - j) := by omega
  conv => lhs; rw [e]
  rw [rpt_add, List.take_append, List.take_of_length_le (by rw [len_rpt]; exact Nat.le_refl _), len_rpt, Nat.sub_self, List.take_zero, List.append_nil]
theorem den_cons (u : Un A) (t : Nat) (us : Us A) : den ((u, t) :: us) = rpt t u.den ++ den us := rfl
theorem len_den_cons (u : Un A) (t : Nat) (us : Us A) : (den ((u, t) :: us)).length = t * u.w + (den us).length := by
  rw [den_cons, List.length_append, len_rpt]; rfl
theorem den_less {u : Un A} {t j : Nat} {us : Us A} (h : j ≤ t) : den ((u, t - j) :: us) = (den ((u, t) :: us)).drop (j * u.w) := by
  rw [den_cons, den_cons, List.drop_append_of_le_length (by rw [len_rpt]; exact Nat.mul_le_mul_right _ h)]
  show _ = (rpt t u.den).drop (j * u.den.length) ++ _
  rw [drop_rpt h]
theorem den_opens {p : Pt A} {t : Nat} {us : Us A} (h : 1 ≤ t) : den (cont p ++ (.p p, t - 1) :: us) = den ((.p p, t) :: us) := by
  rw [den_append, den_cont, den_cons, den_cons, ← List.append_assoc]
  congr 1
  have e : t = (t - 1) + 1 := by omega
  conv => rhs; rw [e]
  rw [rpt_succ]; rfl
theorem den_open1 {p : Pt A} {us : Us A} : den (cont p ++ us) = den ((.p p, 1) :: us) := by
  rw [den_append, den_cont, den_cons, rpt_one]; rfl
theorem den_tail {u : Un A} {t : Nat} {us : Us A} : den us = (den ((u, t) :: us)).drop (t * u.w) := by
  rw [den_cons, List.drop_append, List.drop_of_length_le (by rw [len_rpt]; exact Nat.le_refl _), len_rpt]
  show _ = [] ++ (den us).drop (t * u.den.length - t * u.den.length)
  rw [Nat.sub_self, List.drop_zero, List.nil_append]

/-! ### how far two rows agree -/
variable [DecidableEq A]
def lcp : List A → List A → Nat
  | a :: as, b :: bs => if a = b then lcp as bs + 1 else 0
  | _, _ => 0
theorem lcp_nil (bs : List A) : lcp ([] : List A) bs = 0 := by cases bs <;> rfl
theorem lcp_nil' (as : List A) : lcp as ([] : List A) = 0 := by cases as <;> rfl
theorem lcp_same (x : List A) : ∀ (y z : List A), lcp (x ++ y) (x ++ z) = x.length + lcp y z := by
  induction x with
  | nil => intro y z; rw [List.nil_append, List.nil_append]; exact (Nat.zero_add _).symm
  | cons a x ih =>
    intro y z
    show (if a = a then lcp (x ++ y) (x ++ z) + 1 else 0) = x.length + 1 + lcp y z
    rw [if_pos rfl, ih]; omega
theorem lcp_comm : ∀ x y : List A, lcp x y = lcp y x
  | [], y => by rw [lcp_nil, lcp_nil']
  | a :: x, [] => by rw [lcp_nil, lcp_nil']
  | a :: x, b :: y => by
    show (if a = b then lcp x y + 1 else 0) = (if b = a then lcp y x + 1 else 0)
    by_cases h : a = b
    · rw [if_pos h, if_pos h.symm, lcp_comm x y]
    · rw [if_neg h, if_neg (Ne.symm h)]
theorem lcp_le : ∀ x y : List A, lcp x y ≤ x.length
  | [], y => by rw [lcp_nil]; exact Nat.zero_le _
  | a :: x, [] => by rw [lcp_nil']; exact Nat.zero_le _
  | a :: x, b :: y => by
    show (if a = b then lcp x y + 1 else 0) ≤ x.length + 1
    have := lcp_le x y
    split <;> omega
theorem lcp_le' (x y : List A) : lcp x y ≤ y.length := by rw [lcp_comm]; exact lcp_le y x
theorem lcp_take : ∀ (x y : List A) (k : Nat), k ≤ lcp x y → x.take k = y.take k
  | [], y, k, h => by
    rw [lcp_nil] at h
    have : k = 0 := by omega
    rw [this]; rfl
  | a :: x, [], k, h => by
    rw [lcp_nil'] at h
    have : k = 0 := by omega
    rw [this]; rfl
  | a :: x, b :: y, 0, h => rfl
  | a :: x, b :: y, k + 1, h => by
    have h' : k + 1 ≤ (if a = b then lcp x y + 1 else 0) := h
    by_cases e : a = b
    · rw [if_pos e] at h'
      rw [List.take_succ_cons, List.take_succ_cons, e, lcp_take x y k (by omega)]
    · rw [if_neg e] at h'; omega
/-- k entries of both agree -/
theorem lcp_of_take {x y : List A} {k : Nat} (h1 : k ≤ x.length) (h2 : k ≤ y.length) (h : x.take k = y.take k) : lcp x y = k + lcp (x.drop k) (y.drop k) := by
  have e1 := (List.take_append_drop k x).symm
  have e2 := (List.take_append_drop k y).symm
  rw [← h] at e2
  have q := lcp_same (x.take k) (x.drop k) (y.drop k)
  rw [← e1, ← e2, List.length_take, Nat.min_eq_left h1] at q
  exact q
theorem lcp_drop {x y : List A} {k : Nat} (h : k ≤ lcp x y) : lcp x y = k + lcp (x.drop k) (y.drop k) :=
  lcp_of_take (Nat.le_trans h (lcp_le x y)) (Nat.le_trans h (lcp_le' x y)) (lcp_take x y k h)
/-- by indexes -/
theorem lcp_ge {x y : List A} {k : Nat} (h1 : k ≤ x.length) (h2 : k ≤ y.length) (h : ∀ i, i < k → x[i]? = y[i]?) : k ≤ lcp x y := by
  have e : x.take k = y.take k := by
    apply List.ext_getElem?
    intro i
    by_cases hi : i < k
    · rw [List.getElem?_take_of_lt hi, List.getElem?_take_of_lt hi]; exact h i hi
    · rw [List.getElem?_eq_none (by rw [List.length_take]; omega), List.getElem?_eq_none (by rw [List.length_take]; omega)]
  rw [lcp_of_take h1 h2 e]; omega
theorem lcp_get {x y : List A} {i : Nat} (h : i < lcp x y) : x[i]? = y[i]? := by
  have e := lcp_take x y _ (Nat.le_refl (lcp x y))
  have a := List.getElem?_take_of_lt (l := x) h
  have b := List.getElem?_take_of_lt (l := y) h
  rw [← a, ← b, e]
theorem lcp_all {x y : List A} (h : lcp x y = x.length) (hl : x.length = y.length) : x = y := by
  have := lcp_take x y x.length (by omega)
  rw [List.take_of_length_le (Nat.le_refl _), hl, List.take_of_length_le (Nat.le_refl _)] at this
  exact this
theorem lcp_self (x : List A) : lcp x x = x.length := by
  have := lcp_same x [] []
  rw [List.append_nil] at this
  rw [this]; rfl
/-- the first difference -/
theorem lcp_stop {x y : List A} {k : Nat} (h : k ≤ lcp x y) (hx : k < x.length) (hy : k < y.length) (hn : x[k]? ≠ y[k]?) : lcp x y = k := by
  rcases Nat.lt_or_ge k (lcp x y) with q | q
  · exact absurd (lcp_get q) hn
  · omega

/-! ### two rows repeated without end -/
theorem rpt_get (n : Nat) (xs : List A) {i : Nat} (h : i < n * xs.length) : (rpt n xs)[i]? = xs[i % xs.length]? := by
  induction n generalizing i with
  | zero => omega
  | succ n ih =>
    have hp : 0 < xs.length := Nat.pos_of_ne_zero fun z => by rw [z, Nat.mul_zero] at h; omega
    rw [rpt_succ]
    by_cases hi : i < xs.length
    · rw [List.getElem?_append_left hi, Nat.mod_eq_of_lt hi]
    · rw [List.getElem?_append_right (by omega)]
      rw [Nat.succ_mul] at h
      rw [ih (by omega), ← Nat.mod_eq_sub_mod (by omega)]
theorem ever {x y : List A} (hx : 0 < x.length) (hy : 0 < y.length) (h : ∀ i, i < x.length + y.length → x[i % x.length]? = y[i % y.length]?) : ∀ i, x[i % x.length]? = y[i % y.length]? := by
  intro i
  induction i using Nat.strongRecOn with
  | ind i ih =>
    by_cases hi : i < x.length + y.length
    · exact h i hi
    · have h1 := ih (i - x.length) (by omega)
      have h2 := ih (i - x.length - y.length) (by omega)
      have h3 := ih (i - y.length) (by omega)
      have a1 : i % x.length = (i - x.length) % x.length := Nat.mod_eq_sub_mod (by omega)
      have a2 : (i - x.length) % y.length = (i - x.length - y.length) % y.length := Nat.mod_eq_sub_mod (by omega)
      have a3 : (i - y.length) % x.length = (i - y.length - x.length) % x.length := Nat.mod_eq_sub_mod (by omega)
      have a4 : i % y.length = (i - y.length) % y.length := Nat.mod_eq_sub_mod (by omega)
      have a5 : i - y.length - x.length = i - x.length - y.length := by omega
      rw [a5] at a3
      rw [a1, h1, a2, ← h2, ← a3, h3, ← a4]
/-- two repeated units: k = how many entries agree of both, repeated often, up to the sum of their widths -/
theorem lcp_ever {x y : List A} {a b m n : Nat} {as bs : List A} {c : Nat} (hx : 0 < x.length) (hy : 0 < y.length) (ha : x.length + y.length ≤ a * x.length) (hb : x.length + y.length ≤ b * y.length)
    (hc1 : c ≤ m * x.length) (hc2 : c ≤ n * y.length) (hs : x.length + y.length ≤ c) :
    (lcp (rpt a x) (rpt b y) < x.length + y.length → lcp (rpt m x ++ as) (rpt n y ++ bs) = lcp (rpt a x) (rpt b y)) ∧
    (x.length + y.length ≤ lcp (rpt a x) (rpt b y) → c ≤ lcp (rpt m x ++ as) (rpt n y ++ bs)) := by
  have ga : ∀ i, i < a * x.length → (rpt a x)[i]? = x[i % x.length]? := fun i h => rpt_get a x h
  have gb : ∀ i, i < b * y.length → (rpt b y)[i]? = y[i % y.length]? := fun i h => rpt_get b y h
  have gm : ∀ i, i < m * x.length → (rpt m x ++ as)[i]? = x[i % x.length]? := fun i h => by rw [List.getElem?_append_left (by rw [len_rpt]; exact h), rpt_get m x h]
  have gn : ∀ i, i < n * y.length → (rpt n y ++ bs)[i]? = y[i % y.length]? := fun i h => by rw [List.getElem?_append_left (by rw [len_rpt]; exact h), rpt_get n y h]
  have lm : m * x.length ≤ (rpt m x ++ as).length := by rw [List.length_append, len_rpt]; omega
  have ln : n * y.length ≤ (rpt n y ++ bs).length := by rw [List.length_append, len_rpt]; omega
  refine ⟨fun h => ?_, fun h => ?_⟩
  · refine lcp_stop (lcp_ge (by omega) (by omega) fun i hi => ?_) (by omega) (by omega) ?_
    · rw [gm i (by omega), gn i (by omega), ← ga i (by omega), ← gb i (by omega)]; exact lcp_get hi
    · rw [gm _ (by omega), gn _ (by omega), ← ga _ (by omega), ← gb _ (by omega)]
      intro e
      have la : (rpt a x).length = a * x.length := len_rpt a x
      have lb : (rpt b y).length = b * y.length := len_rpt b y
      have q : lcp (rpt a x) (rpt b y) + 1 ≤ lcp (rpt a x) (rpt b y) := lcp_ge (by omega) (by omega) fun i hi => by
        by_cases z : i = lcp (rpt a x) (rpt b y)
        · rw [z]; exact e
        · exact lcp_get (by omega)
      omega
  · have ev := ever hx hy fun i hi => by rw [← ga i (by omega), ← gb i (by omega)]; exact lcp_get (by omega)
    refine lcp_ge (by omega) (by omega) fun i hi => ?_
    rw [gm i (by omega), gn i (by omega)]; exact ev i

/-! ### how deep agreement calls itself -/
def depF : Nat → Nat
  | 0 => 0
  | n + 1 => depF n + n + 3
def dep (e1 r1 e2 r2 : Nat) : Nat := depF (e1 + e2) + r1 + r2
theorem depF_step (n : Nat) : depF (n + 1) = depF n + n + 3 := rfl
theorem depF_mono {m n : Nat} (h : m ≤ n) : depF m ≤ depF n := by
  induction n with
  | zero => have : m = 0 := by omega
            rw [this]; exact Nat.le_refl _
  | succ n ih =>
    by_cases z : m = n + 1
    · rw [z]; exact Nat.le_refl _
    · have := ih (by omega)
      rw [depF_step]; omega
/-- one rank is less -/
theorem dep_less {e1 r1 e2 r2 f1 f2 : Nat} (h : f1 + f2 < e1 + e2) : dep f1 (f1 + 1) f2 (f2 + 1) < dep e1 r1 e2 r2 := by
  unfold dep
  obtain ⟨n, hn⟩ : ∃ n, e1 + e2 = n + 1 := ⟨e1 + e2 - 1, by omega⟩
  have h1 : depF (f1 + f2) ≤ depF n := depF_mono (by omega)
  rw [hn, depF_step]; omega
/-- no rank is more, one level is less -/
theorem dep_lower {e1 r1 e2 r2 f1 s1 f2 s2 : Nat} (h : f1 + f2 ≤ e1 + e2) (hs : s1 + s2 < r1 + r2) : dep f1 s1 f2 s2 < dep e1 r1 e2 r2 := by
  unfold dep
  have := depF_mono h
  omega
end
end Wd
set_option Elab.async false
set_option linter.all false
set_option maxRecDepth 100000
namespace Wd
open PySem L2
def top (i : Nat) : Stmt := PySem.Challenge.pw_heapturns_k33_whole_words_made_otherwise.main.body.getD i (.Pass ⟨0, 0, 0, 0⟩)
abbrev sWall : Stmt := top 0
abbrev sInvalidNumberInit : Stmt := inClass (top 3) 0
abbrev sInvalidArgumentInit : Stmt := inClass (top 4) 0
abbrev sLimitExceededInit : Stmt := inClass (top 5) 0
abbrev sIsInteger : Stmt := top 9
abbrev sIsBetween : Stmt := top 10
abbrev sIsName : Stmt := top 11
abbrev sIsEntry : Stmt := top 18
abbrev sPartInit : Stmt := inClass (top 19) 0
abbrev sJoined : Stmt := top 20
abbrev sRepeated : Stmt := top 21
abbrev sWidth : Stmt := top 22
abbrev sOpened : Stmt := top 23
abbrev sFirstUnit : Stmt := top 24
abbrev sBehind : Stmt := top 25
abbrev sRotated : Stmt := top 26
abbrev sGoneBy : Stmt := top 27
abbrev sAlikeFor : Stmt := top 28
abbrev sAlikeAhead : Stmt := top 29
abbrev sRunAhead : Stmt := top 30
abbrev sAgreement : Stmt := top 31
abbrev sPartOf : Stmt := top 32
abbrev sCheckIndex : Stmt := top 33
abbrev sMadeInit : Stmt := inClass (top 34) 0
abbrev sWordInit : Stmt := inClass (top 35) 0
abbrev sWordEq : Stmt := inClass (top 35) 1
abbrev sWordBool : Stmt := inClass (top 35) 2
abbrev sWordAdd : Stmt := inClass (top 35) 3
abbrev sWordMul : Stmt := inClass (top 35) 4
abbrev sWordGetitem : Stmt := inClass (top 35) 5
abbrev sWordIter : Stmt := inClass (top 35) 6
abbrev sWordContains : Stmt := inClass (top 35) 7
abbrev sWordLength : Stmt := inClass (top 35) 8
abbrev sWordCut : Stmt := inClass (top 35) 9
abbrev sWordEntries : Stmt := inClass (top 35) 10
abbrev sAgreeing : Stmt := top 36
abbrev sFirstDifference : Stmt := top 37
abbrev sCheckNumber : Stmt := top 40
abbrev sWalkInit : Stmt := inClass (top 41) 0
abbrev sWalkNextState : Stmt := inClass (top 41) 1
abbrev sWalkGo : Stmt := inClass (top 41) 2
abbrev sWalkGoFrom : Stmt := inClass (top 41) 3
abbrev sWalkOnce : Stmt := inClass (top 41) 4
abbrev sWalkPassages : Stmt := inClass (top 41) 5
abbrev sWalkWhen : Stmt := inClass (top 41) 6
abbrev sPassagesInit : Stmt := inClass (top 42) 0
abbrev sPassagesNote : Stmt := inClass (top 42) 1
abbrev sPassagesDone : Stmt := inClass (top 42) 2
abbrev sPassagesReturns : Stmt := inClass (top 42) 3
abbrev sPassagesFolded : Stmt := inClass (top 42) 4
abbrev sPassagesEnd : Stmt := inClass (top 42) 5
abbrev sPassagesTimesBelow : Stmt := inClass (top 42) 6
abbrev sCheckRow : Stmt := top 43
abbrev sMatched : Stmt := top 44
abbrev sRowWalk : Stmt := top 45
abbrev sCountRow : Stmt := top 46
abbrev sLawCell : Stmt := top 48
abbrev sLawDigits : Stmt := top 49
abbrev sLawEntry : Stmt := top 50
abbrev sLawRow : Stmt := top 51
abbrev sLawBuilt : Stmt := top 52
abbrev sLawStands : Stmt := top 53
abbrev sLawOtherwise : Stmt := top 54
abbrev sLawPowersRight : Stmt := top 55
abbrev sLawLongRight : Stmt := top 56
abbrev sLaw : Stmt := top 57
/-- a def of the module: its text, how it binds, its name -/
structure DefF (K : PySem.W.Frag) (mg : Str → Option Value) (x : Str) (st : Stmt) (ps : List Str) (f : Addr) (fd : FuncData) : Prop where
  fn : Fun K x x st f fd
  bd : Binds K fd ps []
  gl : mg x = some (.ref f)
/-- a method of the class at C -/
structure DefM (K : PySem.W.Frag) (C : Addr) (x qual : Str) (st : Stmt) (ps : List Str) (f : Addr) (fd : FuncData) : Prop where
  fn : Fun K x qual st f fd
  bd : Binds K fd ps []
  mt : Meth K C x f
/-- the names that the module leaves built in -/
structure Blt (mg : Str → Option Value) : Prop where
  isi : mg "isinstance" = none
  len : mg "len" = none
  min : mg "min" = none
  max : mg "max" = none
  all : mg "all" = none
  int : mg "int" = none
  bool : mg "bool" = none
  str : mg "str" = none
  tuple : mg "tuple" = none
  list : mg "list" = none
  range : mg "range" = none
  sorted : mg "sorted" = none
end Wd
set_option Elab.async false
set_option linter.all false
set_option maxRecDepth 100000
set_option maxHeartbeats 4000000
namespace Wd
open PySem L2
section
variable {P : Program} {w : World} {K : PySem.W.Frag} {mg : Str → Option Value} {base : Heap} {f : Addr} {fd : FuncData}
def spIsInteger : Sp := fun vs H Q _ => ∃ i : Int, vs = [.int i] ∧ Q (.bl true) H
theorem sc_IsInteger : FnScope ["thing"] ["thing"] (defScope sIsInteger) := ⟨rfl, rfl, rfl, by decide +kernel, rfl, by decide +kernel, by decide +kernel⟩
theorem ok_IsInteger (D : DefF K mg "is_integer" sIsInteger ["thing"] f fd) (B : Blt mg) : FnOk P w K mg base CX0 1 f fd ["thing"] spIsInteger := by
  refine D.fn.ok sc_IsInteger (fun vs H Q E h => ?_) (fun cdv A outer s H vs Q E hr h => ?_)
  · obtain ⟨i, rfl, _⟩ := h; rfl
  · obtain ⟨i, rfl, k⟩ := h
    refine ⟨_, pss_one (ps_ret (pe_and (pe_callB call_isi (by rfl) B.isi PyProof.Rows.boot_isinstance (pa_cons (pv 0) (pa_cons (pe_bltn (v := .ty "int") (by rfl) B.int PyProof.Rows.boot_int rfl) pa_nil)))
      (pe_one (pe_not (pe_callB call_isi (by rfl) B.isi PyProof.Rows.boot_isinstance (pa_cons (pv 0) (pa_cons (pe_bltn (v := .ty "bool") (by rfl) B.bool PyProof.Rows.boot_bool rfl) pa_nil))))))), ?_⟩
    refine ⟨_, rfl, _, _, _, _, true, rfl, ClsV.ty _, .base (.int i), kit_ty (by decide +kernel), _, rfl, iteT ?_⟩
    refine ⟨_, rfl, _, _, _, _, false, rfl, ClsV.ty _, .base (.int i), kit_ty (by decide +kernel), _, rfl, ?_⟩
    exact k
def spIsBetween : Sp := fun vs H Q _ => ∃ i a b : Int, vs = [.int i, .int a, .int b] ∧ Q (.bl (decide (a ≤ i) && decide (i ≤ b))) H
theorem sc_IsBetween : FnScope ["thing", "least", "most"] ["thing", "least", "most"] (defScope sIsBetween) := ⟨rfl, rfl, rfl, by decide +kernel, rfl, by decide +kernel, by decide +kernel⟩
theorem ok_IsBetween (D : DefF K mg "is_between" sIsBetween ["thing", "least", "most"] f fd) {fI : Addr} {fdI : FuncData} (DI : DefF K mg "is_integer" sIsInteger ["thing"] fI fdI) (GI : FnOk P w K mg base CX0 1 fI fdI ["thing"] spIsInteger) :
    FnOk P w K mg base CX0 2 f fd ["thing", "least", "most"] spIsBetween := by
  refine D.fn.ok sc_IsBetween (fun vs H Q E h => ?_) (fun cdv A outer s H vs Q E hr h => ?_)
  · obtain ⟨i, a, b, rfl, _⟩ := h; rfl
  · obtain ⟨i, a, b, rfl, k⟩ := h
    refine ⟨_, pss_one (ps_ret (pe_and (pe_call GI hr rfl DI.gl DI.fn.kp DI.bd .nil pass0 (pa_cons (pv 0) pa_nil)) (pe_one (pe_chain op_le op_le (pv 1) (pv 0) (pv 2))))), ?_⟩
    refine ⟨_, rfl, i, rfl, _, rfl, iteT ?_⟩
    refine ⟨_, rfl, _, rfl, _, _, rfl, rfl, _, rfl, ?_⟩
    by_cases h1 : a ≤ i
    · rw [decide_eq_true h1] at k ⊢
      refine iteT ⟨_, rfl, _, _, rfl, rfl, ?_⟩
      rw [Bool.true_and] at k
      exact k
    · rw [decide_eq_false h1] at k ⊢
      exact iteF k
end
end Wd
set_option Elab.async false
set_option linter.all false
set_option maxRecDepth 100000
set_option maxHeartbeats 4000000
namespace Wd
open PySem L2
/-! ### entries, parts, rows of units in the heap -/
abbrev En := Str × Option Str
def En.vs (e : En) : List V := [.str e.1, match e.2 with | none => .non | some t => .str t]
def En.ok (e : En) : Bool := PyData.strOk e.1 && match e.2 with | none => true | some t => PyData.strOk t
def EAt (H : Hp) (v : V) (e : En) : Prop := ∃ a, v = .ref a ∧ H a = some (.tup e.vs) ∧ e.ok = true
def RowAt (H : Hp) (v : V) (row : List En) : Prop := ∃ a vs, v = .ref a ∧ H a = some (.tup vs) ∧ Paired (EAt H) vs row
def pf (x l r t tf : V) (wd : Int) : List (Str × V) := [("letters", x), ("left", l), ("right", r), ("times", t), ("turned_from", tf), ("wide", .int wd)]
inductive Tf where
  | raw (v : V)
  | full
inductive PX (C : Addr) (H : Hp) : V → Tf → Pt En → Prop where
  | leaf {a dx : Addr} {v tf : V} {row : List En} : RowAt H v row → H a = some (.ins C dx (pf v .non .non (.int 1) tf (row.length : Nat))) → PX C H (.ref a) (.raw tf) (.leaf row)
  | cat {a dx : Addr} {v tf vl vr : V} {l r : Pt En} : RowAt H v [] → PX C H vl .full l → PX C H vr .full r → H a = some (.ins C dx (pf v vl vr (.int 1) tf ((l.den.length + r.den.length : Nat) : Int))) → PX C H (.ref a) (.raw tf) (.cat l r)
  | rep {a dx : Addr} {v tf vl : V} {p : Pt En} {n : Nat} : RowAt H v [] → PX C H vl .full p → H a = some (.ins C dx (pf v vl .non (.int (n : Nat)) tf ((n * p.den.length : Nat) : Int))) → PX C H (.ref a) (.raw tf) (.rep p n)
  | plain {v : V} {q : Pt En} : PX C H v (.raw .non) q → PX C H v .full q
  | turn {v vb : V} {ta : Addr} {q b : Pt En} {s : Nat} : PX C H v (.raw (.ref ta)) q → H ta = some (.tup [vb, .int (s : Nat)]) → PX C H vb .full b → PX C H v .full (.turn q b s)
abbrev PAt (C : Addr) (H : Hp) (v : V) (p : Pt En) : Prop := PX C H v .full p
def UAt (C : Addr) (H : Hp) (v : V) : Un En → Prop
  | .e x => EAt H v x
  | .p q => PAt C H v q
inductive UsAt (C : Addr) (H : Hp) : V → Us En → Prop where
  | nil : UsAt C H .non []
  | cons {a : Addr} {v r : V} {u : Un En} {t : Nat} {us : Us En} : H a = some (.tup [v, .int (t : Nat), r]) → UAt C H v u → UsAt C H r us → UsAt C H (.ref a) ((u, t) :: us)

theorem Paired.mono {A B : Type} {F G : A → B → Prop} (h : ∀ a b, F a b → G a b) {l : List A} {r : List B} (p : Paired F l r) : Paired G l r := Paired.mapP p h
section
variable {C : Addr} {H H' : Hp}
theorem EAt.mono (s : Same H H') {v : V} {e : En} (h : EAt H v e) : EAt H' v e := let ⟨a, h1, h2, h3⟩ := h; ⟨a, h1, s _ _ h2, h3⟩
theorem RowAt.mono (s : Same H H') {v : V} {row : List En} (h : RowAt H v row) : RowAt H' v row :=
  let ⟨a, vs, h1, h2, h3⟩ := h; ⟨a, vs, h1, s _ _ h2, Paired.mono (fun _ _ => EAt.mono s) h3⟩
theorem PX.mono (s : Same H H') {v : V} {k : Tf} {p : Pt En} (h : PX C H v k p) : PX C H' v k p := by
  induction h with
  | leaf h1 h2 => exact .leaf (h1.mono s) (s _ _ h2)
  | cat h1 _ _ h4 i1 i2 => exact .cat (h1.mono s) i1 i2 (s _ _ h4)
  | rep h1 _ h3 i1 => exact .rep (h1.mono s) i1 (s _ _ h3)
  | plain _ i => exact .plain i
  | turn _ h2 _ i1 i2 => exact .turn i1 (s _ _ h2) i2
theorem UAt.mono (s : Same H H') {v : V} {u : Un En} (h : UAt C H v u) : UAt C H' v u := by
  cases u with
  | e x => exact EAt.mono s h
  | p q => exact PX.mono s h
theorem UsAt.mono (s : Same H H') {v : V} {us : Us En} (h : UsAt C H v us) : UsAt C H' v us := by
  induction h with
  | nil => exact .nil
  | cons h1 h2 _ i => exact .cons (s _ _ h1) (h2.mono s) i
/-- the shape of a part, turned or not -/
def core : Pt En → Pt En
  | .turn q _ _ => q
  | p => p
theorem core_den (p : Pt En) : (core p).den = p.den := by cases p <;> rfl
theorem core_rk (p : Pt En) : (core p).rk ≤ p.rk := by
  cases p with
  | turn q b s => exact Nat.le_max_left _ _
  | _ => exact Nat.le_refl _
theorem core_nz {p : Pt En} (h : p.nz) : (core p).nz := by
  cases p with
  | turn q b s => exact h.1
  | _ => exact h
theorem core_cont (p : Pt En) : cont (core p) = cont p := by cases p <;> rfl
theorem PX.raw {v : V} {p : Pt En} (h : PAt C H v p) : ∃ tf, PX C H v (.raw tf) (core p) ∧ ((tf = .non ∧ p = core p) ∨ ∃ (ta : Addr) (vb : V) (q b : Pt En) (s : Nat), tf = .ref ta ∧ p = .turn q b s ∧ H ta = some (.tup [vb, .int (s : Nat)]) ∧ PAt C H vb b) := by
  cases h with
  | plain h =>
    have e : core p = p := by cases h <;> rfl
    exact ⟨_, by rw [e]; exact h, .inl ⟨rfl, e.symm⟩⟩
  | turn h1 h2 h3 => exact ⟨_, h1, .inr ⟨_, _, _, _, _, rfl, rfl, h2, h3⟩⟩
theorem PX.obj {v : V} {tf : V} {p : Pt En} (h : PX C H v (.raw tf) p) : ∃ a dx x l r t, v = .ref a ∧ H a = some (.ins C dx (pf x l r t tf (p.den.length : Nat))) := by
  cases h with
  | leaf h1 h2 => exact ⟨_, _, _, _, _, _, rfl, h2⟩
  | cat h1 _ _ h4 => exact ⟨_, _, _, _, _, _, rfl, h4.trans (by rw [show (Pt.cat _ _ : Pt En).den.length = _ from List.length_append])⟩
  | rep h1 _ h3 => exact ⟨_, _, _, _, _, _, rfl, h3.trans (by rw [show (Pt.rep _ _ : Pt En).den.length = _ from len_rpt _ _])⟩
theorem PX.objF {v : V} {p : Pt En} (h : PAt C H v p) : ∃ a dx x l r t tf, v = .ref a ∧ H a = some (.ins C dx (pf x l r t tf (p.den.length : Nat))) := by
  obtain ⟨tf, h1, _⟩ := h.raw
  obtain ⟨a, dx, x, l, r, t, e, h2⟩ := h1.obj
  rw [core_den] at h2
  exact ⟨a, dx, x, l, r, t, tf, e, h2⟩
end
theorem pf_letters {x l r t tf : V} {wd : Int} : (pf x l r t tf wd).lookup ("letters" : Str) = some x := by kernel_rfl
theorem pf_left {x l r t tf : V} {wd : Int} : (pf x l r t tf wd).lookup ("left" : Str) = some l := by kernel_rfl
theorem pf_right {x l r t tf : V} {wd : Int} : (pf x l r t tf wd).lookup ("right" : Str) = some r := by kernel_rfl
theorem pf_times {x l r t tf : V} {wd : Int} : (pf x l r t tf wd).lookup ("times" : Str) = some t := by kernel_rfl
theorem pf_turned {x l r t tf : V} {wd : Int} : (pf x l r t tf wd).lookup ("turned_from" : Str) = some tf := by kernel_rfl
theorem pf_wide {x l r t tf : V} {wd : Int} : (pf x l r t tf wd).lookup ("wide" : Str) = some (.int wd) := by kernel_rfl
theorem pf_put {x l r t tf : V} {wd : Int} : putF "wide" (.int wd) (putF "turned_from" tf (putF "times" t (putF "right" r (putF "left" l (putF "letters" x []))))) = pf x l r t tf wd := by kernel_rfl

/-! ### what is known of the class of parts -/
structure PCl (K : PySem.W.Frag) (C : Addr) : Prop where
  cl : Cls K C
  nLetters : NoAttr K C "letters"
  nLeft : NoAttr K C "left"
  nRight : NoAttr K C "right"
  nTimes : NoAttr K C "times"
  nTurned : NoAttr K C "turned_from"
  nWide : NoAttr K C "wide"
  ha : PySem.W.findIn K (.ref C) "__class__" = some (some (.builtin "object.__class__"))
  hn : PySem.W.specialIn K (.builtin "object.__class__") "__get__" = some (some (.builtin "getset_descriptor.__get__"))
  ht : PySem.W.takesIn K (.builtin "object.__class__") = some true
  hm : PySem.W.mroIn K C (.type "object") = some true
  nt : PySem.W.kitOne K (.ref C) (.type "tuple") = some false
section
variable {P : Program} {w : World} {K : PySem.W.Frag} {mg : Str → Option Value} {base : Heap} {f C : Addr} {fd : FuncData} {H : Hp}
theorem UAt.ty (T : PCl K C) {v : V} {u : Un En} (h : UAt C H v u) : ∃ t, TyX K H v t ∧ PySem.W.kitOne K t (.type "tuple") = some u.isE := by
  cases u with
  | e x =>
    obtain ⟨a, rfl, h, _⟩ := h
    exact ⟨_, .base (.tup h), kit_ty (show kitB "tuple" "tuple" = some true by decide +kernel)⟩
  | p q =>
    obtain ⟨a, dx, x, l, r, t, tf, rfl, ho⟩ := PX.objF h
    exact ⟨_, .base (.ins ho T.cl T.ha T.hn T.ht T.hm), T.nt⟩
def spWidth (C : Addr) : Sp := fun vs H Q _ => ∃ v u, vs = [v] ∧ UAt C H v u ∧ Q (.int (u.w : Nat)) H
theorem sc_Width : FnScope ["unit"] ["unit"] (defScope sWidth) := ⟨rfl, rfl, rfl, by decide +kernel, rfl, by decide +kernel, by decide +kernel⟩
theorem ok_Width (D : DefF K mg "width" sWidth ["unit"] f fd) (B : Blt mg) (T : PCl K C) : FnOk P w K mg base CX0 1 f fd ["unit"] (spWidth C) := by
  refine D.fn.ok sc_Width (fun vs H Q E h => ?_) (fun cdv A outer s H vs Q E hr h => ?_)
  · obtain ⟨v, u, rfl, _⟩ := h; rfl
  · obtain ⟨v, u, rfl, hu, k⟩ := h
    refine ⟨_, pss_one (ps_ret (pe_ifExp (pt_val (pe_callB call_isi (by rfl) B.isi PyProof.Rows.boot_isinstance (pa_cons (pv 0) (pa_cons (pe_bltn (v := .ty "tuple") (by rfl) B.tuple PyProof.Rows.boot_tuple rfl) pa_nil)))) pe_int (pe_fld (pv 0) rfl))), ?_⟩
    obtain ⟨t, ty, kit⟩ := hu.ty T
    refine ⟨_, rfl, _, _, _, _, _, rfl, ClsV.ty _, ty, kit, _, rfl, ?_⟩
    cases u with
    | e x => exact iteT k
    | p q =>
      obtain ⟨a, dx, x, l, r, t, tf, rfl, h⟩ := PX.objF hu
      exact iteF ⟨_, rfl, a, C, dx, _, _, rfl, h, T.cl, T.nWide, pf_wide, k⟩
end
end Wd
set_option Elab.async false
set_option linter.all false
set_option maxRecDepth 100000
set_option maxHeartbeats 4000000
namespace Wd
open PySem L2
/-- the class of parts: its __init__, how it binds with four values and with five -/
structure PMk (K : PySem.W.Frag) (mg : Str → Option Value) (C fI : Addr) (fdI : FuncData) (ds : List Value) : Prop where
  fn : FunD K "__init__" "Part.__init__" (defArgs sPartInit) (defBody sPartInit) (defScope sPartInit) [.non] [] fI fdI
  b4 : Binds K fdI ["self", "row", "left", "right", "times", "turned_from"] ds
  d4 : Vals [.non] ds
  b5 : Binds K fdI ["self", "row", "left", "right", "times", "turned_from"] []
  mkr : Mk K C fI
  gl : mg "Part" = some (.ref C)
section
variable {P : Program} {w : World} {K : PySem.W.Frag} {mg : Str → Option Value} {base : Heap} {f C : Addr} {fd : FuncData} {H : Hp}
/-- what the width is reckoned from -/
inductive WdOf (C : Addr) (K : PySem.W.Frag) (H : Hp) : V → V → V → V → Int → Prop where
  | row {a : Addr} {xs : List V} {r t : V} : SqT K H a xs → WdOf C K H (.ref a) .non r t (xs.length : Nat)
  | rep {x : V} {a dx : Addr} {fs : List (Str × V)} {i n : Int} : H a = some (.ins C dx fs) → fs.lookup ("wide" : Str) = some (.int i) → CMulW i n → WdOf C K H x (.ref a) .non (.int n) (i * n)
  | cat {x t : V} {a b dx dy : Addr} {fs gs : List (Str × V)} {i j : Int} : H a = some (.ins C dx fs) → fs.lookup ("wide" : Str) = some (.int i) → H b = some (.ins C dy gs) → gs.lookup ("wide" : Str) = some (.int j) → WdOf C K H x (.ref a) (.ref b) t (i + j)
def spPartInit (C : Addr) (K : PySem.W.Frag) : Sp := fun vs H Q _ => ∃ (p dx : Addr) (x l r t tf : V) (wd : Int), vs = [.ref p, x, l, r, t, tf] ∧ H p = some (.ins C dx []) ∧ WdOf C K H x l r t wd ∧ Q .non (upd H p (.ins C dx (pf x l r t tf wd)))
theorem sc_PartInit : FnScope ["self", "row", "left", "right", "times", "turned_from"] ["self", "row", "left", "right", "times", "turned_from"] (defScope sPartInit) := ⟨rfl, rfl, rfl, by decide +kernel, rfl, by decide +kernel, by decide +kernel⟩
theorem ok_PartInit {ds : List Value} (D : PMk K mg C f fd ds) (B : Blt mg) (T : PCl K C) : FnOk P w K mg base CX0 1 f fd ["self", "row", "left", "right", "times", "turned_from"] (spPartInit C K) := by
  refine D.fn.ok sc_PartInit (fun vs H Q E h => ?_) (fun cdv A outer s H vs Q E hr h => ?_)
  · obtain ⟨p, dx, x, l, r, t, tf, wd, rfl, _⟩ := h; rfl
  · obtain ⟨p, dx, x, l, r, t, tf, wd, rfl, hp, hw, k⟩ := h
    refine ⟨_, PSs.nox (pss_cons (ps_fld (pv 0) (pv 1) rfl) (pss_cons (ps_fld (pv 0) (pv 2) rfl) (pss_cons (ps_fld (pv 0) (pv 3) rfl) (pss_cons (ps_fld (pv 0) (pv 4) rfl) (pss_cons (ps_fld (pv 0) (pv 5) rfl)
      (pss_one (ps_if (pt_cmp (pc_isN (pv 2)) rfl) (pss_one (ps_fld (pv 0) (pe_callB call_len_seq (by rfl) B.len PySem.boot_len (pa_cons (pv 1) pa_nil)) rfl))
        (pss_one (ps_if (pt_cmp (pc_isN (pv 3)) rfl) (pss_one (ps_fld (pv 0) (pe_op op_mulW (pe_fld (pv 2) rfl) (pv 4)) rfl))
          (pss_one (ps_fld (pv 0) (pe_op op_add (pe_fld (pv 2) rfl) (pe_fld (pv 3) rfl)) rfl))))))))))), ?_⟩
    refine ⟨_, rfl, _, rfl, p, C, dx, _, rfl, hp, T.cl, T.nLetters, (by show 0 < 1000; decide), ?_⟩
    refine ⟨_, rfl, _, rfl, p, C, dx, _, rfl, upd_same, T.cl, T.nLeft, (by show 1 < 1000; decide), ?_⟩
    refine ⟨_, rfl, _, rfl, p, C, dx, _, rfl, upd_same, T.cl, T.nRight, (by show 2 < 1000; decide), ?_⟩
    refine ⟨_, rfl, _, rfl, p, C, dx, _, rfl, upd_same, T.cl, T.nTimes, (by show 3 < 1000; decide), ?_⟩
    refine ⟨_, rfl, _, rfl, p, C, dx, _, rfl, upd_same, T.cl, T.nTurned, (by show 4 < 1000; decide), ?_⟩
    rw [upd_upd, upd_upd, upd_upd, upd_upd]
    have np : ∀ {b : Addr} {o : HO}, H b = some o → o ≠ .ins C dx [] → b ≠ p := fun {b o} hb ne z => by
      rw [z, hp] at hb; exact ne (Option.some.inj hb).symm
    cases hw with
    | @row a xs _ _ hx =>
      refine ⟨_, rfl, _, rfl, ?_⟩
      refine iteT ?_
      refine ⟨_, rfl, a, xs, rfl, .inr ?_, _, rfl, p, C, dx, _, rfl, upd_same, T.cl, T.nWide, (by show 5 < 1000; decide), ?_⟩
      · rcases hx with (hx | ⟨o, hx⟩) | hx
        · exact .inl (.inl (by rw [upd_ne (np hx (by intro z; cases z))]; exact hx))
        · exact .inl (.inr ⟨o, by rw [upd_ne (np hx (by intro z; cases z))]; exact hx⟩)
        · exact .inr hx
      · rw [upd_upd, pf_put]; exact k
    | @rep _ a dy fs i n ha hl hc =>
      have na : a ≠ p := np ha (by intro z; cases z; cases hl)
      refine ⟨_, rfl, _, rfl, ?_⟩
      refine iteF ?_
      refine ⟨_, rfl, _, rfl, ?_⟩
      refine iteT ?_
      refine ⟨_, rfl, a, C, dy, fs, _, rfl, by rw [upd_ne na]; exact ha, T.cl, T.nWide, hl, _, rfl, _, _, rfl, rfl, hc, ?_⟩
      refine ⟨_, rfl, p, C, dx, _, rfl, upd_same, T.cl, T.nWide, (by show 5 < 1000; decide), ?_⟩
      rw [upd_upd, pf_put]; exact k
    | @cat _ _ a b da db fs gs i j ha hl hb hm =>
      have na : a ≠ p := np ha (by intro z; cases z; cases hl)
      have nb : b ≠ p := np hb (by intro z; cases z; cases hm)
      refine ⟨_, rfl, _, rfl, ?_⟩
      refine iteF ?_
      refine ⟨_, rfl, _, rfl, ?_⟩
      refine iteF ?_
      refine ⟨_, rfl, a, C, da, fs, _, rfl, by rw [upd_ne na]; exact ha, T.cl, T.nWide, hl, _, rfl, b, C, db, gs, _, rfl, by rw [upd_ne nb]; exact hb, T.cl, T.nWide, hm, _, _, rfl, rfl, ?_⟩
      refine ⟨_, rfl, p, C, dx, _, rfl, upd_same, T.cl, T.nWide, (by show 5 < 1000; decide), ?_⟩
      rw [upd_upd, pf_put]; exact k
end
end Wd
set_option Elab.async false
set_option linter.all false
set_option maxRecDepth 100000
set_option maxHeartbeats 4000000
namespace Wd
open PySem L2
inductive View (C : Addr) (H : Hp) (p : Pt En) : V → V → V → V → Prop where
  | leaf {x : V} {row : List En} : core p = .leaf row → RowAt H x row → View C H p x .non .non (.int 1)
  | cat {x : V} {a b : Addr} {l r : Pt En} : core p = .cat l r → RowAt H x [] → PAt C H (.ref a) l → PAt C H (.ref b) r → View C H p x (.ref a) (.ref b) (.int 1)
  | rep {x : V} {a : Addr} {l : Pt En} {n : Nat} : core p = .rep l n → RowAt H x [] → PAt C H (.ref a) l → View C H p x (.ref a) .non (.int (n : Nat))
theorem PX.view {C : Addr} {H : Hp} {v : V} {p : Pt En} (h : PAt C H v p) : ∃ a dx x l r t tf, v = .ref a ∧ H a = some (.ins C dx (pf x l r t tf (p.den.length : Nat))) ∧ View C H p x l r t := by
  obtain ⟨tf, h1, _⟩ := h.raw
  have hd := core_den p
  generalize hc : core p = q at h1 hd
  cases h1 with
  | leaf h1 h2 => exact ⟨_, _, _, _, _, _, _, rfl, h2.trans (by rw [← hd]; rfl), .leaf hc h1⟩
  | cat h1 h2 h3 h4 =>
    obtain ⟨a, _, _, _, _, _, _, e1, _⟩ := PX.objF h2
    obtain ⟨b, _, _, _, _, _, _, e2, _⟩ := PX.objF h3
    subst e1 e2
    exact ⟨_, _, _, _, _, _, _, rfl, h4.trans (by rw [← hd, show (Pt.cat _ _ : Pt En).den.length = _ from List.length_append]), .cat hc h1 h2 h3⟩
  | rep h1 h2 h3 =>
    obtain ⟨a, _, _, _, _, _, _, e1, _⟩ := PX.objF h2
    subst e1
    exact ⟨_, _, _, _, _, _, _, rfl, h3.trans (by rw [← hd, show (Pt.rep _ _ : Pt En).den.length = _ from len_rpt _ _]), .rep hc h1 h2⟩
theorem Same.new {H : Hp} {p : Addr} {o : HO} (h : H p = none) : Same H (upd H p o) := fun b u e => by rw [upd_ne (ne_of_none e h)]; exact e
section
variable {P : Program} {w : World} {K : PySem.W.Frag} {mg : Str → Option Value} {base : Heap} {f C : Addr} {fd : FuncData} {H : Hp}
/-- a new part, as its __init__ leaves it -/
theorem mk_at {x l r t tf : V} {wd : Int} {R : Addr → Hp → Prop} {E : XK} (hw : WdOf C K H x l r t wd)
    (k : ∀ (a dx : Addr) (H' : Hp), Same H H' → H a = none → H' a = some (.ins C dx (pf x l r t tf wd)) → R a H') :
    ∀ p dx, H p = none → H dx = none → dx ≠ p → spPartInit C K (.ref p :: [x, l, r, t, tf]) (upd (upd H dx (.own p)) p (.ins C dx [])) (fun v H2 => v = .non ∧ R p H2) E := by
  intro p dx hp hd hn
  have s1 : Same H (upd (upd H dx (.own p)) p (.ins C dx [])) := fun b o e => by
    rw [upd_ne (ne_of_none e hp), upd_ne (ne_of_none e hd)]; exact e
  refine ⟨p, dx, x, l, r, t, tf, wd, rfl, upd_same, ?_, rfl, ?_⟩
  · cases hw with
    | row h => exact .row (by
        rcases h with (h | ⟨o, h⟩) | h
        · exact .inl (.inl (s1 _ _ h))
        · exact .inl (.inr ⟨o, s1 _ _ h⟩)
        · exact .inr h)
    | rep h1 h2 h3 => exact .rep (s1 _ _ h1) h2 h3
    | cat h1 h2 h3 h4 => exact .cat (s1 _ _ h1) h2 (s1 _ _ h3) h4
  · rw [upd_upd]
    exact k p dx _ (fun b o e => by rw [upd_ne (ne_of_none e hp), upd_ne (ne_of_none e hd)]; exact e) hp upd_same
theorem Paired.len {A B : Type} {F : A → B → Prop} {l : List A} {r : List B} (p : Paired F l r) : l.length = r.length := Paired.length p
theorem mk_leaf {x tf : V} {row : List En} {R : Addr → Hp → Prop} {E : XK} (hr : RowAt H x row) (k : ∀ a H', Same H H' → PX C H' (.ref a) (.raw tf) (.leaf row) → R a H') :
    ∀ p dx, H p = none → H dx = none → dx ≠ p → spPartInit C K (.ref p :: [x, .non, .non, .int 1, tf]) (upd (upd H dx (.own p)) p (.ins C dx [])) (fun v H2 => v = .non ∧ R p H2) E := by
  obtain ⟨a, vs, rfl, h1, h2⟩ := id hr
  refine mk_at (.row (SqT.of h1)) fun b dx H' s _ e => k _ H' s (.leaf (dx := dx) (hr.mono s) ?_)
  rw [e, Paired.len h2]
theorem mk_cat {x tf : V} {a b : Addr} {l r : Pt En} {R : Addr → Hp → Prop} {E : XK} (hr : RowAt H x []) (hl : PAt C H (.ref a) l) (hb : PAt C H (.ref b) r) (k : ∀ a H', Same H H' → PX C H' (.ref a) (.raw tf) (.cat l r) → R a H') :
    ∀ p dx, H p = none → H dx = none → dx ≠ p → spPartInit C K (.ref p :: [x, .ref a, .ref b, .int 1, tf]) (upd (upd H dx (.own p)) p (.ins C dx [])) (fun v H2 => v = .non ∧ R p H2) E := by
  obtain ⟨_, _, _, _, _, _, _, e1, h1⟩ := PX.objF hl
  obtain ⟨_, _, _, _, _, _, _, e2, h2⟩ := PX.objF hb
  cases e1; cases e2
  refine mk_at (.cat h1 pf_wide h2 pf_wide) fun c dx H' s _ e => k _ H' s (.cat (dx := dx) (hr.mono s) (hl.mono s) (hb.mono s) ?_)
  rw [e, Int.natCast_add]
theorem mk_rep {x tf : V} {a : Addr} {l : Pt En} {n : Nat} {R : Addr → Hp → Prop} {E : XK} (hr : RowAt H x []) (hl : PAt C H (.ref a) l) (hc : CMulW (l.den.length : Nat) (n : Nat)) (k : ∀ a H', Same H H' → PX C H' (.ref a) (.raw tf) (.rep l n) → R a H') :
    ∀ p dx, H p = none → H dx = none → dx ≠ p → spPartInit C K (.ref p :: [x, .ref a, .non, .int (n : Nat), tf]) (upd (upd H dx (.own p)) p (.ins C dx [])) (fun v H2 => v = .non ∧ R p H2) E := by
  obtain ⟨_, _, _, _, _, _, _, e1, h1⟩ := PX.objF hl
  cases e1
  refine mk_at (.rep h1 pf_wide hc) fun c dx H' s _ e => k _ H' s (.rep (dx := dx) (hr.mono s) (hl.mono s) ?_)
  rw [e, Nat.mul_comm, Int.natCast_mul]
theorem core_ok {p : Pt En} (h : p.ok) (hn : p.den ≠ []) : p.nz := by
  rcases h with rfl | h
  · exact absurd rfl hn
  · exact h
theorem row_nil {a : Addr} (h : H a = some (.tup [])) : RowAt H (.ref a) [] := ⟨a, [], rfl, h, .nil⟩
theorem Paired.app {A B : Type} {F : A → B → Prop} : ∀ {l l' : List A} {r r' : List B}, Paired F l r → Paired F l' r' → Paired F (l ++ l') (r ++ r')
  | _, _, _, _, .nil, q => q
  | _, _, _, _, .cons a b, q => .cons a (Paired.app b q)
theorem dec_int0 (n : Nat) : decide (V.int (n : Nat) = V.int 0) = decide (n = 0) := by
  by_cases h : n = 0
  · subst h; rfl
  · rw [decide_eq_false h]; exact decide_eq_false fun e => by have := V.int.inj e; omega

theorem sz_line {n : Nat} (h : n ≤ 60) : n ≤ sizeLine := Nat.le_trans h (by rw [sizeLine_eq]; decide)
/-- Part((), e1, e2, 1), the two in slots i and j -/
theorem rd_cat {i j : Nat} {a b : Addr} {p q : Pt En} {σ : L2.St} {D : Ends} (hi : σ[i]? = some (some (.ref a))) (hj : σ[j]? = some (some (.ref b))) (hp : PAt C H (.ref a) p) (hq : PAt C H (.ref b) q)
    (k : ∀ v H', Same H H' → PAt C H' v (.cat p q) → D.rt v H') : tRet (tMake C (spPartInit C K) [.non] E0 (tCons (tTup tNil) (tCons (tVar i) (tCons (tVar j) (tCons (tC (.int 1)) tNil))))) D σ H := by
  refine ⟨Nat.zero_le _, fun t ht => ⟨_, hi, _, hj, ?_⟩⟩
  have s1 : Same H (upd H t (.tup [])) := Same.new ht
  exact mk_cat (row_nil upd_same) (hp.mono s1) (hq.mono s1) fun v H' s2 h => k _ H' (s1.trans s2) (.plain h)
def spJoined (C : Addr) : Sp := fun vs H Q _ => ∃ va vb p q, vs = [va, vb] ∧ PAt C H va p ∧ PAt C H vb q ∧ p.ok ∧ q.ok ∧
  ∀ v H' r, Same H H' → PAt C H' v r → r.ok → r.den = p.den ++ q.den → r.rk ≤ max p.rk q.rk → Q v H'
theorem sc_Joined : FnScope ["one", "other", "last", "longer"] ["one", "other"] (defScope sJoined) := ⟨rfl, rfl, rfl, by decide +kernel, rfl, by decide +kernel, by decide +kernel⟩
theorem ok_Joined (D : DefF K mg "joined" sJoined ["one", "other"] f fd) (B : Blt mg) (T : PCl K C) {fI : Addr} {fdI : FuncData} {ds : List Value} (M : PMk K mg C fI fdI ds)
    (GI : FnOk P w K mg base CX0 1 fI fdI ["self", "row", "left", "right", "times", "turned_from"] (spPartInit C K)) {t60 : Tok} (m60 : mg "MOST_IN_ROW" = some (.int 60 t60)) : FnOk P w K mg base CX0 3 f fd ["one", "other"] (spJoined C) := by
  refine D.fn.ok sc_Joined (fun vs H Q E h => ?_) (fun cdv A outer s H vs Q E hr h => ?_)
  · obtain ⟨va, vb, p, q, rfl, _⟩ := h; rfl
  · obtain ⟨va, vb, p, q, rfl, hp, hq, op, oq, k⟩ := h
    have nd := sc_Joined.nd
    refine ⟨_, pss_cons (ps_if (PW.pt (pw_or (pt_cmpR op_eq (pe_fld (pv 0) rfl) pe_int (nomark _)) (pw_or1 (pt_cmpR op_eq (pe_fld (pv 1) rfl) pe_int (nomark _)))))
        (pss_one (ps_ret (pe_ifExp (pt_cmpR op_eq (pe_fld (pv 0) rfl) pe_int (nomark _)) (pv 1) (pv 0)))) pss_nil)
      (pss_cons (ps_set (i := 2) nd rfl (.inl rfl) (pe_ifExp (pt_cmp (pc_isN (pe_fld (pv 0) rfl)) rfl) (pv 0) (pe_fld (pv 0) rfl)))
      (pss_cons (ps_if (PW.pt (pw_and (pt_cmp (pc_isN (pe_fld (pv 2) rfl)) rfl) (pw_and (pt_cmp (pc_isN (pe_fld (pv 1) rfl)) rfl) (pw_and1 (pt_cmpR op_le (pe_op op_add (pe_callB call_len_seq (by rfl) B.len PySem.boot_len (pa_cons (pe_fld (pv 2) rfl) pa_nil))
            (pe_callB call_len_seq (by rfl) B.len PySem.boot_len (pa_cons (pe_fld (pv 1) rfl) pa_nil))) (pe_glob (v := .int 60) rfl m60 ⟨_, rfl⟩) (nomark _))))))
          (pss_cons (ps_set (i := 3) nd rfl (.inl rfl) (pe_make M.mkr GI hr rfl M.gl M.b4 M.d4 pass0 (pa_cons (pe_op op_catT (pe_fld (pv 2) rfl) (pe_fld (pv 1) rfl)) (pa_cons pe_non (pa_cons pe_non (pa_cons pe_int pa_nil))))))
            (pss_one (ps_ret (pe_ifExp (pt_cmp (pc_isN (pe_fld (pv 0) rfl)) rfl) (pv 3) (pe_make M.mkr GI hr rfl M.gl M.b4 M.d4 pass0 (pa_cons (pe_tup pa_nil) (pa_cons (pe_fld (pv 0) rfl) (pa_cons (pv 3) (pa_cons pe_int pa_nil)))))))))
          pss_nil)
      (pss_one (ps_ret (pe_make M.mkr GI hr rfl M.gl M.b4 M.d4 pass0 (pa_cons (pe_tup pa_nil) (pa_cons (pv 0) (pa_cons (pv 1) (pa_cons pe_int pa_nil))))))))), ?_⟩
    obtain ⟨a, da, xa, la, ra, ta, tfa, rfl, ha, va⟩ := PX.view hp
    obtain ⟨b, db, xb, lb, rb, tb, tfb, rfl, hb, vb⟩ := PX.view hq
    refine ⟨_, rfl, a, C, da, _, _, rfl, ha, T.cl, T.nWide, pf_wide, rfl, _, rfl, ?_⟩
    rw [dec_int0]
    by_cases zp : p.den.length = 0
    · rw [decide_eq_true zp]
      refine iteT (iteT ?_)
      refine ⟨_, rfl, a, C, da, _, _, rfl, ha, T.cl, T.nWide, pf_wide, rfl, _, rfl, ?_⟩
      rw [dec_int0, decide_eq_true zp]
      refine iteT ⟨_, rfl, ?_⟩
      have e : p.den = [] := List.length_eq_zero_iff.mp zp
      exact k _ H q (Same.refl H) hq oq (by rw [e]; rfl) (Nat.le_max_right _ _)
    · rw [decide_eq_false zp]
      refine iteF ?_
      refine ⟨_, rfl, b, C, db, _, _, rfl, hb, T.cl, T.nWide, pf_wide, rfl, _, rfl, ?_⟩
      rw [dec_int0]
      by_cases zq : q.den.length = 0
      · rw [decide_eq_true zq]
        refine iteT ?_
        refine ⟨_, rfl, a, C, da, _, _, rfl, ha, T.cl, T.nWide, pf_wide, rfl, _, rfl, ?_⟩
        rw [dec_int0, decide_eq_false zp]
        refine iteF ⟨_, rfl, ?_⟩
        have e : q.den = [] := List.length_eq_zero_iff.mp zq
        exact k _ H p (Same.refl H) hp op (by rw [e, List.append_nil]) (Nat.le_max_left _ _)
      · rw [decide_eq_false zq]
        refine iteF ?_
        have np : p.nz := core_ok op fun e => zp (by rw [e]; rfl)
        have nq : q.nz := core_ok oq fun e => zq (by rw [e]; rfl)
        refine ⟨_, rfl, a, C, da, _, _, rfl, ha, T.cl, T.nRight, pf_right, _, rfl, ?_⟩
        have fb : ∀ v H', Same H H' → PAt C H' v (.cat p q) → Q v H' := fun v H' s h => k v H' _ s h (.inr ⟨np, nq⟩) rfl (Nat.le_refl _)
        cases va with
        | @leaf row ec hx =>
          refine iteT ⟨_, rfl, ?_⟩
          refine ⟨_, rfl, a, C, da, _, _, rfl, ha, T.cl, T.nLeft, pf_left, _, rfl, iteT ?_⟩
          refine ⟨_, rfl, b, C, db, _, _, rfl, hb, T.cl, T.nLeft, pf_left, _, rfl, ?_⟩
          cases vb with
          | @leaf row2 ec2 hy =>
            refine iteT ?_
            obtain ⟨ax, xs, rfl, hax, px⟩ := id hx
            obtain ⟨ay, ys, rfl, hay, py⟩ := id hy
            refine ⟨_, rfl, a, C, da, _, _, rfl, ha, T.cl, T.nLetters, pf_letters, ax, xs, rfl, .inr (SqT.of hax), ?_⟩
            refine ⟨_, rfl, b, C, db, _, _, rfl, hb, T.cl, T.nLetters, pf_letters, ay, ys, rfl, .inr (SqT.of hay), _, _, rfl, rfl, _, _, rfl, rfl, _, rfl, ?_⟩
            refine ite2 (fun h60 => ?_) (fun _ => ?_)
            · have l60 : xs.length + ys.length ≤ 60 := by have := of_decide_eq_true h60; omega
              refine ⟨_, rfl, a, C, da, _, _, rfl, ha, T.cl, T.nLetters, pf_letters, _, rfl, b, C, db, _, _, rfl, hb, T.cl, T.nLetters, pf_letters, ?_⟩
              have nr1 : row ≠ [] := by have := core_nz np; rw [ec] at this; exact this
              have nr2 : row2 ≠ [] := by have := core_nz nq; rw [ec2] at this; exact this
              have nx : xs ≠ [] := fun z => nr1 (by subst z; cases px; rfl)
              have ny : ys ≠ [] := fun z => nr2 (by subst z; cases py; rfl)
              refine ⟨ax, ay, xs, ys, rfl, rfl, SqT.of hax, SqT.of hay, nx, sz_line l60, fun z => absurd z ny, fun _ t ht => ?_⟩
              have s1 : Same H (upd H t (.tup (xs ++ ys))) := Same.new ht
              refine mk_leaf (row := row ++ row2) ⟨t, xs ++ ys, rfl, upd_same, Paired.app (Paired.mono (fun _ _ => EAt.mono s1) px) (Paired.mono (fun _ _ => EAt.mono s1) py)⟩ fun v H' s2 h => ?_
              have s12 := s1.trans s2
              refine ⟨_, rfl, a, C, da, _, _, rfl, s12 _ _ ha, T.cl, T.nRight, pf_right, _, rfl, iteT ⟨_, rfl, ?_⟩⟩
              refine k _ H' (.leaf (row ++ row2)) s12 (.plain h) (.inr ?_) ?_ (Nat.zero_le _)
              · exact fun z => nr1 (List.append_eq_nil_iff.mp z).1
              · rw [← core_den p, ec, ← core_den q, ec2]; rfl
            · exact rd_cat rfl rfl hp hq fb
          | cat ec2 hy h1 h2 => exact iteF (rd_cat rfl rfl hp hq fb)
          | rep ec2 hy h1 => exact iteF (rd_cat rfl rfl hp hq fb)
        | rep ec hx h1 =>
          refine iteT ⟨_, rfl, ?_⟩
          refine ⟨_, rfl, a, C, da, _, _, rfl, ha, T.cl, T.nLeft, pf_left, _, rfl, iteF ?_⟩
          exact rd_cat rfl rfl hp hq fb
        | @cat al ar l r ec hx hl hr' =>
          refine iteF ⟨_, rfl, a, C, da, _, _, rfl, ha, T.cl, T.nRight, pf_right, ?_⟩
          obtain ⟨ar', dr, xr, lr, rr, tr, tfr, er, har, vr⟩ := PX.view hr'
          cases er
          refine ⟨_, rfl, ar, C, dr, _, _, rfl, har, T.cl, T.nLeft, pf_left, _, rfl, ?_⟩
          have npc : l.nz ∧ r.nz := by have := core_nz np; rw [ec] at this; exact this
          cases vr with
          | @leaf row ecr hx2 =>
            refine iteT ?_
            refine ⟨_, rfl, b, C, db, _, _, rfl, hb, T.cl, T.nLeft, pf_left, _, rfl, ?_⟩
            cases vb with
            | @leaf row2 ec2 hy =>
              refine iteT ?_
              obtain ⟨ax, xs, rfl, hax, px⟩ := id hx2
              obtain ⟨ay, ys, rfl, hay, py⟩ := id hy
              refine ⟨_, rfl, ar, C, dr, _, _, rfl, har, T.cl, T.nLetters, pf_letters, ax, xs, rfl, .inr (SqT.of hax), ?_⟩
              refine ⟨_, rfl, b, C, db, _, _, rfl, hb, T.cl, T.nLetters, pf_letters, ay, ys, rfl, .inr (SqT.of hay), _, _, rfl, rfl, _, _, rfl, rfl, _, rfl, ?_⟩
              refine ite2 (fun h60 => ?_) (fun _ => ?_)
              · have l60 : xs.length + ys.length ≤ 60 := by have := of_decide_eq_true h60; omega
                refine ⟨_, rfl, ar, C, dr, _, _, rfl, har, T.cl, T.nLetters, pf_letters, _, rfl, b, C, db, _, _, rfl, hb, T.cl, T.nLetters, pf_letters, ?_⟩
                have nr1 : row ≠ [] := by have := core_nz npc.2; rw [ecr] at this; exact this
                have nr2 : row2 ≠ [] := by have := core_nz nq; rw [ec2] at this; exact this
                have nx : xs ≠ [] := fun z => nr1 (by subst z; cases px; rfl)
                have ny : ys ≠ [] := fun z => nr2 (by subst z; cases py; rfl)
                refine ⟨ax, ay, xs, ys, rfl, rfl, SqT.of hax, SqT.of hay, nx, sz_line l60, fun z => absurd z ny, fun _ t ht => ?_⟩
                have s1 : Same H (upd H t (.tup (xs ++ ys))) := Same.new ht
                refine mk_leaf (row := row ++ row2) ⟨t, xs ++ ys, rfl, upd_same, Paired.app (Paired.mono (fun _ _ => EAt.mono s1) px) (Paired.mono (fun _ _ => EAt.mono s1) py)⟩ fun v H' s2 h => ?_
                have s12 := s1.trans s2
                refine ⟨_, rfl, a, C, da, _, _, rfl, s12 _ _ ha, T.cl, T.nRight, pf_right, _, rfl, iteF ?_⟩
                refine ⟨Nat.zero_le _, fun t2 ht2 => ?_⟩
                have s3 : Same H' (upd H' t2 (.tup [])) := Same.new ht2
                refine ⟨_, rfl, a, C, da, _, _, rfl, s3 _ _ (s12 _ _ ha), T.cl, T.nLeft, pf_left, _, rfl, ?_⟩
                refine mk_cat (row_nil upd_same) (hl.mono (s12.trans s3)) ((PX.plain h).mono s3) fun v2 H2 s4 h2 => ?_
                refine k _ H2 (.cat l (.leaf (row ++ row2))) ((s12.trans s3).trans s4) (.plain h2) (.inr ⟨npc.1, ?_⟩) ?_ ?_
                · exact fun z => nr1 (List.append_eq_nil_iff.mp z).1
                · have e1 : r.den = row := by rw [← core_den r, ecr]; rfl
                  have e2 : q.den = row2 := by rw [← core_den q, ec2]; rfl
                  have e3 : p.den = l.den ++ r.den := by rw [← core_den p, ec]; rfl
                  rw [e3, e2, e1, List.append_assoc]; rfl
                · have := core_rk p
                  rw [ec] at this
                  have e : (Pt.cat l r).rk = max l.rk r.rk := rfl
                  show max l.rk 0 ≤ _
                  omega
              · exact rd_cat rfl rfl hp hq fb
            | cat ec2 hy h1 h2 => exact iteF (rd_cat rfl rfl hp hq fb)
            | rep ec2 hy h1 => exact iteF (rd_cat rfl rfl hp hq fb)
          | cat ec2 hy h1 h2 => exact iteF (rd_cat rfl rfl hp hq fb)
          | rep ec2 hy h1 => exact iteF (rd_cat rfl rfl hp hq fb)
end
end Wd
set_option Elab.async false
set_option linter.all false
set_option maxRecDepth 100000
set_option maxHeartbeats 4000000
/-! a tuple taken backwards -/
namespace Wd
open PySem PySem.Spec PyProof.Rows L2
theorem back_places (n : Nat) : Builtin.Slice.sliceAdjust none none (-1) (n : Int) = ((n : Int) - 1, -1) := by
  unfold Builtin.Slice.sliceAdjust
  simp
theorem back_count (n : Nat) : Builtin.Slice.slicePlaces ((n : Int) - 1) (-1) (-1) = n := by
  unfold Builtin.Slice.slicePlaces
  simp
  split <;> omega
theorem back_pick (xs : List Value) : ((List.range xs.length).filterMap fun (k : Nat) => xs.toArray[(((xs.length : Nat) : Int) - 1 + (k : Int) * (-1)).toNat]?) = xs.reverse := by
  have e : ∀ k, k < xs.length → xs.toArray[(((xs.length : Nat) : Int) - 1 + (k : Int) * (-1)).toNat]? = xs.reverse[k]? := fun k hk => by
    rw [List.getElem?_reverse hk, List.getElem?_toArray]
    congr 1; omega
  apply List.ext_getElem?
  intro i
  have g : ∀ (m : Nat), m ≤ xs.length → (List.range m).filterMap (fun (k : Nat) => xs.toArray[(((xs.length : Nat) : Int) - 1 + (k : Int) * (-1)).toNat]?) = xs.reverse.take m := by
    intro m
    induction m with
    | zero => intro _; rfl
    | succ m ih =>
      intro hm
      have hl : m < xs.reverse.length := by rw [List.length_reverse]; omega
      rw [List.range_succ, List.filterMap_append, ih (by omega), List.take_succ_eq_append_getElem hl]
      congr 1
      rw [List.filterMap_cons, e m (by omega), List.getElem?_eq_getElem hl]; rfl
  rw [g _ (Nat.le_refl _), List.take_of_length_le (by rw [List.length_reverse]; exact Nat.le_refl _)]
section
variable {prog : Program} {w : World} {A : Around} {E : Value → Shared → Prop} {s : Shared}
theorem getItem_tuple_back {t sl : Addr} {xs : List Value} {vs : Value} {Q : Value → Shared → Prop} (ht : IsTup s.heap t xs.toArray) (hs : s.heap.IsSliceOf sl .none .none vs) (ps : IsPart vs (some (-1)))
    (h : Q (.ref s.heap.objs.size) { s with heap := s.heap.push { cls := .type "tuple", data := .seq xs.reverse.toArray } }) (hz : xs.length ≤ sizeLine) : wpAny (model prog w) A (getItem (.ref t) (.ref sl)) Q E s := by
  have hz2 : sizeOk (.seq xs.reverse.toArray) := by
    show xs.reverse.toArray.size ≤ sizeLine
    rw [List.size_toArray, List.length_reverse]; exact hz
  obtain ⟨so, so1, so2, so3⟩ := id hs
  have isS : s.TypeIs (.ref sl) "slice" := ⟨so, so1, so2⟩
  unfold getItem
  try with_reducible refine wpAny_holding ?_
  first | refine wpAny_bind (wpAny_pure ?_) | skip
  refine wpAny_bind (wpAny_sequenceKey ht.typeIs (by decide) (wpAny_bind (wpAny_callSpecial?_slot (name := Str.ofString "__getitem__") ht.typeIs PyProof.Rows.slot_tuple_getitem
    (wpAny_call_entry PyProof.Rows.slot_tuple_getitem ht.typeIs PyProof.Rows.entry_tuple_getitem ?_ (PyProof.Rows.args_tuple_getitem _ _)))))
  show wpAny _ _ (Builtin.Tuple.tupleItemsOf (.ref t) >>= _) _ _ s
  refine wpAny_bind (PyProof.Rows.tupleItemsOf_ ht (wpAny_bind (wpAny_typeOf isS ?_)))
  rw [if_pos (by decide)]
  refine wpAny_bind ?_
  unfold Builtin.Slice.sliceApplied Builtin.Slice.sliceFields
  refine wpAny_bind (wpAny_bind (wpAny_field so1 so3 (x := .none) rfl (wpAny_bind (wpAny_field so1 so3 (x := .none) rfl (wpAny_bind (wpAny_field so1 so3 (x := vs) rfl (wpAny_pure ?_)))))))
  refine wpAny_bind (HT.slicePart_ ps ?_)
  show wpAny _ _ (if ((-1 : Int) == 0) = true then _ else _) _ _ s
  rw [if_neg (by decide)]
  refine wpAny_bind (HT.slicePart_ .none (wpAny_bind (HT.slicePart_ .none (wpAny_bind (wpAny_pure ?_)))))
  show wpAny _ _ (match Builtin.Slice.sliceAdjust none none (-1) ((xs.toArray.size : Nat) : Int) with | (lo, hi) => pure (lo, (-1 : Int), Builtin.Slice.slicePlaces lo hi (-1))) _ _ s
  rw [List.size_toArray, back_places]
  show wpAny _ _ (pure (((xs.length : Nat) : Int) - 1, (-1 : Int), Builtin.Slice.slicePlaces (((xs.length : Nat) : Int) - 1) (-1) (-1))) _ _ s
  rw [back_count]
  refine wpAny_pure ?_
  show wpAny _ _ (if ((((xs.length : Nat) : Int) - 1 == 0) && ((-1 : Int) == 1) && (xs.length == xs.toArray.size)) = true then _ else _) _ _ s
  rw [if_neg (by simp), back_pick]
  exact wpAny_bind (m := Builtin.Tuple.tupleExact _) (wpAny_newObj_type (wpAny_pure ⟨_, rfl, wpAny_pure h⟩) hz2)
end
end Wd

namespace Wd
open PySem PySem.Spec PyProof.Rows L2
/-- t[::-1] -/
def tBack (K : PySem.W.Frag) (te : TE) : TE := fun σ H Q => te σ H fun x H1 => ∃ a xs, x = .ref a ∧ SqT K H1 a xs ∧ ∀ p, H1 p = none → Q (.ref p) (upd H1 p (.tup xs.reverse))
theorem pe_back {X : Cx} {e : Expr} {te : TE} {k : Nat} {p1 p2 p3 pos : Pos} (he : PE X e te) : PE X (.Subscript e (.Slice none none (some (.UnaryOp .USub (.Constant (.int 1) k p1) p2)) p3) pos) (tBack X.K te) := by
  refine ⟨fun pins s σ H Q I h => ?_⟩
  refine Subscript_ (thn (he.run pins s σ H _ I h) fun v s1 ⟨x, H1, I1, r1, a, xs, ex, hx, q⟩ => ?_)
  subst ex
  cases r1
  have neg1 : PO X (some (.UnaryOp .USub (.Constant (.int 1) k p1) p2)) (tPart (tUn (rU fun i => .int (-i)) (tC (.int 1)))) := po_some (pe_un un_neg pe_int)
  refine wpAny_Slice (thn (po_none.run pins s1 σ H1 (fun o G => o = none ∧ G = H1) I1 ⟨rfl, rfl⟩) fun vl s2 ⟨_, H2, I2, pl, el, e2⟩ => ?_)
  subst el e2
  refine thn (po_none.run pins s2 σ H2 (fun o G => o = none ∧ G = H2) I2 ⟨rfl, rfl⟩) fun vu s3 ⟨_, H3, I3, pu, eu, e3⟩ => ?_
  subst eu e3
  refine thn (neg1.run pins s3 σ H3 (fun o G => o = some (-1) ∧ G = H3) I3 ⟨1, rfl, -1, rfl, rfl, rfl⟩) fun vs s4 ⟨_, H4, I4, ps, eo, e4⟩ => ?_
  subst eo e4
  have J : Inv X pins σ H4 { s4 with heap := s4.heap.push { cls := .type "slice", data := .fields #[vl, vu, vs] } } := I4.kept (t' := s4.toks) fun b ob z => Heap.get?_push_of_some _ z
  obtain ⟨its, r, ht, hz⟩ := J.tuple hx
  have hlen := r.length
  cases pl; cases pu
  show wpAny (model X.prog X.w) X.A (subscriptTail e (.Slice none none (some (.UnaryOp .USub (.Constant (.int 1) k p1) p2)) p3) (.ref a) (.ref s4.heap.objs.size)) (EP X pins σ Q) X.xe { s4 with heap := s4.heap.push { cls := .type "slice", data := .fields #[.none, .none, vs] } }
  refine tail_any (ops := [.ref a, .ref s4.heap.objs.size]) ht.typeIs (PyProof.Rows.slot_tuple_getitem.lookup) ?_ (by with_unfolding_all rfl)
  refine getItem_tuple_back ht (Heap.IsSliceOf.new _ .none .none vs) ps ?_ (by omega)
  refine ⟨.ref _, _, J.laid (t' := s4.toks) (o := .tup xs.reverse) (fun b ob z => Heap.get?_push_of_some _ z) (Nat.le_refl _) ?_, rfl, q _ (J.hok.fresh (Nat.le_refl _))⟩
  exact ⟨by rw [List.length_reverse]; exact hz, _, r.reverse, IsTup.new _ _⟩
end Wd
set_option Elab.async false
set_option linter.all false
set_option maxRecDepth 100000
set_option maxHeartbeats 4000000
set_option exponentiation.threshold 100000
namespace Wd
open PySem L2
/-! ### bounds -/
def WL : Nat := 2 ^ 4000
def WM : Nat := 2 ^ 5000
theorem WL_le {b : Nat} (h : 4000 ≤ b) : WL ≤ 2 ^ b := Nat.pow_le_pow_right (by decide) h
theorem WM_le {b : Nat} (h : 5000 ≤ b) : WM ≤ 2 ^ b := Nat.pow_le_pow_right (by decide) h
theorem WLM : WL ≤ WM := Nat.pow_le_pow_right (by decide) (by decide)
theorem one_WL : 1 < WL := Nat.lt_of_lt_of_le (by decide : 1 < 2 ^ 1) (Nat.pow_le_pow_right (by decide) (by decide))
theorem two_WL : WL + WL ≤ WM := by
  have h : (2 : Nat) ^ 4000 + 2 ^ 4000 = 2 ^ 4001 := by rw [Nat.pow_succ, Nat.mul_two]
  show (2 : Nat) ^ 4000 + 2 ^ 4000 ≤ 2 ^ 5000
  rw [h]; exact Nat.pow_le_pow_right (by decide) (by decide)
theorem cm_of {a b : Nat} (ha : a < 2 ^ 9000) (hb : b < 2 ^ 9000) : CMulW (a : Nat) (b : Nat) := wide_mul (a := 9000) (b := 9000) (by rw [Int.natAbs_natCast]; exact ha) (by rw [Int.natAbs_natCast]; exact hb) (by decide) (by decide) (by decide)
theorem cm_LM {a b : Nat} (ha : a < WL) (hb : b < WM) : CMulW (a : Nat) (b : Nat) := cm_of (Nat.lt_of_lt_of_le ha (WL_le (by decide))) (Nat.lt_of_lt_of_le hb (WM_le (by decide)))
theorem cm_ML {a b : Nat} (ha : a < WM) (hb : b < WL) : CMulW (a : Nat) (b : Nat) := cm_of (Nat.lt_of_lt_of_le ha (WM_le (by decide))) (Nat.lt_of_lt_of_le hb (WL_le (by decide)))
theorem cdiv_L {i : Int} {b : Nat} (h : 0 < b) (hb : b < WL) : CDivW i (b : Nat) := wide_div (b := 4000) (by omega) (by rw [Int.natAbs_natCast]; exact hb) (by decide) (by decide)
theorem mul_lt_9 {a b : Nat} (ha : a < WL) (hb : b < WL) : a * b < 2 ^ 9000 := by
  refine Nat.lt_of_lt_of_le (Nat.mul_lt_mul'' ha hb) ?_
  show (2 : Nat) ^ 4000 * 2 ^ 4000 ≤ 2 ^ 9000
  rw [← Nat.pow_add]; exact Nat.pow_le_pow_right (by decide) (by decide)
section
variable {A : Type}
/-- widths and times are not too great -/
def bds : Us A → Prop
  | [] => True
  | (u, t) :: us => u.w < WL ∧ t < WM ∧ (u.isE = true → t ≤ 1) ∧ bds us
theorem bds_append : ∀ {us vs : Us A}, bds us → bds vs → bds (us ++ vs)
  | [], _, _, h => h
  | (_, _) :: _, _, h, h' => ⟨h.1, h.2.1, h.2.2.1, bds_append h.2.2.2 h'⟩
theorem bds_ones : ∀ row : List A, bds (row.map fun x => ((.e x, 1) : Un A × Nat))
  | [] => trivial
  | _ :: row => ⟨one_WL, Nat.lt_of_lt_of_le one_WL WLM, fun _ => Nat.le_refl _, bds_ones row⟩
theorem bds_cont : ∀ {p : Pt A}, p.nz → p.den.length < WL → bds (cont p)
  | .leaf row, _, _ => bds_ones row
  | .cat l r, _, h => by
    have e : (Pt.cat l r).den.length = l.den.length + r.den.length := List.length_append
    exact ⟨by show l.den.length < WL; omega, Nat.lt_of_lt_of_le one_WL WLM, fun z => (nomatch z), by show r.den.length < WL; omega, Nat.lt_of_lt_of_le one_WL WLM, fun z => (nomatch z), trivial⟩
  | .rep p n, hn, h => by
    have e : (Pt.rep p n).den.length = n * p.den.length := len_rpt _ _
    have h1 : p.den.length ≤ n * p.den.length := Nat.le_mul_of_pos_left _ hn.2
    have h2 : n ≤ n * p.den.length := Nat.le_mul_of_pos_right _ (Pt.nz_pos hn.1)
    exact ⟨by show p.den.length < WL; omega, Nat.lt_of_lt_of_le (by omega) WLM, fun z => (nomatch z), trivial⟩
  | .turn q b s, hn, h => bds_cont (p := q) hn.1 h
end
section
variable {P : Program} {w : World} {K : PySem.W.Frag} {mg : Str → Option Value} {base : Heap} {f C : Addr} {fd : FuncData} {H : Hp}
theorem mk_repI {x tf : V} {a : Addr} {l : Pt En} {n : Nat} {i : Int} {R : Addr → Hp → Prop} {E : XK} (hi : i = (n : Nat)) (hr : RowAt H x []) (hl : PAt C H (.ref a) l) (hc : CMulW (l.den.length : Nat) (n : Nat)) (k : ∀ a H', Same H H' → PX C H' (.ref a) (.raw tf) (.rep l n) → R a H') :
    ∀ p dx, H p = none → H dx = none → dx ≠ p → spPartInit C K (.ref p :: [x, .ref a, .non, .int i, tf]) (upd (upd H dx (.own p)) p (.ins C dx [])) (fun v H2 => v = .non ∧ R p H2) E := by
  subst hi
  exact mk_rep hr hl hc k
theorem rep_len {l : Pt En} {n : Nat} (h : (Pt.rep l n).nz) : l.den.length ≤ (Pt.rep l n).den.length ∧ n ≤ (Pt.rep l n).den.length := by
  have e : (Pt.rep l n).den.length = n * l.den.length := len_rpt _ _
  rw [e]
  exact ⟨Nat.le_mul_of_pos_left _ h.2, Nat.le_mul_of_pos_right _ (Pt.nz_pos h.1)⟩
def spRepeated (C : Addr) : Sp := fun vs H Q _ => ∃ va p n, vs = [va, .int (n : Nat)] ∧ PAt C H va p ∧ p.ok ∧ p.den.length < WL ∧ n < WL ∧
  ∀ v H' r, Same H H' → PAt C H' v r → r.ok → r.den = rpt n p.den → r.rk ≤ p.rk + 1 → (n ≤ 1 → r.rk ≤ p.rk) → Q v H'
theorem sc_Repeated : FnScope ["part", "times"] ["part", "times"] (defScope sRepeated) := ⟨rfl, rfl, rfl, by decide +kernel, rfl, by decide +kernel, by decide +kernel⟩
theorem ok_Repeated (D : DefF K mg "repeated" sRepeated ["part", "times"] f fd) (B : Blt mg) (T : PCl K C) {fI : Addr} {fdI : FuncData} {ds : List Value} (M : PMk K mg C fI fdI ds)
    (GI : FnOk P w K mg base CX0 1 fI fdI ["self", "row", "left", "right", "times", "turned_from"] (spPartInit C K)) : FnOk P w K mg base CX0 3 f fd ["part", "times"] (spRepeated C) := by
  refine D.fn.ok sc_Repeated (fun vs H Q E h => ?_) (fun cdv A outer s H vs Q E hr h => ?_)
  · obtain ⟨va, p, n, rfl, _⟩ := h; rfl
  · obtain ⟨va, p, n, rfl, hp, op, lp, ln, k⟩ := h
    refine ⟨_, pss_cons (ps_if (PW.pt (pw_or (pt_cmpR op_eq (pv 1) pe_int (nomark _)) (pw_or1 (pt_cmpR op_eq (pe_fld (pv 0) rfl) pe_int (nomark _)))))
        (pss_one (ps_ret (pe_make M.mkr GI hr rfl M.gl M.b4 M.d4 pass0 (pa_cons (pe_tup pa_nil) (pa_cons pe_non (pa_cons pe_non (pa_cons pe_int pa_nil))))))) pss_nil)
      (pss_cons (ps_if (PW.pt (pw_and (pt_cmp (pc_notN (pe_fld (pv 0) rfl)) rfl) (pw_and1 (pt_cmp (pc_isN (pe_fld (pv 0) rfl)) rfl))))
        (pss_one (ps_ret (pe_make M.mkr GI hr rfl M.gl M.b4 M.d4 pass0 (pa_cons (pe_tup pa_nil) (pa_cons (pe_fld (pv 0) rfl) (pa_cons pe_non (pa_cons (pe_op op_mulW (pe_fld (pv 0) rfl) (pv 1)) pa_nil))))))) pss_nil)
      (pss_one (ps_ret (pe_ifExp (pt_cmpR op_eq (pv 1) pe_int (nomark _)) (pv 0) (pe_make M.mkr GI hr rfl M.gl M.b4 M.d4 pass0 (pa_cons (pe_tup pa_nil) (pa_cons (pv 0) (pa_cons pe_non (pa_cons (pv 1) pa_nil))))))))), ?_⟩
    obtain ⟨a, da, xa, la, ra, ta, tfa, rfl, ha, va⟩ := PX.view hp
    refine ⟨_, rfl, rfl, _, rfl, ?_⟩
    have emp : n = 0 ∨ p.den.length = 0 → tRet (tMake C (spPartInit C K) [.non] E0 (tCons (tTup tNil) (tCons (tC .non) (tCons (tC .non) (tCons (tC (.int 1)) tNil))))) ⟨fun _ H' => Q .non H', Q, fun _ _ => False, fun _ _ => False⟩ (L2.start ["part", "times"] [.ref a, .int (n : Nat)]) H := fun z => by
      refine ⟨Nat.zero_le _, fun t ht => mk_leaf (row_nil upd_same) fun c H' s1 h1 => ?_⟩
      refine k _ H' (.leaf []) ((Same.new ht).trans s1) (.plain h1) (.inl rfl) ?_ (Nat.zero_le _) (fun _ => Nat.zero_le _)
      rcases z with z | z
      · rw [z]; rfl
      · rw [List.length_eq_zero_iff.mp z, rpt_nil]; rfl
    rw [dec_int0]
    by_cases zn : n = 0
    · rw [decide_eq_true zn]
      exact iteT (iteT (emp (.inl zn)))
    · rw [decide_eq_false zn]
      refine iteF ⟨_, rfl, a, C, da, _, _, rfl, ha, T.cl, T.nWide, pf_wide, rfl, _, rfl, ?_⟩
      rw [dec_int0]
      by_cases zp : p.den.length = 0
      · rw [decide_eq_true zp]
        exact iteT (emp (.inr zp))
      · rw [decide_eq_false zp]
        refine iteF ?_
        have np : p.nz := core_ok op fun e => zp (by rw [e]; rfl)
        have ncp := core_nz np
        have fb : (tRet (tIf (tTest (tOp rEq (tVar 1) (tC (.int 1)))) (tVar 0) (tMake C (spPartInit C K) [.non] E0 (tCons (tTup tNil) (tCons (tVar 0) (tCons (tC .non) (tCons (tVar 1) tNil)))))) ⟨fun _ H' => Q .non H', Q, fun _ _ => False, fun _ _ => False⟩ (L2.start ["part", "times"] [.ref a, .int (n : Nat)]) H) := by
          refine ⟨_, rfl, rfl, _, rfl, ?_⟩
          by_cases z1 : n = 1
          · subst z1
            exact iteT ⟨_, rfl, k _ H p (Same.refl H) hp op (rpt_one _).symm (by omega) (fun _ => Nat.le_refl _)⟩
          · rw [decide_eq_false (show ¬ (V.int (n : Nat) = V.int 1) from fun e => by have := V.int.inj e; omega)]
            refine iteF ⟨Nat.zero_le _, fun t ht => ⟨_, rfl, _, rfl, ?_⟩⟩
            refine mk_rep (row_nil upd_same) (hp.mono (Same.new ht)) (cm_LM lp (Nat.lt_of_lt_of_le ln WLM)) fun c H' s1 h1 => ?_
            exact k _ H' (.rep p n) ((Same.new ht).trans s1) (.plain h1) (.inr ⟨np, by omega⟩) rfl (Nat.le_refl _) (fun h => absurd h (by omega))
        refine ⟨_, rfl, a, C, da, _, _, rfl, ha, T.cl, T.nLeft, pf_left, _, rfl, ?_⟩
        cases va with
        | leaf ec hx => exact iteF fb
        | cat ec hx h1 h2 =>
          refine iteT ⟨_, rfl, a, C, da, _, _, rfl, ha, T.cl, T.nRight, pf_right, _, rfl, ?_⟩
          exact fb
        | @rep al l m ec hx h1 =>
          refine iteT ⟨_, rfl, a, C, da, _, _, rfl, ha, T.cl, T.nRight, pf_right, _, rfl, ?_⟩
          refine iteT ⟨Nat.zero_le _, fun t ht => ?_⟩
          have s0 : Same H (upd H t (.tup [])) := Same.new ht
          rw [ec] at ncp
          have lenp : p.den.length = (Pt.rep l m).den.length := by rw [← ec, core_den]
          have rl := rep_len ncp
          have lm : m < WL := by omega
          have ll : l.den.length < WL := by omega
          refine ⟨_, rfl, a, C, da, _, _, rfl, s0 _ _ ha, T.cl, T.nLeft, pf_left, _, rfl, a, C, da, _, _, rfl, s0 _ _ ha, T.cl, T.nTimes, pf_times, _, rfl, _, _, rfl, rfl, ?_, ?_⟩
          · exact cm_LM lm (Nat.lt_of_lt_of_le ln WLM)
          · refine mk_repI (n := m * n) (Int.natCast_mul m n).symm (row_nil upd_same) (h1.mono s0) (cm_of (Nat.lt_of_lt_of_le ll (WL_le (by decide))) (mul_lt_9 lm ln)) fun c H' s1 h2 => ?_
            refine k _ H' (.rep l (m * n)) (s0.trans s1) (.plain h2) (.inr ⟨ncp.1, Nat.mul_pos ncp.2 (by omega)⟩) ?_ ?_ ?_
            · show rpt (m * n) l.den = _
              rw [rpt_mul, ← core_den p, ec]; rfl
            · have := core_rk p; rw [ec] at this
              show l.rk + 1 ≤ _
              have e : (Pt.rep l m).rk = l.rk + 1 := rfl
              omega
            · intro _
              have := core_rk p; rw [ec] at this
              exact this
end
end Wd
set_option Elab.async false
set_option linter.all false
set_option maxRecDepth 100000
set_option maxHeartbeats 4000000
namespace Wd
open PySem L2
theorem Paired.rev {A B : Type} {F : A → B → Prop} : ∀ {l : List A} {r : List B}, Paired F l r → Paired F l.reverse r.reverse
  | _, _, .nil => .nil
  | _, _, .cons a b => by
    rw [List.reverse_cons, List.reverse_cons]
    exact Paired.app (Paired.rev b) (.cons a .nil)
theorem Paired.at_ {A B : Type} {F : A → B → Prop} : ∀ {l : List A} {r : List B} {i : Nat} {x : A}, Paired F l r → l[i]? = some x → ∃ y, r[i]? = some y ∧ F x y
  | _, _, _, _, .nil, h => by simp at h
  | _, _, 0, _, .cons a b, h => by
    have := Option.some.inj h
    subst this
    exact ⟨_, rfl, a⟩
  | _, _, i + 1, _, .cons a b, h => Paired.at_ (i := i) b h
theorem three_line : 3 ≤ sizeLine := by rw [sizeLine_eq]; decide
section
variable {P : Program} {w : World} {K : PySem.W.Frag} {mg : Str → Option Value} {base : Heap} {f C : Addr} {fd : FuncData} {H : Hp}
def spOpened (C : Addr) : Sp := fun vs H Q _ => ∃ va vr p us, vs = [va, vr] ∧ PAt C H va p ∧ UsAt C H vr us ∧ ∀ v H', Same H H' → UsAt C H' v (cont p ++ us) → Q v H'
theorem sc_Opened : FnScope ["part", "rest", "entry"] ["part", "rest"] (defScope sOpened) := ⟨rfl, rfl, rfl, by decide +kernel, rfl, by decide +kernel, by decide +kernel⟩
theorem ok_Opened (D : DefF K mg "opened" sOpened ["part", "rest"] f fd) (T : PCl K C) : FnOk P w K mg base CX0 1 f fd ["part", "rest"] (spOpened C) := by
  refine D.fn.ok sc_Opened (fun vs H Q E h => ?_) (fun cdv A outer s H vs Q E hr h => ?_)
  · obtain ⟨va, vr, p, us, rfl, _⟩ := h; rfl
  · obtain ⟨va, vr, p, us, rfl, hp, hu, k⟩ := h
    refine ⟨_, pss_cons (ps_if (pt_cmp (pc_notN (pe_fld (pv 0) rfl)) rfl) (pss_one (ps_ret (pe_tup (pa_cons (pe_fld (pv 0) rfl) (pa_cons pe_int (pa_cons (pe_tup (pa_cons (pe_fld (pv 0) rfl) (pa_cons pe_int (pa_cons (pv 1) pa_nil)))) pa_nil)))))) pss_nil)
      (pss_cons (ps_if (pt_cmp (pc_notN (pe_fld (pv 0) rfl)) rfl) (pss_one (ps_ret (pe_tup (pa_cons (pe_fld (pv 0) rfl) (pa_cons (pe_fld (pv 0) rfl) (pa_cons (pv 1) pa_nil)))))) pss_nil)
      (pss_cons (ps_for PassesOwn.never rfl (pi_tup (pe_back (pe_fld (pv 0) rfl))) (pg_name (i := 2) sc_Opened.nd rfl (.inl rfl))
        (pss_one (ps_set (i := 1) sc_Opened.nd rfl (.inl rfl) (pe_tup (pa_cons (pv 2) (pa_cons pe_int (pa_cons (pv 1) pa_nil)))))))
      (pss_one (ps_ret (pv 1))))), ?_⟩
    obtain ⟨a, da, xa, la, ra, ta, tfa, rfl, ha, va⟩ := PX.view hp
    have cc := core_cont p
    refine ⟨_, rfl, a, C, da, _, _, rfl, ha, T.cl, T.nRight, pf_right, _, rfl, ?_⟩
    cases va with
    | @cat al ar l r ec hx h1 h2 =>
      refine iteT ⟨_, rfl, a, C, da, _, _, rfl, ha, T.cl, T.nLeft, pf_left, _, rfl, a, C, da, _, _, rfl, ha, T.cl, T.nRight, pf_right, _, rfl, three_line, fun t ht => ⟨three_line, fun t2 ht2 => ?_⟩⟩
      have s1 : Same H (upd H t (.tup [.ref ar, .int 1, vr])) := Same.new ht
      have s2 : Same (upd H t (.tup [.ref ar, .int 1, vr])) (upd (upd H t (.tup [.ref ar, .int 1, vr])) t2 (.tup [.ref al, .int 1, .ref t])) := Same.new ht2
      refine k _ _ (s1.trans s2) ?_
      rw [← cc, ec]
      exact .cons (t := 1) (u := .p l) upd_same (h1.mono (s1.trans s2)) (.cons (t := 1) (u := .p r) (s2 _ _ upd_same) (h2.mono (s1.trans s2)) (hu.mono (s1.trans s2)))
    | @rep al l n ec hx h1 =>
      refine iteF ⟨_, rfl, a, C, da, _, _, rfl, ha, T.cl, T.nLeft, pf_left, _, rfl, iteT ?_⟩
      refine ⟨_, rfl, a, C, da, _, _, rfl, ha, T.cl, T.nLeft, pf_left, _, rfl, a, C, da, _, _, rfl, ha, T.cl, T.nTimes, pf_times, _, rfl, three_line, fun t ht => ?_⟩
      have s1 : Same H (upd H t (.tup [.ref al, .int (n : Nat), vr])) := Same.new ht
      refine k _ _ s1 ?_
      rw [← cc, ec]
      exact .cons (t := n) (u := .p l) upd_same (h1.mono s1) (hu.mono s1)
    | @leaf row ec hx =>
      refine iteF ⟨_, rfl, a, C, da, _, _, rfl, ha, T.cl, T.nLeft, pf_left, _, rfl, iteF ?_⟩
      obtain ⟨ax, xs, rfl, hax, px⟩ := id hx
      refine ⟨_, rfl, a, C, da, _, _, rfl, ha, T.cl, T.nLetters, pf_letters, ax, xs, rfl, SqT.of hax, fun b hb => ?_⟩
      have s0 : Same H (upd H b (.tup xs.reverse)) := Same.new hb
      have pr := Paired.rev px
      refine ⟨b, rfl, ⟨_, SqT.of upd_same⟩, for_tup (K := K) (xs := xs.reverse) (fun i σ H' => ∃ (r v : Option V) (vr' : V), σ = [some (.ref a), some vr', v] ∧ Same (upd H b (.tup xs.reverse)) H' ∧ UsAt C H' vr' (((row.reverse.take i).reverse.map fun x => ((.e x, 1) : Un En × Nat)) ++ us))
        ⟨none, none, vr, rfl, Same.refl _, hu.mono s0⟩ (fun i σ H' _ ⟨_, _, _, _, s, _⟩ => SqT.of (s _ _ upd_same)) ?_ ?_⟩
      · rintro i x σ H' hi ⟨_, v, vr', rfl, s, hr'⟩
        obtain ⟨e, he, ex⟩ := Paired.at_ pr hi
        refine ⟨_, rfl, _, rfl, three_line, fun t ht => ?_⟩
        have s1 : Same H' (upd H' t (.tup [x, .int 1, vr'])) := Same.new ht
        refine ⟨none, _, .ref t, rfl, s.trans s1, ?_⟩
        have hl : i < row.reverse.length := (List.getElem?_eq_some_iff.mp he).1
        have e1 : row.reverse.take (i + 1) = row.reverse.take i ++ [e] := by
          rw [List.take_succ_eq_append_getElem hl]
          congr 1
          have := (List.getElem?_eq_some_iff.mp he).2
          rw [this]
        rw [e1, List.reverse_append]
        exact .cons (t := 1) (u := .e e) upd_same ((ex.mono (s0.trans s)).mono s1) (hr'.mono s1)
      · rintro σ H' ⟨_, v, vr', rfl, s, hr'⟩
        refine ⟨_, rfl, k _ H' (s0.trans s) ?_⟩
        have l1 : xs.reverse.length = row.reverse.length := Paired.len pr
        rw [l1, List.take_of_length_le (Nat.le_refl _), List.reverse_reverse] at hr'
        rw [← cc, ec]
        exact hr'
end
end Wd
set_option Elab.async false
set_option linter.all false
set_option maxRecDepth 100000
set_option maxHeartbeats 4000000
namespace Wd
open PySem L2
/-- good rows: nothing empty, nothing too great -/
def Gd (us : Us En) : Prop := nzs us ∧ bds us
theorem Gd.tail {u : Un En} {t : Nat} {us : Us En} (h : Gd ((u, t) :: us)) : Gd us := ⟨h.1.2, h.2.2.2.2⟩
theorem Gd.cont {p : Pt En} {t : Nat} {us : Us En} (h : Gd ((.p p, t) :: us)) {vs : Us En} (hv : Gd vs) : Gd (Wd.cont p ++ vs) :=
  ⟨nzs_append (nzs_cont h.1.1) hv.1, bds_append (bds_cont h.1.1 h.2.1) hv.2⟩
theorem Gd.less {u : Un En} {t j : Nat} {us : Us En} (h : Gd ((u, t) :: us)) : Gd ((u, t - j) :: us) := ⟨h.1, h.2.1, by have := h.2.2.1; omega, fun z => by have := h.2.2.2.1 z; omega, h.2.2.2.2⟩
/-- a row as first_unit leaves it -/
def Hd (us : Us En) : Prop := us = [] ∨ ∃ u t r, us = (u, t) :: r ∧ 1 ≤ t ∧ (u.isE = true ∨ 2 ≤ t)
/-- the same entries, seen no deeper -/
def Keeps (us vs : Us En) : Prop := den vs = den us ∧ (∀ e r m, Vis e r us m → Vis e r vs m) ∧ (Gd us → Gd vs)
theorem Keeps.refl (us : Us En) : Keeps us us := ⟨rfl, fun _ _ _ h => h, fun h => h⟩
theorem Keeps.trans {a b c : Us En} (h : Keeps a b) (g : Keeps b c) : Keeps a c := ⟨g.1.trans h.1, fun e r m z => g.2.1 e r m (h.2.1 e r m z), fun z => g.2.2 (h.2.2 z)⟩
theorem Keeps.zero {u : Un En} {us : Us En} : Keeps ((u, 0) :: us) us := ⟨by rw [den_cons, rpt_zero]; rfl, fun e r m h => by have := h.2; rwa [Nat.zero_mul] at this, Gd.tail⟩
theorem Keeps.open1 {p : Pt En} {us : Us En} : Keeps ((.p p, 1) :: us) (cont p ++ us) := ⟨den_open1, fun e r m h => h.open1, fun h => h.cont h.tail⟩
theorem msr_open1 (p : Pt En) (us : Us En) : msr (cont p ++ us) < msr ((.p p, 1) :: us) := by
  rw [msr_append]
  have := msr_cont p
  show _ < 1 + p.sz + msr us
  omega
/-- the size of what comes first -/
def hz : Us En → Nat
  | [] => 0
  | (u, t) :: us => if t = 0 then hz us else u.sz
def mx (S : Nat) (us : Us En) : Prop := ∀ x ∈ us, x.1.sz ≤ S
theorem mx_cont : ∀ (p : Pt En) (S : Nat), p.sz ≤ S → mx S (cont p)
  | .leaf row, S, h => fun x hx => by
    obtain ⟨e, _, rfl⟩ := List.mem_map.mp hx
    exact Nat.zero_le _
  | .cat l r, S, h => fun x hx => by
    have e : (Pt.cat l r).sz = l.sz + r.sz + 2 := rfl
    rcases List.mem_cons.mp hx with rfl | hx
    · show l.sz ≤ S; omega
    · rcases List.mem_cons.mp hx with rfl | hx
      · show r.sz ≤ S; omega
      · cases hx
  | .rep p n, S, h => fun x hx => by
    have e : (Pt.rep p n).sz = p.sz + 1 := rfl
    rcases List.mem_cons.mp hx with rfl | hx
    · show p.sz ≤ S; omega
    · cases hx
  | .turn q b s, S, h => mx_cont q S h
theorem hz_cont : ∀ (p : Pt En) (us : Us En), p.nz → hz (cont p ++ us) < p.sz
  | .leaf row, us, h => by
    cases row with
    | nil => exact absurd rfl h
    | cons x row => show 0 < row.length + 1 + 1; omega
  | .cat l r, us, h => by show l.sz < l.sz + r.sz + 2; omega
  | .rep p n, us, h => by
    show (if n = 0 then hz us else p.sz) < p.sz + 1
    rw [if_neg (by have := h.2; omega)]; omega
  | .turn q b s, us, h => hz_cont q us h.1
/-- no greater in its units, and in what comes first -/
def Thin (us vs : Us En) : Prop := (∀ S, mx S us → mx S vs) ∧ hz vs ≤ hz us
theorem Thin.refl (us : Us En) : Thin us us := ⟨fun _ h => h, Nat.le_refl _⟩
theorem Thin.trans {a b c : Us En} (h : Thin a b) (g : Thin b c) : Thin a c := ⟨fun S z => g.1 S (h.1 S z), Nat.le_trans g.2 h.2⟩
theorem Thin.zero {u : Un En} {us : Us En} : Thin ((u, 0) :: us) us := ⟨fun S h x hx => h x (List.mem_cons_of_mem _ hx), Nat.le_refl _⟩
theorem Thin.open1 {p : Pt En} {us : Us En} (h : p.nz) : Thin ((.p p, 1) :: us) (cont p ++ us) :=
  ⟨fun S z x hx => by
    rcases List.mem_append.mp hx with hx | hx
    · exact mx_cont p S (z _ (List.mem_cons_self ..)) x hx
    · exact z x (List.mem_cons_of_mem _ hx), Nat.le_of_lt (hz_cont p us h)⟩
section
variable {P : Program} {w : World} {K : PySem.W.Frag} {mg : Str → Option Value} {base : Heap} {f C : Addr} {fd : FuncData} {H : Hp}
theorem UsAt.ne {v : V} {us : Us En} (h : UsAt C H v us) : decide (v = V.non) = decide (us = []) := by
  cases h with
  | nil => rfl
  | cons h1 h2 h3 => rfl
def spFirstUnit (C : Addr) : Sp := fun vs H Q _ => ∃ v us, vs = [v] ∧ UsAt C H v us ∧ ∀ v' H' us', Same H H' → UsAt C H' v' us' → Keeps us us' → Hd us' → (Gd us → Thin us us') → Q v' H'
theorem sc_FirstUnit : FnScope ["units", "unit", "times", "rest"] ["units"] (defScope sFirstUnit) := ⟨rfl, rfl, rfl, by decide +kernel, rfl, by decide +kernel, by decide +kernel⟩
theorem ok_FirstUnit (D : DefF K mg "first_unit" sFirstUnit ["units"] f fd) (B : Blt mg) (T : PCl K C) {fO : Addr} {fdO : FuncData} (DO : DefF K mg "opened" sOpened ["part", "rest"] fO fdO)
    (GO : FnOk P w K mg base CX0 1 fO fdO ["part", "rest"] (spOpened C)) : FnOk P w K mg base CX0 2 f fd ["units"] (spFirstUnit C) := by
  refine D.fn.ok sc_FirstUnit (fun vs H Q E h => ?_) (fun cdv A outer s H vs Q E hr h => ?_)
  · obtain ⟨v, us, rfl, _⟩ := h; rfl
  · obtain ⟨v, us, rfl, hu, k⟩ := h
    have nd := sc_FirstUnit.nd
    refine ⟨_, pss_cons (ps_while PassesOwn.never (pt_cmp (pc_notN (pv 0)) rfl)
        (pss_cons (ps_asg (pv 0) (pg_tup rfl (pgs_cons (pg_name (i := 1) nd rfl (.inl rfl)) (pgs_cons (pg_name (i := 2) nd rfl (.inl rfl)) (pgs_cons (pg_name (i := 3) nd rfl (.inl rfl)) pgs_nil)))))
        (pss_one (ps_if (pt_cmpR op_eq (pv 2) pe_int (nomark _)) (pss_one (ps_set (i := 0) nd rfl (.inl rfl) (pv 3)))
          (pss_one (ps_if (PW.pt (pw_or (pt_cmpR op_gt (pv 2) pe_int (nomark _)) (pw_or1 (pt_val (pe_callB call_isi (by rfl) B.isi PyProof.Rows.boot_isinstance (pa_cons (pv 1) (pa_cons (pe_bltn (v := .ty "tuple") (by rfl) B.tuple PyProof.Rows.boot_tuple rfl) pa_nil)))))))
            (pss_one (ps_ret (pv 0))) (pss_one (ps_set (i := 0) nd rfl (.inl rfl) (pe_call GO hr rfl DO.gl DO.fn.kp DO.bd .nil pass0 (pa_cons (pv 1) (pa_cons (pv 3) pa_nil)))))))))))
      (pss_one (ps_ret pe_non)), ?_⟩
    refine ⟨fun m σ H' => ∃ (v' : V) (us' : Us En) (o1 o2 o3 : Option V), σ = [some v', o1, o2, o3] ∧ Same H H' ∧ UsAt C H' v' us' ∧ Keeps us us' ∧ (Gd us → Thin us us') ∧ m = msr us', ⟨_, v, us, none, none, none, rfl, Same.refl H, hu, Keeps.refl us, fun _ => Thin.refl us, rfl⟩, ?_⟩
    rintro m σ H' ⟨v', us', o1, o2, o3, rfl, s1, hu', kp, th, rfl⟩
    refine ⟨_, rfl, _, rfl, ?_⟩
    cases hu' with
    | nil => exact iteF (k _ H' [] s1 .nil kp (.inl rfl) th)
    | @cons a vu vr u t us2 h1 h2 h3 =>
      refine iteT ⟨_, fun _ _ z => z, ?_⟩
      refine ⟨_, rfl, a, _, rfl, SqT.of h1, rfl, _, _, rfl, _, _, rfl, _, _, rfl, rfl, ?_⟩
      refine ⟨_, rfl, rfl, _, rfl, ?_⟩
      rw [dec_int0]
      by_cases z : t = 0
      · subst z
        refine iteT ⟨_, rfl, msr us2, ?_, vr, us2, _, _, _, rfl, s1, h3, kp.trans Keeps.zero, fun g => (th g).trans Thin.zero, rfl⟩
        show msr us2 < 1 + u.sz + msr us2
        omega
      · rw [decide_eq_false z]
        refine iteF ⟨_, rfl, _, _, rfl, rfl, _, rfl, ?_⟩
        have hk : Keeps us ((u, t) :: us2) := kp
        refine ite2 (fun h => ?_) (fun h => ?_)
        · have h' : 2 ≤ t := by have := of_decide_eq_true h; omega
          refine iteT ⟨_, rfl, k _ H' _ s1 (.cons h1 h2 h3) hk (.inr ⟨u, t, us2, rfl, by omega, .inr h'⟩) th⟩
        · have t1 : t = 1 := by
            have : ¬ ((1 : Int) < (t : Nat)) := fun q => h (decide_eq_true q)
            omega
          subst t1
          obtain ⟨ty, hty, kit⟩ := h2.ty T
          refine ⟨_, rfl, _, _, _, _, _, rfl, ClsV.ty _, hty, kit, _, rfl, ?_⟩
          cases u with
          | e x => exact iteT ⟨_, rfl, k _ H' _ s1 (.cons h1 h2 h3) hk (.inr ⟨_, _, _, rfl, Nat.le_refl _, .inl rfl⟩) th⟩
          | p q =>
            refine iteF ⟨_, rfl, _, rfl, _, _, q, us2, rfl, h2, h3, fun v2 H2 s2 hv2 => ?_⟩
            exact ⟨_, msr_open1 q us2, v2, _, _, _, _, rfl, s1.trans s2, hv2, kp.trans Keeps.open1, fun g => (th g).trans (Thin.open1 (hk.2.2 g).1.1), rfl⟩
end
end Wd
set_option Elab.async false
set_option linter.all false
set_option maxRecDepth 100000
set_option maxHeartbeats 4000000
set_option exponentiation.threshold 100000
namespace Wd
open PySem L2
/-- many entries of a row are gone -/
def Gone (us : Us En) (many : Nat) (vs : Us En) : Prop := den vs = (den us).drop many ∧ (∀ e r m, Vis e r us (m + many) → Vis e r vs m) ∧ (Gd us → Gd vs)
theorem Gone.of {us vs : Us En} (h : Keeps us vs) : Gone us 0 vs := ⟨by rw [h.1, List.drop_zero], fun e r m z => h.2.1 e r m (by rwa [Nat.add_zero] at z), h.2.2⟩
theorem Gone.trans {us vs ws : Us En} {a b : Nat} (h : Gone us a vs) (g : Gone vs b ws) : Gone us (a + b) ws :=
  ⟨by rw [g.1, h.1, List.drop_drop], fun e r m z => g.2.1 e r m (h.2.1 e r (m + b) (by rwa [show m + b + a = m + (a + b) by omega])), fun z => g.2.2 (h.2.2 z)⟩
theorem Gone.tail {u : Un En} {t : Nat} {us : Us En} : Gone ((u, t) :: us) (t * u.w) us := ⟨den_tail, fun e r m h => by have := h.2; rwa [Nat.add_sub_cancel] at this, Gd.tail⟩
theorem Gone.less {u : Un En} {t j : Nat} {us : Us En} (h : j ≤ t) : Gone ((u, t) :: us) (j * u.w) ((u, t - j) :: us) :=
  ⟨den_less h, fun e r m z => by have := z.less h; rwa [Nat.add_sub_cancel] at this, Gd.less⟩
theorem Keeps.opens {p : Pt En} {t : Nat} {us : Us En} (h : 1 ≤ t) : Keeps ((.p p, t) :: us) (cont p ++ (.p p, t - 1) :: us) :=
  ⟨den_opens h, fun e r m z => z.opens h, fun z => z.cont z.less⟩
theorem Gone.keeps {us vs ws : Us En} {a : Nat} (h : Gone us a vs) (g : Keeps vs ws) : Gone us a ws := by
  have := h.trans (Gone.of g)
  rwa [Nat.add_zero] at this
theorem Keeps.gone {us vs ws : Us En} {a : Nat} (h : Keeps us vs) (g : Gone vs a ws) : Gone us a ws := by
  have := (Gone.of h).trans g
  rwa [Nat.zero_add] at this
theorem Gone.len {us vs : Us En} {a : Nat} (h : Gone us a vs) : (den vs).length = (den us).length - a := by rw [h.1, List.length_drop]
theorem cell3 {H : Hp} {a : Addr} {v r : V} {i : Int} {n : Nat} (h : i = (n : Nat)) : (upd H a (.tup [v, .int i, r])) a = some (.tup [v, .int (n : Nat), r]) := by subst h; exact upd_same
theorem div_lt {r w t : Nat} (hw : 0 < w) (h : r < t * w) : r / w < t := (Nat.div_lt_iff_lt_mul hw).mpr h
theorem div_mul {r w : Nat} : r / w * w + r % w = r := by rw [Nat.mul_comm]; exact Nat.div_add_mod r w
section
variable {P : Program} {w : World} {K : PySem.W.Frag} {mg : Str → Option Value} {base : Heap} {f C : Addr} {fd : FuncData} {H : Hp}
def spBehind (C : Addr) : Sp := fun vs H Q _ => ∃ v us many, vs = [v, .int (many : Nat)] ∧ UsAt C H v us ∧ (0 < many → Gd us) ∧ many ≤ (den us).length ∧ ∀ v' H' us', Same H H' → UsAt C H' v' us' → Gone us many us' → Q v' H'
theorem sc_Behind : FnScope ["units", "many", "unit", "times", "rest", "whole"] ["units", "many"] (defScope sBehind) := ⟨rfl, rfl, rfl, by decide +kernel, rfl, by decide +kernel, by decide +kernel⟩
theorem ok_Behind (D : DefF K mg "behind" sBehind ["units", "many"] f fd) {fO fW : Addr} {fdO fdW : FuncData} (DOpened : DefF K mg "opened" sOpened ["part", "rest"] fO fdO)
    (GOpened : FnOk P w K mg base CX0 1 fO fdO ["part", "rest"] (spOpened C)) (DWidth : DefF K mg "width" sWidth ["unit"] fW fdW) (GWidth : FnOk P w K mg base CX0 1 fW fdW ["unit"] (spWidth C)) : FnOk P w K mg base CX0 2 f fd ["units", "many"] (spBehind C) := by
  refine D.fn.ok sc_Behind (fun vs H Q E h => ?_) (fun cdv A outer s H vs Q E hr h => ?_)
  · obtain ⟨v, us, many, rfl, _⟩ := h; rfl
  · obtain ⟨v, us, many, rfl, hu, gd, hm, k⟩ := h
    have nd := sc_Behind.nd
    refine ⟨_, (pss_cons (ps_while PassesOwn.never (pt_cmpR op_gt (pv 1) pe_int (nomark _)) (pss_cons (ps_asg (pv 0) (pg_tup rfl (pgs_cons (pg_name (i := 2) sc_Behind.nd rfl (.inl rfl)) (pgs_cons (pg_name (i := 3) sc_Behind.nd rfl (.inl rfl)) (pgs_cons (pg_name (i := 4) sc_Behind.nd rfl (.inl rfl)) pgs_nil))))) (pss_one (ps_if (pt_cmpR op_le (pe_op op_mulW (pe_call GWidth (hr.mono (by first | decide | omega)) rfl DWidth.gl DWidth.fn.kp DWidth.bd .nil pass0 (pa_cons (pv 2) pa_nil)) (pv 3)) (pv 1) (nomark _)) (pss_cons (ps_set (i := 1) sc_Behind.nd rfl (.inl rfl) (pe_op op_sub (pv 1) (pe_op op_mulW (pe_call GWidth (hr.mono (by first | decide | omega)) rfl DWidth.gl DWidth.fn.kp DWidth.bd .nil pass0 (pa_cons (pv 2) pa_nil)) (pv 3)))) (pss_one (ps_set (i := 0) sc_Behind.nd rfl (.inl rfl) (pv 4)))) (pss_cons (ps_set (i := 5) sc_Behind.nd rfl (.inl rfl) (pe_op op_fdivW (pv 1) (pe_call GWidth (hr.mono (by first | decide | omega)) rfl DWidth.gl DWidth.fn.kp DWidth.bd .nil pass0 (pa_cons (pv 2) pa_nil)))) (pss_cons (ps_set (i := 1) sc_Behind.nd rfl (.inl rfl) (pe_op op_sub (pv 1) (pe_op op_mulW (pv 5) (pe_call GWidth (hr.mono (by first | decide | omega)) rfl DWidth.gl DWidth.fn.kp DWidth.bd .nil pass0 (pa_cons (pv 2) pa_nil))))) (pss_cons (ps_set (i := 0) sc_Behind.nd rfl (.inl rfl) (pe_tup (pa_cons (pv 2) (pa_cons (pe_op op_sub (pv 3) (pv 5)) (pa_cons (pv 4) pa_nil))))) (pss_one (ps_if (pt_cmpR op_gt (pv 1) pe_int (nomark _)) (pss_one (ps_set (i := 0) sc_Behind.nd rfl (.inl rfl) (pe_call GOpened (hr.mono (by first | decide | omega)) rfl DOpened.gl DOpened.fn.kp DOpened.bd .nil pass0 (pa_cons (pv 2) (pa_cons (pe_tup (pa_cons (pv 2) (pa_cons (pe_op op_sub (pe_op op_sub (pv 3) (pv 5)) pe_int) (pa_cons (pv 4) pa_nil)))) pa_nil))))) pss_nil))))))))) (pss_one (ps_ret (pv 0)))), ?_⟩
    refine ⟨fun m σ H' => ∃ (v' : V) (us' : Us En) (i : Int) (rem : Nat) (o2 o3 o4 o5 : Option V), σ = [some v', some (.int i), o2, o3, o4, o5] ∧ i = (rem : Nat) ∧ Same H H' ∧ UsAt C H' v' us' ∧ rem ≤ many ∧ rem ≤ (den us').length ∧ Gone us (many - rem) us' ∧ m = rem + vm us' rem,
      ⟨_, v, us, _, many, none, none, none, none, rfl, rfl, Same.refl H, hu, Nat.le_refl _, hm, by rw [Nat.sub_self]; exact Gone.of (Keeps.refl us), rfl⟩, ?_⟩
    rintro m σ H' ⟨v', us', i, rem, o2, o3, o4, o5, rfl, rfl, s1, hu', hle, hlen, go, rfl⟩
    refine ⟨_, rfl, _, _, rfl, rfl, _, rfl, ?_⟩
    refine ite2 (fun h => ?_) (fun h => ?_)
    · have hpos : 0 < rem := by have := of_decide_eq_true h; omega
      refine ⟨_, fun _ _ z => z, ?_⟩
      cases hu' with
      | nil => exact absurd hlen (by show ¬ rem ≤ 0; omega)
      | @cons a vu vr u t us2 h1 h2 h3 =>
        have g' : Gd ((u, t) :: us2) := go.2.2 (gd (by omega))
        have wpos : 0 < u.w := Un.w_pos g'.1.1
        have wl : u.w < WL := g'.2.1
        have tl : t < WM := g'.2.2.1
        refine ⟨_, rfl, a, _, rfl, SqT.of h1, rfl, _, _, rfl, _, _, rfl, _, _, rfl, rfl, ?_⟩
        refine ⟨_, rfl, _, u, rfl, h2, _, rfl, _, _, rfl, rfl, cm_LM wl tl, _, rfl, _, _, rfl, rfl, _, rfl, ?_⟩
        refine ite2 (fun hc => ?_) (fun hc => ?_)
        · have hc' : t * u.w ≤ rem := by
            have := of_decide_eq_true hc
            rw [← Int.natCast_mul] at this
            have e : u.w * t = t * u.w := Nat.mul_comm _ _
            omega
          refine ⟨_, rfl, _, rfl, _, u, rfl, h2, _, rfl, _, _, rfl, rfl, cm_LM wl tl, _, _, rfl, rfl, ?_⟩
          refine ⟨_, rfl, (rem - t * u.w) + vm us2 (rem - t * u.w), ?_, vr, us2, _, rem - t * u.w, _, _, _, _, rfl, ?_, s1, h3, by omega, ?_, ?_, rfl⟩
          · have := vm_tail (u := u) (t := t) (us := us2) hpos
            omega
          · rw [← Int.natCast_mul, Nat.mul_comm u.w t, Int.ofNat_sub hc']
          · have := len_den_cons u t us2; omega
          · have := go.trans (Gone.tail (u := u) (t := t) (us := us2))
            rwa [show many - rem + t * u.w = many - (rem - t * u.w) by omega] at this
        · have hc' : rem < t * u.w := by
            have q : ¬ (((u.w : Nat) : Int) * ((t : Nat) : Int) ≤ (rem : Nat)) := fun q => hc (decide_eq_true q)
            rw [← Int.natCast_mul] at q
            have e : u.w * t = t * u.w := Nat.mul_comm _ _
            omega
          have hq : rem / u.w < t := div_lt wpos hc'
          have hdm := div_mul (r := rem) (w := u.w)
          have hmod : rem % u.w < u.w := Nat.mod_lt _ wpos
          refine ⟨_, rfl, _, rfl, _, u, rfl, h2, _, _, rfl, rfl, cdiv_L wpos wl, ?_⟩
          have eq1 : ((rem : Nat) : Int) / ((u.w : Nat) : Int) = ((rem / u.w : Nat) : Int) := (Int.natCast_ediv _ _).symm
          refine ⟨_, rfl, _, rfl, _, rfl, _, u, rfl, h2, _, _, rfl, rfl, ?_, _, _, rfl, rfl, ?_⟩
          · rw [eq1]; exact cm_of (Nat.lt_trans hq (Nat.lt_of_lt_of_le tl (WM_le (by decide)))) (Nat.lt_of_lt_of_le wl (WL_le (by decide)))
          have eq2 : ((rem : Nat) : Int) - ((rem : Nat) : Int) / ((u.w : Nat) : Int) * ((u.w : Nat) : Int) = ((rem % u.w : Nat) : Int) := by
            rw [eq1, ← Int.natCast_mul]; omega
          have eq3 : ((t : Nat) : Int) - ((rem : Nat) : Int) / ((u.w : Nat) : Int) = ((t - rem / u.w : Nat) : Int) := by
            rw [eq1]; omega
          refine ⟨_, rfl, _, rfl, _, rfl, _, _, rfl, rfl, _, rfl, three_line, fun tp htp => ?_⟩
          have s2 := Same.new (o := .tup [vu, .int (((t : Nat) : Int) - ((rem : Nat) : Int) / ((u.w : Nat) : Int)), vr]) htp
          have c2 : (upd H' tp (.tup [vu, .int (((t : Nat) : Int) - ((rem : Nat) : Int) / ((u.w : Nat) : Int)), vr])) tp = some (.tup [vu, .int ((t - rem / u.w : Nat) : Int), vr]) := by rw [upd_same, eq3]
          have gl : Gone us (many - rem + rem / u.w * u.w) ((u, t - rem / u.w) :: us2) := go.trans (Gone.less (Nat.le_of_lt hq))
          refine ⟨_, rfl, _, _, rfl, rfl, _, rfl, ?_⟩
          refine ite2 (fun hz => ?_) (fun hz => ?_)
          · have hz' : 0 < rem % u.w := by
              have := of_decide_eq_true hz
              rw [eq2] at this; omega
            cases u with
            | e x =>
              exact absurd hz' (by show ¬ 0 < rem % 1; rw [Nat.mod_one]; omega)
            | p q =>
              refine ⟨_, rfl, _, rfl, _, rfl, _, rfl, _, _, rfl, rfl, _, _, rfl, rfl, _, rfl, three_line, fun tq htq => ?_⟩
              have eq4 : ((t : Nat) : Int) - ((rem : Nat) : Int) / (((Un.p q).w : Nat) : Int) - 1 = ((t - rem / (Un.p q).w - 1 : Nat) : Int) := by rw [eq1]; omega
              have s3 := s2.trans (Same.new (o := .tup [vu, .int (((t : Nat) : Int) - ((rem : Nat) : Int) / (((Un.p q).w : Nat) : Int) - 1), vr]) htq)
              refine ⟨vu, .ref tq, q, (.p q, t - rem / (Un.p q).w - 1) :: us2, rfl, PX.mono s3 h2, .cons (cell3 eq4) (PX.mono s3 h2) (h3.mono s3), fun v2 H2 s4 hv2 => ?_⟩
              have kk : Keeps ((.p q, t - rem / (Un.p q).w) :: us2) (cont q ++ (.p q, t - rem / (Un.p q).w - 1) :: us2) := Keeps.opens (by omega)
              have gf := gl.keeps kk
              refine ⟨rem % (Un.p q).w + vm (cont q ++ (.p q, t - rem / (Un.p q).w - 1) :: us2) (rem % (Un.p q).w), ?_, v2, _, _, rem % (Un.p q).w, _, _, _, _, rfl, eq2, (s1.trans s3).trans s4, hv2, ?_, ?_, ?_, rfl⟩
              · have h1 := vm_opens (p := q) (t := t) (t' := t - rem / (Un.p q).w - 1) (us := us2) hz' (Nat.le_of_lt hmod)
                have h2 := vm_mono ((.p q, t) :: us2) (show rem % (Un.p q).w ≤ rem from Nat.mod_le _ _)
                have h3 := Nat.mod_le rem (Un.p q).w
                omega
              · have := Nat.mod_le rem (Un.p q).w; omega
              · have e1 := gf.len
                have e2 := go.len
                omega
              · rwa [show many - rem + rem / (Un.p q).w * (Un.p q).w = many - rem % (Un.p q).w by omega] at gf
          · have hz' : rem % u.w = 0 := by
              have q : ¬ ((0 : Int) < ((rem % u.w : Nat) : Int)) := fun q => hz (decide_eq_true (by rw [eq2]; exact q))
              omega
            refine ⟨rem % u.w + vm ((u, t - rem / u.w) :: us2) (rem % u.w), ?_, _, _, _, rem % u.w, _, _, _, _, rfl, eq2, s1.trans s2, .cons c2 (h2.mono s2) (h3.mono s2), by omega, by omega, ?_, rfl⟩
            · rw [hz', vm_zero]; omega
            · rwa [show many - rem + rem / u.w * u.w = many - rem % u.w by omega] at gl
    · have hz : rem = 0 := by
        have q : ¬ ((0 : Int) < (rem : Nat)) := fun q => h (decide_eq_true q)
        omega
      subst hz
      exact ⟨_, rfl, k _ H' us' s1 hu' (by rwa [Nat.sub_zero] at go)⟩
end
end Wd
set_option Elab.async false
set_option linter.all false
set_option maxRecDepth 100000
set_option maxHeartbeats 4000000
set_option exponentiation.threshold 100000
namespace Wd
open PySem L2
theorem nat_eq0 {x y : Int} (h : x = y) : decide (V.int x = V.int y) = true := by subst h; exact decide_eq_true rfl
theorem nat_ne0 {x y : Int} (h : x ≠ y) : decide (V.int x = V.int y) = false := decide_eq_false fun e => h (V.int.inj e)
theorem take_den {u : Un En} {t j : Nat} {us : Us En} (h : j ≤ t) : (den ((u, t) :: us)).take (j * u.w) = rpt j u.den := by
  rw [den_cons, List.take_append_of_le_length (by rw [len_rpt]; exact Nat.mul_le_mul_right _ h)]
  exact take_rpt h
section
variable {P : Program} {w : World} {K : PySem.W.Frag} {mg : Str → Option Value} {base : Heap} {f C : Addr} {fd : FuncData} {H : Hp}
def spPartOf (C : Addr) : Sp := fun vs H Q _ => ∃ v us many e r, vs = [v, .int (many : Nat)] ∧ UsAt C H v us ∧ (0 < many → Gd us) ∧ many ≤ (den us).length ∧ many < WL ∧ Vis e r us many ∧
  ∀ v' H' p, Same H H' → PAt C H' v' p → p.ok → p.den = (den us).take many → p.rk ≤ r → Q v' H'
theorem sc_PartOf : FnScope ["units", "many", "found", "unit", "times", "rest", "whole", "some"] ["units", "many"] (defScope sPartOf) := ⟨rfl, rfl, rfl, by decide +kernel, rfl, by decide +kernel, by decide +kernel⟩
theorem ok_PartOf (D : DefF K mg "part_of" sPartOf ["units", "many"] f fd) (B : Blt mg) (T : PCl K C) {fI : Addr} {fdI : FuncData} {ds : List Value} (M : PMk K mg C fI fdI ds)
    (GI : FnOk P w K mg base CX0 1 fI fdI ["self", "row", "left", "right", "times", "turned_from"] (spPartInit C K))
    {fO fW fJ fR : Addr} {fdO fdW fdJ fdR : FuncData} (DOpened : DefF K mg "opened" sOpened ["part", "rest"] fO fdO)
    (GOpened : FnOk P w K mg base CX0 1 fO fdO ["part", "rest"] (spOpened C)) (DWidth : DefF K mg "width" sWidth ["unit"] fW fdW) (GWidth : FnOk P w K mg base CX0 1 fW fdW ["unit"] (spWidth C))
    (DJoined : DefF K mg "joined" sJoined ["one", "other"] fJ fdJ) (GJoined : FnOk P w K mg base CX0 3 fJ fdJ ["one", "other"] (spJoined C))
    (DRepeated : DefF K mg "repeated" sRepeated ["part", "times"] fR fdR) (GRepeated : FnOk P w K mg base CX0 3 fR fdR ["part", "times"] (spRepeated C)) :
    FnOk P w K mg base CX0 4 f fd ["units", "many"] (spPartOf C) := by
  refine D.fn.ok sc_PartOf (fun vs H Q E h => ?_) (fun cdv A outer s H vs Q E hr h => ?_)
  · obtain ⟨v, us, many, _, _, rfl, _⟩ := h; rfl
  · obtain ⟨v, us, many, e, r, rfl, hu, gd, hm, hL, hv, k⟩ := h
    refine ⟨_, (pss_cons (ps_set (i := 2) sc_PartOf.nd rfl (.inl rfl) (pe_make M.mkr GI (hr.mono (by decide)) rfl M.gl M.b4 M.d4 pass0 (pa_cons (pe_tup pa_nil) (pa_cons pe_non (pa_cons pe_non (pa_cons pe_int pa_nil)))))) (pss_cons (ps_while PassesOwn.never (pt_cmpR op_gt (pv 1) pe_int (nomark _)) (pss_cons (ps_asg (pv 0) (pg_tup rfl (pgs_cons (pg_name (i := 3) sc_PartOf.nd rfl (.inl rfl)) (pgs_cons (pg_name (i := 4) sc_PartOf.nd rfl (.inl rfl)) (pgs_cons (pg_name (i := 5) sc_PartOf.nd rfl (.inl rfl)) pgs_nil))))) (pss_cons (ps_set (i := 6) sc_PartOf.nd rfl (.inl rfl) (pe_callB (call_min2 rfl) (by rfl) B.min PyProof.Rows.boot_min (pa_cons (pv 4) (pa_cons (pe_op op_fdivW (pv 1) (pe_call GWidth (hr.mono (by first | decide | omega)) rfl DWidth.gl DWidth.fn.kp DWidth.bd .nil pass0 (pa_cons (pv 3) pa_nil))) pa_nil)))) (pss_one (ps_if (pt_cmpR op_eq (pv 4) pe_int (nomark _)) (pss_one (ps_set (i := 0) sc_PartOf.nd rfl (.inl rfl) (pv 5))) (pss_one (ps_if (pt_cmpR op_eq (pv 6) pe_int (nomark _)) (pss_one (ps_set (i := 0) sc_PartOf.nd rfl (.inl rfl) (pe_call GOpened (hr.mono (by first | decide | omega)) rfl DOpened.gl DOpened.fn.kp DOpened.bd .nil pass0 (pa_cons (pv 3) (pa_cons (pe_tup (pa_cons (pv 3) (pa_cons (pe_op op_sub (pv 4) pe_int) (pa_cons (pv 5) pa_nil)))) pa_nil))))) (pss_cons (ps_set (i := 7) sc_PartOf.nd rfl (.inl rfl) (pe_ifExp (pt_val (pe_callB call_isi (by rfl) B.isi PyProof.Rows.boot_isinstance (pa_cons (pv 3) (pa_cons (pe_bltn (v := .ty "tuple") (by rfl) B.tuple PyProof.Rows.boot_tuple rfl) pa_nil)))) (pe_make M.mkr GI (hr.mono (by decide)) rfl M.gl M.b4 M.d4 pass0 (pa_cons (pe_tup (pa_cons (pv 3) pa_nil)) (pa_cons pe_non (pa_cons pe_non (pa_cons pe_int pa_nil))))) (pv 3))) (pss_cons (ps_set (i := 2) sc_PartOf.nd rfl (.inl rfl) (pe_call GJoined (hr.mono (by first | decide | omega)) rfl DJoined.gl DJoined.fn.kp DJoined.bd .nil pass0 (pa_cons (pv 2) (pa_cons (pe_call GRepeated (hr.mono (by first | decide | omega)) rfl DRepeated.gl DRepeated.fn.kp DRepeated.bd .nil pass0 (pa_cons (pv 7) (pa_cons (pv 6) pa_nil))) pa_nil)))) (pss_cons (ps_set (i := 1) sc_PartOf.nd rfl (.inl rfl) (pe_op op_sub (pv 1) (pe_op op_mulW (pv 6) (pe_call GWidth (hr.mono (by first | decide | omega)) rfl DWidth.gl DWidth.fn.kp DWidth.bd .nil pass0 (pa_cons (pv 3) pa_nil))))) (pss_one (ps_set (i := 0) sc_PartOf.nd rfl (.inl rfl) (pe_tup (pa_cons (pv 3) (pa_cons (pe_op op_sub (pv 4) (pv 6)) (pa_cons (pv 5) pa_nil)))))))))))))))) (pss_one (ps_ret (pv 2))))), ?_⟩
    refine ⟨Nat.zero_le _, fun tp htp => mk_leaf (row_nil upd_same) fun a0 H0 s0 h0 => ?_⟩
    have s00 := (Same.new (o := .tup []) htp).trans s0
    refine ⟨fun m σ H' => ∃ (v' vf : V) (us' : Us En) (fp : Pt En) (i : Int) (rem : Nat) (o3 o4 o5 o6 o7 : Option V), σ = [some v', some (.int i), some vf, o3, o4, o5, o6, o7] ∧ i = (rem : Nat) ∧ Same H H' ∧ UsAt C H' v' us' ∧ PAt C H' vf fp ∧ fp.ok ∧ fp.rk ≤ r ∧
        fp.den = (den us).take (many - rem) ∧ rem ≤ many ∧ rem ≤ (den us').length ∧ Gone us (many - rem) us' ∧ m = rem + vm us' rem,
      ⟨_, v, _, us, _, _, many, none, none, none, none, none, rfl, rfl, s00, hu.mono s00, .plain h0, .inl rfl, Nat.zero_le _, by rw [Nat.sub_self]; rfl, Nat.le_refl _, hm, by rw [Nat.sub_self]; exact Gone.of (Keeps.refl us), rfl⟩, ?_⟩
    rintro m σ H' ⟨v', vf, us', fp, i, rem, o3, o4, o5, o6, o7, rfl, rfl, s1, hu', hf, of, rf, df, hle, hlen, go, rfl⟩
    refine ⟨_, rfl, _, _, rfl, rfl, _, rfl, ?_⟩
    refine ite2 (fun h => ?_) (fun h => ?_)
    · have hpos : 0 < rem := by have := of_decide_eq_true h; omega
      refine ⟨_, fun _ _ z => z, ?_⟩
      cases hu' with
      | nil => exact absurd hlen (by show ¬ rem ≤ 0; omega)
      | @cons a vu vr u t us2 h1 h2 h3 =>
        have g' : Gd ((u, t) :: us2) := go.2.2 (gd (by omega))
        have vz : Vis e r ((u, t) :: us2) rem := go.2.1 e r rem (by rwa [Nat.add_sub_cancel' hle])
        obtain ⟨vz1, vz2, _⟩ := vz.1 hpos
        have wpos : 0 < u.w := Un.w_pos g'.1.1
        have wl : u.w < WL := g'.2.1
        have tl : t < WM := g'.2.2.1
        refine ⟨_, rfl, a, _, rfl, SqT.of h1, rfl, _, _, rfl, _, _, rfl, _, _, rfl, rfl, ?_⟩
        refine ⟨_, rfl, _, rfl, _, rfl, _, u, rfl, h2, _, _, rfl, rfl, cdiv_L wpos wl, _, _, rfl, ?_⟩
        have ew : (if ((rem : Nat) : Int) / ((u.w : Nat) : Int) < ((t : Nat) : Int) then ((rem : Nat) : Int) / ((u.w : Nat) : Int) else ((t : Nat) : Int)) = ((min t (rem / u.w) : Nat) : Int) := by
          rw [show ((rem : Nat) : Int) / ((u.w : Nat) : Int) = ((rem / u.w : Nat) : Int) from (Int.natCast_ediv _ _).symm]
          split <;> omega
        rw [ew]; clear ew
        generalize hwh : min t (rem / u.w) = wh
        refine ⟨_, rfl, rfl, _, rfl, ?_⟩
        rw [dec_int0]
        by_cases zt : t = 0
        · subst zt
          refine iteT ⟨_, rfl, rem + vm us2 rem, ?_, vr, vf, us2, fp, _, rem, _, _, _, _, _, rfl, rfl, s1, h3, hf, of, rf, df, hle, ?_, ?_, rfl⟩
          · have := vm_tail (u := u) (t := 0) (us := us2) hpos
            rw [Nat.zero_mul, Nat.sub_zero] at this
            omega
          · have := len_den_cons u 0 us2; omega
          · exact go.keeps Keeps.zero
        · rw [decide_eq_false zt]
          refine iteF ⟨_, rfl, rfl, _, rfl, ?_⟩
          by_cases zw : wh = 0
          · have hz : rem / u.w = 0 := by omega
            have hlt : rem < u.w := by
              rcases Nat.lt_or_ge rem u.w with q | q
              · exact q
              · have := Nat.div_pos q wpos; omega
            rw [dec_int0, decide_eq_true zw]
            cases u with
            | e x => exact absurd hlt (by show ¬ rem < 1; omega)
            | p q =>
              refine iteT ⟨_, rfl, _, rfl, _, rfl, _, _, rfl, rfl, _, rfl, three_line, fun tq htq => ?_⟩
              have s3 := Same.new (o := .tup [vu, .int (((t : Nat) : Int) - 1), vr]) htq
              have eq4 : ((t : Nat) : Int) - 1 = ((t - 1 : Nat) : Int) := by omega
              refine ⟨vu, .ref tq, q, (.p q, t - 1) :: us2, rfl, PX.mono s3 h2, .cons (cell3 eq4) (PX.mono s3 h2) (h3.mono s3), fun v2 H2 s4 hv2 => ?_⟩
              have s34 := s3.trans s4
              have kk : Keeps ((.p q, t) :: us2) (cont q ++ (.p q, t - 1) :: us2) := Keeps.opens (by omega)
              have gf := go.keeps kk
              refine ⟨rem + vm (cont q ++ (.p q, t - 1) :: us2) rem, ?_, v2, vf, _, fp, _, rem, _, _, _, _, _, rfl, rfl, s1.trans s34, hv2, hf.mono s34, of, rf, df, hle, ?_, gf, rfl⟩
              · have := vm_opens (p := q) (t := t) (t' := t - 1) (us := us2) hpos (Nat.le_of_lt hlt)
                omega
              · have e1 := gf.len
                have e2 := go.len
                omega
          · rw [dec_int0, decide_eq_false zw]
            refine iteF ?_
            have hwt : wh ≤ t := by omega
            have hwr : wh * u.w ≤ rem := Nat.le_trans (Nat.mul_le_mul_right _ (show wh ≤ rem / u.w by omega)) (Nat.div_mul_le_self _ _)
            have hwL : wh < WL := by
              have : wh ≤ wh * u.w := Nat.le_mul_of_pos_right _ wpos
              omega
            have hwp : 0 < wh * u.w := Nat.mul_pos (by omega) wpos
            have heq : ((many - rem + wh * u.w : Nat)) = many - (rem - wh * u.w) := by omega
            obtain ⟨ty, hty, kit⟩ := h2.ty T
            refine ⟨_, rfl, _, _, _, _, _, rfl, ClsV.ty _, hty, kit, _, rfl, ?_⟩
            cases u with
            | e x =>
              have w1 : wh = 1 := by have := g'.2.2.2.1 rfl; omega
              refine iteT ⟨_, rfl, ?_⟩
              refine ⟨Nat.le_trans (show 1 ≤ 3 by decide) three_line, fun tp2 htp2 => ?_⟩
              have s2 := Same.new (o := .tup [vu]) htp2
              refine mk_leaf (row := [x]) ⟨tp2, [vu], rfl, upd_same, .cons (EAt.mono s2 h2) .nil⟩ fun a3 H3 s3' hps' => ?_
              have s3 := s2.trans s3'
              have hps : PAt C H3 (.ref a3) (.leaf [x]) := .plain hps'
              have ops : (Pt.leaf [x]).ok := .inr (List.cons_ne_nil _ _)
              have lps : (Pt.leaf [x]).den.length < WL := one_WL

              refine ⟨_, rfl, _, rfl, _, rfl, _, .leaf [x], wh, rfl, hps, ops, lps, hwL, fun vr2 H4 r1 s4 hr1 or1 dr1 kr1 kr2 => ?_⟩
              refine ⟨vf, vr2, fp, r1, rfl, hf.mono (s3.trans s4), hr1, of, or1, fun v5 H5 r2 s5 hr2 or2 dr2 kr3 => ?_⟩
              have s35 := (s3.trans s4).trans s5
              refine ⟨_, rfl, _, rfl, _, rfl, _, .e x, rfl, h2.mono s35, _, _, rfl, rfl, ?_, _, _, rfl, rfl, ?_⟩
              · exact cm_of (Nat.lt_of_lt_of_le hwL (WL_le (by decide))) (Nat.lt_of_lt_of_le wl (WL_le (by decide)))
              refine ⟨_, rfl, _, rfl, _, rfl, _, _, rfl, rfl, _, rfl, three_line, fun tq htq => ?_⟩
              have sq := Same.new (o := .tup [vu, .int (((t : Nat) : Int) - ((wh : Nat) : Int)), vr]) htq
              have s6 := s35.trans sq
              have er : ((rem : Nat) : Int) - ((wh : Nat) : Int) * (((Un.e x).w : Nat) : Int) = ((rem - wh * (Un.e x).w : Nat) : Int) := by rw [← Int.natCast_mul]; omega
              have et : ((t : Nat) : Int) - ((wh : Nat) : Int) = ((t - wh : Nat) : Int) := by omega
              have gf : Gone us (many - rem + wh * (Un.e x).w) ((.e x, t - wh) :: us2) := go.trans (Gone.less hwt)
              refine ⟨rem - wh * (Un.e x).w + vm ((.e x, t - wh) :: us2) (rem - wh * (Un.e x).w), ?_, _, v5, _, r2, _, rem - wh * (Un.e x).w, _, _, _, _, _, rfl, ?_, s1.trans s6, .cons (cell3 et) (h2.mono s6) (h3.mono s6), hr2.mono sq, or2, ?_, ?_, by omega, ?_, by rwa [heq] at gf, rfl⟩
              · have := vm_less (u := .e x) (us := us2) (m := rem) hwt
                omega
              · exact er
              · have k0 : (Pt.leaf [x]).rk = 0 := rfl
                have := kr2 (by omega)
                omega
              · rw [dr2, df, dr1, show (Pt.leaf [x]).den = (Un.e x).den from rfl, ← heq, List.take_add, ← go.1]
                congr 1
                exact (take_den hwt).symm
              · have e1 := gf.len
                have e2 := go.len
                omega
            | p q =>
              refine iteF ⟨_, rfl, ?_⟩
              have s3 := Same.refl H'
              have hps : PAt C H' vu q := h2
              have ops : q.ok := .inr g'.1.1
              have lps : q.den.length < WL := wl

              refine ⟨_, rfl, _, rfl, _, rfl, _, q, wh, rfl, hps, ops, lps, hwL, fun vr2 H4 r1 s4 hr1 or1 dr1 kr1 kr2 => ?_⟩
              refine ⟨vf, vr2, fp, r1, rfl, hf.mono (s3.trans s4), hr1, of, or1, fun v5 H5 r2 s5 hr2 or2 dr2 kr3 => ?_⟩
              have s35 := (s3.trans s4).trans s5
              refine ⟨_, rfl, _, rfl, _, rfl, _, .p q, rfl, h2.mono s35, _, _, rfl, rfl, ?_, _, _, rfl, rfl, ?_⟩
              · exact cm_of (Nat.lt_of_lt_of_le hwL (WL_le (by decide))) (Nat.lt_of_lt_of_le wl (WL_le (by decide)))
              refine ⟨_, rfl, _, rfl, _, rfl, _, _, rfl, rfl, _, rfl, three_line, fun tq htq => ?_⟩
              have sq := Same.new (o := .tup [vu, .int (((t : Nat) : Int) - ((wh : Nat) : Int)), vr]) htq
              have s6 := s35.trans sq
              have er : ((rem : Nat) : Int) - ((wh : Nat) : Int) * (((Un.p q).w : Nat) : Int) = ((rem - wh * (Un.p q).w : Nat) : Int) := by rw [← Int.natCast_mul]; omega
              have et : ((t : Nat) : Int) - ((wh : Nat) : Int) = ((t - wh : Nat) : Int) := by omega
              have gf : Gone us (many - rem + wh * (Un.p q).w) ((.p q, t - wh) :: us2) := go.trans (Gone.less hwt)
              refine ⟨rem - wh * (Un.p q).w + vm ((.p q, t - wh) :: us2) (rem - wh * (Un.p q).w), ?_, _, v5, _, r2, _, rem - wh * (Un.p q).w, _, _, _, _, _, rfl, ?_, s1.trans s6, .cons (cell3 et) (h2.mono s6) (h3.mono s6), hr2.mono sq, or2, ?_, ?_, by omega, ?_, by rwa [heq] at gf, rfl⟩
              · have := vm_less (u := .p q) (us := us2) (m := rem) hwt
                omega
              · exact er
              · have k1 := (Un.p q).rk_le t
                have k2 : (Un.p q).rk = q.rk := rfl
                rcases Nat.lt_or_ge 1 wh with z | z
                · have k3 : (Un.p q).lv t = q.rk + 1 := Un.lv_two q (by omega)
                  omega
                · have := kr2 z
                  omega
              · rw [dr2, df, dr1, show q.den = (Un.p q).den from rfl, ← heq, List.take_add, ← go.1]
                congr 1
                exact (take_den hwt).symm
              · have e1 := gf.len
                have e2 := go.len
                omega
    · have hz : rem = 0 := by
        have q : ¬ ((0 : Int) < (rem : Nat)) := fun q => h (decide_eq_true q)
        omega
      subst hz
      rw [Nat.sub_zero] at df
      exact ⟨_, rfl, k _ H' fp s1 hf of df rf⟩
end
end Wd
set_option Elab.async false
set_option linter.all false
set_option maxRecDepth 100000
set_option maxHeartbeats 4000000
set_option exponentiation.threshold 100000
namespace Wd
open PySem L2
theorem rot_rot {A : Type} (b : List A) {s m : Nat} (hs : s ≤ b.length) (hm : m < b.length) :
    (b.drop s ++ b.take s).drop m ++ (b.drop s ++ b.take s).take m = if s + m < b.length then b.drop (s + m) ++ b.take (s + m) else b.drop (s + m - b.length) ++ b.take (s + m - b.length) := by
  have l1 : (b.drop s).length = b.length - s := List.length_drop
  split
  · rename_i h
    rw [List.drop_append_of_le_length (by omega), List.take_append_of_le_length (by omega), List.drop_drop, List.append_assoc, ← List.take_add]
  · rename_i h
    have hk : s + m - b.length ≤ s := by omega
    have e1 : m - (b.drop s).length = s + m - b.length := by omega
    rw [List.drop_append, List.take_append, List.drop_of_length_le (by omega), List.take_of_length_le (l := b.drop s) (by omega), e1, List.nil_append, List.take_take, Nat.min_eq_left hk, ← List.append_assoc]
    congr 1
    have e2 := List.drop_append_of_le_length (l₁ := b.take s) (l₂ := b.drop s) (i := s + m - b.length) (by rw [List.length_take]; omega)
    rw [List.take_append_drop] at e2
    exact e2.symm
theorem rot_mod {A : Type} (b : List A) {s m : Nat} (hs : s < b.length) (hm : m < b.length) :
    (b.drop s ++ b.take s).drop m ++ (b.drop s ++ b.take s).take m = b.drop ((s + m) % b.length) ++ b.take ((s + m) % b.length) := by
  rw [rot_rot b (Nat.le_of_lt hs) hm]
  split
  · rename_i h; rw [Nat.mod_eq_of_lt h]
  · rename_i h; rw [Nat.mod_eq_sub_mod (by omega), Nat.mod_eq_of_lt (a := s + m - b.length) (by omega)]
theorem rot_zero {A : Type} (b : List A) : b.drop 0 ++ b.take 0 = b := by rw [List.drop_zero, List.take_zero, List.append_nil]
section
variable {P : Program} {w : World} {K : PySem.W.Frag} {mg : Str → Option Value} {base : Heap} {f C : Addr} {fd : FuncData} {H : Hp}
theorem gd_one {p : Pt En} (h : p.nz) (hw : p.den.length < WL) : Gd [(.p p, 1)] := ⟨⟨h, trivial⟩, hw, Nat.lt_of_lt_of_le one_WL WLM, fun z => (nomatch z), trivial⟩
theorem den_one (u : Un En) : den [(u, 1)] = u.den := by rw [den_cons, rpt_one]; exact List.append_nil _
theorem vis_one (p : Pt En) (m : Nat) : Vis p.rk p.rk [(.p p, 1)] m := ⟨fun _ => ⟨Nat.le_refl _, by rw [Un.lv_one _ (Nat.le_refl _)]; exact Nat.le_refl _, fun _ => by rw [Un.lv_one _ (Nat.le_refl _)]; exact Nat.le_refl _⟩, trivial⟩
def spRotated (C : Addr) : Sp := fun vs H Q _ => ∃ v p many, vs = [v, .int (many : Nat)] ∧ PAt C H v p ∧ p.nz ∧ p.den.length < WL ∧ many < p.den.length ∧
  ∀ v' H' q, Same H H' → PAt C H' v' q → q.nz → q.rk ≤ p.rk → q.den = p.den.drop many ++ p.den.take many → Q v' H'
theorem sc_Rotated : FnScope ["part", "many", "base", "shift", "found"] ["part", "many"] (defScope sRotated) := ⟨rfl, rfl, rfl, by decide +kernel, rfl, by decide +kernel, by decide +kernel⟩
theorem ok_Rotated (D : DefF K mg "rotated" sRotated ["part", "many"] f fd) (B : Blt mg) (T : PCl K C) {fI : Addr} {fdI : FuncData} {ds : List Value} (M : PMk K mg C fI fdI ds)
    (GI : FnOk P w K mg base CX0 1 fI fdI ["self", "row", "left", "right", "times", "turned_from"] (spPartInit C K))
    {fB fP fJ : Addr} {fdB fdP fdJ : FuncData} (DBehind : DefF K mg "behind" sBehind ["units", "many"] fB fdB)
    (GBehind : FnOk P w K mg base CX0 2 fB fdB ["units", "many"] (spBehind C)) (DPartOf : DefF K mg "part_of" sPartOf ["units", "many"] fP fdP) (GPartOf : FnOk P w K mg base CX0 4 fP fdP ["units", "many"] (spPartOf C))
    (DJoined : DefF K mg "joined" sJoined ["one", "other"] fJ fdJ) (GJoined : FnOk P w K mg base CX0 3 fJ fdJ ["one", "other"] (spJoined C)) :
    FnOk P w K mg base CX0 5 f fd ["part", "many"] (spRotated C) := by
  refine D.fn.ok sc_Rotated (fun vs H Q E h => ?_) (fun cdv A outer s H vs Q E hr h => ?_)
  · obtain ⟨v, p, many, rfl, _⟩ := h; rfl
  · obtain ⟨v, p, many, rfl, hp, np, wl, hm, k⟩ := h
    refine ⟨_, (pss_cons (ps_asg (pe_ifExp (pt_cmp (pc_isN (pe_fld (pv 0) rfl)) rfl) (pe_tup (pa_cons (pv 0) (pa_cons pe_int pa_nil))) (pe_fld (pv 0) rfl)) (pg_tup rfl (pgs_cons (pg_name (i := 2) sc_Rotated.nd rfl (.inl rfl)) (pgs_cons (pg_name (i := 3) sc_Rotated.nd rfl (.inl rfl)) pgs_nil)))) (pss_cons (ps_set (i := 3) sc_Rotated.nd rfl (.inl rfl) (pe_op op_mod (pe_op op_add (pv 3) (pv 1)) (pe_fld (pv 2) rfl))) (pss_cons (ps_if (pt_cmpR op_eq (pv 3) pe_int (nomark _)) (pss_one (ps_ret (pv 2))) pss_nil) (pss_cons (ps_set (i := 4) sc_Rotated.nd rfl (.inl rfl) (pe_call GJoined (hr.mono (by first | decide | omega)) rfl DJoined.gl DJoined.fn.kp DJoined.bd .nil pass0 (pa_cons (pe_call GPartOf (hr.mono (by first | decide | omega)) rfl DPartOf.gl DPartOf.fn.kp DPartOf.bd .nil pass0 (pa_cons (pe_call GBehind (hr.mono (by first | decide | omega)) rfl DBehind.gl DBehind.fn.kp DBehind.bd .nil pass0 (pa_cons (pe_tup (pa_cons (pv 2) (pa_cons pe_int (pa_cons pe_non pa_nil)))) (pa_cons (pv 3) pa_nil))) (pa_cons (pe_op op_sub (pe_fld (pv 2) rfl) (pv 3)) pa_nil))) (pa_cons (pe_call GPartOf (hr.mono (by first | decide | omega)) rfl DPartOf.gl DPartOf.fn.kp DPartOf.bd .nil pass0 (pa_cons (pe_tup (pa_cons (pv 2) (pa_cons pe_int (pa_cons pe_non pa_nil)))) (pa_cons (pv 3) pa_nil))) pa_nil)))) (pss_one (ps_ret (pe_make M.mkr GI (hr.mono (by decide)) rfl M.gl M.b5 .nil pass0 (pa_cons (pe_fld (pv 4) rfl) (pa_cons (pe_fld (pv 4) rfl) (pa_cons (pe_fld (pv 4) rfl) (pa_cons (pe_fld (pv 4) rfl) (pa_cons (pe_tup (pa_cons (pv 2) (pa_cons (pv 3) pa_nil))) pa_nil)))))))))))), ?_⟩
    obtain ⟨tf, hraw, hcase⟩ := hp.raw
    obtain ⟨a, dx, x, l, r, tm, rfl, ha⟩ := hraw.obj
    rw [core_den] at ha
    refine ⟨_, rfl, a, C, dx, _, _, rfl, ha, T.cl, T.nTurned, pf_turned, _, rfl, ?_⟩
    rcases hcase with ⟨rfl, ec⟩ | ⟨ta, vb, q, b, sh, rfl, rfl, hta, hb⟩
    · refine iteT ⟨_, rfl, Nat.le_trans (show 2 ≤ 3 by decide) three_line, fun tp htp => ?_⟩
      have s0 := Same.new (o := .tup [.ref a, .int 0]) htp
      refine ⟨tp, _, rfl, SqT.of upd_same, rfl, _, _, rfl, _, _, rfl, rfl, ?_⟩
      have hb := hp.mono s0
      have sl : 0 < p.den.length := Pt.nz_pos np
      have nb := np
      have kb : p.rk ≤ p.rk := Nat.le_refl _
      have pd : p.den = p.den.drop 0 ++ p.den.take 0 := (rot_zero _).symm
      have lb : p.den.length = p.den.length := rfl
      obtain ⟨ab, db, xb, lb2, rb, tb, tfb, eb, hab⟩ := PX.objF hb
      have eqm : ((0 : Int) + ((many : Nat) : Int)) % ((p.den.length : Nat) : Int) = (((0 + many) % p.den.length : Nat) : Int) := by
        rw [Int.natCast_emod, Int.natCast_add]; rfl
      cases eb
      refine ⟨_, rfl, _, rfl, _, _, rfl, rfl, _, rfl, a, C, db, _, _, rfl, hab, T.cl, T.nWide, pf_wide, _, _, rfl, rfl, (show (0 : Int) < _ by omega), ?_⟩
      dsimp only
      rw [eqm]
      have hlt : (0 + many) % p.den.length < p.den.length := Nat.mod_lt _ (by omega)
      have dsh := rot_mod p.den (m := many) sl (by omega)
      rw [← pd] at dsh
      generalize (0 + many) % p.den.length = s2 at hlt dsh ⊢
      have dsh := (show p.den.drop many ++ p.den.take many = p.den.drop s2 ++ p.den.take s2 from dsh)
      refine ⟨_, rfl, rfl, _, rfl, ?_⟩
      rw [dec_int0]
      by_cases zs : s2 = 0
      · rw [decide_eq_true zs]
        subst zs
        exact iteT ⟨_, rfl, k _ _ p s0 hb nb kb (by rw [dsh]; exact (rot_zero _).symm)⟩
      · rw [decide_eq_false zs]
        refine iteF ?_
        have s2L : s2 < WL := by omega
        have gb : Gd [(.p p, 1)] := gd_one nb (by omega)
        have lo : (den [((.p p, 1) : Un En × Nat)]).length = p.den.length := by rw [den_one]; rfl
        refine ⟨_, rfl, three_line, fun t1 ht1 => ⟨_, rfl, ?_⟩⟩
        have s1 := Same.new (o := .tup [.ref a, .int 1, .non]) ht1
        refine ⟨.ref t1, [(.p p, 1)], s2, rfl, .cons (t := 1) upd_same (hb.mono s1) .nil, fun _ => gb, by omega, fun v2 H2 us2 sa hu2 go2 => ?_⟩
        have sA := s1.trans sa
        refine ⟨_, rfl, a, C, db, _, _, rfl, sA _ _ hab, T.cl, T.nWide, pf_wide, _, rfl, _, _, rfl, rfl, ?_⟩
        refine ⟨v2, us2, p.den.length - s2, p.rk, p.rk, (by
            show _ = [v2, V.int ((p.den.length - s2 : Nat) : Int)]
            rw [Int.ofNat_sub (Nat.le_of_lt hlt)]; rfl), hu2, fun _ => go2.2.2 gb, by rw [go2.len]; omega, by omega, go2.2.1 _ _ _ (vis_one p _), fun v3 H3 p3 sb hp3 op3 dp3 kp3 => ?_⟩
        have sB := sA.trans sb
        refine ⟨_, rfl, three_line, fun t4 ht4 => ⟨_, rfl, ?_⟩⟩
        have s4 := Same.new (o := .tup [.ref a, .int 1, .non]) ht4
        refine ⟨.ref t4, [(.p p, 1)], s2, p.rk, p.rk, rfl, .cons (t := 1) upd_same (hb.mono (sB.trans s4)) .nil, fun _ => gb, by omega, by omega, vis_one p _, fun v5 H5 p5 sc hp5 op5 dp5 kp5 => ?_⟩
        have sC := (sB.trans s4).trans sc
        have sD := s4.trans sc
        refine ⟨v3, v5, p3, p5, rfl, hp3.mono sD, hp5, op3, op5, fun v6 H6 p6 sd hp6 op6 dp6 kp6 => ?_⟩
        have sE := sC.trans sd
        have d6 : p6.den = p.den.drop many ++ p.den.take many := by
          rw [dp6, dp3, dp5, go2.1, den_one, dsh]
          congr 1
          exact List.take_of_length_le (by rw [List.length_drop]; exact Nat.le_refl _)
        have l6 : p6.den.length = p.den.length := by rw [d6, List.length_append, List.length_drop, List.length_take]; omega
        have n6 : p6.nz := core_ok op6 fun z => by rw [z] at l6; have : ([] : List En).length = 0 := rfl; omega
        obtain ⟨a6, d6', x6, l6', r6, t6, tf6, e6, ha6, vw6⟩ := PX.view hp6
        cases e6
        have kk : ∀ (av : Addr) (tt : Addr) (H7 H8 : Hp), Same H6 H7 → H7 tt = some (.tup [.ref a, .int (s2 : Nat)]) → Same H7 H8 → PX C H8 (.ref av) (.raw (.ref tt)) (core p6) → Q (.ref av) H8 := fun av tt H7 H8 g1 g2 g3 g4 => by
          have sF := (sE.trans g1).trans g3
          refine k _ H8 (.turn (core p6) p s2) (s0.trans sF) (.turn g4 (g3 _ _ g2) (hb.mono sF)) ⟨core_nz n6, nb, hlt, by rw [core_den, d6, dsh]⟩ ?_ ?_
          · have q1 := core_rk p6
            have q2 : (Pt.turn (core p6) p s2).rk = max (core p6).rk p.rk := rfl
            omega
          · show (core p6).den = _
            rw [core_den, d6]
        refine ⟨_, rfl, a6, C, d6', _, _, rfl, ha6, T.cl, T.nLetters, pf_letters, _, rfl, a6, C, d6', _, _, rfl, ha6, T.cl, T.nLeft, pf_left, _, rfl, a6, C, d6', _, _, rfl, ha6, T.cl, T.nRight, pf_right,
          _, rfl, a6, C, d6', _, _, rfl, ha6, T.cl, T.nTimes, pf_times, _, rfl, _, rfl, Nat.le_trans (show 2 ≤ 3 by decide) three_line, fun t7 ht7 => ?_⟩
        have s7 := Same.new (o := .tup [.ref a, .int (s2 : Nat)]) ht7
        have w6 : (core p6).den.length < WL := by rw [core_den, l6]; omega
        have nc6 := core_nz n6
        cases vw6 with
        | leaf ec6 hx6 => rw [ec6] at kk; exact mk_leaf (hx6.mono s7) fun av H8 g3 g4 => kk av t7 _ H8 s7 upd_same g3 g4
        | cat ec6 hx6 h6a h6b => rw [ec6] at kk; exact mk_cat (hx6.mono s7) (h6a.mono s7) (h6b.mono s7) fun av H8 g3 g4 => kk av t7 _ H8 s7 upd_same g3 g4
        | rep ec6 hx6 h6a =>
          rw [ec6] at kk w6 nc6
          have rl := rep_len nc6
          exact mk_rep (hx6.mono s7) (h6a.mono s7) (cm_LM (by omega) (Nat.lt_of_lt_of_le (by omega) WLM)) fun av H8 g3 g4 => kk av t7 _ H8 s7 upd_same g3 g4
    · refine iteF ⟨_, rfl, a, C, dx, _, _, rfl, ha, T.cl, T.nTurned, pf_turned, ?_⟩
      refine ⟨ta, _, rfl, SqT.of hta, rfl, _, _, rfl, _, _, rfl, rfl, ?_⟩
      have s0 := Same.refl H
      obtain ⟨nq, nb, sl, pd⟩ := np
      have kb : b.rk ≤ (Pt.turn q b sh).rk := Nat.le_max_right _ _
      have lb : b.den.length = (Pt.turn q b sh).den.length := by
        show _ = q.den.length
        rw [pd, List.length_append, List.length_drop, List.length_take]; omega
      obtain ⟨ab, db, xb, lb2, rb, tb, tfb, eb, hab⟩ := PX.objF hb
      have eqm : (((sh : Nat) : Int) + ((many : Nat) : Int)) % ((b.den.length : Nat) : Int) = (((sh + many) % b.den.length : Nat) : Int) := by
        rw [Int.natCast_emod, Int.natCast_add]
      cases eb
      refine ⟨_, rfl, _, rfl, _, _, rfl, rfl, _, rfl, ab, C, db, _, _, rfl, hab, T.cl, T.nWide, pf_wide, _, _, rfl, rfl, (show (0 : Int) < _ by omega), ?_⟩
      dsimp only
      rw [eqm]
      have hlt : (sh + many) % b.den.length < b.den.length := Nat.mod_lt _ (by omega)
      have dsh := rot_mod b.den (m := many) sl (by omega)
      rw [← pd] at dsh
      generalize (sh + many) % b.den.length = s2 at hlt dsh ⊢
      have dsh := (show (Pt.turn q b sh).den.drop many ++ (Pt.turn q b sh).den.take many = b.den.drop s2 ++ b.den.take s2 from dsh)
      refine ⟨_, rfl, rfl, _, rfl, ?_⟩
      rw [dec_int0]
      by_cases zs : s2 = 0
      · rw [decide_eq_true zs]
        subst zs
        exact iteT ⟨_, rfl, k _ _ b s0 hb nb kb (by rw [dsh]; exact (rot_zero _).symm)⟩
      · rw [decide_eq_false zs]
        refine iteF ?_
        have s2L : s2 < WL := by omega
        have gb : Gd [(.p b, 1)] := gd_one nb (by omega)
        have lo : (den [((.p b, 1) : Un En × Nat)]).length = b.den.length := by rw [den_one]; rfl
        refine ⟨_, rfl, three_line, fun t1 ht1 => ⟨_, rfl, ?_⟩⟩
        have s1 := Same.new (o := .tup [.ref ab, .int 1, .non]) ht1
        refine ⟨.ref t1, [(.p b, 1)], s2, rfl, .cons (t := 1) upd_same (hb.mono s1) .nil, fun _ => gb, by omega, fun v2 H2 us2 sa hu2 go2 => ?_⟩
        have sA := s1.trans sa
        refine ⟨_, rfl, ab, C, db, _, _, rfl, sA _ _ hab, T.cl, T.nWide, pf_wide, _, rfl, _, _, rfl, rfl, ?_⟩
        refine ⟨v2, us2, b.den.length - s2, b.rk, b.rk, (by
            show _ = [v2, V.int ((b.den.length - s2 : Nat) : Int)]
            rw [Int.ofNat_sub (Nat.le_of_lt hlt)]; rfl), hu2, fun _ => go2.2.2 gb, by rw [go2.len]; omega, by omega, go2.2.1 _ _ _ (vis_one b _), fun v3 H3 p3 sb hp3 op3 dp3 kp3 => ?_⟩
        have sB := sA.trans sb
        refine ⟨_, rfl, three_line, fun t4 ht4 => ⟨_, rfl, ?_⟩⟩
        have s4 := Same.new (o := .tup [.ref ab, .int 1, .non]) ht4
        refine ⟨.ref t4, [(.p b, 1)], s2, b.rk, b.rk, rfl, .cons (t := 1) upd_same (hb.mono (sB.trans s4)) .nil, fun _ => gb, by omega, by omega, vis_one b _, fun v5 H5 p5 sc hp5 op5 dp5 kp5 => ?_⟩
        have sC := (sB.trans s4).trans sc
        have sD := s4.trans sc
        refine ⟨v3, v5, p3, p5, rfl, hp3.mono sD, hp5, op3, op5, fun v6 H6 p6 sd hp6 op6 dp6 kp6 => ?_⟩
        have sE := sC.trans sd
        have d6 : p6.den = (Pt.turn q b sh).den.drop many ++ (Pt.turn q b sh).den.take many := by
          rw [dp6, dp3, dp5, go2.1, den_one, dsh]
          congr 1
          exact List.take_of_length_le (by rw [List.length_drop]; exact Nat.le_refl _)
        have l6 : p6.den.length = b.den.length := by rw [d6, List.length_append, List.length_drop, List.length_take]; omega
        have n6 : p6.nz := core_ok op6 fun z => by rw [z] at l6; have : ([] : List En).length = 0 := rfl; omega
        obtain ⟨a6, d6', x6, l6', r6, t6, tf6, e6, ha6, vw6⟩ := PX.view hp6
        cases e6
        have kk : ∀ (av : Addr) (tt : Addr) (H7 H8 : Hp), Same H6 H7 → H7 tt = some (.tup [.ref ab, .int (s2 : Nat)]) → Same H7 H8 → PX C H8 (.ref av) (.raw (.ref tt)) (core p6) → Q (.ref av) H8 := fun av tt H7 H8 g1 g2 g3 g4 => by
          have sF := (sE.trans g1).trans g3
          refine k _ H8 (.turn (core p6) b s2) (s0.trans sF) (.turn g4 (g3 _ _ g2) (hb.mono sF)) ⟨core_nz n6, nb, hlt, by rw [core_den, d6, dsh]⟩ ?_ ?_
          · have q1 := core_rk p6
            have q2 : (Pt.turn (core p6) b s2).rk = max (core p6).rk b.rk := rfl
            omega
          · show (core p6).den = _
            rw [core_den, d6]
        refine ⟨_, rfl, a6, C, d6', _, _, rfl, ha6, T.cl, T.nLetters, pf_letters, _, rfl, a6, C, d6', _, _, rfl, ha6, T.cl, T.nLeft, pf_left, _, rfl, a6, C, d6', _, _, rfl, ha6, T.cl, T.nRight, pf_right,
          _, rfl, a6, C, d6', _, _, rfl, ha6, T.cl, T.nTimes, pf_times, _, rfl, _, rfl, Nat.le_trans (show 2 ≤ 3 by decide) three_line, fun t7 ht7 => ?_⟩
        have s7 := Same.new (o := .tup [.ref ab, .int (s2 : Nat)]) ht7
        have w6 : (core p6).den.length < WL := by rw [core_den, l6]; omega
        have nc6 := core_nz n6
        cases vw6 with
        | leaf ec6 hx6 => rw [ec6] at kk; exact mk_leaf (hx6.mono s7) fun av H8 g3 g4 => kk av t7 _ H8 s7 upd_same g3 g4
        | cat ec6 hx6 h6a h6b => rw [ec6] at kk; exact mk_cat (hx6.mono s7) (h6a.mono s7) (h6b.mono s7) fun av H8 g3 g4 => kk av t7 _ H8 s7 upd_same g3 g4
        | rep ec6 hx6 h6a =>
          rw [ec6] at kk w6 nc6
          have rl := rep_len nc6
          exact mk_rep (hx6.mono s7) (h6a.mono s7) (cm_LM (by omega) (Nat.lt_of_lt_of_le (by omega) WLM)) fun av H8 g3 g4 => kk av t7 _ H8 s7 upd_same g3 g4
end
end Wd
set_option Elab.async false
set_option linter.all false
set_option maxRecDepth 100000
set_option maxHeartbeats 4000000
set_option exponentiation.threshold 100000
namespace Wd
open PySem L2
theorem rpt_swap {A : Type} (n : Nat) (d k : List A) : rpt n (d ++ k) ++ d = d ++ rpt n (k ++ d) := by
  induction n with
  | zero => rw [rpt_zero, rpt_zero, List.nil_append, List.append_nil]
  | succ n ih => rw [rpt_succ, rpt_succ, List.append_assoc, ih, List.append_assoc, List.append_assoc]
/-- cut within one of several times -/
theorem Gone.turned {p q l : Pt En} {t a : Nat} {us : Us En} (ht : 2 ≤ t) (ha : a < p.den.length) (hq : q.nz) (kq : q.rk ≤ p.rk) (dq : q.den = p.den.drop a ++ p.den.take a) (hl : l.nz) (kl : l.rk ≤ p.rk) (dl : l.den = p.den.drop a) :
    Gone ((.p p, t) :: us) a ((.p q, t - 1) :: (.p l, 1) :: us) := by
  have lq : q.den.length = p.den.length := by rw [dq, List.length_append, List.length_drop, List.length_take]; omega
  have ll : l.den.length + a = p.den.length := by rw [dl, List.length_drop]; omega
  refine ⟨?_, fun e r m h => ?_, fun g => ⟨⟨hq, hl, g.1.2⟩, ?_, ?_, fun z => (nomatch z), ?_, Nat.lt_of_lt_of_le one_WL WLM, fun z => (nomatch z), g.2.2.2.2⟩⟩
  · rw [den_cons, den_cons, den_cons, rpt_one]
    show rpt (t - 1) q.den ++ (l.den ++ den us) = (rpt t p.den ++ den us).drop a
    have e : t = 1 + (t - 1) := by omega
    conv => rhs; rw [e]
    rw [rpt_add, rpt_one, List.append_assoc, List.drop_append_of_le_length (by omega), ← List.append_assoc, dq, dl, rpt_swap, List.take_append_drop, List.append_assoc]
  · have := Vis.turned (q := q) (l := l) (a := a) h ht ⟨kq, lq⟩ rfl kl ll
    rwa [Nat.add_sub_cancel] at this
  · have := g.2.1
    show q.den.length < WL
    rw [lq]; exact this
  · have := g.2.2.1; omega
  · have : p.den.length < WL := g.2.1
    show l.den.length < WL
    omega
section
variable {P : Program} {w : World} {K : PySem.W.Frag} {mg : Str → Option Value} {base : Heap} {f C : Addr} {fd : FuncData} {H : Hp}
def spGoneBy (C : Addr) : Sp := fun vs H Q _ => ∃ v us many, vs = [v, .int (many : Nat)] ∧ UsAt C H v us ∧ Gd us ∧ many ≤ (den us).length ∧
  ∀ v' H' us', Same H H' → UsAt C H' v' us' → Gone us many us' → Q v' H'
theorem sc_GoneBy : FnScope ["units", "many", "unit", "times", "rest", "last"] ["units", "many"] (defScope sGoneBy) := ⟨rfl, rfl, rfl, by decide +kernel, rfl, by decide +kernel, by decide +kernel⟩
theorem ok_GoneBy (D : DefF K mg "gone_by" sGoneBy ["units", "many"] f fd) (B : Blt mg) (T : PCl K C)
    {fO fW fB fP fR : Addr} {fdO fdW fdB fdP fdR : FuncData} (DOpened : DefF K mg "opened" sOpened ["part", "rest"] fO fdO)
    (GOpened : FnOk P w K mg base CX0 1 fO fdO ["part", "rest"] (spOpened C)) (DWidth : DefF K mg "width" sWidth ["unit"] fW fdW) (GWidth : FnOk P w K mg base CX0 1 fW fdW ["unit"] (spWidth C))
    (DBehind : DefF K mg "behind" sBehind ["units", "many"] fB fdB)
    (GBehind : FnOk P w K mg base CX0 2 fB fdB ["units", "many"] (spBehind C)) (DPartOf : DefF K mg "part_of" sPartOf ["units", "many"] fP fdP) (GPartOf : FnOk P w K mg base CX0 4 fP fdP ["units", "many"] (spPartOf C))
    (DRotated : DefF K mg "rotated" sRotated ["part", "many"] fR fdR) (GRotated : FnOk P w K mg base CX0 5 fR fdR ["part", "many"] (spRotated C)) :
    FnOk P w K mg base CX0 6 f fd ["units", "many"] (spGoneBy C) := by
  refine D.fn.ok sc_GoneBy (fun vs H Q E h => ?_) (fun cdv A outer s H vs Q E hr h => ?_)
  · obtain ⟨v, us, many, rfl, _⟩ := h; rfl
  · obtain ⟨v, us, many, rfl, hu, gd, hm, k⟩ := h
    refine ⟨_, (pss_cons (ps_while PassesOwn.never (pt_cmpR op_gt (pv 1) pe_int (nomark _)) (pss_cons (ps_asg (pv 0) (pg_tup rfl (pgs_cons (pg_name (i := 2) sc_GoneBy.nd rfl (.inl rfl)) (pgs_cons (pg_name (i := 3) sc_GoneBy.nd rfl (.inl rfl)) (pgs_cons (pg_name (i := 4) sc_GoneBy.nd rfl (.inl rfl)) pgs_nil))))) (pss_one (ps_if (pt_cmpR op_le (pe_op op_mulW (pe_call GWidth (hr.mono (by first | decide | omega)) rfl DWidth.gl DWidth.fn.kp DWidth.bd .nil pass0 (pa_cons (pv 2) pa_nil)) (pv 3)) (pv 1) (nomark _)) (pss_cons (ps_set (i := 1) sc_GoneBy.nd rfl (.inl rfl) (pe_op op_sub (pv 1) (pe_op op_mulW (pe_call GWidth (hr.mono (by first | decide | omega)) rfl DWidth.gl DWidth.fn.kp DWidth.bd .nil pass0 (pa_cons (pv 2) pa_nil)) (pv 3)))) (pss_one (ps_set (i := 0) sc_GoneBy.nd rfl (.inl rfl) (pv 4)))) (pss_cons (ps_set (i := 3) sc_GoneBy.nd rfl (.inl rfl) (pe_op op_sub (pv 3) (pe_op op_fdivW (pv 1) (pe_call GWidth (hr.mono (by first | decide | omega)) rfl DWidth.gl DWidth.fn.kp DWidth.bd .nil pass0 (pa_cons (pv 2) pa_nil))))) (pss_cons (ps_set (i := 1) sc_GoneBy.nd rfl (.inl rfl) (pe_op op_mod (pv 1) (pe_call GWidth (hr.mono (by first | decide | omega)) rfl DWidth.gl DWidth.fn.kp DWidth.bd .nil pass0 (pa_cons (pv 2) pa_nil)))) (pss_cons (ps_set (i := 0) sc_GoneBy.nd rfl (.inl rfl) (pe_tup (pa_cons (pv 2) (pa_cons (pv 3) (pa_cons (pv 4) pa_nil))))) (pss_one (ps_if (PW.pt (pw_and (pt_cmpR op_gt (pv 1) pe_int (nomark _)) (pw_and1 (pt_cmpR op_eq (pv 3) pe_int (nomark _))))) (pss_one (ps_set (i := 0) sc_GoneBy.nd rfl (.inl rfl) (pe_call GOpened (hr.mono (by first | decide | omega)) rfl DOpened.gl DOpened.fn.kp DOpened.bd .nil pass0 (pa_cons (pv 2) (pa_cons (pv 4) pa_nil))))) (pss_one (ps_if (pt_cmpR op_gt (pv 1) pe_int (nomark _)) (pss_cons (ps_set (i := 5) sc_GoneBy.nd rfl (.inl rfl) (pe_call GPartOf (hr.mono (by first | decide | omega)) rfl DPartOf.gl DPartOf.fn.kp DPartOf.bd .nil pass0 (pa_cons (pe_call GBehind (hr.mono (by first | decide | omega)) rfl DBehind.gl DBehind.fn.kp DBehind.bd .nil pass0 (pa_cons (pe_tup (pa_cons (pv 2) (pa_cons pe_int (pa_cons pe_non pa_nil)))) (pa_cons (pv 1) pa_nil))) (pa_cons (pe_op op_sub (pe_fld (pv 2) rfl) (pv 1)) pa_nil)))) (pss_one (ps_ret (pe_tup (pa_cons (pe_call GRotated (hr.mono (by first | decide | omega)) rfl DRotated.gl DRotated.fn.kp DRotated.bd .nil pass0 (pa_cons (pv 2) (pa_cons (pv 1) pa_nil))) (pa_cons (pe_op op_sub (pv 3) pe_int) (pa_cons (pe_tup (pa_cons (pv 5) (pa_cons pe_int (pa_cons (pv 4) pa_nil)))) pa_nil))))))) pss_nil))))))))))) (pss_one (ps_ret (pv 0)))), ?_⟩
    refine ⟨fun m σ H' => ∃ (v' : V) (us' : Us En) (i : Int) (rem : Nat) (o2 o3 o4 o5 : Option V), σ = [some v', some (.int i), o2, o3, o4, o5] ∧ i = (rem : Nat) ∧ Same H H' ∧ UsAt C H' v' us' ∧ rem ≤ many ∧ rem ≤ (den us').length ∧ Gone us (many - rem) us' ∧ m = rem + vm us' rem,
      ⟨_, v, us, _, many, none, none, none, none, rfl, rfl, Same.refl H, hu, Nat.le_refl _, hm, by rw [Nat.sub_self]; exact Gone.of (Keeps.refl us), rfl⟩, ?_⟩
    rintro m σ H' ⟨v', us', i, rem, o2, o3, o4, o5, rfl, rfl, s1, hu', hle, hlen, go, rfl⟩
    refine ⟨_, rfl, _, _, rfl, rfl, _, rfl, ?_⟩
    refine ite2 (fun h => ?_) (fun h => ?_)
    · have hpos : 0 < rem := by have := of_decide_eq_true h; omega
      refine ⟨_, fun _ _ z => z, ?_⟩
      cases hu' with
      | nil => exact absurd hlen (by show ¬ rem ≤ 0; omega)
      | @cons a vu vr u t us2 h1 h2 h3 =>
        have g' : Gd ((u, t) :: us2) := go.2.2 gd
        have wpos : 0 < u.w := Un.w_pos g'.1.1
        have wl : u.w < WL := g'.2.1
        have tl : t < WM := g'.2.2.1
        refine ⟨_, rfl, a, _, rfl, SqT.of h1, rfl, _, _, rfl, _, _, rfl, _, _, rfl, rfl, ?_⟩
        refine ⟨_, rfl, _, u, rfl, h2, _, rfl, _, _, rfl, rfl, cm_LM wl tl, _, rfl, _, _, rfl, rfl, _, rfl, ?_⟩
        refine ite2 (fun hc => ?_) (fun hc => ?_)
        · have hc' : t * u.w ≤ rem := by
            have := of_decide_eq_true hc
            rw [← Int.natCast_mul] at this
            have e : u.w * t = t * u.w := Nat.mul_comm _ _
            omega
          refine ⟨_, rfl, _, rfl, _, u, rfl, h2, _, rfl, _, _, rfl, rfl, cm_LM wl tl, _, _, rfl, rfl, ?_⟩
          refine ⟨_, rfl, (rem - t * u.w) + vm us2 (rem - t * u.w), ?_, vr, us2, _, rem - t * u.w, _, _, _, _, rfl, ?_, s1, h3, by omega, ?_, ?_, rfl⟩
          · have := vm_tail (u := u) (t := t) (us := us2) hpos
            omega
          · rw [← Int.natCast_mul, Nat.mul_comm u.w t, Int.ofNat_sub hc']
          · have := len_den_cons u t us2; omega
          · have := go.trans (Gone.tail (u := u) (t := t) (us := us2))
            rwa [show many - rem + t * u.w = many - (rem - t * u.w) by omega] at this
        · have hc' : rem < t * u.w := by
            have q : ¬ (((u.w : Nat) : Int) * ((t : Nat) : Int) ≤ (rem : Nat)) := fun q => hc (decide_eq_true q)
            rw [← Int.natCast_mul] at q
            have e : u.w * t = t * u.w := Nat.mul_comm _ _
            omega
          have hq : rem / u.w < t := div_lt wpos hc'
          have hdm := div_mul (r := rem) (w := u.w)
          have hmod : rem % u.w < u.w := Nat.mod_lt _ wpos
          cases u with
          | e x =>
            have e1 := g'.2.2.2.1 rfl
            have e2 : (Un.e x).w = 1 := rfl
            rw [e2] at hc'
            omega
          | p q =>
          refine ⟨_, rfl, _, rfl, _, rfl, _, .p q, rfl, h2, _, _, rfl, rfl, cdiv_L wpos wl, _, _, rfl, rfl, ?_⟩
          have eq1 : ((rem : Nat) : Int) / (((Un.p q).w : Nat) : Int) = ((rem / (Un.p q).w : Nat) : Int) := (Int.natCast_ediv _ _).symm
          have eq3 : ((t : Nat) : Int) - ((rem : Nat) : Int) / (((Un.p q).w : Nat) : Int) = ((t - rem / (Un.p q).w : Nat) : Int) := by
            rw [eq1]; omega
          dsimp only
          rw [eq3]
          refine ⟨_, rfl, _, rfl, _, .p q, rfl, h2, _, _, rfl, rfl, (show (0 : Int) < _ by omega), ?_⟩
          have eq2 : ((rem : Nat) : Int) % (((Un.p q).w : Nat) : Int) = ((rem % (Un.p q).w : Nat) : Int) := (Int.natCast_emod _ _).symm
          dsimp only
          rw [eq2]
          generalize hj : rem / (Un.p q).w = j at hq hdm eq1 eq3 ⊢
          generalize hr2 : rem % (Un.p q).w = r2 at hdm hmod eq2 ⊢
          refine ⟨_, rfl, _, rfl, _, rfl, three_line, fun tp htp => ?_⟩
          have s2 := Same.new (o := .tup [vu, .int ((t - j : Nat) : Int), vr]) htp
          have gl : Gone us (many - rem + j * (Un.p q).w) ((.p q, t - j) :: us2) := go.trans (Gone.less (Nat.le_of_lt hq))
          have vl := vm_less (u := .p q) (us := us2) (m := rem) (Nat.le_of_lt hq)
          have er2 : rem - j * (Un.p q).w = r2 := by omega
          have em2 : many - rem + j * (Un.p q).w = many - r2 := by omega
          rw [er2] at vl
          rw [em2] at gl
          have gll := gl.len
          refine ⟨_, rfl, _, _, rfl, rfl, _, rfl, ?_⟩
          refine ite2 (fun hz => ?_) (fun hz => ?_)
          · have hz' : 0 < r2 := by have := of_decide_eq_true hz; omega
            refine ⟨_, rfl, rfl, _, rfl, ?_⟩
            by_cases ht1 : t - j = 1
            · rw [nat_eq0 (show ((t - j : Nat) : Int) = 1 by omega)]
              refine iteT ⟨_, rfl, _, rfl, vu, vr, q, us2, rfl, h2.mono s2, h3.mono s2, fun v2 H2 s4 hv2 => ?_⟩
              have gf := gl
              rw [ht1] at gf vl
              have gf := gf.keeps Keeps.open1
              refine ⟨r2 + vm (cont q ++ us2) r2, ?_, v2, _, _, r2, _, _, _, _, rfl, rfl, (s1.trans s2).trans s4, hv2, by omega, ?_, gf, rfl⟩
              · have := vm_open1 (p := q) (us := us2) hz'
                omega
              · have e1 := gf.len
                have e2 := go.len
                omega
            · rw [nat_ne0 (show ((t - j : Nat) : Int) ≠ 1 by omega)]
              refine iteF ⟨_, rfl, _, _, rfl, rfl, _, rfl, ?_⟩
              rw [hz]
              refine iteT ?_
              have nq : q.nz := g'.1.1
              have gq : Gd [(.p q, 1)] := gd_one nq wl
              have lo : (den [((.p q, 1) : Un En × Nat)]).length = q.den.length := by rw [den_one]; rfl
              have hmq : r2 < q.den.length := hmod
              have wlq : q.den.length < WL := wl
              have hu2 := UAt.mono s2 h2
              refine ⟨_, rfl, three_line, fun t1 ht1 => ⟨_, rfl, ?_⟩⟩
              have s3 := Same.new (o := .tup [vu, .int 1, .non]) ht1
              refine ⟨.ref t1, [(.p q, 1)], r2, rfl, .cons (t := 1) upd_same (hu2.mono s3) .nil, fun _ => gq, by omega, fun v4 H4 us4 s4 hu4 go4 => ?_⟩
              obtain ⟨ab, db, xb, lb2, rb, tb, tfb, rfl, hab⟩ := PX.objF hu2
              have sA := s3.trans s4
              refine ⟨_, rfl, ab, C, db, _, _, rfl, sA _ _ hab, T.cl, T.nWide, pf_wide, _, rfl, _, _, rfl, rfl, ?_⟩
              refine ⟨v4, us4, q.den.length - r2, q.rk, q.rk, (by
                  show _ = [v4, V.int ((q.den.length - r2 : Nat) : Int)]
                  rw [Int.ofNat_sub (Nat.le_of_lt hmq)]; rfl), hu4, fun _ => go4.2.2 gq, by rw [go4.len]; omega, by omega, go4.2.1 _ _ _ (vis_one q _), fun v5 H5 l s5 hl ol dl kl => ?_⟩
              have sB := sA.trans s5
              have dl' : l.den = q.den.drop r2 := by
                rw [dl, go4.1, den_one]
                exact List.take_of_length_le (by rw [List.length_drop]; exact Nat.le_refl _)
              have nl : l.nz := core_ok ol fun z => by
                rw [dl'] at z
                have := congrArg List.length z
                rw [List.length_drop] at this
                have e0 : ([] : List En).length = 0 := rfl
                omega
              refine ⟨_, rfl, _, rfl, .ref ab, q, r2, rfl, hu2.mono sB, nq, wl, hmq, fun v6 H6 qr s6 hqr nqr kqr dqr => ?_⟩
              have sC := sB.trans s6
              refine ⟨_, rfl, _, _, rfl, rfl, _, rfl, _, rfl, three_line, fun t7 ht7 => ⟨three_line, fun t8 ht8 => ?_⟩⟩
              have s7 := Same.new (o := .tup [v5, .int 1, vr]) ht7
              have e8 : ((t - j : Nat) : Int) - 1 = ((t - j - 1 : Nat) : Int) := by omega
              have s8 := Same.new (o := .tup [v6, .int (((t - j : Nat) : Int) - 1), .ref t7]) ht8
              have s9 := s7.trans s8
              have gf := gl.trans (Gone.turned (p := q) (q := qr) (l := l) (us := us2) (show 2 ≤ t - j by omega) hmq nqr kqr dqr nl kl dl')
              rw [show many - r2 + r2 = many by omega] at gf
              refine k _ _ _ (((s1.trans s2).trans sC).trans s9) (.cons (u := .p qr) (cell3 e8) (hqr.mono s9) (.cons (t := 1) (u := .p l) (s8 _ _ upd_same) (hl.mono (s6.trans s9)) (h3.mono ((s2.trans sC).trans s9)))) gf
          · have hz' : r2 = 0 := by
              have q : ¬ ((0 : Int) < ((r2 : Nat) : Int)) := fun q => hz (decide_eq_true q)
              omega
            refine ⟨_, rfl, _, _, rfl, rfl, _, rfl, ?_⟩
            rw [decide_eq_false (fun z => hz (decide_eq_true z))]
            refine iteF ⟨r2 + vm ((.p q, t - j) :: us2) r2, ?_, _, _, _, r2, _, _, _, _, rfl, rfl, s1.trans s2, .cons upd_same (h2.mono s2) (h3.mono s2), by omega, ?_, gl, rfl⟩
            · rw [hz', vm_zero]; omega
            · have e2 := go.len; omega
    · have hz : rem = 0 := by
        have q : ¬ ((0 : Int) < (rem : Nat)) := fun q => h (decide_eq_true q)
        omega
      subst hz
      exact ⟨_, rfl, k _ H' us' s1 hu' (by rwa [Nat.sub_zero] at go)⟩
end
end Wd
set_option Elab.async false
set_option linter.all false
set_option maxRecDepth 100000
set_option maxHeartbeats 4000000
set_option exponentiation.threshold 100000
namespace Wd
open PySem L2
section
variable {P : Program} {w : World} {K : PySem.W.Frag} {mg : Str → Option Value} {base : Heap} {f C : Addr} {fd : FuncData} {H : Hp}
theorem hd_entry {us vs : Us En} (h : Vis 0 0 us 1) (hl : 1 ≤ (den us).length) (k : Keeps us vs) (g : Hd vs) : ∃ x t r, vs = (.e x, t) :: r ∧ 1 ≤ t := by
  rcases g with rfl | ⟨u, t, r, rfl, ht, hu⟩
  · have := k.1
    rw [← this] at hl
    have e0 : (den ([] : Us En)).length = 0 := rfl
    omega
  · have v := (k.2.1 0 0 1 h).1 Nat.one_pos
    cases u with
    | e x => exact ⟨x, t, r, rfl, ht⟩
    | p q =>
      rcases hu with hu | hu
      · cases hu
      · have := v.2.1
        rw [Un.lv_two q hu] at this
        omega
def spRunAhead (C : Addr) : Sp := fun vs H Q _ => ∃ v us most, vs = [v, .int (most : Nat)] ∧ UsAt C H v us ∧ Gd us ∧
  ∀ n H', Same H H' → n ≤ most → n ≤ (den us).length → (1 ≤ most → 1 ≤ (den us).length → Vis 0 0 us 1 → 1 ≤ n) → Q (.int (n : Nat)) H'
theorem sc_RunAhead : FnScope ["units", "most", "found"] ["units", "most"] (defScope sRunAhead) := ⟨rfl, rfl, rfl, by decide +kernel, rfl, by decide +kernel, by decide +kernel⟩
theorem ok_RunAhead (D : DefF K mg "run_ahead" sRunAhead ["units", "most"] f fd) (B : Blt mg) (T : PCl K C)
    {fF : Addr} {fdF : FuncData} (DFirstUnit : DefF K mg "first_unit" sFirstUnit ["units"] fF fdF) (GFirstUnit : FnOk P w K mg base CX0 2 fF fdF ["units"] (spFirstUnit C)) :
    FnOk P w K mg base CX0 3 f fd ["units", "most"] (spRunAhead C) := by
  refine D.fn.ok sc_RunAhead (fun vs H Q E h => ?_) (fun cdv A outer s H vs Q E hr h => ?_)
  · obtain ⟨v, us, most, rfl, _⟩ := h; rfl
  · obtain ⟨v, us, most, rfl, hu, gd, k⟩ := h
    refine ⟨_, (pss_cons (ps_par (i := 2) (j := 0) (by rfl) sc_RunAhead.nd rfl rfl (by decide) rfl rfl (pa_cons pe_int (pa_cons (pe_call GFirstUnit (hr.mono (by first | decide | omega)) rfl DFirstUnit.gl DFirstUnit.fn.kp DFirstUnit.bd .nil pass0 (pa_cons (pv 0) pa_nil)) pa_nil)) (by rfl)) (pss_cons (ps_while PassesOwn.never (PW.pt (pw_and (pt_cmpR op_lt (pv 2) (pv 1) (nomark _)) (pw_and (pt_cmp (pc_notN (pv 0)) rfl) (pw_and1 (pt_val (pe_callB call_isi (by rfl) B.isi PyProof.Rows.boot_isinstance (pa_cons (pe_ix ix_tup (pv 0) pe_int (fun _ _ => rfl)) (pa_cons (pe_bltn (v := .ty "tuple") (by rfl) B.tuple PyProof.Rows.boot_tuple rfl) pa_nil)))))))) (pss_one (ps_par (i := 2) (j := 0) (by rfl) sc_RunAhead.nd rfl rfl (by decide) rfl rfl (pa_cons (pe_op op_add (pv 2) pe_int) (pa_cons (pe_call GFirstUnit (hr.mono (by first | decide | omega)) rfl DFirstUnit.gl DFirstUnit.fn.kp DFirstUnit.bd .nil pass0 (pa_cons (pe_ix ix_tup (pv 0) pe_int (fun _ _ => rfl)) pa_nil)) pa_nil)) (by rfl)))) (pss_one (ps_ret (pv 2))))), ?_⟩
    refine ⟨_, rfl, v, us, rfl, hu, fun v0 H0 us0 s0 hu0 kp0 hd0 _ => ?_⟩
    refine ⟨_, _, rfl, fun m σ H' => ∃ (v' : V) (us' : Us En) (n : Nat) (i : Int), σ = [some v', some (.int (most : Nat)), some (.int i)] ∧ i = (n : Nat) ∧ n ≤ most ∧ Same H H' ∧ UsAt C H' v' us' ∧ Hd us' ∧ Gd us' ∧ n + (den us').length ≤ (den us).length ∧ (n = 0 → Keeps us us') ∧ m = most - n,
      ⟨_, v0, us0, 0, _, rfl, rfl, Nat.zero_le _, s0, hu0, hd0, kp0.2.2 gd, by rw [kp0.1]; omega, fun _ => kp0, rfl⟩, ?_⟩
    rintro m σ H' ⟨v', us', n, i, rfl, rfl, hn, s1, hu', hd', gd', hlen, hk, rfl⟩
    have out : (n = 0 → ¬ (1 ≤ most ∧ 1 ≤ (den us).length ∧ Vis 0 0 us 1)) → Q (.int (n : Nat)) H' := fun z => k n H' s1 hn (by omega) fun a b c => by
      rcases Nat.eq_zero_or_pos n with q | q
      · exact absurd ⟨a, b, c⟩ (z q)
      · exact q
    refine ⟨_, rfl, _, rfl, _, _, rfl, rfl, _, rfl, ?_⟩
    refine ite2 (fun h => ?_) (fun h => ?_)
    · have hlt : n < most := by have := of_decide_eq_true h; omega
      refine ⟨_, rfl, _, rfl, ?_⟩
      cases hu' with
      | nil =>
        refine iteF (iteF ⟨_, rfl, out fun z => ?_⟩)
        rintro ⟨_, b, c⟩
        obtain ⟨x, t, r, e, _⟩ := hd_entry c b (hk z) hd'
        cases e
      | @cons a vu vr u t us2 h1 h2 h3 =>
        refine iteT ?_
        obtain ⟨ty, hty, kit⟩ := h2.ty T
        refine ⟨_, rfl, a, _, 0, vu, rfl, rfl, SqT.of h1, rfl, _, _, _, _, _, rfl, ClsV.ty _, hty, kit, _, rfl, ?_⟩
        cases u with
        | e x =>
          have tp : 1 ≤ t := by
            rcases hd' with z | ⟨u, t', r, z, ht, _⟩
            · cases z
            · cases z; exact ht
          refine iteT ⟨_, fun _ _ z => z, ?_⟩
          refine ⟨_, rfl, _, _, rfl, rfl, _, rfl, a, _, 2, vr, rfl, rfl, SqT.of h1, rfl, vr, us2, rfl, h3, fun v5 H5 us5 s5 hu5 kp5 hd5 _ => ?_⟩
          have ll := len_den_cons (.e x) t us2
          have le : t * (Un.e x).w = t := Nat.mul_one t
          refine ⟨_, _, rfl, most - (n + 1), by omega, v5, us5, n + 1, _, rfl, by omega, by omega, s1.trans s5, hu5, hd5, kp5.2.2 gd'.tail, by rw [kp5.1]; omega, fun z => absurd z (by omega), rfl⟩
        | p q =>
          refine iteF ⟨_, rfl, out fun z => ?_⟩
          rintro ⟨_, b, c⟩
          obtain ⟨x, t, r, e, _⟩ := hd_entry c b (hk z) hd'
          cases e
    · refine ⟨_, rfl, out fun z => ?_⟩
      rintro ⟨a, _, _⟩
      have q : ¬ (((n : Nat) : Int) < ((most : Nat) : Int)) := fun q => h (decide_eq_true q)
      omega
end
end Wd
set_option Elab.async false
set_option linter.all false
set_option maxRecDepth 100000
set_option maxHeartbeats 4000000
namespace Wd
open PySem L2
instance : PySem.W.Datum (Option Str) where
  toD | none => .none | some t => .str t
  plain a := by cases a <;> rfl
  eqv a b := by
    cases a <;> cases b
    · simp [PyData.eqv]
    · simp [PyData.eqv]
    · simp [PyData.eqv]
    · simp only [PyData.eqv]
      rw [PySem.W.beq_decide]
      exact decide_eq_decide.mpr ⟨fun e => congrArg some e, fun e => Option.some.inj e⟩
  depth := 0
  depth_le a := by cases a <;> exact Nat.le_refl _
def enD (e : En) : PyData := PySem.W.Datum.toD e
theorem enD_eq (e : En) : enD e = .tuple [.str e.1, PySem.W.Datum.toD e.2] := rfl
theorem enD_lay (e : En) (h : e.ok = true) : (enD e).canLay0 = true := by
  obtain ⟨x, t⟩ := e
  have h1 := Bool.and_eq_true_iff.mp h
  cases t with
  | none =>
    rw [enD_eq]
    simp only [PyData.canLay0, PyData.canLayAll0, PySem.W.Datum.toD, Bool.and_true]
    exact h1.1
  | some t =>
    rw [enD_eq]
    simp only [PyData.canLay0, PyData.canLayAll0, PySem.W.Datum.toD, Bool.and_true]
    exact Bool.and_eq_true_iff.mpr h1
theorem enD_shaped {e : En} (h : e.ok = true) : SeqAt.shaped (enD e) = true := by
  unfold SeqAt.shaped
  rw [enD_lay e h, Bool.true_and]
  exact decide_eq_true (Nat.le_trans (PySem.W.Datum.depth_le e) (by decide))
def enDs (es : List En) : PyData := .list (es.map enD)
theorem lay_all : ∀ es : List En, (∀ e ∈ es, e.ok = true) → PyData.canLayAll0 (es.map enD) = true
  | [], _ => by simp [PyData.canLayAll0]
  | e :: es, h => by
    rw [List.map_cons]
    simp only [PyData.canLayAll0]
    rw [enD_lay e (h e (List.mem_cons_self ..)), lay_all es fun x hx => h x (List.mem_cons_of_mem _ hx)]; rfl
theorem enDs_shaped {es : List En} (h : ∀ e ∈ es, e.ok = true) : SeqAt.shaped (enDs es) = true := by
  unfold SeqAt.shaped
  have h : (enDs es).canLay0 = true := by simp only [enDs, PyData.canLay0]; exact lay_all es h
  rw [h, Bool.true_and]
  exact decide_eq_true (Nat.le_trans (PySem.W.Datum.depth_le (α := List En) es) (by decide))
theorem enDs_eqv (xs ys : List En) : PyData.eqv (enDs xs) (enDs ys) = decide (xs = ys) := PySem.W.Datum.eqv (α := List En) xs ys
theorem enD_eqv (x y : En) : PyData.eqv (enD x) (enD y) = decide (x = y) := PySem.W.Datum.eqv (α := En) x y
section
variable {K : PySem.W.Frag} {H : Hp}
theorem EAt.dp {v : V} {e : En} (h : EAt H v e) : Dp K H v (enD e) := by
  obtain ⟨a, rfl, h, _⟩ := h
  obtain ⟨x, t⟩ := e
  refine .tup (SqT.of h) ?_
  cases t with
  | none => exact .cons (.str _) (.cons .non .nil)
  | some t => exact .cons (.str _) (.cons (.str _) .nil)
theorem dp_row : ∀ {vs : List V} {es : List En}, Paired (EAt H) vs es → DpAll K H vs (es.map enD)
  | _, _, .nil => .nil
  | _, _, .cons h t => .cons h.dp (dp_row t)
theorem row_ok : ∀ {vs : List V} {es : List En}, Paired (EAt H) vs es → ∀ e ∈ es, e.ok = true
  | _, _, .nil => fun _ h => (nomatch h)
  | _, _, .cons h t => fun e he => by
    rcases List.mem_cons.mp he with rfl | he
    · obtain ⟨_, _, _, h⟩ := h; exact h
    · exact row_ok t e he
theorem EAt.isOk {v : V} {e : En} (h : EAt H v e) : e.ok = true := let ⟨_, _, _, h⟩ := h; h
end
end Wd
set_option Elab.async false
set_option linter.all false
set_option maxRecDepth 100000
set_option maxHeartbeats 4000000
set_option exponentiation.threshold 100000
namespace Wd
open PySem L2
section
variable {P : Program} {w : World} {K : PySem.W.Frag} {mg : Str → Option Value} {base : Heap} {f C : Addr} {fd : FuncData} {H : Hp}
def spAgr (C : Addr) (n : Nat) : Sp := fun vs H Q _ => ∃ v1 v2 us1 us2 most e1 r1 e2 r2, vs = [v1, v2, .int (most : Nat)] ∧ UsAt C H v1 us1 ∧ UsAt C H v2 us2 ∧ (0 < most → Gd us1) ∧ (0 < most → Gd us2) ∧ Vis e1 r1 us1 most ∧ Vis e2 r2 us2 most ∧ dep e1 r1 e2 r2 ≤ n ∧
  ∀ H', Same H H' → Q (.int ((min most (lcp (den us1) (den us2)) : Nat) : Int)) H'
def spAA (C : Addr) (n : Nat) : Sp := fun vs H Q _ => ∃ v1 v2 u1 t1 us1 u2 t2 us2 most e1 r1 e2 r2, vs = [v1, v2, .int (most : Nat)] ∧ UsAt C H v1 ((u1, t1) :: us1) ∧ UsAt C H v2 ((u2, t2) :: us2) ∧ Gd ((u1, t1) :: us1) ∧ Gd ((u2, t2) :: us2) ∧
  Vis e1 r1 ((u1, t1) :: us1) most ∧ Vis e2 r2 ((u2, t2) :: us2) most ∧ dep e1 r1 e2 r2 ≤ n ∧ 0 < most ∧ (u1.isE = true ∨ 2 ≤ t1) ∧ (u2.isE = true ∨ 2 ≤ t2) ∧
  ¬ (u1.isE = true ∧ u2.isE = true) ∧ (u1.isE = true → most ≤ u2.w) ∧ (u2.isE = true → most ≤ u1.w) ∧ most < u1.w + u2.w ∧
  ∀ H', Same H H' → Q (.int ((min most (lcp (den ((u1, t1) :: us1)) (den ((u2, t2) :: us2))) : Nat) : Int)) H'
def spAF (C : Addr) (n : Nat) : Sp := fun vs H Q _ => ∃ v1 v2 p q e1 r1 e2 r2, vs = [v1, v2] ∧ PAt C H v1 p ∧ PAt C H v2 q ∧ p.nz ∧ q.nz ∧ p.den.length < WL ∧ q.den.length < WL ∧ p.rk + 1 ≤ e1 ∧ q.rk + 1 ≤ e2 ∧ dep e1 r1 e2 r2 ≤ n ∧
  ∀ H' a b, Same H H' → p.den.length + q.den.length ≤ a * p.den.length → p.den.length + q.den.length ≤ b * q.den.length → Q (.int ((min (p.den.length + q.den.length) (lcp (rpt a p.den) (rpt b q.den)) : Nat) : Int)) H'
theorem dep_comm (e1 r1 e2 r2 : Nat) : dep e1 r1 e2 r2 = dep e2 r2 e1 r1 := by unfold dep; rw [Nat.add_comm e1 e2]; omega
theorem open_vis {q : Pt En} {t2 most e1 r1 e2 r2 : Nat} {us1 us2 : Us En} (v1 : Vis e1 r1 us1 most) (v2 : Vis e2 r2 ((.p q, t2) :: us2) most) (ht : 2 ≤ t2) (hpos : 0 < most) (hm : most ≤ 2 * q.den.length) :
    ∃ e1' r1' e2' r2', Vis e1' r1' us1 most ∧ Vis e2' r2' (cont q ++ (.p q, t2 - 1) :: us2) most ∧ dep e1' r1' e2' r2' < dep e1 r1 e2 r2 := by
  obtain ⟨z1, z2, z3⟩ := v2.1 hpos
  rw [Un.lv_two q ht] at z2 z3
  have zk : (Un.p q).rk = q.rk := rfl
  rcases Nat.lt_or_ge q.den.length most with z | z
  · have := z3 z
    exact ⟨e1, e1 + 1, q.rk, q.rk + 1, v1.raw, Vis.deeper ht hm, dep_less (by omega)⟩
  · exact ⟨e1, r1, q.rk, q.rk, v1, Vis.inner z, dep_lower (by omega) (by omega)⟩
theorem opens_ok {v : V} {q : Pt En} {t : Nat} {us : Us En} (g : Gd ((.p q, t) :: us)) (ht : 2 ≤ t) : Gd (cont q ++ (.p q, t - 1) :: us) := g.cont g.less
theorem sc_AlikeAhead : FnScope ["one", "other", "most", "unit", "times", "rest", "thing", "turns", "more"] ["one", "other", "most"] (defScope sAlikeAhead) := ⟨rfl, rfl, rfl, by decide +kernel, rfl, by decide +kernel, by decide +kernel⟩
theorem ok_AlikeAhead (D : DefF K mg "alike_ahead" sAlikeAhead ["one", "other", "most"] f fd) (B : Blt mg) (T : PCl K C) {fO fG : Addr} {fdO fdG : FuncData} {n : Nat}
    (DOpened : DefF K mg "opened" sOpened ["part", "rest"] fO fdO) (GOpened : FnOk P w K mg base CX0 1 fO fdO ["part", "rest"] (spOpened C))
    (DAgreement : DefF K mg "agreement" sAgreement ["one", "other", "most"] fG fdG) (GAgreement : FnOk P w K mg base CX0 (2 * n + 7) fG fdG ["one", "other", "most"] (spAgr C n)) :
    FnOk P w K mg base CX0 (2 * n + 8) f fd ["one", "other", "most"] (spAA C (n + 1)) := by
  refine D.fn.ok sc_AlikeAhead (fun vs H Q E h => ?_) (fun cdv A outer s H vs Q E hr h => ?_)
  · obtain ⟨v1, v2, u1, t1, us1, u2, t2, us2, most, e1, r1, e2, r2, rfl, _⟩ := h; rfl
  · obtain ⟨v1, v2, u1, t1, us1, u2, t2, us2, most, e1, r1, e2, r2, rfl, hu1, hu2, g1, g2, vz1, vz2, hd, hpos, hk1, hk2, hne, hm1, hm2, hms, k⟩ := h
    refine ⟨_, (pss_cons (ps_asg (pv 0) (pg_tup rfl (pgs_cons (pg_name (i := 3) sc_AlikeAhead.nd rfl (.inl rfl)) (pgs_cons (pg_name (i := 4) sc_AlikeAhead.nd rfl (.inl rfl)) (pgs_cons (pg_name (i := 5) sc_AlikeAhead.nd rfl (.inl rfl)) pgs_nil))))) (pss_cons (ps_asg (pv 1) (pg_tup rfl (pgs_cons (pg_name (i := 6) sc_AlikeAhead.nd rfl (.inl rfl)) (pgs_cons (pg_name (i := 7) sc_AlikeAhead.nd rfl (.inl rfl)) (pgs_cons (pg_name (i := 8) sc_AlikeAhead.nd rfl (.inl rfl)) pgs_nil))))) (pss_cons (ps_if (PW.pt (pw_or (pt_val (pe_callB call_isi (by rfl) B.isi PyProof.Rows.boot_isinstance (pa_cons (pv 3) (pa_cons (pe_bltn (v := .ty "tuple") (by rfl) B.tuple PyProof.Rows.boot_tuple rfl) pa_nil)))) (pw_or1 (PW.pt (pw_and (pt_not (pt_val (pe_callB call_isi (by rfl) B.isi PyProof.Rows.boot_isinstance (pa_cons (pv 6) (pa_cons (pe_bltn (v := .ty "tuple") (by rfl) B.tuple PyProof.Rows.boot_tuple rfl) pa_nil))))) (pw_and1 (pt_cmpR op_gt (pe_fld (pv 6) rfl) (pe_fld (pv 3) rfl) (nomark _)))))))) (pss_one (ps_ret (pe_call GAgreement (hr.mono (by first | decide | omega)) rfl DAgreement.gl DAgreement.fn.kp DAgreement.bd .nil pass0 (pa_cons (pv 0) (pa_cons (pe_call GOpened (hr.mono (by first | decide | omega)) rfl DOpened.gl DOpened.fn.kp DOpened.bd .nil pass0 (pa_cons (pv 6) (pa_cons (pe_tup (pa_cons (pv 6) (pa_cons (pe_op op_sub (pv 7) pe_int) (pa_cons (pv 8) pa_nil)))) pa_nil))) (pa_cons (pv 2) pa_nil)))))) pss_nil) (pss_one (ps_ret (pe_call GAgreement (hr.mono (by first | decide | omega)) rfl DAgreement.gl DAgreement.fn.kp DAgreement.bd .nil pass0 (pa_cons (pe_call GOpened (hr.mono (by first | decide | omega)) rfl DOpened.gl DOpened.fn.kp DOpened.bd .nil pass0 (pa_cons (pv 3) (pa_cons (pe_tup (pa_cons (pv 3) (pa_cons (pe_op op_sub (pv 4) pe_int) (pa_cons (pv 5) pa_nil)))) pa_nil))) (pa_cons (pv 1) (pa_cons (pv 2) pa_nil))))))))), ?_⟩
    cases hu1 with
    | @cons a1 x1 y1 _ _ _ c1 c2 c3 =>
    cases hu2 with
    | @cons a2 x2 y2 _ _ _ d1 d2 d3 =>
    refine ⟨_, rfl, a1, _, rfl, SqT.of c1, rfl, _, _, rfl, _, _, rfl, _, _, rfl, rfl, ?_⟩
    refine ⟨_, rfl, a2, _, rfl, SqT.of d1, rfl, _, _, rfl, _, _, rfl, _, _, rfl, rfl, ?_⟩
    obtain ⟨ty1, hty1, kit1⟩ := c2.ty T
    obtain ⟨ty2, hty2, kit2⟩ := d2.ty T
    refine ⟨_, rfl, _, _, _, _, _, rfl, ClsV.ty _, hty1, kit1, _, rfl, ?_⟩
    obtain ⟨z11, z12, z13⟩ := vz1.1 hpos
    obtain ⟨z21, z22, z23⟩ := vz2.1 hpos
    cases u1 with
    | e x =>
      cases u2 with
      | e y => exact absurd ⟨rfl, rfl⟩ hne
      | p q =>
        have ht2 : 2 ≤ t2 := by rcases hk2 with z | z; cases z; exact z
        have hmq : most ≤ q.den.length := hm1 rfl
        refine iteT ?_
        refine ⟨_, rfl, _, rfl, _, rfl, _, rfl, _, _, rfl, rfl, _, rfl, three_line, fun tq htq => ?_⟩
        have sq := Same.new (o := .tup [x2, .int (((t2 : Nat) : Int) - 1), y2]) htq
        have e4 : ((t2 : Nat) : Int) - 1 = ((t2 - 1 : Nat) : Int) := by omega
        refine ⟨x2, .ref tq, q, (.p q, t2 - 1) :: us2, rfl, PX.mono sq d2, .cons (cell3 e4) (PX.mono sq d2) (d3.mono sq), fun v5 H5 s5 hv5 => ⟨_, rfl, ?_⟩⟩
        have s6 := sq.trans s5
        obtain ⟨f1, w1, f2, w2, vv1, vv2, dd⟩ := open_vis vz1 vz2 ht2 hpos (by omega)
        refine ⟨_, v5, _, _, most, f1, w1, f2, w2, rfl, .cons (s6 _ _ c1) (UAt.mono s6 c2) (c3.mono s6), hv5, fun _ => g1, fun _ => opens_ok (v := x2) g2 ht2, vv1, vv2, by omega, fun H7 s7 => ?_⟩
        rw [den_opens (by omega)]
        exact k H7 (s6.trans s7)
    | p p =>
      cases u2 with
      | e y =>
        have ht1 : 2 ≤ t1 := by rcases hk1 with z | z; cases z; exact z
        have hmq : most ≤ p.den.length := hm2 rfl
        refine iteF ⟨_, rfl, _, _, _, _, _, rfl, ClsV.ty _, hty2, kit2, _, rfl, iteF ?_⟩
        refine ⟨_, rfl, _, rfl, _, rfl, _, _, rfl, rfl, _, rfl, three_line, fun tq htq => ?_⟩
        have sq := Same.new (o := .tup [x1, .int (((t1 : Nat) : Int) - 1), y1]) htq
        have e4 : ((t1 : Nat) : Int) - 1 = ((t1 - 1 : Nat) : Int) := by omega
        refine ⟨x1, .ref tq, p, (.p p, t1 - 1) :: us1, rfl, PX.mono sq c2, .cons (cell3 e4) (PX.mono sq c2) (c3.mono sq), fun v5 H5 s5 hv5 => ⟨_, rfl, _, rfl, ?_⟩⟩
        have s6 := sq.trans s5
        obtain ⟨f2, w2, f1, w1, vv2, vv1, dd⟩ := open_vis vz2 vz1 ht1 hpos (by omega)
        rw [dep_comm f2, dep_comm e2] at dd
        refine ⟨v5, _, _, _, most, f1, w1, f2, w2, rfl, hv5, .cons (s6 _ _ d1) (UAt.mono s6 d2) (d3.mono s6), fun _ => opens_ok (v := x1) g1 ht1, fun _ => g2, vv1, vv2, by omega, fun H7 s7 => ?_⟩
        rw [den_opens (by omega)]
        exact k H7 (s6.trans s7)
      | p q =>
        obtain ⟨a, dx, xx, l, r, tt, tf, rfl, ha⟩ := PX.objF c2
        obtain ⟨b, dy, xy, l2, r2', tt2, tf2, rfl, hb⟩ := PX.objF d2
        have ht1 : 2 ≤ t1 := by rcases hk1 with z | z; cases z; exact z
        have ht2 : 2 ≤ t2 := by rcases hk2 with z | z; cases z; exact z
        have hms' : most < p.den.length + q.den.length := hms
        refine iteF ⟨_, rfl, _, _, _, _, _, rfl, ClsV.ty _, hty2, kit2, _, rfl, iteT ?_⟩
        refine ⟨_, rfl, b, C, dy, _, _, rfl, hb, T.cl, T.nWide, pf_wide, _, rfl, a, C, dx, _, _, rfl, ha, T.cl, T.nWide, pf_wide, _, _, rfl, rfl, _, rfl, ?_⟩
        refine ite2 (fun hz => ?_) (fun hz => ?_)
        · have hz' : p.den.length < q.den.length := by have := of_decide_eq_true hz; omega
          refine ?_
          refine ⟨_, rfl, _, rfl, _, rfl, _, rfl, _, _, rfl, rfl, _, rfl, three_line, fun tq htq => ?_⟩
          have sq := Same.new (o := .tup [(.ref b), .int (((t2 : Nat) : Int) - 1), y2]) htq
          have e4 : ((t2 : Nat) : Int) - 1 = ((t2 - 1 : Nat) : Int) := by omega
          refine ⟨(.ref b), .ref tq, q, (.p q, t2 - 1) :: us2, rfl, PX.mono sq d2, .cons (cell3 e4) (PX.mono sq d2) (d3.mono sq), fun v5 H5 s5 hv5 => ⟨_, rfl, ?_⟩⟩
          have s6 := sq.trans s5
          obtain ⟨f1, w1, f2, w2, vv1, vv2, dd⟩ := open_vis vz1 vz2 ht2 hpos (by omega)
          refine ⟨_, v5, _, _, most, f1, w1, f2, w2, rfl, .cons (s6 _ _ c1) (UAt.mono s6 c2) (c3.mono s6), hv5, fun _ => g1, fun _ => opens_ok (v := .ref b) g2 ht2, vv1, vv2, by omega, fun H7 s7 => ?_⟩
          rw [den_opens (by omega)]
          exact k H7 (s6.trans s7)
        · have hz' : q.den.length ≤ p.den.length := by
            have z : ¬ (((p.den.length : Nat) : Int) < ((q.den.length : Nat) : Int)) := fun z => hz (decide_eq_true z)
            omega
          refine ?_
          refine ⟨_, rfl, _, rfl, _, rfl, _, _, rfl, rfl, _, rfl, three_line, fun tq htq => ?_⟩
          have sq := Same.new (o := .tup [(.ref a), .int (((t1 : Nat) : Int) - 1), y1]) htq
          have e4 : ((t1 : Nat) : Int) - 1 = ((t1 - 1 : Nat) : Int) := by omega
          refine ⟨(.ref a), .ref tq, p, (.p p, t1 - 1) :: us1, rfl, PX.mono sq c2, .cons (cell3 e4) (PX.mono sq c2) (c3.mono sq), fun v5 H5 s5 hv5 => ⟨_, rfl, _, rfl, ?_⟩⟩
          have s6 := sq.trans s5
          obtain ⟨f2, w2, f1, w1, vv2, vv1, dd⟩ := open_vis vz2 vz1 ht1 hpos (by omega)
          rw [dep_comm f2, dep_comm e2] at dd
          refine ⟨v5, _, _, _, most, f1, w1, f2, w2, rfl, hv5, .cons (s6 _ _ d1) (UAt.mono s6 d2) (d3.mono s6), fun _ => opens_ok (v := .ref a) g1 ht1, fun _ => g2, vv1, vv2, by omega, fun H7 s7 => ?_⟩
          rw [den_opens (by omega)]
          exact k H7 (s6.trans s7)
end
end Wd
set_option Elab.async false
set_option linter.all false
set_option maxRecDepth 100000
set_option maxHeartbeats 4000000
set_option exponentiation.threshold 100000
namespace Wd
open PySem L2
theorem vis_many {p : Pt En} {e t m : Nat} (h : p.rk + 1 ≤ e) : Vis e (e + 1) [(.p p, t)] m := by
  have := (Un.p p).lv_le t
  have e1 : (Un.p p).rk = p.rk := rfl
  exact ⟨fun _ => ⟨by omega, by omega, fun _ => by omega⟩, trivial⟩
theorem gd_many {p : Pt En} {t : Nat} (h : p.nz) (hw : p.den.length < WL) (ht : t < WM) : Gd [(.p p, t)] := ⟨⟨h, trivial⟩, hw, ht, fun z => (nomatch z), trivial⟩
theorem den_many (p : Pt En) (t : Nat) : den [((.p p, t) : Un En × Nat)] = rpt t p.den := by rw [den_cons]; exact List.append_nil _
section
variable {P : Program} {w : World} {K : PySem.W.Frag} {mg : Str → Option Value} {base : Heap} {f C : Addr} {fd : FuncData} {H : Hp}
theorem sc_AlikeFor : FnScope ["unit", "other", "many"] ["unit", "other"] (defScope sAlikeFor) := ⟨rfl, rfl, rfl, by decide +kernel, rfl, by decide +kernel, by decide +kernel⟩
theorem ok_AlikeFor (D : DefF K mg "alike_for" sAlikeFor ["unit", "other"] f fd) (B : Blt mg) (T : PCl K C) {fO fG : Addr} {fdO fdG : FuncData} {n : Nat}
    (DOpened : DefF K mg "opened" sOpened ["part", "rest"] fO fdO) (GOpened : FnOk P w K mg base CX0 1 fO fdO ["part", "rest"] (spOpened C))
    (DAgreement : DefF K mg "agreement" sAgreement ["one", "other", "most"] fG fdG) (GAgreement : FnOk P w K mg base CX0 (2 * n + 7) fG fdG ["one", "other", "most"] (spAgr C n)) :
    FnOk P w K mg base CX0 (2 * n + 8) f fd ["unit", "other"] (spAF C (n + 1)) := by
  refine D.fn.ok sc_AlikeFor (fun vs H Q E h => ?_) (fun cdv A outer s H vs Q E hr h => ?_)
  · obtain ⟨v1, v2, p, q, e1, r1, e2, r2, rfl, _⟩ := h; rfl
  · obtain ⟨v1, v2, p, q, e1, r1, e2, r2, rfl, hp, hq, np, nq, lp, lq, kp, kq, hd, k⟩ := h
    refine ⟨_, (pss_cons (ps_set (i := 2) sc_AlikeFor.nd rfl (.inl rfl) (pe_op op_add (pe_fld (pv 0) rfl) (pe_fld (pv 1) rfl))) (pss_cons (ps_if (pt_cmpR op_gt (pe_fld (pv 1) rfl) (pe_fld (pv 0) rfl) (nomark _)) (pss_one (ps_ret (pe_call GAgreement (hr.mono (by first | decide | omega)) rfl DAgreement.gl DAgreement.fn.kp DAgreement.bd .nil pass0 (pa_cons (pe_tup (pa_cons (pv 0) (pa_cons (pv 2) (pa_cons pe_non pa_nil)))) (pa_cons (pe_call GOpened (hr.mono (by first | decide | omega)) rfl DOpened.gl DOpened.fn.kp DOpened.bd .nil pass0 (pa_cons (pv 1) (pa_cons (pe_tup (pa_cons (pv 1) (pa_cons (pv 2) (pa_cons pe_non pa_nil)))) pa_nil))) (pa_cons (pv 2) pa_nil)))))) pss_nil) (pss_one (ps_ret (pe_call GAgreement (hr.mono (by first | decide | omega)) rfl DAgreement.gl DAgreement.fn.kp DAgreement.bd .nil pass0 (pa_cons (pe_call GOpened (hr.mono (by first | decide | omega)) rfl DOpened.gl DOpened.fn.kp DOpened.bd .nil pass0 (pa_cons (pv 0) (pa_cons (pe_tup (pa_cons (pv 0) (pa_cons (pv 2) (pa_cons pe_non pa_nil)))) pa_nil))) (pa_cons (pe_tup (pa_cons (pv 1) (pa_cons (pv 2) (pa_cons pe_non pa_nil)))) (pa_cons (pv 2) pa_nil)))))))), ?_⟩
    obtain ⟨a, dx, xx, l, r, tt, tf, rfl, ha⟩ := PX.objF hp
    obtain ⟨b, dy, xy, l2, r2', tt2, tf2, rfl, hb⟩ := PX.objF hq
    have pp := Pt.nz_pos np
    have pq := Pt.nz_pos nq
    have h2W := two_WL
    refine ⟨_, rfl, a, C, dx, _, _, rfl, ha, T.cl, T.nWide, pf_wide, _, rfl, b, C, dy, _, _, rfl, hb, T.cl, T.nWide, pf_wide, _, _, rfl, rfl, ?_⟩
    have em : ((p.den.length : Nat) : Int) + ((q.den.length : Nat) : Int) = ((p.den.length + q.den.length : Nat) : Int) := (Int.natCast_add _ _).symm
    dsimp only
    rw [em]
    generalize hmany : p.den.length + q.den.length = many at *
    have am : many ≤ many * p.den.length := Nat.le_mul_of_pos_right _ pp
    have bm : many ≤ many * q.den.length := Nat.le_mul_of_pos_right _ pq
    have am1 : (many + 1) * p.den.length = many * p.den.length + p.den.length := Nat.succ_mul _ _
    have bm1 : (many + 1) * q.den.length = many * q.den.length + q.den.length := Nat.succ_mul _ _
    have gp : Gd [(.p p, many)] := gd_many np lp (by omega)
    have gq : Gd [(.p q, many)] := gd_many nq lq (by omega)
    have gp1 : Gd [(.p p, many + 1)] := gd_many np lp (by omega)
    have gq1 : Gd [(.p q, many + 1)] := gd_many nq lq (by omega)
    refine ⟨_, rfl, b, C, dy, _, _, rfl, hb, T.cl, T.nWide, pf_wide, _, rfl, a, C, dx, _, _, rfl, ha, T.cl, T.nWide, pf_wide, _, _, rfl, rfl, _, rfl, ?_⟩
    refine ite2 (fun hz => ?_) (fun hz => ?_)
    · have hz' : p.den.length < q.den.length := by have := of_decide_eq_true hz; omega
      refine ⟨_, rfl, _, rfl, three_line, fun t1 ht1 => ⟨_, rfl, _, rfl, _, rfl, three_line, fun t2 ht2 => ?_⟩⟩
      have s1 := Same.new (o := .tup [.ref a, .int (many : Nat), .non]) ht1
      have s2 := Same.new (o := .tup [.ref b, .int (many : Nat), .non]) ht2
      have s12 := s1.trans s2
      refine ⟨.ref b, .ref t2, q, [(.p q, many)], rfl, PX.mono s12 hq, .cons (t := many) (u := .p q) upd_same (PX.mono s12 hq) .nil, fun v5 H5 s5 hv5 => ⟨_, rfl, ?_⟩⟩
      have s6 := s12.trans s5
      have op : den (cont q ++ [((.p q, many) : Un En × Nat)]) = rpt (many + 1) q.den := by
        have := den_opens (p := q) (t := many + 1) (us := []) (by omega)
        rw [Nat.add_sub_cancel] at this
        rw [this, den_many]
      have dv := Vis.deeper (p := q) (t := many + 1) (us := []) (m := many) (by omega) (by omega)
      rw [Nat.add_sub_cancel] at dv
      have dl : dep e1 (e1 + 1) q.rk (q.rk + 1) < dep e1 r1 e2 r2 := dep_less (by omega)
      have go := opens_ok (v := .ref b) gq1 (by omega)
      rw [Nat.add_sub_cancel] at go
      refine ⟨.ref t1, v5, [(.p p, many)], _, many, e1, e1 + 1, q.rk, q.rk + 1, rfl, .cons (t := many) (u := .p p) (s5 _ _ (s2 _ _ upd_same)) (PX.mono s6 hp) .nil, hv5, fun _ => gp, fun _ => go, vis_many kp, dv, by omega, fun H7 s7 => ?_⟩
      rw [op, den_many]
      exact k H7 many (many + 1) (s6.trans s7) am (by omega)
    · have hz' : q.den.length ≤ p.den.length := by
        have z : ¬ (((p.den.length : Nat) : Int) < ((q.den.length : Nat) : Int)) := fun z => hz (decide_eq_true z)
        omega
      refine ⟨_, rfl, _, rfl, _, rfl, three_line, fun t1 ht1 => ?_⟩
      have s1 := Same.new (o := .tup [.ref a, .int (many : Nat), .non]) ht1
      refine ⟨.ref a, .ref t1, p, [(.p p, many)], rfl, PX.mono s1 hp, .cons (t := many) (u := .p p) upd_same (PX.mono s1 hp) .nil, fun v5 H5 s5 hv5 => ⟨_, rfl, _, rfl, three_line, fun t2 ht2 => ⟨_, rfl, ?_⟩⟩⟩
      have s2 := Same.new (o := .tup [.ref b, .int (many : Nat), .non]) ht2
      have s6 := (s1.trans s5).trans s2
      have op : den (cont p ++ [((.p p, many) : Un En × Nat)]) = rpt (many + 1) p.den := by
        have := den_opens (p := p) (t := many + 1) (us := []) (by omega)
        rw [Nat.add_sub_cancel] at this
        rw [this, den_many]
      have dv := Vis.deeper (p := p) (t := many + 1) (us := []) (m := many) (by omega) (by omega)
      rw [Nat.add_sub_cancel] at dv
      have dl : dep p.rk (p.rk + 1) e2 (e2 + 1) < dep e1 r1 e2 r2 := dep_less (by omega)
      have go := opens_ok (v := .ref a) gp1 (by omega)
      rw [Nat.add_sub_cancel] at go
      refine ⟨v5, .ref t2, _, [(.p q, many)], many, p.rk, p.rk + 1, e2, e2 + 1, rfl, hv5.mono s2, .cons (t := many) (u := .p q) upd_same (PX.mono s6 hq) .nil, fun _ => go, fun _ => gq, dv, vis_many kq, by omega, fun H7 s7 => ?_⟩
      rw [op, den_many]
      exact k H7 (many + 1) many (s6.trans s7) (by omega) bm
end
end Wd
set_option Elab.async false
set_option linter.all false
set_option maxRecDepth 100000
set_option maxHeartbeats 4000000
set_option exponentiation.threshold 100000
namespace Wd
open PySem L2
theorem vals3w {x y z : V} {us : List Value} (r : Vals [x, y, z] us) : ∃ u w' q, us = [u, w', q] ∧ RelV x u ∧ RelV y w' ∧ RelV z q := by
  cases r with
  | cons r1 r2 =>
    obtain ⟨u, w', rfl, a, b⟩ := vals2 r2
    exact ⟨_, _, _, rfl, r1, a, b⟩
theorem call_min3 {X : Cx} (hc : X.calm = true) : CallR X (.builtin "min") (fun xs H Q => ∃ i j l : Int, xs = [.int i, .int j, .int l] ∧ Q (.int (min (min i j) l)) H) := by
  intro pins s σ H xs us Q I r h
  obtain ⟨i, j, l, rfl, q⟩ := h
  obtain ⟨u, w', z, rfl, ⟨t, rfl⟩, ⟨t', rfl⟩, ⟨t2, rfl⟩⟩ := vals3w r
  refine min_three_ints (I.ok.hd hc) fun h' tk k => ⟨_, H, I.kept k, ?_, q⟩
  by_cases hj : j < i
  · rw [if_pos hj]
    by_cases hl : l < j
    · rw [if_pos hl]; exact ⟨_, by rw [show min (min i j) l = l by omega]⟩
    · rw [if_neg hl]; exact ⟨_, by rw [show min (min i j) l = j by omega]⟩
  · rw [if_neg hj]
    by_cases hl : l < i
    · rw [if_pos hl]; exact ⟨_, by rw [show min (min i j) l = l by omega]⟩
    · rw [if_neg hl]; exact ⟨_, by rw [show min (min i j) l = i by omega]⟩
section
variable {P : Program} {w : World} {K : PySem.W.Frag} {mg : Str → Option Value} {base : Heap} {f C : Addr} {fd : FuncData} {H : Hp}
theorem sc_Agreement : FnScope ["one", "other", "most", "found", "unit", "times", "rest", "thing", "turns", "more", "many", "alike", "due", "row", "part"] ["one", "other", "most"] (defScope sAgreement) := ⟨rfl, rfl, rfl, by decide +kernel, rfl, by decide +kernel, by decide +kernel⟩
theorem ok_Agreement (D : DefF K mg "agreement" sAgreement ["one", "other", "most"] f fd) (B : Blt mg) (T : PCl K C) {fF fW fR fG fA fL : Addr} {fdF fdW fdR fdG fdA fdL : FuncData} {n : Nat}
    (DFirstUnit : DefF K mg "first_unit" sFirstUnit ["units"] fF fdF) (GFirstUnit : FnOk P w K mg base CX0 2 fF fdF ["units"] (spFirstUnit C))
    (DWidth : DefF K mg "width" sWidth ["unit"] fW fdW) (GWidth : FnOk P w K mg base CX0 1 fW fdW ["unit"] (spWidth C))
    (DRunAhead : DefF K mg "run_ahead" sRunAhead ["units", "most"] fR fdR) (GRunAhead : FnOk P w K mg base CX0 3 fR fdR ["units", "most"] (spRunAhead C))
    (DGoneBy : DefF K mg "gone_by" sGoneBy ["units", "many"] fG fdG) (GGoneBy : FnOk P w K mg base CX0 6 fG fdG ["units", "many"] (spGoneBy C))
    (DAlikeAhead : DefF K mg "alike_ahead" sAlikeAhead ["one", "other", "most"] fA fdA) (GAlikeAhead : FnOk P w K mg base CX0 (2 * n + 6) fA fdA ["one", "other", "most"] (spAA C n))
    (DAlikeFor : DefF K mg "alike_for" sAlikeFor ["unit", "other"] fL fdL) (GAlikeFor : FnOk P w K mg base CX0 (2 * n + 6) fL fdL ["unit", "other"] (spAF C n)) :
    FnOk P w K mg base CX0 (2 * n + 7) f fd ["one", "other", "most"] (spAgr C n) := by
  refine D.fn.ok sc_Agreement (fun vs H Q E h => ?_) (fun cdv A outer s H vs Q E hr h => ?_)
  · obtain ⟨v1, v2, us1, us2, most, e1, r1, e2, r2, rfl, _⟩ := h; rfl
  · obtain ⟨v1, v2, us1, us2, most, e1, r1, e2, r2, rfl, hu1, hu2, g1, g2, vz1, vz2, hd, k⟩ := h
    refine ⟨_, (pss_cons (ps_set (i := 3) sc_Agreement.nd rfl (.inl rfl) pe_int) (pss_cons (ps_while PassesOwn.never (pt_cmpR op_lt (pv 3) (pv 2) (nomark _)) (pss_cons (ps_par (i := 0) (j := 1) (by rfl) sc_Agreement.nd rfl rfl (by decide) rfl rfl (pa_cons (pe_call GFirstUnit (hr.mono (by first | decide | omega)) rfl DFirstUnit.gl DFirstUnit.fn.kp DFirstUnit.bd .nil pass0 (pa_cons (pv 0) pa_nil)) (pa_cons (pe_call GFirstUnit (hr.mono (by first | decide | omega)) rfl DFirstUnit.gl DFirstUnit.fn.kp DFirstUnit.bd .nil pass0 (pa_cons (pv 1) pa_nil)) pa_nil)) (by rfl)) (pss_cons (ps_if (PW.pt (pw_or (pt_cmp (pc_isN (pv 0)) rfl) (pw_or1 (pt_cmp (pc_isN (pv 1)) rfl)))) (pss_one (ps_ret (pv 3))) pss_nil) (pss_cons (ps_asg (pv 0) (pg_tup rfl (pgs_cons (pg_name (i := 4) sc_Agreement.nd rfl (.inl rfl)) (pgs_cons (pg_name (i := 5) sc_Agreement.nd rfl (.inl rfl)) (pgs_cons (pg_name (i := 6) sc_Agreement.nd rfl (.inl rfl)) pgs_nil))))) (pss_cons (ps_asg (pv 1) (pg_tup rfl (pgs_cons (pg_name (i := 7) sc_Agreement.nd rfl (.inl rfl)) (pgs_cons (pg_name (i := 8) sc_Agreement.nd rfl (.inl rfl)) (pgs_cons (pg_name (i := 9) sc_Agreement.nd rfl (.inl rfl)) pgs_nil))))) (pss_cons (ps_set (i := 10) sc_Agreement.nd rfl (.inl rfl) (pe_callB (call_min3 rfl) (by rfl) B.min PyProof.Rows.boot_min (pa_cons (pe_op op_mulW (pv 5) (pe_call GWidth (hr.mono (by first | decide | omega)) rfl DWidth.gl DWidth.fn.kp DWidth.bd .nil pass0 (pa_cons (pv 4) pa_nil))) (pa_cons (pe_op op_mulW (pv 8) (pe_call GWidth (hr.mono (by first | decide | omega)) rfl DWidth.gl DWidth.fn.kp DWidth.bd .nil pass0 (pa_cons (pv 7) pa_nil))) (pa_cons (pe_op op_sub (pv 2) (pv 3)) pa_nil))))) (pss_cons (ps_if (PW.pt (pw_and (pt_val (pe_callB call_isi (by rfl) B.isi PyProof.Rows.boot_isinstance (pa_cons (pv 4) (pa_cons (pe_bltn (v := .ty "tuple") (by rfl) B.tuple PyProof.Rows.boot_tuple rfl) pa_nil)))) (pw_and1 (pt_val (pe_callB call_isi (by rfl) B.isi PyProof.Rows.boot_isinstance (pa_cons (pv 7) (pa_cons (pe_bltn (v := .ty "tuple") (by rfl) B.tuple PyProof.Rows.boot_tuple rfl) pa_nil))))))) (pss_one (ps_par (i := 11) (j := 12) (by rfl) sc_Agreement.nd rfl rfl (by decide) rfl rfl (pa_cons (pe_callTy call_int1 (by rfl) B.int PyProof.Rows.boot_int (pa_cons (pe_cmpR (op_eqD hr.units) (pv 4) (pv 7) (nomark _)) pa_nil)) (pa_cons pe_int pa_nil)) (by rfl))) (pss_one (ps_if (PW.pt (pw_or (pt_val (pe_callB call_isi (by rfl) B.isi PyProof.Rows.boot_isinstance (pa_cons (pv 4) (pa_cons (pe_bltn (v := .ty "tuple") (by rfl) B.tuple PyProof.Rows.boot_tuple rfl) pa_nil)))) (pw_or1 (pt_val (pe_callB call_isi (by rfl) B.isi PyProof.Rows.boot_isinstance (pa_cons (pv 7) (pa_cons (pe_bltn (v := .ty "tuple") (by rfl) B.tuple PyProof.Rows.boot_tuple rfl) pa_nil))))))) (pss_cons (ps_asg (pe_ifExp (pt_val (pe_callB call_isi (by rfl) B.isi PyProof.Rows.boot_isinstance (pa_cons (pv 4) (pa_cons (pe_bltn (v := .ty "tuple") (by rfl) B.tuple PyProof.Rows.boot_tuple rfl) pa_nil)))) (pe_tup (pa_cons (pv 0) (pa_cons (pv 7) pa_nil))) (pe_tup (pa_cons (pv 1) (pa_cons (pv 4) pa_nil)))) (pg_tup rfl (pgs_cons (pg_name (i := 13) sc_Agreement.nd rfl (.inl rfl)) (pgs_cons (pg_name (i := 14) sc_Agreement.nd rfl (.inl rfl)) pgs_nil)))) (pss_cons (ps_set (i := 10) sc_Agreement.nd rfl (.inl rfl) (pe_call GRunAhead (hr.mono (by first | decide | omega)) rfl DRunAhead.gl DRunAhead.fn.kp DRunAhead.bd .nil pass0 (pa_cons (pv 13) (pa_cons (pe_callB (call_min2 rfl) (by rfl) B.min PyProof.Rows.boot_min (pa_cons (pe_fld (pv 14) rfl) (pa_cons (pe_op op_sub (pv 2) (pv 3)) pa_nil))) pa_nil)))) (pss_one (ps_par (i := 11) (j := 12) (by rfl) sc_Agreement.nd rfl rfl (by decide) rfl rfl (pa_cons (pe_call GAlikeAhead (hr.mono (by first | decide | omega)) rfl DAlikeAhead.gl DAlikeAhead.fn.kp DAlikeAhead.bd .nil pass0 (pa_cons (pv 0) (pa_cons (pv 1) (pa_cons (pv 10) pa_nil)))) (pa_cons (pv 10) pa_nil)) (by rfl))))) (pss_one (ps_if (pt_cmpR op_lt (pv 10) (pe_op op_add (pe_call GWidth (hr.mono (by first | decide | omega)) rfl DWidth.gl DWidth.fn.kp DWidth.bd .nil pass0 (pa_cons (pv 4) pa_nil)) (pe_call GWidth (hr.mono (by first | decide | omega)) rfl DWidth.gl DWidth.fn.kp DWidth.bd .nil pass0 (pa_cons (pv 7) pa_nil))) (nomark _)) (pss_one (ps_par (i := 11) (j := 12) (by rfl) sc_Agreement.nd rfl rfl (by decide) rfl rfl (pa_cons (pe_call GAlikeAhead (hr.mono (by first | decide | omega)) rfl DAlikeAhead.gl DAlikeAhead.fn.kp DAlikeAhead.bd .nil pass0 (pa_cons (pv 0) (pa_cons (pv 1) (pa_cons (pv 10) pa_nil)))) (pa_cons (pv 10) pa_nil)) (by rfl))) (pss_one (ps_par (i := 11) (j := 12) (by rfl) sc_Agreement.nd rfl rfl (by decide) rfl rfl (pa_cons (pe_call GAlikeFor (hr.mono (by first | decide | omega)) rfl DAlikeFor.gl DAlikeFor.fn.kp DAlikeFor.bd .nil pass0 (pa_cons (pv 4) (pa_cons (pv 7) pa_nil))) (pa_cons (pe_op op_add (pe_call GWidth (hr.mono (by first | decide | omega)) rfl DWidth.gl DWidth.fn.kp DWidth.bd .nil pass0 (pa_cons (pv 4) pa_nil)) (pe_call GWidth (hr.mono (by first | decide | omega)) rfl DWidth.gl DWidth.fn.kp DWidth.bd .nil pass0 (pa_cons (pv 7) pa_nil))) pa_nil)) (by rfl)))))))) (pss_cons (ps_if (pt_cmpR op_lt (pv 11) (pv 12) (nomark _)) (pss_one (ps_ret (pe_op op_add (pv 3) (pv 11)))) pss_nil) (pss_cons (ps_set (i := 3) sc_Agreement.nd rfl (.inl rfl) (pe_op op_add (pv 3) (pv 10))) (pss_one (ps_par (i := 0) (j := 1) (by rfl) sc_Agreement.nd rfl rfl (by decide) rfl rfl (pa_cons (pe_call GGoneBy (hr.mono (by first | decide | omega)) rfl DGoneBy.gl DGoneBy.fn.kp DGoneBy.bd .nil pass0 (pa_cons (pv 0) (pa_cons (pv 10) pa_nil))) (pa_cons (pe_call GGoneBy (hr.mono (by first | decide | omega)) rfl DGoneBy.gl DGoneBy.fn.kp DGoneBy.bd .nil pass0 (pa_cons (pv 1) (pa_cons (pv 10) pa_nil))) pa_nil)) (by rfl)))))))))))) (pss_one (ps_ret (pv 3))))), ?_⟩
    refine ⟨fun m σ H' => ∃ (w1 w2 : V) (a1 a2 : Us En) (fo : Nat) (i : Int) (o4 o5 o6 o7 o8 o9 o10 o11 o12 o13 o14 : Option V), σ = [some w1, some w2, some (.int (most : Nat)), some (.int i), o4, o5, o6, o7, o8, o9, o10, o11, o12, o13, o14] ∧ i = (fo : Nat) ∧ fo ≤ most ∧ Same H H' ∧
        UsAt C H' w1 a1 ∧ UsAt C H' w2 a2 ∧ (0 < most → Gd a1) ∧ (0 < most → Gd a2) ∧ Vis e1 r1 a1 (most - fo) ∧ Vis e2 r2 a2 (most - fo) ∧ lcp (den us1) (den us2) = fo + lcp (den a1) (den a2) ∧ m = most - fo,
      ⟨_, v1, v2, us1, us2, 0, 0, none, none, none, none, none, none, none, none, none, none, none, rfl, rfl, Nat.zero_le _, Same.refl H, hu1, hu2, g1, g2, vz1, vz2, (Nat.zero_add _).symm, rfl⟩, ?_⟩
    clear hu1 hu2 g1 g2 vz1 vz2
    rintro m σ H' ⟨w1, w2, a1, a2, fo, i, o4, o5, o6, o7, o8, o9, o10, o11, o12, o13, o14, rfl, rfl, hfo, s0, hu1, hu2, g1, g2, vz1, vz2, hl, rfl⟩
    refine ⟨_, rfl, _, rfl, _, _, rfl, rfl, _, rfl, ?_⟩
    refine ite2 (fun h => ?_) (fun h => ?_)
    · have hlt : fo < most := by have := of_decide_eq_true h; omega
      refine ⟨_, fun _ _ z => z, ?_⟩
      refine ⟨_, rfl, w1, a1, rfl, hu1, fun x1 H1 b1 s1 hb1 kp1 hd1 _ => ⟨_, rfl, w2, a2, rfl, hu2.mono s1, fun x2 H2 b2 s2 hb2 kp2 hd2 _ => ⟨_, _, rfl, ?_⟩⟩⟩
      have q1 := kp1.2.2 (g1 (by omega))
      have q2 := kp2.2.2 (g2 (by omega))
      have vy1 := kp1.2.1 _ _ _ vz1
      have vy2 := kp2.2.1 _ _ _ vz2
      rw [← kp1.1, ← kp2.1] at hl
      have hb1 := hb1.mono s2
      have s3 := (s0.trans s1).trans s2
      clear kp1 kp2 g1 g2 vz1 vz2 hu1 hu2
      have none0 : ∀ H9, Same H H9 → lcp (den b1) (den b2) = 0 → Q (.int (fo : Nat)) H9 := fun H9 s9 z => by
        have := k H9 s9
        rw [hl, z] at this
        rwa [show min most (fo + 0) = fo by omega] at this
      refine ⟨_, rfl, _, rfl, ?_⟩
      cases hb1 with
      | nil => exact iteT (iteT ⟨_, rfl, none0 _ s3 (lcp_nil _)⟩)
      | @cons p1 y1 z1 u1 t1 c1 h11 h12 h13 =>
      refine iteF ⟨_, rfl, _, rfl, ?_⟩
      cases hb2 with
      | nil => exact iteT ⟨_, rfl, none0 _ s3 (lcp_nil' _)⟩
      | @cons p2 y2 z2 u2 t2 c2 h21 h22 h23 =>
      refine iteF ?_
      refine ⟨_, rfl, p1, _, rfl, SqT.of h11, rfl, _, _, rfl, _, _, rfl, _, _, rfl, rfl, ?_⟩
      refine ⟨_, rfl, p2, _, rfl, SqT.of h21, rfl, _, _, rfl, _, _, rfl, _, _, rfl, rfl, ?_⟩
      have wp1 : 0 < u1.w := Un.w_pos q1.1.1
      have wl1 : u1.w < WL := q1.2.1
      have tl1 : t1 < WM := q1.2.2.1
      have wp2 : 0 < u2.w := Un.w_pos q2.1.1
      have wl2 : u2.w < WL := q2.2.1
      have tl2 : t2 < WM := q2.2.2.1
      have hk1 : 1 ≤ t1 ∧ (u1.isE = true ∨ 2 ≤ t1) := by
        rcases hd1 with z | ⟨_, _, _, z, a, b⟩
        · cases z
        · cases z; exact ⟨a, b⟩
      have hk2 : 1 ≤ t2 ∧ (u2.isE = true ∨ 2 ≤ t2) := by
        rcases hd2 with z | ⟨_, _, _, z, a, b⟩
        · cases z
        · cases z; exact ⟨a, b⟩
      have tw1 : u1.w ≤ t1 * u1.w := Nat.le_mul_of_pos_left _ hk1.1
      have tw2 : u2.w ≤ t2 * u2.w := Nat.le_mul_of_pos_left _ hk2.1
      have len1 := len_den_cons u1 t1 c1
      have len2 := len_den_cons u2 t2 c2
      have hA : UsAt C H2 (.ref p1) ((u1, t1) :: c1) := .cons h11 h12 h13
      have hB : UsAt C H2 (.ref p2) ((u2, t2) :: c2) := .cons h21 h22 h23
      refine ⟨_, rfl, _, rfl, _, u1, rfl, h12, _, _, rfl, rfl, cm_ML tl1 wl1, _, rfl, _, rfl, _, u2, rfl, h22, _, _, rfl, rfl, cm_ML tl2 wl2, _, rfl, _, rfl, _, _, rfl, rfl, _, _, _, rfl, ?_⟩
      have ec : min (min (((t1 : Nat) : Int) * ((u1.w : Nat) : Int)) (((t2 : Nat) : Int) * ((u2.w : Nat) : Int))) (((most : Nat) : Int) - ((fo : Nat) : Int)) = ((min (min (t1 * u1.w) (t2 * u2.w)) (most - fo) : Nat) : Int) := by
        rw [← Int.natCast_mul, ← Int.natCast_mul]; omega
      dsimp only
      rw [ec]
      generalize hc : min (min (t1 * u1.w) (t2 * u2.w)) (most - fo) = c
      obtain ⟨ty1, hty1, kit1⟩ := h12.ty T
      obtain ⟨ty2, hty2, kit2⟩ := h22.ty T
      refine ⟨_, rfl, _, _, _, _, _, rfl, ClsV.ty _, hty1, kit1, _, rfl, ?_⟩
      cases u1 with
      | e x =>
        cases u2 with
        | e y =>
          have o1 : t1 = 1 := by have := q1.2.2.2.1 rfl; omega
          have o2 : t2 = 1 := by have := q2.2.2.2.1 rfl; omega
          have w1 : (Un.e x).w = 1 := rfl
          have w2 : (Un.e y).w = 1 := rfl
          have c1' : c = 1 := by rw [o1, o2, w1, w2] at hc; omega
          subst c1'
          refine iteT ⟨_, rfl, _, _, _, _, _, rfl, ClsV.ty _, hty2, kit2, _, rfl, iteT ?_⟩
          refine ⟨_, rfl, _, rfl, _, _, EAt.dp h12, EAt.dp h22, enD_shaped (EAt.isOk h12), enD_shaped (EAt.isOk h22), ?_⟩
          rw [enD_eqv]
          refine .inr ⟨_, rfl, _, _, rfl, ?_⟩
          have ex : (if decide (x = y) = true then (1 : Int) else 0) = ((if x = y then 1 else 0 : Nat) : Int) := by
            by_cases z : x = y
            · rw [if_pos z, decide_eq_true z]; rfl
            · rw [if_neg z, decide_eq_false z]; rfl
          rw [ex]
          have sC := Same.refl H2
          have hl1 : 1 ≤ (den ((.e x, t1) :: c1)).length := by omega
          have hl2 : 1 ≤ (den ((.e y, t2) :: c2)).length := by omega
          have dl : lcp (den ((.e x, t1) :: c1)) (den ((.e y, t2) :: c2)) = if x = y then lcp (den c1) (den c2) + 1 else 0 := by
            rw [o1, o2, den_cons, den_cons, rpt_one, rpt_one]; rfl
          have hal1 : (if x = y then 1 else 0 : Nat) < 1 → (if x = y then 1 else 0 : Nat) = lcp (den ((.e x, t1) :: c1)) (den ((.e y, t2) :: c2)) ∧ fo + (if x = y then 1 else 0 : Nat) ≤ most := fun z => by
            rw [dl]
            by_cases q : x = y
            · rw [if_pos q] at z; omega
            · rw [if_neg q, if_neg q]; exact ⟨rfl, by omega⟩
          have hal2 : 1 ≤ (if x = y then 1 else 0 : Nat) → 1 ≤ lcp (den ((.e x, t1) :: c1)) (den ((.e y, t2) :: c2)) := fun z => by
            rw [dl]
            by_cases q : x = y
            · rw [if_pos q]; omega
            · rw [if_neg q] at z; omega
          generalize (if x = y then 1 else 0 : Nat) = al at hal1 hal2 ⊢

          refine ⟨_, rfl, _, rfl, _, _, rfl, rfl, _, rfl, ?_⟩
          refine ite2 (fun hz => ?_) (fun hz => ?_)
          · have hz' : al < 1 := by have := of_decide_eq_true hz; omega
            obtain ⟨ea, eb⟩ := hal1 hz'
            refine ⟨_, rfl, _, rfl, _, _, rfl, rfl, ?_⟩
            have := k H2 (s3.trans sC)
            rw [hl, ← ea, show min most (fo + al) = fo + al by omega, Int.natCast_add] at this
            exact this
          · have hz' : 1 ≤ al := by
              have z : ¬ (((al : Nat) : Int) < ((1 : Nat) : Int)) := fun z => hz (decide_eq_true z)
              omega
            have hle := hal2 hz'
            refine ⟨_, rfl, _, rfl, _, _, rfl, rfl, _, rfl, _, rfl, .ref p1, _, 1, rfl, hA.mono sC, q1, hl1, fun x5 H5 b5 s5 hu5 go5 => ⟨_, rfl, _, rfl, .ref p2, _, 1, rfl, hB.mono (sC.trans s5), q2, hl2, fun x6 H6 b6 s6 hu6 go6 => ?_⟩⟩
            refine ⟨_, _, rfl, most - (fo + 1), by omega, x5, x6, b5, b6, fo + 1, _, _, _, _, _, _, _, _, _, _, _, _, rfl, (Int.natCast_add _ _).symm, by omega, ((s3.trans sC).trans s5).trans s6, hu5.mono s6, hu6, fun _ => go5.2.2 q1, fun _ => go6.2.2 q2,
              go5.2.1 _ _ _ (by rw [show most - (fo + 1) + 1 = most - fo by omega]; exact vy1), go6.2.1 _ _ _ (by rw [show most - (fo + 1) + 1 = most - fo by omega]; exact vy2), ?_, rfl⟩
            rw [hl, lcp_drop hle, go5.1, go6.1, Nat.add_assoc]
        | p q =>
          refine iteT ⟨_, rfl, _, _, _, _, _, rfl, ClsV.ty _, hty2, kit2, _, rfl, iteF ?_⟩
          refine ⟨_, rfl, _, _, _, _, _, rfl, ClsV.ty _, hty1, kit1, _, rfl, iteT (iteT ?_)⟩
          refine ⟨_, rfl, _, _, _, _, _, rfl, ClsV.ty _, hty1, kit1, _, rfl, iteT ?_⟩

          obtain ⟨ab, db, xb, lb, rb, tb, tfb, rfl, hab⟩ := PX.objF h22
          refine ⟨_, rfl, _, rfl, (Nat.le_trans (show 2 ≤ 3 by decide) three_line), fun tq htq => ⟨tq, _, rfl, SqT.of upd_same, rfl, _, _, rfl, _, _, rfl, rfl, ?_⟩⟩
          have sq := Same.new (o := .tup [(.ref p1), .ref ab]) htq
          have h12 := UAt.mono sq h12
          have h22 := UAt.mono sq h22
          refine ⟨_, rfl, _, rfl, ab, C, db, _, _, rfl, sq _ _ hab, T.cl, T.nWide, pf_wide, _, rfl, _, rfl, _, _, rfl, rfl, _, _, rfl, ?_⟩
          have em : (if ((most : Nat) : Int) - ((fo : Nat) : Int) < ((q.den.length : Nat) : Int) then ((most : Nat) : Int) - ((fo : Nat) : Int) else ((q.den.length : Nat) : Int)) = ((min q.den.length (most - fo) : Nat) : Int) := by
            split <;> omega
          refine ⟨(.ref p1), ((.e x, t1) :: c1), min q.den.length (most - fo), (by
              show _ = [(.ref p1), V.int ((min q.den.length (most - fo) : Nat) : Int)]
              rw [← em]; rfl), hA.mono sq, q1, fun c' H4 s4 hc'm hc'l hc'p => ?_⟩
          have sC' := sq.trans s4
          have pw1 : 0 < q.den.length := Pt.nz_pos q2.1.1
          have hc'1 : 1 ≤ c' := hc'p (by omega) (by omega) ⟨fun _ => ⟨Nat.zero_le _, Nat.zero_le _, fun z => absurd z (Nat.lt_irrefl _)⟩, by
            rw [show 1 - t1 * (Un.e x).w = 0 by omega]; exact Vis.zero _⟩
          have wq : (Un.p q).w = q.den.length := rfl
          refine ⟨_, rfl, _, rfl, _, rfl, .ref p1, .ref p2, .e x, t1, c1, .p q, t2, c2, c', e1, r1, e2, r2, rfl, hA.mono sC', hB.mono sC', q1, q2, vy1.mono (by omega), vy2.mono (by omega), hd, hc'1, hk1.2, hk2.2, (fun z => nomatch z.2), fun z => (by omega), fun z => (nomatch z), by omega, fun H5 s5 => ⟨_, rfl, _, _, rfl, ?_⟩⟩
          have sC := sC'.trans s5
          have hl1 : c' ≤ (den ((.e x, t1) :: c1)).length := by omega
          have hl2 : c' ≤ (den ((.p q, t2) :: c2)).length := by omega
          generalize hlcp : lcp (den ((.e x, t1) :: c1)) (den ((.p q, t2) :: c2)) = L at hl ⊢
          have hal1 : min c' L < c' → min c' L = L ∧ fo + min c' L ≤ most := fun z => ⟨by omega, by omega⟩
          have hal2 : c' ≤ min c' L → c' ≤ L := fun z => by omega
          generalize min c' L = al at hal1 hal2 ⊢
          subst hlcp

          refine ⟨_, rfl, _, rfl, _, _, rfl, rfl, _, rfl, ?_⟩
          refine ite2 (fun hz => ?_) (fun hz => ?_)
          · have hz' : al < c' := by have := of_decide_eq_true hz; omega
            obtain ⟨ea, eb⟩ := hal1 hz'
            refine ⟨_, rfl, _, rfl, _, _, rfl, rfl, ?_⟩
            have := k H5 (s3.trans sC)
            rw [hl, ← ea, show min most (fo + al) = fo + al by omega, Int.natCast_add] at this
            exact this
          · have hz' : c' ≤ al := by
              have z : ¬ (((al : Nat) : Int) < ((c' : Nat) : Int)) := fun z => hz (decide_eq_true z)
              omega
            have hle := hal2 hz'
            refine ⟨_, rfl, _, rfl, _, _, rfl, rfl, _, rfl, _, rfl, .ref p1, _, c', rfl, hA.mono sC, q1, hl1, fun x5 H5 b5 s5 hu5 go5 => ⟨_, rfl, _, rfl, .ref p2, _, c', rfl, hB.mono (sC.trans s5), q2, hl2, fun x6 H6 b6 s6 hu6 go6 => ?_⟩⟩
            refine ⟨_, _, rfl, most - (fo + c'), by omega, x5, x6, b5, b6, fo + c', _, _, _, _, _, _, _, _, _, _, _, _, rfl, (Int.natCast_add _ _).symm, by omega, ((s3.trans sC).trans s5).trans s6, hu5.mono s6, hu6, fun _ => go5.2.2 q1, fun _ => go6.2.2 q2,
              go5.2.1 _ _ _ (by rw [show most - (fo + c') + c' = most - fo by omega]; exact vy1), go6.2.1 _ _ _ (by rw [show most - (fo + c') + c' = most - fo by omega]; exact vy2), ?_, rfl⟩
            rw [hl, lcp_drop hle, go5.1, go6.1, Nat.add_assoc]
      | p p =>
        cases u2 with
        | e y =>
          refine iteF ?_
          refine ⟨_, rfl, _, _, _, _, _, rfl, ClsV.ty _, hty1, kit1, _, rfl, iteF ?_⟩
          refine ⟨_, rfl, _, _, _, _, _, rfl, ClsV.ty _, hty2, kit2, _, rfl, iteT ?_⟩
          refine ⟨_, rfl, _, _, _, _, _, rfl, ClsV.ty _, hty1, kit1, _, rfl, iteF ?_⟩

          obtain ⟨ab, db, xb, lb, rb, tb, tfb, rfl, hab⟩ := PX.objF h12
          refine ⟨_, rfl, _, rfl, (Nat.le_trans (show 2 ≤ 3 by decide) three_line), fun tq htq => ⟨tq, _, rfl, SqT.of upd_same, rfl, _, _, rfl, _, _, rfl, rfl, ?_⟩⟩
          have sq := Same.new (o := .tup [(.ref p2), .ref ab]) htq
          have h12 := UAt.mono sq h12
          have h22 := UAt.mono sq h22
          refine ⟨_, rfl, _, rfl, ab, C, db, _, _, rfl, sq _ _ hab, T.cl, T.nWide, pf_wide, _, rfl, _, rfl, _, _, rfl, rfl, _, _, rfl, ?_⟩
          have em : (if ((most : Nat) : Int) - ((fo : Nat) : Int) < ((p.den.length : Nat) : Int) then ((most : Nat) : Int) - ((fo : Nat) : Int) else ((p.den.length : Nat) : Int)) = ((min p.den.length (most - fo) : Nat) : Int) := by
            split <;> omega
          refine ⟨(.ref p2), ((.e y, t2) :: c2), min p.den.length (most - fo), (by
              show _ = [(.ref p2), V.int ((min p.den.length (most - fo) : Nat) : Int)]
              rw [← em]; rfl), hB.mono sq, q2, fun c' H4 s4 hc'm hc'l hc'p => ?_⟩
          have sC' := sq.trans s4
          have pw1 : 0 < p.den.length := Pt.nz_pos q1.1.1
          have hc'1 : 1 ≤ c' := hc'p (by omega) (by omega) ⟨fun _ => ⟨Nat.zero_le _, Nat.zero_le _, fun z => absurd z (Nat.lt_irrefl _)⟩, by
            rw [show 1 - t2 * (Un.e y).w = 0 by omega]; exact Vis.zero _⟩
          have wp : (Un.p p).w = p.den.length := rfl
          refine ⟨_, rfl, _, rfl, _, rfl, .ref p1, .ref p2, .p p, t1, c1, .e y, t2, c2, c', e1, r1, e2, r2, rfl, hA.mono sC', hB.mono sC', q1, q2, vy1.mono (by omega), vy2.mono (by omega), hd, hc'1, hk1.2, hk2.2, (fun z => nomatch z.1), fun z => (nomatch z), fun z => (by omega), by omega, fun H5 s5 => ⟨_, rfl, _, _, rfl, ?_⟩⟩
          have sC := sC'.trans s5
          have hl1 : c' ≤ (den ((.p p, t1) :: c1)).length := by omega
          have hl2 : c' ≤ (den ((.e y, t2) :: c2)).length := by omega
          generalize hlcp : lcp (den ((.p p, t1) :: c1)) (den ((.e y, t2) :: c2)) = L at hl ⊢
          have hal1 : min c' L < c' → min c' L = L ∧ fo + min c' L ≤ most := fun z => ⟨by omega, by omega⟩
          have hal2 : c' ≤ min c' L → c' ≤ L := fun z => by omega
          generalize min c' L = al at hal1 hal2 ⊢
          subst hlcp

          refine ⟨_, rfl, _, rfl, _, _, rfl, rfl, _, rfl, ?_⟩
          refine ite2 (fun hz => ?_) (fun hz => ?_)
          · have hz' : al < c' := by have := of_decide_eq_true hz; omega
            obtain ⟨ea, eb⟩ := hal1 hz'
            refine ⟨_, rfl, _, rfl, _, _, rfl, rfl, ?_⟩
            have := k H5 (s3.trans sC)
            rw [hl, ← ea, show min most (fo + al) = fo + al by omega, Int.natCast_add] at this
            exact this
          · have hz' : c' ≤ al := by
              have z : ¬ (((al : Nat) : Int) < ((c' : Nat) : Int)) := fun z => hz (decide_eq_true z)
              omega
            have hle := hal2 hz'
            refine ⟨_, rfl, _, rfl, _, _, rfl, rfl, _, rfl, _, rfl, .ref p1, _, c', rfl, hA.mono sC, q1, hl1, fun x5 H5 b5 s5 hu5 go5 => ⟨_, rfl, _, rfl, .ref p2, _, c', rfl, hB.mono (sC.trans s5), q2, hl2, fun x6 H6 b6 s6 hu6 go6 => ?_⟩⟩
            refine ⟨_, _, rfl, most - (fo + c'), by omega, x5, x6, b5, b6, fo + c', _, _, _, _, _, _, _, _, _, _, _, _, rfl, (Int.natCast_add _ _).symm, by omega, ((s3.trans sC).trans s5).trans s6, hu5.mono s6, hu6, fun _ => go5.2.2 q1, fun _ => go6.2.2 q2,
              go5.2.1 _ _ _ (by rw [show most - (fo + c') + c' = most - fo by omega]; exact vy1), go6.2.1 _ _ _ (by rw [show most - (fo + c') + c' = most - fo by omega]; exact vy2), ?_, rfl⟩
            rw [hl, lcp_drop hle, go5.1, go6.1, Nat.add_assoc]
        | p q =>
          refine iteF ?_
          refine ⟨_, rfl, _, _, _, _, _, rfl, ClsV.ty _, hty1, kit1, _, rfl, iteF ?_⟩
          refine ⟨_, rfl, _, _, _, _, _, rfl, ClsV.ty _, hty2, kit2, _, rfl, iteF ?_⟩
          refine ⟨_, rfl, _, rfl, _, .p p, rfl, h12, _, rfl, _, .p q, rfl, h22, _, _, rfl, rfl, _, _, rfl, rfl, _, rfl, ?_⟩
          have hcm : c ≤ most - fo := by omega
          have hc1 : 1 ≤ c := by omega
          have hl1 : c ≤ (den ((.p p, t1) :: c1)).length := by omega
          have hl2 : c ≤ (den ((.p q, t2) :: c2)).length := by omega
          refine ite2 (fun hs => ?_) (fun hs => ?_)
          · have hs' : c < (Un.p p).w + (Un.p q).w := by have := of_decide_eq_true hs; omega
            refine ⟨_, rfl, _, rfl, _, rfl, .ref p1, .ref p2, .p p, t1, c1, .p q, t2, c2, c, e1, r1, e2, r2, rfl, hA, hB, q1, q2, vy1.mono hcm, vy2.mono hcm, hd, hc1, hk1.2, hk2.2, (fun z => nomatch z.1), fun z => (nomatch z), fun z => (nomatch z), hs', fun H5 sC => ⟨_, rfl, _, _, rfl, ?_⟩⟩
            generalize hlcp : lcp (den ((.p p, t1) :: c1)) (den ((.p q, t2) :: c2)) = L at hl ⊢
            have hal1 : min c L < c → min c L = L ∧ fo + min c L ≤ most := fun z => ⟨by omega, by omega⟩
            have hal2 : c ≤ min c L → c ≤ L := fun z => by omega
            generalize min c L = al at hal1 hal2 ⊢
            subst hlcp
            refine ⟨_, rfl, _, rfl, _, _, rfl, rfl, _, rfl, ?_⟩
            refine ite2 (fun hz => ?_) (fun hz => ?_)
            · have hz' : al < c := by have := of_decide_eq_true hz; omega
              obtain ⟨ea, eb⟩ := hal1 hz'
              refine ⟨_, rfl, _, rfl, _, _, rfl, rfl, ?_⟩
              have := k H5 (s3.trans sC)
              rw [hl, ← ea, show min most (fo + al) = fo + al by omega, Int.natCast_add] at this
              exact this
            · have hz' : c ≤ al := by
                have z : ¬ (((al : Nat) : Int) < ((c : Nat) : Int)) := fun z => hz (decide_eq_true z)
                omega
              have hle := hal2 hz'
              refine ⟨_, rfl, _, rfl, _, _, rfl, rfl, _, rfl, _, rfl, .ref p1, _, c, rfl, hA.mono sC, q1, hl1, fun x5 H5 b5 s5 hu5 go5 => ⟨_, rfl, _, rfl, .ref p2, _, c, rfl, hB.mono (sC.trans s5), q2, hl2, fun x6 H6 b6 s6 hu6 go6 => ?_⟩⟩
              refine ⟨_, _, rfl, most - (fo + c), by omega, x5, x6, b5, b6, fo + c, _, _, _, _, _, _, _, _, _, _, _, _, rfl, (Int.natCast_add _ _).symm, by omega, ((s3.trans sC).trans s5).trans s6, hu5.mono s6, hu6, fun _ => go5.2.2 q1, fun _ => go6.2.2 q2,
                go5.2.1 _ _ _ (by rw [show most - (fo + c) + c = most - fo by omega]; exact vy1), go6.2.1 _ _ _ (by rw [show most - (fo + c) + c = most - fo by omega]; exact vy2), ?_, rfl⟩
              rw [hl, lcp_drop hle, go5.1, go6.1, Nat.add_assoc]

          · have hs' : (Un.p p).w + (Un.p q).w ≤ c := by
              have z : ¬ (((c : Nat) : Int) < (((Un.p p).w : Nat) : Int) + (((Un.p q).w : Nat) : Int)) := fun z => hs (decide_eq_true z)
              omega
            have lp1 : (Un.p p).lv t1 = p.rk + 1 := Un.lv_two p (by rcases hk1.2 with z | z; cases z; exact z)
            have lp2 : (Un.p q).lv t2 = q.rk + 1 := Un.lv_two q (by rcases hk2.2 with z | z; cases z; exact z)
            have k1 := (vy1.1 (by omega)).2.2 (by omega)
            have k2 := (vy2.1 (by omega)).2.2 (by omega)
            rw [lp1] at k1
            rw [lp2] at k2
            refine ⟨_, rfl, _, rfl, y1, y2, p, q, e1, r1, e2, r2, rfl, h12, h22, q1.1.1, q2.1.1, wl1, wl2, k1, k2, hd, fun H5 a b sC ha hb => ?_⟩
            refine ⟨_, rfl, _, .p p, rfl, UAt.mono sC h12, _, rfl, _, .p q, rfl, UAt.mono sC h22, _, _, rfl, rfl, _, _, rfl, ?_⟩
            have ev := lcp_ever (x := p.den) (y := q.den) (a := a) (b := b) (m := t1) (n := t2) (as := den c1) (bs := den c2) (c := c) wp1 wp2 ha hb (show c ≤ t1 * (Un.p p).w by omega) (show c ≤ t2 * (Un.p q).w by omega) hs'
            have ev1 : lcp (rpt a p.den) (rpt b q.den) < p.den.length + q.den.length → lcp (den ((.p p, t1) :: c1)) (den ((.p q, t2) :: c2)) = lcp (rpt a p.den) (rpt b q.den) := ev.1
            have ev2 : p.den.length + q.den.length ≤ lcp (rpt a p.den) (rpt b q.den) → c ≤ lcp (den ((.p p, t1) :: c1)) (den ((.p q, t2) :: c2)) := ev.2
            have w1 : (Un.p p).w = p.den.length := rfl
            have w2 : (Un.p q).w = q.den.length := rfl
            clear ev
            generalize lcp (rpt a p.den) (rpt b q.den) = L2 at ev1 ev2 ⊢
            have hal1 : min (p.den.length + q.den.length) L2 < p.den.length + q.den.length → min (p.den.length + q.den.length) L2 = lcp (den ((.p p, t1) :: c1)) (den ((.p q, t2) :: c2)) ∧ fo + min (p.den.length + q.den.length) L2 ≤ most := fun z => by
              rw [ev1 (by omega)]; exact ⟨by omega, by omega⟩
            have hal2 : p.den.length + q.den.length ≤ min (p.den.length + q.den.length) L2 → c ≤ lcp (den ((.p p, t1) :: c1)) (den ((.p q, t2) :: c2)) := fun z => ev2 (by omega)
            generalize min (p.den.length + q.den.length) L2 = al at hal1 hal2 ⊢
            have edu : (((Un.p p).w : Nat) : Int) + (((Un.p q).w : Nat) : Int) = ((p.den.length + q.den.length : Nat) : Int) := by rw [w1, w2, Int.natCast_add]
            dsimp only
            rw [edu]
            generalize p.den.length + q.den.length = du at hal1 hal2 ⊢
            refine ⟨_, rfl, _, rfl, _, _, rfl, rfl, _, rfl, ?_⟩
            refine ite2 (fun hz => ?_) (fun hz => ?_)
            · have hz' : al < du := by have := of_decide_eq_true hz; omega
              obtain ⟨ea, eb⟩ := hal1 hz'
              refine ⟨_, rfl, _, rfl, _, _, rfl, rfl, ?_⟩
              have := k H5 (s3.trans sC)
              rw [hl, ← ea, show min most (fo + al) = fo + al by omega, Int.natCast_add] at this
              exact this
            · have hz' : du ≤ al := by
                have z : ¬ (((al : Nat) : Int) < ((du : Nat) : Int)) := fun z => hz (decide_eq_true z)
                omega
              have hle := hal2 hz'
              refine ⟨_, rfl, _, rfl, _, _, rfl, rfl, _, rfl, _, rfl, .ref p1, _, c, rfl, hA.mono sC, q1, hl1, fun x5 H5 b5 s5 hu5 go5 => ⟨_, rfl, _, rfl, .ref p2, _, c, rfl, hB.mono (sC.trans s5), q2, hl2, fun x6 H6 b6 s6 hu6 go6 => ?_⟩⟩
              refine ⟨_, _, rfl, most - (fo + c), by omega, x5, x6, b5, b6, fo + c, _, _, _, _, _, _, _, _, _, _, _, _, rfl, (Int.natCast_add _ _).symm, by omega, ((s3.trans sC).trans s5).trans s6, hu5.mono s6, hu6, fun _ => go5.2.2 q1, fun _ => go6.2.2 q2,
                go5.2.1 _ _ _ (by rw [show most - (fo + c) + c = most - fo by omega]; exact vy1), go6.2.1 _ _ _ (by rw [show most - (fo + c) + c = most - fo by omega]; exact vy2), ?_, rfl⟩
              rw [hl, lcp_drop hle, go5.1, go6.1, Nat.add_assoc]
    · have z : ¬ (((fo : Nat) : Int) < ((most : Nat) : Int)) := fun z => h (decide_eq_true z)
      have e : fo = most := by omega
      subst e
      refine ⟨_, rfl, ?_⟩
      have := k H' s0
      rwa [hl, show min fo (fo + lcp (den a1) (den a2)) = fo by omega] at this
end
end Wd
set_option Elab.async false
set_option linter.all false
set_option maxRecDepth 100000
set_option maxHeartbeats 4000000
/-! operators that a class of the text defines: ==, !=, +, *, in, [], bool() -/
namespace Wd
open PySem L2 PySem.Spec PyProof.Rows
/-- the class's own nm -/
structure OwnM (K : PySem.W.Frag) (C : Addr) (nm : Str) (f : Addr) : Prop where
  fi : PySem.W.findIn K (.ref C) nm = some (some (.ref f))
  fn : PySem.W.isFn K (.ref f) = true
section
variable {X : Cx} {pins : List (Addr × Obj)} {σ : L2.St} {H : Hp} {s : Shared} {CX : CXT} {k : Nat} {C f : Addr} {fd : FuncData} {ps : List Str} {sp : Sp} {E : XK}
theorem inst_of {a dx : Addr} {fs : List (Str × V)} (I : Inv X pins σ H s) (ha : H a = some (.ins C dx fs)) : ∃ od, PySem.W.InstAt s.heap a (PySem.W.instObj C dx) C (some od) := by
  obtain ⟨mA, J, _⟩ := ins_get I.hok ha
  obtain ⟨od, J, _⟩ := J.look
  exact ⟨od, J⟩
theorem run_at {A : Around} {Q : VK} {us : List Value} {vs : List V} (F : FnOk X.prog X.w X.K X.mg X.base CX k f fd ps sp) (hr : Room k A) (e0 : Env0 X.prog X.w X.K X.mg X.base A X.stack s H) (hb : Binds X.K fd ps []) (hx : Passes CX X E)
    (I : Inv X pins σ H s) (r : Vals vs us) (h : sp vs H Q E) : wpAny (model X.prog X.w) A (call (.ref f) us) (EP X pins σ Q) X.xe s := by
  have hl : us.length = ps.length := by rw [← r.length]; exact F.len _ _ _ _ h
  have hb' := hb s us I.kIn (by simpa using hl)
  rw [List.append_nil] at hb'
  refine wpAny_call (codeAny_mono (F.run A X.stack s H ⟨us, []⟩ us vs Q E hr e0 hb' r h) fun r s' hq => ?_)
  cases r with
  | error e => exact hx pins σ H s e s' I hq
  | ok fl =>
    cases fl with
    | ret u => exact I.after hq
    | next => exact False.elim hq
    | brk => exact False.elim hq
    | cont => exact False.elim hq
/-- two instances of the class -/
def rOwnB (C : Addr) (sp : Sp) (E : XK) : R2 := fun x y H Q => ∃ a b dx dy fs gs, x = .ref a ∧ y = .ref b ∧ H a = some (.ins C dx fs) ∧ H b = some (.ins C dy gs) ∧ sp [x, y] H (fun v H' => ∃ c, v = .bl c ∧ Q v H') E
theorem op_eqOwn (F : FnOk X.prog X.w X.K X.mg X.base CX k f fd ps sp) (hr : Room k X.A) (hb : Binds X.K fd ps []) (hx : Passes CX X E) (O : OwnM X.K C "__eq__" f) : OpR X (compareOp .Eq) (rOwnB C sp E) := by
  intro pins s σ H x y v u Q I rx ry h
  obtain ⟨a, b, dx, dy, fs, gs, rfl, rfl, ha, hb', q⟩ := h
  cases rx
  cases ry
  obtain ⟨od, J⟩ := inst_of I ha
  obtain ⟨od', J'⟩ := inst_of I hb'
  obtain ⟨m, hF⟩ := I.fr
  refine PySem.W.cmp_K (op := .Eq) (tb := .ref C) hr.units0 hF I.ok.mod.kin J J'.type (by simp [PySem.W.notFirst]) O.fi O.fn ?_
  refine wpAny_mono (run_at F hr I.env0 hb hx I (.cons rfl (.cons rfl .nil) : Vals [.ref a, .ref b] [.ref a, .ref b]) q) (fun r s' z => ?_) fun _ _ e => e
  obtain ⟨v, H', I', rv, c, rfl, q'⟩ := z
  cases rv
  exact ⟨.bl c, H', I', rfl, q'⟩
/-- an instance of the class, and a list -/
def rOwnL (K : PySem.W.Frag) (C : Addr) (sp : Sp) (E : XK) : R2 := fun x y H Q => ∃ a b dx fs xs, x = .ref a ∧ y = .ref b ∧ H a = some (.ins C dx fs) ∧ SqL K H b xs ∧ sp [x, y] H (fun v H' => ∃ c, v = .bl c ∧ Q v H') E
theorem op_eqOwnL (F : FnOk X.prog X.w X.K X.mg X.base CX k f fd ps sp) (hr : Room k X.A) (hb : Binds X.K fd ps []) (hx : Passes CX X E) (O : OwnM X.K C "__eq__" f) (hn : PySem.W.notFirst X.K C (.type "list") = true) : OpR X (compareOp .Eq) (rOwnL X.K C sp E) := by
  intro pins s σ H x y v u Q I rx ry h
  obtain ⟨a, b, dx, fs, xs, rfl, rfl, ha, hb', q⟩ := h
  cases rx
  cases ry
  obtain ⟨od, J⟩ := inst_of I ha
  obtain ⟨its, rv', pl, hz⟩ := I.list hb'
  obtain ⟨m, hF⟩ := I.fr
  refine PySem.W.cmp_K (op := .Eq) (tb := .type "list") hr.units0 hF I.ok.mod.kin J ?_ hn O.fi O.fn ?_
  · obtain ⟨o, ho, hc, _⟩ := pl.isList
    exact (PySem.W.Looks.ld ho).andThen (by rw [hc]; exact .now)
  refine wpAny_mono (run_at F hr I.env0 hb hx I (.cons rfl (.cons rfl .nil) : Vals [.ref a, .ref b] [.ref a, .ref b]) q) (fun r s' z => ?_) fun _ _ e => e
  obtain ⟨v, H', I', rv, c, rfl, q'⟩ := z
  cases rv
  exact ⟨.bl c, H', I', rfl, q'⟩
/-- the value of an operation is an object -/
def rOwnS (C : Addr) (sp : Sp) (E : XK) : R2 := fun x y H Q => ∃ a b dx dy fs gs, x = .ref a ∧ y = .ref b ∧ H a = some (.ins C dx fs) ∧ H b = some (.ins C dy gs) ∧ sp [x, y] H (fun v H' => ∃ c, v = .ref c ∧ Q v H') E
theorem op_addOwn (F : FnOk X.prog X.w X.K X.mg X.base CX k f fd ps sp) (hr : Room k X.A) (hb : Binds X.K fd ps []) (hx : Passes CX X E) (O : OwnM X.K C "__add__" f) (hc : PySem.W.selfFirst X.K C = true) : OpR X (binaryOp .Add) (rOwnS C sp E) := by
  intro pins s σ H x y v u Q I rx ry h
  obtain ⟨a, b, dx, dy, fs, gs, rfl, rfl, ha, hb', q⟩ := h
  cases rx
  cases ry
  obtain ⟨od, J⟩ := inst_of I ha
  obtain ⟨od', J'⟩ := inst_of I hb'
  obtain ⟨m, hF⟩ := I.fr
  refine PySem.W.binop_K hF I.ok.mod.kin J J'.type hc O.fi O.fn ?_
  refine wpAny_mono (run_at F hr I.env0 hb hx I (.cons rfl (.cons rfl .nil) : Vals [.ref a, .ref b] [.ref a, .ref b]) q) (fun r s' z => ?_) fun _ _ e => e
  obtain ⟨v, H', I', rv, c, rfl, q'⟩ := z
  cases rv
  exact ⟨.ref c, H', I', rfl, q'⟩
def rOwnN (C : Addr) (sp : Sp) (E : XK) : R2 := fun x y H Q => ∃ a dx fs i, x = .ref a ∧ y = .int i ∧ H a = some (.ins C dx fs) ∧ sp [x, y] H (fun v H' => ∃ c, v = .ref c ∧ Q v H') E
theorem op_mulOwn (F : FnOk X.prog X.w X.K X.mg X.base CX k f fd ps sp) (hr : Room k X.A) (hb : Binds X.K fd ps []) (hx : Passes CX X E) (O : OwnM X.K C "__mul__" f) (hc : PySem.W.selfFirst X.K C = true)
    (hrm : PySem.W.findIn X.K (.ref C) "__rmul__" = some none) {fo ro : Option Value} (h1 : PySem.W.findIn X.K (.type "int") "__mul__" = some fo) (h2 : PySem.W.findIn X.K (.type "int") "__rmul__" = some ro) (hsub : PySem.W.subIn X.K (.type "int") (.ref C) = some false) :
    OpR X (binaryOp .Mult) (rOwnN C sp E) := by
  intro pins s σ H x y v u Q I rx ry h
  obtain ⟨a, dx, fs, i, rfl, rfl, ha, q⟩ := h
  cases rx
  obtain ⟨t, rfl⟩ := ry
  obtain ⟨od, J⟩ := inst_of I ha
  obtain ⟨m, hF⟩ := I.fr
  refine PySem.W.ksp_binT (T := "int") (op := .Mult) hF I.ok.mod.kin J rfl hc O.fi O.fn hrm (.inl rfl) h1 h2 hsub ?_
  refine wpAny_mono (run_at F hr I.env0 hb hx I (.cons rfl (.cons ⟨t, rfl⟩ .nil) : Vals [.ref a, .int i] [.ref a, .int i t]) q) (fun r s' z => ?_) fun _ _ e => e
  obtain ⟨v, H', I', rv, c, rfl, q'⟩ := z
  cases rv
  exact ⟨.ref c, H', I', rfl, q'⟩
/-- v in an instance -/
def rOwnIn (C : Addr) (sp : Sp) (E : XK) : R2 := fun x y H Q => ∃ a dx fs, y = .ref a ∧ H a = some (.ins C dx fs) ∧ sp [y, x] H (fun v H' => ∃ c, v = .bl c ∧ Q v H') E
theorem op_inOwn (F : FnOk X.prog X.w X.K X.mg X.base CX k f fd ps sp) (hr : Room k X.A) (hb : Binds X.K fd ps []) (hx : Passes CX X E) (O : OwnM X.K C "__contains__" f) : OpR X (compareOp .In) (rOwnIn C sp E) := by
  intro pins s σ H x y v u Q I rx ry h
  obtain ⟨a, dx, fs, rfl, ha, q⟩ := h
  cases ry
  obtain ⟨od, J⟩ := inst_of I ha
  obtain ⟨m, hF⟩ := I.fr
  refine PySem.W.in_K hF I.ok.mod.kin J O.fi O.fn ?_
  refine wpAny_mono (run_at F hr I.env0 hb hx I (.cons rfl (.cons rx .nil) : Vals [.ref a, x] [.ref a, v]) q) (fun r s' z => ?_) fun _ _ e => e
  obtain ⟨v, H', I', rv, c, rfl, q'⟩ := z
  cases rv
  exact wpAny_truthy_bool ⟨.bl c, H', I', rfl, q'⟩
/-- x[i] of an instance -/
def rOwnIx (C : Addr) (sp : Sp) (E : XK) : R2 := fun x y H Q => ∃ a dx fs, x = .ref a ∧ H a = some (.ins C dx fs) ∧ sp [x, y] H Q E
theorem pe_ixOwn {a b : Expr} {ta tb : TE} {pos : Pos} (F : FnOk X.prog X.w X.K X.mg X.base CX k f fd ps sp) (hr : Room (k + 1) X.A) (hb : Binds X.K fd ps []) (hx : Passes CX X E) (O : OwnM X.K C "__getitem__" f) (hfn : PySem.W.fnIn X.K f = true)
    (ha : PE X a ta) (hb' : PE X b tb) (hs : ∀ o i, subscripted b true o i = runValue (.builtin "lifetime.subscript" ⟨[o, i], []⟩)) : PE X (.Subscript a b pos) (tOp (rOwnIx C sp E) ta tb) := by
  refine ⟨fun pins s σ H Q I h => ?_⟩
  refine Subscript_ (binT ha hb' I h fun v u s2 x y H2 I2 rx ry q => ?_)
  obtain ⟨a, dx, fs, rfl, ha, q⟩ := q
  cases rx
  obtain ⟨od, J⟩ := inst_of I2 ha
  obtain ⟨m, hF⟩ := I2.fr
  exact PySem.W.sub_K hF I2.ok.mod.kin J O.fi hfn O.fn (run_at F hr.in1 I2.env0.in1 hb hx I2 (.cons rfl (.cons ry .nil) : Vals [.ref a, y] [.ref a, u]) q) (hs _ _)
/-! ### != through object.__ne__ -/
theorem ifBound_ne {M : Model} {A : Around} {E : Value → Shared → Prop} {K : PySem.W.Frag} {x : Addr} {ox : Obj} {od : Option Obj} {args : List Value} {Q : Option Value → Shared → Prop} (X : K.In s.heap) (I : PySem.W.InstAt s.heap x ox C od) (hs : PySem.W.findIn K (.ref C) "__ne__" = some (some (.builtin "object.__ne__")))
    (h : wpAny M A (call (.builtin "object.__ne__") (.ref x :: args)) (fun v => Q (some v)) E s) : wpAny M A (callSpecialIfBound? (.ref x) "__ne__" args) Q E s := by
  simp only [callSpecialIfBound?, bindSpecialIfBound?]
  refine wpAny_holding (wpAny_bind (wpAny_bind (wpAny_bind (I.type.here ((PySem.W.looks_findIn X hs).here ?_)))))
  refine wpAny_bind (wpAny_askSetting (wpAny_ite ?_))
  have fin : wpAny M A (call (.builtin "object.__ne__") ([.ref x] ++ args) >>= fun v => pure (some v)) Q E s := wpAny_bind (wpAny_mono h (fun v s' h' => wpAny_pure h') fun _ _ h' => h')
  split
  · exact wpAny_bind (wpAny_of_eq (F.cmp_object.ne.bind _) (wpAny_pure (by exact fin)))
  · exact wpAny_tryCatch (wpAny_bind (wpAny_of_eq (F.cmp_object.ne.bind _) (wpAny_pure (by exact fin))))
theorem entry_ne {prog : Program} {w : World} {A : Around} {E : Value → Shared → Prop} {K : PySem.W.Frag} {x : Addr} {b : Value} {ox : Obj} {od : Option Obj} {Q : Fin → Shared → Prop} (hu : A.units < cLine) (X : K.In s.heap) (I : PySem.W.InstAt s.heap x ox C od) (O : OwnM K C "__eq__" f)
    (h : wpAny (model prog w) A (call (.ref f) [.ref x, b]) (fun v s' => ∃ c, v = .bool c ∧ Q (.done (.ret (.bool (!c)))) s') E s) : wpAny (model prog w) A (Builtin.«object.__ne__» ⟨[.ref x, b], []⟩) Q E s := by
  unfold Builtin.«object.__ne__»
  repeat (first
    | with_reducible refine wpAny_cRoomFor hu ?_
    | (refine wpAny_bind (m := callSpecialIfBound? (.ref x) (Str.ofString "__eq__") [b])
        (PySem.W.ifBound_K X I O.fi O.fn (wpAny_mono h (fun r s' hr => by
          obtain ⟨c, rfl, hq⟩ := hr
          repeat (first | exact hq | exact wpAny_pure hq | exact wpAny_truthy_bool hq | (refine wpAny_bind (m := truthy (.bool _)) (wpAny_truthy_bool ?_)) | wp_step)) fun _ _ e => e)))
    | wp_step)
theorem op_neOwn (G : FnOk X.prog X.w X.K X.mg X.base CX k f fd ps sp) (hr : Room (k + 1) X.A) (hb : Binds X.K fd ps []) (hx : Passes CX X E) (O : OwnM X.K C "__eq__" f) (hn : PySem.W.findIn X.K (.ref C) "__ne__" = some (some (.builtin "object.__ne__"))) (hm : PySem.W.mroIn X.K C (.type "object") = some true) :
    OpR X (compareOp .NotEq) (fun x y H Q => rOwnB C sp E x y H (fun v H' => ∃ c, v = .bl c ∧ Q (.bl (!c)) H')) := by
  intro pins s σ H x y v u Q I rx ry h
  obtain ⟨a, b, dx, dy, fs, gs, rfl, rfl, ha, hb', q⟩ := h
  cases rx
  cases ry
  obtain ⟨od, J⟩ := inst_of I ha
  obtain ⟨od', J'⟩ := inst_of I hb'
  have one : wpAny (model X.prog X.w) X.A (tryCompare (.ref a) "__ne__" (.ref b)) (fun r s' => ∃ v, r = some v ∧ EP X pins σ Q v s') X.xe s := by
    unfold tryCompare
    refine wpAny_bind (ifBound_ne I.kIn J hn (wpAny_call (codeAny_call_builtin F.cmp_object.ne.plain F.cmpEntry_ne (PySem.W.check_slot F.cmpKind_ne F.cmpSplit_ne (J.type.andThen (PySem.W.looks_mroIn I.kIn hm)) (F.cmpArgs_ne _ _) (entry_ne hr.in1.units0 I.kIn J O ?_)))))
    refine wpAny_mono (run_at G hr.in1 I.env0.in1 hb hx I (.cons rfl (.cons rfl .nil) : Vals [.ref a, .ref b] [.ref a, .ref b]) q) (fun r s' z => ?_) fun _ _ e => e
    obtain ⟨v, H', I', rv, c, rfl, q'⟩ := z
    cases rv
    obtain ⟨c', e, q'⟩ := q'
    cases e
    exact ⟨c, rfl, wpAny_pure ⟨_, rfl, .bl (!c), H', I', rfl, q'⟩⟩
  show wpAny (model X.prog X.w) X.A (richCompare .NotEq (.ref a) (.ref b)) (EP X pins σ Q) X.xe s
  unfold richCompare
  simp only [oneThing_ref]
  refine wpAny_holding (wpAny_bind (wpAny_cRoomFor hr.units0 ?_))
  refine wpAny_bind (J.type.here (wpAny_bind (J'.type.here ?_)))
  rw [show (Value.ref C != Value.ref C) = false from by simp]
  simp only [Bool.false_eq_true, if_false]
  refine wpAny_bind (wpAny_pure ?_)
  simp only [Bool.false_eq_true, if_false]
  refine wpAny_bind (wpAny_mono one (fun r s' z => ?_) fun _ _ e => e)
  obtain ⟨v, rfl, hq⟩ := z
  exact wpAny_pure hq
/-! ### bool() -/
theorem meets_boolOwn {prog : Program} {w : World} {x : Value} : PySem.MeetsIn prog w (Builtin.«bool.__new__» ⟨[.type "bool", x], []⟩)
    (fun A R s => wpAny (model prog w) A.in1 (truthy x) (fun b s' => R (.ok (.ret (.bool b))) s') (fun e s' => R (.error e) s') s) :=
  PySem.MeetsIn.of_wp fun A R s hs => by
    obtain ⟨hp, g, d, tk, os⟩ := s
    have f1 := F.conv_sub_bool
    repeat (any_goals (first | assumption | (refine wpAny_bind (m := truthy x) (wpAny_mono hs (fun b s' hb => ?_) fun _ _ e => e)) | wp_step))
    all_goals first | exact ⟨_, rfl, hb⟩ | skip
theorem call_boolOwn (G : FnOk X.prog X.w X.K X.mg X.base CX k f fd ps sp) (hr : Room (k + 2) X.A) (hb : Binds X.K fd ps []) (hx : Passes CX X E) (O : OwnM X.K C "__bool__" f) :
    CallR X (.type "bool") (fun xs H Q => ∃ a dx fs, xs = [.ref a] ∧ H a = some (.ins C dx fs) ∧ sp [.ref a] H (fun v H' => ∃ c, v = .bl c ∧ Q v H') E) := by
  intro pins s σ H xs us Q I r h
  obtain ⟨a, dx, fs, rfl, ha, q⟩ := h
  obtain ⟨u, rfl, ru⟩ := vals1 r
  cases ru
  obtain ⟨od, J⟩ := inst_of I ha
  obtain ⟨m, hF⟩ := I.fr
  refine PySem.callType_newIn F.called_bool F.newNe_bool (F.typeCall_bool_1 _) (F.newCall_bool_1 _) (fun obj => F.args_object_init_2 obj _) F.entry_bool_new meets_boolOwn ?_
  refine PySem.W.truthy_K hF I.ok.mod.kin J O.fi O.fn ?_
  refine wpAny_mono (run_at G hr.in1.in1 I.env0.in1.in1 hb hx I (.cons rfl .nil : Vals [.ref a] [.ref a]) q) (fun r s' z => ?_) fun _ _ e => e
  obtain ⟨v, H', I', rv, c, rfl, q'⟩ := z
  cases rv
  exact ⟨rfl, .bl c, H', I', rfl, q'⟩
end
end Wd
set_option Elab.async false
set_option linter.all false
set_option maxRecDepth 100000
set_option maxHeartbeats 4000000
namespace Wd
open PySem L2
section
variable {X : Cx}
/-- an entry in a row -/
def rInRow : R2 := fun x y H Q => ∃ e row, EAt H x e ∧ RowAt H y row ∧ Q (.bl (decide (e ∈ row))) H
theorem op_inRow (hu : X.A.units + 64 < cLine) : OpR X (compareOp .In) rInRow := by
  intro pins s σ H x y v u Q I rx ry h
  obtain ⟨e, row, he, ⟨a, vs, rfl, ha, hp⟩, q⟩ := h
  obtain ⟨as, r1⟩ := Dp.reads I (enD e) x v he.dp rx
  obtain ⟨bs, r2⟩ := Dp.reads I (.tuple (row.map enD)) (.ref a) u (.tup (SqT.of ha) (dp_row hp)) ry
  refine SeqAt.in_tuple_data r2 r1 (PySem.W.plainAll_map row) (PySem.W.Datum.plain e) ?_ ?_
  · have h1 : (enD e).depth ≤ 1 := PySem.W.Datum.depth_le e
    have h2 : min (PyData.depthAll (row.map enD)) (enD e).depth ≤ (enD e).depth := Nat.min_le_right _ _
    omega
  · rw [show ((row.map enD).any fun y => PyData.eqv y (enD e)) = decide (e ∈ row) from (PySem.W.any_datum row e).trans (decide_eq_decide.mpr Iff.rfl)]
    exact ⟨.bl _, H, I, rfl, q⟩
/-- an entry in a list of entries -/
def LAt (K : PySem.W.Frag) (H : Hp) (v : V) (es : List En) : Prop := ∃ a xs, v = .ref a ∧ H a = some (.lst xs) ∧ Paired (EAt H) xs es
theorem LAt.dp {K : PySem.W.Frag} {H : Hp} {v : V} {es : List En} (h : LAt K H v es) : Dp K H v (enDs es) := by
  obtain ⟨a, xs, rfl, h1, h2⟩ := h
  exact .lst (SqL.of h1) (dp_row h2)
theorem LAt.oks {K : PySem.W.Frag} {H : Hp} {v : V} {es : List En} (h : LAt K H v es) : ∀ e ∈ es, e.ok = true := by
  obtain ⟨a, xs, rfl, h1, h2⟩ := h
  exact row_ok h2
def rInL (K : PySem.W.Frag) : R2 := fun x y H Q => ∃ e es, EAt H x e ∧ LAt K H y es ∧ Q (.bl (decide (e ∈ es))) H
theorem op_inL (hu : X.A.units + 65 < cLine) : OpR X (compareOp .In) (rInL X.K) := by
  intro pins s σ H x y v u Q I rx ry h
  obtain ⟨e, es, he, hl, q⟩ := h
  refine op_inD hu pins s σ H x y v u Q I rx ry ⟨enD e, es.map enD, he.dp, hl.dp, enD_shaped he.isOk, enDs_shaped hl.oks, ?_⟩
  rw [show ((es.map enD).any fun z => PyData.eqv z (enD e)) = decide (e ∈ es) from (PySem.W.any_datum es e).trans (decide_eq_decide.mpr Iff.rfl)]
  exact q
end
end Wd
set_option Elab.async false
set_option linter.all false
set_option maxRecDepth 100000
set_option maxHeartbeats 4000000
namespace Wd
open PySem L2
theorem lc_str {x : Str} {g : TG} {tt : TT} {te : TE} {vs : List Nat} {σ : L2.St} {H1 : Hp} {D : Addr} {Qd : Hp → Prop} (Pv : Nat → Hp → Prop) (h0 : Pv 0 (upd H1 D (.lst [])))
    (hs : ∀ i c H, x.cps[i]? = some c → Pv i H → g (.str ⟨#[c]⟩) (wipe σ vs) H fun σ2 H2 => wipe σ2 vs = wipe σ vs ∧ tt σ2 H2 fun b H3 =>
      if b = true then te σ2 H3 fun y H4 => ∃ acc, H4 D = some (.lst acc) ∧ acc.length < sizeLine ∧ Pv (i + 1) (upd H4 D (.lst (acc ++ [y]))) else Pv (i + 1) H3) (hd : ∀ H, Pv x.cps.size H → Qd H) :
    ∃ W : Nat → Nat → Hp → Prop, (∃ m, W 0 m (upd H1 D (.lst []))) ∧ ∀ i m H, W i m H →
      ((Its x).stop i H ∧ Qd H) ∨ ((Its x).go i H ∧ ∃ Nx : Hp → Prop, (∀ H', Nx H' → ∃ m', m' < m ∧ W (i + 1) m' H') ∧ ∀ y H', (Its x).yld i H y H' → g y (wipe σ vs) H' fun σ2 H2 => wipe σ2 vs = wipe σ vs ∧ tt σ2 H2 fun b H3 =>
        if b = true then te σ2 H3 fun y H4 => ∃ acc, H4 D = some (.lst acc) ∧ acc.length < sizeLine ∧ Nx (upd H4 D (.lst (acc ++ [y]))) else Nx H3) := by
  refine ⟨fun i m H => m = x.cps.size - i ∧ i ≤ x.cps.size ∧ Pv i H, ⟨x.cps.size, by simp, Nat.zero_le _, h0⟩, ?_⟩
  rintro i m H ⟨rfl, hi, p⟩
  by_cases hlt : i < x.cps.size
  · refine .inr ⟨hlt, Pv (i + 1), fun H' p' => ⟨x.cps.size - (i + 1), by omega, rfl, hlt, p'⟩, fun y H' yl => ?_⟩
    obtain ⟨e, c, hc, rfl⟩ := yl
    subst e
    exact hs i c _ hc p
  · have e : i = x.cps.size := by omega
    subst e
    exact .inl ⟨Nat.le_refl _, hd H p⟩
def LETTERS : Str := "abcdefghijklmnopqrstuvwxyz"
def nameOk (t : Str) : Bool := decide (1 ≤ t.length) && decide (t.length ≤ 8) && t.cps.all fun c => decide (c ∈ LETTERS.cps.toList)
def En.good (e : En) : Bool := match e.2 with
  | none => decide (e.1 = ("emit" : Str))
  | some t => (decide (e.1 = ("emit" : Str)) || decide (e.1 = ("final" : Str))) && nameOk t
theorem iteN {A B : Prop} (h : B) : if (!true) = true then A else B := by rw [if_neg (by decide)]; exact h
theorem iteM {A B : Prop} (h : A) : if (!false) = true then A else B := by rw [if_pos (by decide)]; exact h
theorem upd_new {H : Hp} {p : Addr} {o : HO} (h : H p = none) : Same H (upd H p o) := Same.new h
section
variable {P : Program} {w : World} {K : PySem.W.Frag} {mg : Str → Option Value} {base : Heap} {f C : Addr} {fd : FuncData} {H : Hp}
def spIsName : Sp := fun vs H Q _ => (vs = [.non] ∧ Q (.bl false) H) ∨ ∃ t, vs = [.str t] ∧ nameOk t = true ∧ ∀ H', Same H H' → Q (.bl true) H'
theorem sc_IsName : FnScope ["thing", "sign"] ["thing"] (defScope sIsName) := ⟨rfl, rfl, rfl, by decide +kernel, rfl, by decide +kernel, by decide +kernel⟩
theorem ok_IsName (D : DefF K mg "is_name" sIsName ["thing"] f fd) (B : Blt mg) {tl t8 : Tok} (mLet : mg "LETTERS" = some (.str LETTERS tl)) (m8 : mg "MOST_LETTERS" = some (.int 8 t8)) :
    FnOk P w K mg base CX0 1 f fd ["thing"] spIsName := by
  refine D.fn.ok sc_IsName (fun vs H Q E h => ?_) (fun cdv A outer s H vs Q E hr h => ?_)
  · rcases h with ⟨rfl, _⟩ | ⟨t, rfl, _⟩ <;> rfl
  · refine ⟨_, (pss_cons (ps_if (PW.pt (pw_or (pt_not (pt_val (pe_callB call_isi (by rfl) B.isi PyProof.Rows.boot_isinstance (pa_cons (pv 0) (pa_cons (pe_bltn (v := .ty "str") (by rfl) B.str PyProof.Rows.boot_str rfl) pa_nil))))) (pw_or1 (pt_not (pt_chain op_le op_le pe_int (pe_callB call_len_str (by rfl) B.len PySem.boot_len (pa_cons (pv 0) pa_nil)) (pe_glob (v := .int 8) rfl m8 ⟨_, rfl⟩)))))) (pss_one (ps_ret pe_bl)) pss_nil) (pss_one (ps_ret (pe_callB (cr_all rfl) (by rfl) B.all PyProof.Rows.boot_all (pa_cons (pe_lc (own := [("sign", 1)]) (g := gName 1) (tt := tYes) rfl sc_IsName.nd (pi_str (pv 0)) (blkOk_by (N := ["thing", "sign"]) (sc := defScope sIsName) (by decide +kernel)) (fun _ _ _ _ _ => pg_name (i := 1) sc_IsName.nd rfl (Or.inl rfl)) (fun _ _ _ _ _ => pts_nil) (fun _ _ _ _ _ => (pe_cmpR op_in_sign (pv 1) (pe_glob (v := .str LETTERS) rfl mLet ⟨_, rfl⟩) rfl))) pa_nil))))), ?_⟩
    rcases h with ⟨rfl, k⟩ | ⟨t, rfl, hn, k⟩
    · refine ⟨_, rfl, _, _, _, _, false, rfl, ClsV.ty _, .base .non, kit_ty (by decide +kernel), _, rfl, iteT (iteT ?_)⟩
      exact k
    · refine ⟨_, rfl, _, _, _, _, true, rfl, ClsV.ty _, .base (.str t), kit_ty (by decide +kernel), _, rfl, iteF ?_⟩
      obtain ⟨h12, h3⟩ := Bool.and_eq_true_iff.mp hn
      obtain ⟨h1, h2⟩ := Bool.and_eq_true_iff.mp h12
      have h1 := of_decide_eq_true h1
      have h2 := of_decide_eq_true h2
      have hs : t.length ≤ sizeLine := by rw [sizeLine_eq]; omega
      refine ⟨_, rfl, t, rfl, hs, _, _, rfl, rfl, _, rfl, ?_⟩
      rw [show decide ((1 : Int) ≤ ((t.length : Nat) : Int)) = true from decide_eq_true (by omega)]
      refine iteT ⟨_, _, rfl, rfl, _, rfl, ?_⟩
      rw [show decide (((t.length : Nat) : Int) ≤ 8) = true from decide_eq_true (by omega)]
      refine iteN ?_
      refine ⟨_, rfl, t, rfl, fun D hD => lc_str (Pv := fun i H' => Same H H' ∧ H' D = some (.lst (List.replicate i (.bl true)))) ⟨upd_new hD, upd_same⟩ ?_ ?_⟩
      · rintro i c H' hc ⟨s1, hD'⟩
        refine ⟨rfl, ?_⟩
        unfold tYes
        refine iteT ⟨_, rfl, c, LETTERS, rfl, rfl, _, hD', ?_, ?_⟩
        · rw [List.length_replicate]
          have := (Array.getElem?_eq_some_iff.mp hc).1
          have e : t.length = t.cps.size := rfl
          omega
        · have hm : decide (c ∈ LETTERS.cps.toList) = true := by
            have := (Array.all_eq_true.mp h3) i (Array.getElem?_eq_some_iff.mp hc).1
            rw [(Array.getElem?_eq_some_iff.mp hc).2] at this
            exact this
          rw [hm, ← List.replicate_succ']
          exact ⟨fun b o e => by rw [upd_ne (fun z => by rw [z, hD] at e; cases e)]; exact s1 _ _ e, upd_same⟩
      · rintro H' ⟨s1, hD'⟩
        refine ⟨D, List.replicate t.cps.size true, rfl, SqL.of (by rw [List.map_replicate]; exact hD'), ?_⟩
        rw [show (List.replicate t.cps.size true).all id = true by rw [List.all_replicate]; simp]
        exact k H' s1
end
end Wd
set_option Elab.async false
set_option linter.all false
set_option maxRecDepth 100000
set_option maxHeartbeats 4000000
namespace Wd
open PySem L2
def KTup (K : PySem.W.Frag) (a : Addr) (xs : List V) : Prop := ∃ (o : Obj) (its : Array Value) (n : Nat), K.lookup a = some o ∧ o.cls = .type "tuple" ∧ o.data = .seq its n ∧ its.size ≤ sizeLine ∧ Vals xs its.toList
theorem KTup.sq {K : PySem.W.Frag} {H : Hp} {a : Addr} {xs : List V} (h : KTup K a xs) : SqT K H a xs := .inr h
section
variable {P : Program} {w : World} {K : PySem.W.Frag} {mg : Str → Option Value} {base : Heap} {f C : Addr} {fd : FuncData} {H : Hp}
def spIsEntry : Sp := fun vs H Q _ => ∃ v e, vs = [v] ∧ EAt H v e ∧ e.good = true ∧ ∀ H', Same H H' → Q (.bl true) H'
theorem sc_IsEntry : FnScope ["thing"] ["thing"] (defScope sIsEntry) := ⟨rfl, rfl, rfl, by decide +kernel, rfl, by decide +kernel, by decide +kernel⟩
theorem ok_IsEntry (D : DefF K mg "is_entry" sIsEntry ["thing"] f fd) (B : Blt mg) {fN aK : Addr} {fdN : FuncData} (mKin : mg "KINDS" = some (.ref aK)) (kKin : KTup K aK [.str "emit", .str "final"])
    (DIsName : DefF K mg "is_name" sIsName ["thing"] fN fdN) (GIsName : FnOk P w K mg base CX0 1 fN fdN ["thing"] spIsName) :
    FnOk P w K mg base CX0 2 f fd ["thing"] spIsEntry := by
  refine D.fn.ok sc_IsEntry (fun vs H Q E h => ?_) (fun cdv A outer s H vs Q E hr h => ?_)
  · obtain ⟨v, e, rfl, _⟩ := h; rfl
  · obtain ⟨v, e, rfl, he, hg, k⟩ := h
    refine ⟨_, (pss_cons (ps_if (PW.pt (pw_or (pt_not (pt_val (pe_callB call_isi (by rfl) B.isi PyProof.Rows.boot_isinstance (pa_cons (pv 0) (pa_cons (pe_bltn (v := .ty "tuple") (by rfl) B.tuple PyProof.Rows.boot_tuple rfl) pa_nil))))) (pw_or (pt_cmpR op_ne (pe_callB call_len_seq (by rfl) B.len PySem.boot_len (pa_cons (pv 0) pa_nil)) pe_int (nomark _)) (pw_or (pt_not (pt_val (pe_callB call_isi (by rfl) B.isi PyProof.Rows.boot_isinstance (pa_cons (pe_ix ix_tup (pv 0) pe_int (fun _ _ => rfl)) (pa_cons (pe_bltn (v := .ty "str") (by rfl) B.str PyProof.Rows.boot_str rfl) pa_nil))))) (pw_or1 (pt_cmpR op_notIn_seq (pe_ix ix_tup (pv 0) pe_int (fun _ _ => rfl)) (pe_glob (v := .ref aK) rfl mKin rfl) rfl)))))) (pss_one (ps_ret pe_bl)) pss_nil) (pss_one (ps_ret (pe_or (pe_call GIsName (hr.mono (by first | decide | omega)) rfl DIsName.gl DIsName.fn.kp DIsName.bd .nil pass0 (pa_cons (pe_ix ix_tup (pv 0) pe_int (fun _ _ => rfl)) pa_nil)) (pe_one (pe_cmpR (op_eqD hr.units) (pv 0) (pe_tup (pa_cons pe_str (pa_cons pe_non pa_nil))) (nomark _))))))), ?_⟩
    obtain ⟨a, rfl, ha, ok⟩ := id he
    have sq : SqT K H a e.vs := SqT.of ha
    refine ⟨_, rfl, _, _, _, _, true, rfl, ClsV.ty _, .base (.tup ha), kit_ty (by decide +kernel), _, rfl, iteF ?_⟩
    refine ⟨_, rfl, a, e.vs, rfl, .inr sq, rfl, _, rfl, iteF ?_⟩
    refine ⟨_, rfl, a, e.vs, 0, .str e.1, rfl, rfl, sq, rfl, _, _, _, _, true, rfl, ClsV.ty _, .base (.str e.1), kit_ty (by decide +kernel), _, rfl, iteF ?_⟩
    refine ⟨_, rfl, a, e.vs, 0, .str e.1, rfl, rfl, sq, rfl, ?_⟩
    have hk : e.1 = ("emit" : Str) ∨ e.1 = ("final" : Str) := by
      obtain ⟨x, t⟩ := e
      cases t with
      | none => exact .inl (of_decide_eq_true hg)
      | some t =>
        rcases Bool.or_eq_true_iff.mp (Bool.and_eq_true_iff.mp hg).1 with z | z
        · exact .inl (of_decide_eq_true z)
        · exact .inr (of_decide_eq_true z)
    have hin : inV (.str e.1) [.str "emit", .str "final"] = true := by
      rcases hk with z | z <;> (rw [z]; decide +kernel)
    refine ⟨aK, _, rfl, .inr kKin.sq, rfl, rfl, _, rfl, ?_⟩
    rw [hin]
    refine iteF ?_
    refine ⟨_, rfl, a, e.vs, 1, _, rfl, rfl, sq, rfl, ?_⟩
    obtain ⟨x, t⟩ := e
    cases t with
    | none =>
      refine .inl ⟨rfl, _, rfl, iteF ?_⟩
      have hx : x = ("emit" : Str) := of_decide_eq_true hg
      refine ⟨_, rfl, Nat.le_trans (show 2 ≤ 3 by decide) three_line, fun t2 ht2 => ?_⟩
      have s1 := Same.new (o := .tup [.str "emit", .non]) ht2
      have he2 : EAt (upd H t2 (.tup [.str "emit", .non])) (.ref t2) ("emit", none) := ⟨t2, rfl, upd_same, by decide +kernel⟩
      refine ⟨_, _, EAt.dp (he.mono s1), EAt.dp he2, enD_shaped ok, enD_shaped (EAt.isOk he2), ?_⟩
      rw [enD_eqv, hx]
      exact k _ s1
    | some t =>
      refine .inr ⟨t, rfl, (Bool.and_eq_true_iff.mp hg).2, fun H' s1 => ⟨_, rfl, iteT ?_⟩⟩
      exact k _ s1
end
end Wd
set_option Elab.async false
set_option linter.all false
set_option maxRecDepth 100000
set_option maxHeartbeats 4000000
namespace Wd
open PySem L2
/-! ### what a change of other objects leaves -/
def KeepT (C : Addr) (H H' : Hp) : Prop := (∀ b xs, H b = some (.tup xs) → H' b = some (.tup xs)) ∧ ∀ b dx fs, H b = some (.ins C dx fs) → H' b = some (.ins C dx fs)
theorem KeepT.put {C D : Addr} {H : Hp} {p dx : Addr} {fs : List (Str × V)} {o : HO} (h : H p = some (.ins D dx fs)) (hd : D ≠ C) : KeepT C H (upd H p o) :=
  ⟨fun b xs e => by rw [upd_ne (fun z => by rw [z, h] at e; cases e)]; exact e, fun b dy gs e => by rw [upd_ne (fun z => by rw [z, h] at e; cases e; exact hd rfl)]; exact e⟩
theorem KeepT.trans {C : Addr} {H H' H2 : Hp} (h : KeepT C H H') (g : KeepT C H' H2) : KeepT C H H2 := ⟨fun b xs e => g.1 b xs (h.1 b xs e), fun b dx fs e => g.2 b dx fs (h.2 b dx fs e)⟩
theorem EAt.but {H H' : Hp} (s : ∀ b xs, H b = some (.tup xs) → H' b = some (.tup xs)) {v : V} {e : En} (h : EAt H v e) : EAt H' v e := let ⟨a, h1, h2, h3⟩ := h; ⟨a, h1, s _ _ h2, h3⟩
theorem EAt.kept {C : Addr} {H H' : Hp} (s : KeepT C H H') {v : V} {e : En} (h : EAt H v e) : EAt H' v e := let ⟨a, h1, h2, h3⟩ := h; ⟨a, h1, s.1 _ _ h2, h3⟩
theorem RowAt.kept {C : Addr} {H H' : Hp} (s : KeepT C H H') {v : V} {row : List En} (h : RowAt H v row) : RowAt H' v row :=
  let ⟨a, vs, h1, h2, h3⟩ := h; ⟨a, vs, h1, s.1 _ _ h2, Paired.mono (fun _ _ => EAt.kept s) h3⟩
theorem PX.kept {C : Addr} {H H' : Hp} (s : KeepT C H H') {v : V} {k : Tf} {p : Pt En} (h : PX C H v k p) : PX C H' v k p := by
  induction h with
  | leaf h1 h2 => exact .leaf (h1.kept s) (s.2 _ _ _ h2)
  | cat h1 _ _ h4 i1 i2 => exact .cat (h1.kept s) i1 i2 (s.2 _ _ _ h4)
  | rep h1 _ h3 i1 => exact .rep (h1.kept s) i1 (s.2 _ _ _ h3)
  | plain _ i => exact .plain i
  | turn _ h2 _ i1 i2 => exact .turn i1 (s.1 _ _ h2) i2
theorem rg_size (n : Nat) : Builtin.Range.rangeSize 0 ((n : Nat) : Int) 60 = (((n + 59) / 60 : Nat) : Int) := by
  unfold Builtin.Range.rangeSize
  rw [if_pos (by decide)]
  split <;> omega
theorem fits {i : Int} (h0 : -1000 ≤ i) (h1 : i ≤ 10000000) : Builtin.Range.rangeFitsLong i = true := by
  unfold Builtin.Range.rangeFitsLong
  rw [decide_eq_true (by omega), decide_eq_true (by omega)]; rfl
theorem rg_small {n : Nat} (h : n ≤ 1000000) : Builtin.Range.small 0 ((n : Nat) : Int) 60 = true := by
  unfold Builtin.Range.small
  rw [rg_size, if_pos (by decide), fits (by omega) (by omega), fits (by omega) (by omega), fits (by omega) (by omega), fits (by omega) (by omega), fits (by omega) (by omega)]
  simp
theorem cut_nat (xs : List V) (a b : Nat) : cutV xs (some ((a : Nat) : Int)) (some ((b : Nat) : Int)) = (xs.drop a).take (b - a) := by
  unfold cutV
  rw [HT.sIx_nat, HT.sIx_nat]
  rcases Nat.le_total a xs.length with h | h
  · rw [Nat.min_eq_left h]
    rcases Nat.le_total b xs.length with g | g
    · rw [Nat.min_eq_left g]
    · rw [Nat.min_eq_right g, List.take_of_length_le (by rw [List.length_drop]; exact Nat.le_refl _), List.take_of_length_le (by rw [List.length_drop]; omega)]
  · rw [Nat.min_eq_right h, List.drop_of_length_le (Nat.le_refl _), List.drop_of_length_le h, List.take_nil, List.take_nil]
theorem Paired.drop {A B : Type} {F : A → B → Prop} : ∀ {l : List A} {r : List B} (n : Nat), Paired F l r → Paired F (l.drop n) (r.drop n)
  | _, _, 0, h => h
  | _, _, _ + 1, .nil => .nil
  | _, _, n + 1, .cons _ t => Paired.drop n t
theorem Paired.take {A B : Type} {F : A → B → Prop} : ∀ {l : List A} {r : List B} (n : Nat), Paired F l r → Paired F (l.take n) (r.take n)
  | _, _, 0, h => .nil
  | _, _, _ + 1, .nil => .nil
  | _, _, n + 1, .cons h t => .cons h (Paired.take n t)
/-! ### words -/
/-- the fields of a word -/
structure WFs (fs : List (Str × V)) (vp : V) (n pc : Nat) : Prop where
  part : fs.lookup ("part" : Str) = some vp
  nesting : fs.lookup ("nesting" : Str) = some (.int (n : Nat))
  pieces : fs.lookup ("pieces" : Str) = some (.int (pc : Nat))
  mLength : fs.lookup ("length" : Str) = none
  mCut : fs.lookup ("cut" : Str) = none
  mEntries : fs.lookup ("entries" : Str) = none
def wf1 (vp n pc : V) : List (Str × V) := [("part", vp), ("nesting", n), ("pieces", pc)]
def wf2 (vp n pc : V) : List (Str × V) := [("nesting", n), ("pieces", pc), ("part", vp)]
theorem WFs.one {vp : V} {n pc : Nat} : WFs (wf1 vp (.int (n : Nat)) (.int (pc : Nat))) vp n pc := ⟨by kernel_rfl, by kernel_rfl, by kernel_rfl, by kernel_rfl, by kernel_rfl, by kernel_rfl⟩
theorem WFs.two {vp : V} {n pc : Nat} : WFs (wf2 vp (.int (n : Nat)) (.int (pc : Nat))) vp n pc := ⟨by kernel_rfl, by kernel_rfl, by kernel_rfl, by kernel_rfl, by kernel_rfl, by kernel_rfl⟩
theorem wf1_put {vp n pc : V} : putF "pieces" pc (putF "nesting" n (putF "part" vp [])) = wf1 vp n pc := by kernel_rfl
theorem wf2_put {vp n pc : V} : putF "part" vp (putF "pieces" pc (putF "nesting" n [])) = wf2 vp n pc := by kernel_rfl
theorem wf1_part {vp n pc : V} : (wf1 vp n pc).lookup ("part" : Str) = some vp := by kernel_rfl
theorem wf1_nesting {vp n pc : V} : (wf1 vp n pc).lookup ("nesting" : Str) = some n := by kernel_rfl
theorem wf1_pieces {vp n pc : V} : (wf1 vp n pc).lookup ("pieces" : Str) = some pc := by kernel_rfl
theorem wf2_again {vp vq n pc : V} : putF "part" vq (wf2 vp n pc) = wf2 vq n pc := by kernel_rfl
theorem wf2_part {vp n pc : V} : (wf2 vp n pc).lookup ("part" : Str) = some vp := by kernel_rfl
/-- a word's object -/
def WObj (C CW : Addr) (H : Hp) (v : V) (p : Pt En) (n pc : Nat) : Prop := ∃ a dx fs vp, v = .ref a ∧ H a = some (.ins CW dx fs) ∧ WFs fs vp n pc ∧ PAt C H vp p
/-- a good word: what it tells, how deep, of how many pieces -/
structure WAt (C CW : Addr) (H : Hp) (v : V) (p : Pt En) (n pc : Nat) : Prop where
  obj : WObj C CW H v p n pc
  ok : p.ok
  len : p.den.length < WL
  rk : p.rk ≤ n
  deep : n ≤ 5
theorem WAt.mono {C CW : Addr} {H H' : Hp} (s : Same H H') {v : V} {p : Pt En} {n pc : Nat} (h : WAt C CW H v p n pc) : WAt C CW H' v p n pc :=
  let ⟨⟨a, dx, fs, vp, h1, h2, h3, h4⟩, a2, a3, a4, a5⟩ := h
  ⟨⟨a, dx, fs, vp, h1, s _ _ h2, h3, h4.mono s⟩, a2, a3, a4, a5⟩
/-- the class of words -/
structure WCl (K : PySem.W.Frag) (mg : Str → Option Value) (CW fI : Addr) (fdI : FuncData) : Prop where
  cl : Cls K CW
  nPart : NoAttr K CW "part"
  nNesting : NoAttr K CW "nesting"
  nPieces : NoAttr K CW "pieces"
  ha : PySem.W.findIn K (.ref CW) "__class__" = some (some (.builtin "object.__class__"))
  hn : PySem.W.specialIn K (.builtin "object.__class__") "__get__" = some (some (.builtin "getset_descriptor.__get__"))
  ht : PySem.W.takesIn K (.builtin "object.__class__") = some true
  hm : PySem.W.mroIn K CW (.type "object") = some true
  self : PySem.W.kitOne K (.ref CW) (.ref CW) = some true
  noList : PySem.W.kitOne K (.type "list") (.ref CW) = some false
  fn : Fun K "__init__" "Word.__init__" sWordInit fI fdI
  b : Binds K fdI ["self", "entries"] []
  mkr : Mk K CW fI
  gl : mg "Word" = some (.ref CW)
structure MCl (K : PySem.W.Frag) (mg : Str → Option Value) (CM fI : Addr) (fdI : FuncData) : Prop where
  cl : Cls K CM
  nPart : NoAttr K CM "part"
  nNesting : NoAttr K CM "nesting"
  nPieces : NoAttr K CM "pieces"
  ha : PySem.W.findIn K (.ref CM) "__class__" = some (some (.builtin "object.__class__"))
  hn : PySem.W.specialIn K (.builtin "object.__class__") "__get__" = some (some (.builtin "getset_descriptor.__get__"))
  ht : PySem.W.takesIn K (.builtin "object.__class__") = some true
  hm : PySem.W.mroIn K CM (.type "object") = some true
  self : PySem.W.kitOne K (.ref CM) (.ref CM) = some true
  noList : PySem.W.kitOne K (.type "list") (.ref CM) = some false
  fn : FunD K "__init__" "Made.__init__" (defArgs sMadeInit) (defBody sMadeInit) (defScope sMadeInit) [.int 1] [] fI fdI
  b3 : Binds K fdI ["self", "part", "depth", "pieces"] []
  mkr : Mk K CM fI
  gl : mg "Made" = some (.ref CM)
section
variable {P : Program} {w : World} {K : PySem.W.Frag} {mg : Str → Option Value} {base : Heap} {f C CW CM : Addr} {fd : FuncData} {H : Hp}
def spMadeInit (CM : Addr) : Sp := fun vs H Q _ => ∃ (p dx : Addr) (x n pc : V), vs = [.ref p, x, n, pc] ∧ H p = some (.ins CM dx []) ∧ Q .non (upd H p (.ins CM dx (wf1 x n pc)))
theorem sc_MadeInit : FnScope ["self", "part", "depth", "pieces"] ["self", "part", "depth", "pieces"] (defScope sMadeInit) := ⟨rfl, rfl, rfl, by decide +kernel, rfl, by decide +kernel, by decide +kernel⟩
theorem ok_MadeInit (TM : MCl K mg CM f fd) : FnOk P w K mg base CX0 1 f fd ["self", "part", "depth", "pieces"] (spMadeInit CM) := by
  refine TM.fn.ok sc_MadeInit (fun vs H Q E h => ?_) (fun cdv A outer s H vs Q E hr h => ?_)
  · obtain ⟨p, dx, x, n, pc, rfl, _⟩ := h; rfl
  · obtain ⟨p, dx, x, n, pc, rfl, hp, k⟩ := h
    refine ⟨_, (pss_cons (ps_fld (pv 0) (pv 1) rfl) (pss_cons (ps_fld (pv 0) (pv 2) rfl) (pss_one (ps_fld (pv 0) (pv 3) rfl)))), ?_⟩
    refine ⟨_, rfl, _, rfl, p, CM, dx, _, rfl, hp, TM.cl, TM.nPart, (by show 0 < 1000; decide), ?_⟩
    refine ⟨_, rfl, _, rfl, p, CM, dx, _, rfl, upd_same, TM.cl, TM.nNesting, (by show 1 < 1000; decide), ?_⟩
    refine ⟨_, rfl, _, rfl, p, CM, dx, _, rfl, upd_same, TM.cl, TM.nPieces, (by show 2 < 1000; decide), ?_⟩
    rw [upd_upd, upd_upd, wf1_put]
    exact k
/-- what is new is all that changes but the object itself -/
def SameBut (p : Addr) (H H' : Hp) : Prop := ∀ b o, b ≠ p → H b = some o → H' b = some o
def spWordInit (C CW CM : Addr) (K : PySem.W.Frag) : Sp := fun vs H Q _ => ∃ (p dx : Addr) (v : V), vs = [.ref p, v] ∧ H p = some (.ins CW dx []) ∧
  ((∃ m dm x n pc, v = .ref m ∧ H m = some (.ins CM dm (wf1 x n pc)) ∧ Q .non (upd H p (.ins CW dx (wf1 x n pc)))) ∨
   ∃ es : List En, LAt K H v es ∧ (∀ e ∈ es, e.good = true) ∧ es.length ≤ 1000000 ∧ ∀ H' vp q, SameBut p H H' → H' p = some (.ins CW dx (wf2 vp (.int 0) (.int 1))) → PAt C H' vp q → q.ok → q.den = es → q.rk = 0 → Q .non H')
theorem sc_WordInit : FnScope ["self", "entries", "entry", "first"] ["self", "entries"] (defScope sWordInit) := ⟨rfl, rfl, rfl, by decide +kernel, rfl, by decide +kernel, by decide +kernel⟩
theorem ok_WordInit (TW : WCl K mg CW f fd) {fMI : Addr} {fdMI : FuncData} (TM : MCl K mg CM fMI fdMI) (B : Blt mg) (T : PCl K C) {fI : Addr} {fdI : FuncData} {ds : List Value} (M : PMk K mg C fI fdI ds)
    (GI : FnOk P w K mg base CX0 1 fI fdI ["self", "row", "left", "right", "times", "turned_from"] (spPartInit C K)) (hCW : CW ≠ C) {t60 : Tok} (m60 : mg "MOST_IN_ROW" = some (.int 60 t60))
    {fJ fE : Addr} {fdJ fdE : FuncData} (DJoined : DefF K mg "joined" sJoined ["one", "other"] fJ fdJ) (GJoined : FnOk P w K mg base CX0 3 fJ fdJ ["one", "other"] (spJoined C))
    (DIsEntry : DefF K mg "is_entry" sIsEntry ["thing"] fE fdE) (GIsEntry : FnOk P w K mg base CX0 2 fE fdE ["thing"] spIsEntry) :
    FnOk P w K mg base CX0 4 f fd ["self", "entries"] (spWordInit C CW CM K) := by
  refine TW.fn.ok sc_WordInit (fun vs H Q E h => ?_) (fun cdv A outer s H vs Q E hr h => ?_)
  · obtain ⟨p, dx, v, rfl, _⟩ := h; rfl
  · obtain ⟨p, dx, v, rfl, hp, h⟩ := h
    refine ⟨_, (pss_one (ps_if (pt_val (pe_callB call_isi (by rfl) B.isi PyProof.Rows.boot_isinstance (pa_cons (pv 1) (pa_cons (pe_glob (v := .ref CM) rfl TM.gl rfl) pa_nil)))) (pss_cons (ps_fld (pv 0) (pe_fld (pv 1) rfl) rfl) (pss_cons (ps_fld (pv 0) (pe_fld (pv 1) rfl) rfl) (pss_one (ps_fld (pv 0) (pe_fld (pv 1) rfl) rfl)))) (pss_cons (ps_if (PW.pt (pw_or (pt_not (pt_val (pe_callB call_isi (by rfl) B.isi PyProof.Rows.boot_isinstance (pa_cons (pv 1) (pa_cons (pe_bltn (v := .ty "list") (by rfl) B.list PyProof.Rows.boot_list rfl) pa_nil))))) (pw_or1 (pt_not (pt_val (pe_callB (cr_all rfl) (by rfl) B.all PyProof.Rows.boot_all (pa_cons (pe_lc (own := [("entry", 2)]) (g := gName 2) (tt := tYes) rfl sc_WordInit.nd (pi_list (pv 1)) (blkOk_by (N := ["self", "entries", "entry", "first"]) (sc := defScope sWordInit) (by decide +kernel)) (fun _ _ _ _ _ => pg_name (i := 2) sc_WordInit.nd rfl (Or.inl rfl)) (fun _ _ _ _ _ => pts_nil) (fun _ _ _ _ _ => (pe_call GIsEntry (hr.mono (by first | decide | omega)) rfl DIsEntry.gl DIsEntry.fn.kp DIsEntry.bd .nil pass0 (pa_cons (pv 2) pa_nil)))) pa_nil))))))) (pss_one ps_never) pss_nil) (pss_cons (ps_fld (pv 0) pe_int rfl) (pss_cons (ps_fld (pv 0) pe_int rfl) (pss_cons (ps_fld (pv 0) (pe_make M.mkr GI (hr.mono (by decide)) rfl M.gl M.b4 M.d4 pass0 (pa_cons (pe_tup pa_nil) (pa_cons pe_non (pa_cons pe_non (pa_cons pe_int pa_nil))))) rfl) (pss_one (ps_for PassesOwn.never rfl (pi_range3 rfl B.range (pa_cons pe_int (pa_cons (pe_callB call_len_seq (by rfl) B.len PySem.boot_len (pa_cons (pv 1) pa_nil)) (pa_cons (pe_glob (v := .int 60) rfl m60 ⟨_, rfl⟩) pa_nil)))) (pg_name (i := 3) sc_WordInit.nd rfl (.inl rfl)) (pss_one (ps_fld (pv 0) (pe_call GJoined (hr.mono (by first | decide | omega)) rfl DJoined.gl DJoined.fn.kp DJoined.bd .nil pass0 (pa_cons (pe_fld (pv 0) rfl) (pa_cons (pe_make M.mkr GI (hr.mono (by decide)) rfl M.gl M.b4 M.d4 pass0 (pa_cons (pe_callTy call_tuple_of (by rfl) B.tuple PyProof.Rows.boot_tuple (pa_cons (pe_slice sl_list (pv 1) (po_some (pv 3)) (po_some (pe_op op_add (pv 3) (pe_glob (v := .int 60) rfl m60 ⟨_, rfl⟩)))) pa_nil)) (pa_cons pe_non (pa_cons pe_non (pa_cons pe_int pa_nil))))) pa_nil))) rfl)))))))))), ?_⟩
    rcases h with ⟨m, dm, x, n, pc, rfl, hm, k⟩ | ⟨es, ⟨al, xs, rfl, hl, px⟩, hg, hlen, k⟩
    · have nm : m ≠ p := fun z => by rw [z, hp] at hm; cases hm
      refine ⟨_, rfl, _, _, _, _, true, rfl, ClsV.own _, .base (.ins hm TM.cl TM.ha TM.hn TM.ht TM.hm), TM.self, _, rfl, iteT ?_⟩
      refine ⟨_, rfl, m, CM, dm, _, _, rfl, hm, TM.cl, TM.nPart, wf1_part, _, rfl, p, CW, dx, _, rfl, hp, TW.cl, TW.nPart, (by show 0 < 1000; decide), ?_⟩
      refine ⟨_, rfl, m, CM, dm, _, _, rfl, by rw [upd_ne nm]; exact hm, TM.cl, TM.nNesting, wf1_nesting, _, rfl, p, CW, dx, _, rfl, upd_same, TW.cl, TW.nNesting, (by show 1 < 1000; decide), ?_⟩
      refine ⟨_, rfl, m, CM, dm, _, _, rfl, by rw [upd_ne nm, upd_ne nm]; exact hm, TM.cl, TM.nPieces, wf1_pieces, _, rfl, p, CW, dx, _, rfl, upd_same, TW.cl, TW.nPieces, (by show 2 < 1000; decide), ?_⟩
      rw [upd_upd, upd_upd, wf1_put]
      exact k
    · have np : al ≠ p := fun z => by rw [z, hp] at hl; cases hl
      have lx : xs.length = es.length := Paired.len px
      have h6 : (1000000 : Nat) ≤ sizeLine := by rw [sizeLine_eq]; decide
      refine ⟨_, rfl, _, _, _, _, false, rfl, ClsV.own _, .base (.lst hl), TM.noList, _, rfl, iteF ?_⟩
      refine ⟨_, rfl, _, _, _, _, true, rfl, ClsV.ty _, .base (.lst hl), kit_ty (by decide +kernel), _, rfl, iteF ?_⟩
      refine ⟨_, rfl, al, rfl, ⟨xs, SqL.of hl⟩, fun D hD => lc_list (xs := xs) (fun i H' => Same H H' ∧ H' D = some (.lst (List.replicate i (.bl true)))) ⟨Same.new hD, upd_same⟩ (fun i H' _ h => SqL.of (h.1 _ _ hl)) ?_ ?_⟩
      · rintro i x H' hx ⟨s1, hD'⟩
        obtain ⟨e, he, hxe⟩ := Paired.at_ px hx
        have hlt : i < xs.length := (List.getElem?_eq_some_iff.mp hx).1
        refine ⟨rfl, ?_⟩
        unfold tYes
        refine iteT ⟨_, rfl, x, e, rfl, hxe.mono s1, hg e (List.mem_of_getElem? he), fun H2 s2 => ⟨_, s2 _ _ hD', by rw [List.length_replicate]; omega, ?_⟩⟩
        rw [← List.replicate_succ']
        exact ⟨fun b o z => by rw [upd_ne (fun q => by rw [q, hD] at z; cases z)]; exact s2 _ _ (s1 _ _ z), upd_same⟩
      · rintro H1 ⟨s1, hD'⟩
        refine ⟨D, List.replicate xs.length true, rfl, SqL.of (by rw [List.map_replicate]; exact hD'), ?_⟩
        rw [show (List.replicate xs.length true).all id = true by rw [List.all_replicate]; simp]
        refine ⟨_, rfl, iteN ?_⟩
        have hp1 := s1 _ _ hp
        refine ⟨_, rfl, p, CW, dx, _, rfl, hp1, TW.cl, TW.nNesting, (by show 0 < 1000; decide), ?_⟩
        refine ⟨_, rfl, p, CW, dx, _, rfl, upd_same, TW.cl, TW.nPieces, (by show 1 < 1000; decide), ?_⟩
        rw [upd_upd]
        refine ⟨Nat.zero_le _, fun tp htp => ?_⟩
        have s2 := Same.new (o := .tup []) htp
        refine mk_leaf (row_nil upd_same) fun a0 H2 s3 h0 => ?_
        have s23 := s2.trans s3
        refine ⟨_, rfl, p, CW, dx, _, rfl, s23 _ _ upd_same, TW.cl, TW.nPart, (by show 2 < 1000; decide), ?_⟩
        rw [wf2_put]
        have b1 : SameBut p H (upd H2 p (.ins CW dx (wf2 (.ref a0) (.int 0) (.int 1)))) := fun b o nb e => by
          rw [upd_ne nb]
          exact s23 _ _ (by rw [upd_ne nb]; exact s1 _ _ e)
        refine ⟨_, rfl, al, xs, rfl, .inl (SqL.of (b1 _ _ np hl)), 0, ((xs.length : Nat) : Int), 60, (xs.length + 59) / 60, rfl, ⟨by decide, by decide, rg_small (by omega), rg_size _⟩, ?_⟩
        refine for_rangeC (fun i σ H' => ∃ (o2 o3 : Option V) (vp : V) (q : Pt En), σ = [some (.ref p), some (.ref al), o2, o3] ∧ SameBut p H H' ∧ H' p = some (.ins CW dx (wf2 vp (.int 0) (.int 1))) ∧ PAt C H' vp q ∧ q.ok ∧ q.rk = 0 ∧ q.den = es.take (i * 60))
          ⟨none, none, _, .leaf [], rfl, b1, upd_same, .plain (PX.kept (KeepT.put (s23 _ _ upd_same) hCW) h0), .inl rfl, rfl, by rw [Nat.zero_mul]; rfl⟩ ?_ ?_
        · rintro i σ H' hi ⟨o2, o3, vp, q, rfl, b2, hp', hq, oq, rq, dq⟩
          have hl' := b2 _ _ np hl
          have pxi : Paired (EAt H') xs es := Paired.mono (fun _ _ => EAt.but fun b ys z => b2 b _ (fun w => by rw [w, hp] at z; cases z) z) px
          have e0 : (0 : Int) + ((i : Nat) : Int) * 60 = ((i * 60 : Nat) : Int) := by omega
          refine ⟨_, rfl, p, CW, dx, _, _, rfl, hp', TW.cl, TW.nPart, wf2_part, _, rfl, _, rfl, _, rfl, _, rfl, _, _, rfl, rfl, _, rfl, al, xs, rfl, SqL.of hl', fun t1 ht1 => ?_⟩
          have e1 : ((i * 60 : Nat) : Int) + 60 = ((i * 60 + 60 : Nat) : Int) := by omega
          rw [e0, e1, cut_nat, show i * 60 + 60 - i * 60 = 60 by omega]
          have s3 := Same.new (o := .lst ((xs.drop (i * 60)).take 60)) ht1
          refine ⟨t1, _, rfl, .inl ⟨SqL.of upd_same, fun t2 ht2 => ?_⟩⟩
          have s4 := Same.new (o := .tup ((xs.drop (i * 60)).take 60)) ht2
          have s34 := s3.trans s4
          refine mk_leaf (row := (es.drop (i * 60)).take 60) ⟨t2, _, rfl, upd_same, Paired.mono (fun _ _ => EAt.mono s34) (Paired.take 60 (Paired.drop (i * 60) pxi))⟩ fun a5 H5 s5 h5 => ?_
          have s35 := s34.trans s5
          have lt := Paired.len (Paired.take 60 (Paired.drop (i * 60) pxi))
          refine ⟨vp, .ref a5, q, .leaf ((es.drop (i * 60)).take 60), rfl, hq.mono s35, .plain h5, oq, ?_, fun v6 H6 q6 s6 hq6 oq6 dq6 kq6 => ?_⟩
          · by_cases z : (es.drop (i * 60)).take 60 = []
            · exact .inl (by rw [z])
            · exact .inr z
          have s36 := s35.trans s6
          refine ⟨_, rfl, p, CW, dx, _, rfl, s36 _ _ hp', TW.cl, TW.nPart, (by show 3 < 1000; decide), ?_⟩
          rw [wf2_again]
          refine ⟨_, _, v6, q6, rfl, fun b o nb e => by rw [upd_ne nb]; exact s36 _ _ (b2 b o nb e), upd_same, PX.kept (KeepT.put (s36 _ _ hp') hCW) hq6, oq6, ?_, ?_⟩
          · have e : (Pt.leaf ((es.drop (i * 60)).take 60) : Pt En).rk = 0 := rfl
            omega
          · rw [dq6, dq, Nat.succ_mul, List.take_add]; rfl
        · rintro σ H' ⟨o2, o3, vp, q, rfl, b2, hp', hq, oq, rq, dq⟩
          refine k H' vp q b2 hp' hq oq ?_ rq
          rw [dq, List.take_of_length_le]
          have := Nat.div_add_mod (xs.length + 59) 60
          have := Nat.mod_lt (xs.length + 59) (show 0 < 60 by decide)
          omega
end
end Wd
set_option Elab.async false
set_option linter.all false
set_option maxRecDepth 100000
set_option maxHeartbeats 4000000
set_option exponentiation.threshold 100000
namespace Wd
open PySem L2
theorem sml_WL {n : Nat} (h : n ≤ 1000000) : n < WL := by
  have : (2 : Nat) ^ 20 ≤ WL := Nat.pow_le_pow_right (by decide) (by decide)
  have : (2 : Nat) ^ 20 = 1048576 := by decide
  omega
section
variable {P : Program} {w : World} {K : PySem.W.Frag} {mg : Str → Option Value} {base : Heap} {f C CW CM : Addr} {fd : FuncData} {H : Hp}
theorem same_make {p dx : Addr} {o : HO} (hp : H p = none) (hd : H dx = none) : Same H (upd (upd H dx (.own p)) p o) := fun b u e => by
  rw [upd_ne (ne_of_none e hp), upd_ne (ne_of_none e hd)]; exact e
theorem mk_made {x n pc : V} {R : Addr → Hp → Prop} {E : XK} (k : ∀ (m dm : Addr) (H' : Hp), Same H H' → H' m = some (.ins CM dm (wf1 x n pc)) → R m H') :
    ∀ p dx, H p = none → H dx = none → dx ≠ p → spMadeInit CM (.ref p :: [x, n, pc]) (upd (upd H dx (.own p)) p (.ins CM dx [])) (fun v H2 => v = .non ∧ R p H2) E := by
  intro p dx hp hd hn
  refine ⟨p, dx, x, n, pc, rfl, upd_same, rfl, ?_⟩
  rw [upd_upd]
  exact k p dx _ (same_make hp hd) upd_same
theorem mk_wordM {m dm : Addr} {vp : V} {q : Pt En} {n pc : Nat} {ni pi : Int} {R : Addr → Hp → Prop} {E : XK} (hm : H m = some (.ins CM dm (wf1 vp (.int ni) (.int pi)))) (en : ni = (n : Nat)) (ep : pi = (pc : Nat)) (hq : PAt C H vp q) (oq : q.ok) (lq : q.den.length < WL) (rq : q.rk ≤ n) (hn : n ≤ 5)
    (k : ∀ (a : Addr) (H' : Hp), Same H H' → WAt C CW H' (.ref a) q n pc → R a H') :
    ∀ p dx, H p = none → H dx = none → dx ≠ p → spWordInit C CW CM K (.ref p :: [.ref m]) (upd (upd H dx (.own p)) p (.ins CW dx [])) (fun v H2 => v = .non ∧ R p H2) E := by
  subst en ep
  intro p dx hp hd hne
  refine ⟨p, dx, .ref m, rfl, upd_same, .inl ⟨m, dm, vp, _, _, rfl, same_make hp hd _ _ hm, rfl, ?_⟩⟩
  rw [upd_upd]
  have s := same_make (o := .ins CW dx (wf1 vp (.int (n : Nat)) (.int (pc : Nat)))) hp hd
  exact k p _ s ⟨⟨p, dx, _, vp, rfl, upd_same, .one, hq.mono s⟩, oq, lq, rq, hn⟩
theorem mk_wordL {v : V} {es : List En} {R : Addr → Hp → Prop} {E : XK} (hl : LAt K H v es) (hg : ∀ e ∈ es, e.good = true) (hlen : es.length ≤ 1000000)
    (k : ∀ (a : Addr) (H' : Hp) (q : Pt En), Same H H' → WAt C CW H' (.ref a) q 0 1 → q.den = es → R a H') :
    ∀ p dx, H p = none → H dx = none → dx ≠ p → spWordInit C CW CM K (.ref p :: [v]) (upd (upd H dx (.own p)) p (.ins CW dx [])) (fun v H2 => v = .non ∧ R p H2) E := by
  intro p dx hp hd hne
  have s0 := same_make (o := .ins CW dx []) hp hd
  obtain ⟨a, xs, rfl, h1, h2⟩ := hl
  refine ⟨p, dx, .ref a, rfl, upd_same, .inr ⟨es, ⟨a, xs, rfl, s0 _ _ h1, Paired.mono (fun _ _ => EAt.mono s0) h2⟩, hg, hlen, fun H' vp q b hp' hq oq dq rq => ⟨rfl, ?_⟩⟩⟩
  refine k p H' q (fun c o e => b c o (ne_of_none e hp) (s0 _ _ e)) ⟨⟨p, dx, _, vp, rfl, hp', .two, hq⟩, oq, by rw [dq]; exact sml_WL hlen, by omega, by omega⟩ dq
/-! ### the methods -/
def spCheckIndex : Sp := fun vs H Q _ => ∃ i a b : Int, vs = [.int i, .int a, .int b] ∧ a ≤ i ∧ i ≤ b ∧ Q .non H
theorem sc_CheckIndex : FnScope ["number", "least", "most"] ["number", "least", "most"] (defScope sCheckIndex) := ⟨rfl, rfl, rfl, by decide +kernel, rfl, by decide +kernel, by decide +kernel⟩
theorem ok_CheckIndex (D : DefF K mg "check_index" sCheckIndex ["number", "least", "most"] f fd) {fI : Addr} {fdI : FuncData} (DIsBetween : DefF K mg "is_between" sIsBetween ["thing", "least", "most"] fI fdI) (GIsBetween : FnOk P w K mg base CX0 2 fI fdI ["thing", "least", "most"] spIsBetween) :
    FnOk P w K mg base CX0 3 f fd ["number", "least", "most"] spCheckIndex := by
  refine D.fn.ok sc_CheckIndex (fun vs H Q E h => ?_) (fun cdv A outer s H vs Q E hr h => ?_)
  · obtain ⟨i, a, b, rfl, _⟩ := h; rfl
  · obtain ⟨i, a, b, rfl, h1, h2, k⟩ := h
    refine ⟨_, (pss_one (ps_if (pt_not (pt_val (pe_call GIsBetween (hr.mono (by first | decide | omega)) rfl DIsBetween.gl DIsBetween.fn.kp DIsBetween.bd .nil pass0 (pa_cons (pv 0) (pa_cons (pv 1) (pa_cons (pv 2) pa_nil)))))) (pss_one ps_never) pss_nil)), ?_⟩
    refine ⟨_, rfl, _, rfl, _, rfl, i, a, b, rfl, ?_⟩
    rw [decide_eq_true h1, decide_eq_true h2]
    exact ⟨_, rfl, iteN k⟩
def spWordLength (C CW : Addr) : Sp := fun vs H Q _ => ∃ v p n pc, vs = [v] ∧ WAt C CW H v p n pc ∧ Q (.int (p.den.length : Nat)) H
theorem sc_WordLength : FnScope ["self"] ["self"] (defScope sWordLength) := ⟨rfl, rfl, rfl, by decide +kernel, rfl, by decide +kernel, by decide +kernel⟩
theorem ok_WordLength (D : DefM K CW "length" "Word.length" sWordLength ["self"] f fd) (T : PCl K C) {fWI : Addr} {fdWI : FuncData} (TW : WCl K mg CW fWI fdWI) : FnOk P w K mg base CX0 1 f fd ["self"] (spWordLength C CW) := by
  refine D.fn.ok sc_WordLength (fun vs H Q E h => ?_) (fun cdv A outer s H vs Q E hr h => ?_)
  · obtain ⟨v, p, n, pc, rfl, _⟩ := h; rfl
  · obtain ⟨v, p, n, pc, rfl, ⟨⟨a, dx, fs, vp, rfl, ha, hf, hp⟩, _⟩, k⟩ := h
    refine ⟨_, (pss_one (ps_ret (pe_fld (pe_fld (pv 0) rfl) rfl))), ?_⟩
    obtain ⟨b, db, xb, lb, rb, tb, tfb, rfl, hb⟩ := PX.objF hp
    exact ⟨_, rfl, a, CW, dx, _, _, rfl, ha, TW.cl, TW.nPart, hf.part, b, C, db, _, _, rfl, hb, T.cl, T.nWide, pf_wide, k⟩
def spWordBool (C CW : Addr) : Sp := fun vs H Q _ => ∃ v p n pc, vs = [v] ∧ WAt C CW H v p n pc ∧ Q (.bl (decide (p.den ≠ []))) H
theorem sc_WordBool : FnScope ["self"] ["self"] (defScope sWordBool) := ⟨rfl, rfl, rfl, by decide +kernel, rfl, by decide +kernel, by decide +kernel⟩
theorem ok_WordBool (D : Fun K "__bool__" "Word.__bool__" sWordBool f fd) (B : Blt mg) (T : PCl K C) {fWI : Addr} {fdWI : FuncData} (TW : WCl K mg CW fWI fdWI) : FnOk P w K mg base CX0 1 f fd ["self"] (spWordBool C CW) := by
  refine D.ok sc_WordBool (fun vs H Q E h => ?_) (fun cdv A outer s H vs Q E hr h => ?_)
  · obtain ⟨v, p, n, pc, rfl, _⟩ := h; rfl
  · obtain ⟨v, p, n, pc, rfl, ⟨⟨a, dx, fs, vp, rfl, ha, hf, hp⟩, _⟩, k⟩ := h
    refine ⟨_, (pss_one (ps_ret (pe_callTy call_bool1 (by rfl) B.bool PyProof.Rows.boot_bool (pa_cons (pe_fld (pe_fld (pv 0) rfl) rfl) pa_nil)))), ?_⟩
    obtain ⟨b, db, xb, lb, rb, tb, tfb, rfl, hb⟩ := PX.objF hp
    refine ⟨_, rfl, a, CW, dx, _, _, rfl, ha, TW.cl, TW.nPart, hf.part, b, C, db, _, _, rfl, hb, T.cl, T.nWide, pf_wide, .inl ⟨_, rfl, ?_⟩⟩
    have e : ((((p.den.length : Nat) : Int)) != 0) = decide (p.den ≠ []) := by
      by_cases z : p.den = []
      · rw [z]; rfl
      · rw [decide_eq_true z]
        have : p.den.length ≠ 0 := fun q => z (List.length_eq_zero_iff.mp q)
        simp only [bne_iff_ne]; omega
    rw [e]; exact k
def spWordAdd (C CW : Addr) : Sp := fun vs H Q _ => ∃ v1 v2 p q n1 n2 c1 c2, vs = [v1, v2] ∧ WAt C CW H v1 p n1 c1 ∧ WAt C CW H v2 q n2 c2 ∧ c1 + c2 ≤ 1000 ∧ p.den.length + q.den.length < WL ∧
  ∀ (a : Addr) H' r, Same H H' → WAt C CW H' (.ref a) r (max n1 n2) (c1 + c2) → r.den = p.den ++ q.den → Q (.ref a) H'
theorem sc_WordAdd : FnScope ["self", "other", "pieces"] ["self", "other"] (defScope sWordAdd) := ⟨rfl, rfl, rfl, by decide +kernel, rfl, by decide +kernel, by decide +kernel⟩
theorem ok_WordAdd (D : Fun K "__add__" "Word.__add__" sWordAdd f fd) (B : Blt mg) {fWI : Addr} {fdWI : FuncData} (TW : WCl K mg CW fWI fdWI) {fMI : Addr} {fdMI : FuncData} (TM : MCl K mg CM fMI fdMI)
    (GMade : FnOk P w K mg base CX0 1 fMI fdMI ["self", "part", "depth", "pieces"] (spMadeInit CM)) (GWord : FnOk P w K mg base CX0 4 fWI fdWI ["self", "entries"] (spWordInit C CW CM K))
    {fJ : Addr} {fdJ : FuncData} (DJoined : DefF K mg "joined" sJoined ["one", "other"] fJ fdJ) (GJoined : FnOk P w K mg base CX0 3 fJ fdJ ["one", "other"] (spJoined C)) {t1000 : Tok} (mPcs : mg "MOST_PIECES" = some (.int 1000 t1000)) :
    FnOk P w K mg base CX0 6 f fd ["self", "other"] (spWordAdd C CW) := by
  refine D.ok sc_WordAdd (fun vs H Q E h => ?_) (fun cdv A outer s H vs Q E hr h => ?_)
  · obtain ⟨v1, v2, p, q, n1, n2, c1, c2, rfl, _⟩ := h; rfl
  · obtain ⟨v1, v2, p, q, n1, n2, c1, c2, rfl, w1, w2, hc, hL, k⟩ := h
    refine ⟨_, (pss_cons (ps_set (i := 2) sc_WordAdd.nd rfl (.inl rfl) (pe_op op_add (pe_fld (pv 0) rfl) (pe_fld (pv 1) rfl))) (pss_cons (ps_if (pt_cmpR op_gt (pv 2) (pe_glob (v := .int 1000) rfl mPcs ⟨_, rfl⟩) (nomark _)) (pss_one ps_never) pss_nil) (pss_one (ps_ret (pe_make TW.mkr GWord (hr.mono (by first | decide | omega)) rfl TW.gl TW.b .nil pass0 (pa_cons (pe_make TM.mkr GMade (hr.mono (by first | decide | omega)) rfl TM.gl TM.b3 .nil pass0 (pa_cons (pe_call GJoined (hr.mono (by first | decide | omega)) rfl DJoined.gl DJoined.fn.kp DJoined.bd .nil pass0 (pa_cons (pe_fld (pv 0) rfl) (pa_cons (pe_fld (pv 1) rfl) pa_nil))) (pa_cons (pe_callB (cr_max rfl) (by rfl) B.max PyProof.Rows.boot_max (pa_cons (pe_lst (pa_cons (pe_fld (pv 0) rfl) (pa_cons (pe_fld (pv 1) rfl) pa_nil))) pa_nil)) (pa_cons (pv 2) pa_nil)))) pa_nil)))))), ?_⟩
    obtain ⟨⟨a, dx, fs, vp, rfl, ha, hf, hp⟩, op, lp, kp, dp⟩ := w1
    obtain ⟨⟨b, dy, gs, vq, rfl, hb, hg, hq⟩, oq, lq, kq, dq⟩ := w2
    refine ⟨_, rfl, a, CW, dx, _, _, rfl, ha, TW.cl, TW.nPieces, hf.pieces, _, rfl, b, CW, dy, _, _, rfl, hb, TW.cl, TW.nPieces, hg.pieces, _, _, rfl, rfl, ?_⟩
    refine ⟨_, rfl, _, _, rfl, rfl, _, rfl, ?_⟩
    rw [show decide ((1000 : Int) < ((c1 : Nat) : Int) + ((c2 : Nat) : Int)) = false from decide_eq_false (by omega)]
    refine iteF ?_
    refine ⟨_, rfl, a, CW, dx, _, _, rfl, ha, TW.cl, TW.nPart, hf.part, _, rfl, b, CW, dy, _, _, rfl, hb, TW.cl, TW.nPart, hg.part, vp, vq, p, q, rfl, hp, hq, op, oq, fun v3 H3 r s3 hr3 or3 dr3 kr3 => ?_⟩
    refine ⟨_, rfl, a, CW, dx, _, _, rfl, s3 _ _ ha, TW.cl, TW.nNesting, hf.nesting, _, rfl, b, CW, dy, _, _, rfl, s3 _ _ hb, TW.cl, TW.nNesting, hg.nesting, Nat.le_trans (show 2 ≤ 3 by decide) three_line, fun t4 ht4 => ⟨t4, [((n1 : Nat) : Int), ((n2 : Nat) : Int)], rfl, SqL.of upd_same, (show 0 < 2 by decide), fun m hm hmx => ⟨_, rfl, ?_⟩⟩⟩
    have hmm : m = ((max n1 n2 : Nat) : Int) := by
      have h1 := hmx _ (List.mem_cons_self ..)
      have h2 := hmx _ (List.mem_cons_of_mem _ (List.mem_cons_self ..))
      rcases List.mem_cons.mp hm with z | z
      · omega
      · rcases List.mem_cons.mp z with z | z
        · omega
        · cases z
    subst hmm
    have s4 := Same.new (o := .lst [.int (n1 : Nat), .int (n2 : Nat)]) ht4
    have ec : ((c1 : Nat) : Int) + ((c2 : Nat) : Int) = ((c1 + c2 : Nat) : Int) := (Int.natCast_add _ _).symm
    refine mk_made fun m5 dm H5 s5 hm5 => ?_
    have s45 := s4.trans s5
    refine mk_wordM hm5 rfl ec (hr3.mono s45) or3 (by rw [dr3, List.length_append]; omega) (by omega) (by omega) fun a6 H6 s6 w6 => ?_
    exact k a6 H6 r ((s3.trans s45).trans s6) w6 dr3
def spWordMul (C CW : Addr) : Sp := fun vs H Q _ => ∃ v p n c t, vs = [v, .int (t : Nat)] ∧ WAt C CW H v p n c ∧ n < 5 ∧ t < WL ∧ t * p.den.length < WL ∧
  ∀ (a : Addr) H' r, Same H H' → WAt C CW H' (.ref a) r (n + 1) c → r.den = rpt t p.den → Q (.ref a) H'
theorem sc_WordMul : FnScope ["self", "times"] ["self", "times"] (defScope sWordMul) := ⟨rfl, rfl, rfl, by decide +kernel, rfl, by decide +kernel, by decide +kernel⟩
theorem ok_WordMul (D : Fun K "__mul__" "Word.__mul__" sWordMul f fd) (B : Blt mg) {fWI : Addr} {fdWI : FuncData} (TW : WCl K mg CW fWI fdWI) {fMI : Addr} {fdMI : FuncData} (TM : MCl K mg CM fMI fdMI)
    (GMade : FnOk P w K mg base CX0 1 fMI fdMI ["self", "part", "depth", "pieces"] (spMadeInit CM)) (GWord : FnOk P w K mg base CX0 4 fWI fdWI ["self", "entries"] (spWordInit C CW CM K))
    {fR fB : Addr} {fdR fdB : FuncData} (DRepeated : DefF K mg "repeated" sRepeated ["part", "times"] fR fdR) (GRepeated : FnOk P w K mg base CX0 3 fR fdR ["part", "times"] (spRepeated C))
    (DIsBetween : DefF K mg "is_between" sIsBetween ["thing", "least", "most"] fB fdB) (GIsBetween : FnOk P w K mg base CX0 2 fB fdB ["thing", "least", "most"] spIsBetween) {t6 : Tok} (m6 : mg "MOST_DEPTH" = some (.int 6 t6)) :
    FnOk P w K mg base CX0 6 f fd ["self", "times"] (spWordMul C CW) := by
  refine D.ok sc_WordMul (fun vs H Q E h => ?_) (fun cdv A outer s H vs Q E hr h => ?_)
  · obtain ⟨v, p, n, c, t, rfl, _⟩ := h; rfl
  · obtain ⟨v, p, n, c, t, rfl, w1, hn, ht, hL, k⟩ := h
    refine ⟨_, (pss_cons (ps_if (pt_not (pt_val (pe_call GIsBetween (hr.mono (by first | decide | omega)) rfl DIsBetween.gl DIsBetween.fn.kp DIsBetween.bd .nil pass0 (pa_cons (pv 1) (pa_cons pe_int (pa_cons (pv 1) pa_nil)))))) (pss_one ps_never) pss_nil) (pss_cons (ps_if (pt_cmpR op_eq (pe_fld (pv 0) rfl) (pe_glob (v := .int 6) rfl m6 ⟨_, rfl⟩) (nomark _)) (pss_one ps_never) pss_nil) (pss_one (ps_ret (pe_make TW.mkr GWord (hr.mono (by first | decide | omega)) rfl TW.gl TW.b .nil pass0 (pa_cons (pe_make TM.mkr GMade (hr.mono (by first | decide | omega)) rfl TM.gl TM.b3 .nil pass0 (pa_cons (pe_call GRepeated (hr.mono (by first | decide | omega)) rfl DRepeated.gl DRepeated.fn.kp DRepeated.bd .nil pass0 (pa_cons (pe_fld (pv 0) rfl) (pa_cons (pv 1) pa_nil))) (pa_cons (pe_op op_add (pe_fld (pv 0) rfl) pe_int) (pa_cons (pe_fld (pv 0) rfl) pa_nil)))) pa_nil)))))), ?_⟩
    obtain ⟨⟨a, dx, fs, vp, rfl, ha, hf, hp⟩, op, lp, kp, dp⟩ := w1
    refine ⟨_, rfl, _, rfl, _, _, _, rfl, ?_⟩
    rw [show (decide ((0 : Int) ≤ ((t : Nat) : Int)) && decide (((t : Nat) : Int) ≤ ((t : Nat) : Int))) = true by rw [decide_eq_true (by omega), decide_eq_true (by omega)]; rfl]
    refine ⟨_, rfl, iteN ?_⟩
    refine ⟨_, rfl, a, CW, dx, _, _, rfl, ha, TW.cl, TW.nNesting, hf.nesting, rfl, _, rfl, ?_⟩
    rw [nat_ne0 (show ((n : Nat) : Int) ≠ 6 by omega)]
    refine iteF ?_
    refine ⟨_, rfl, a, CW, dx, _, _, rfl, ha, TW.cl, TW.nPart, hf.part, _, rfl, vp, p, t, rfl, hp, op, lp, ht, fun v3 H3 r s3 hr3 or3 dr3 kr3 _ => ?_⟩
    refine ⟨_, rfl, a, CW, dx, _, _, rfl, s3 _ _ ha, TW.cl, TW.nNesting, hf.nesting, _, _, rfl, rfl, _, rfl, a, CW, dx, _, _, rfl, s3 _ _ ha, TW.cl, TW.nPieces, hf.pieces, ?_⟩
    have en : ((n : Nat) : Int) + 1 = ((n + 1 : Nat) : Int) := (Int.natCast_add _ _).symm
    refine mk_made fun m5 dm H5 s5 hm5 => ?_
    refine mk_wordM hm5 en rfl (hr3.mono s5) or3 (by rw [dr3, len_rpt]; exact hL) (by omega) (by omega) fun a6 H6 s6 w6 => ?_
    exact k a6 H6 r ((s3.trans s5).trans s6) w6 dr3
def spWordCut (C CW : Addr) : Sp := fun vs H Q _ => ∃ v p n c x y, vs = [v, .int (x : Nat), .int (y : Nat)] ∧ WAt C CW H v p n c ∧ x ≤ y ∧ y ≤ p.den.length ∧
  ∀ (a : Addr) H' r, Same H H' → WAt C CW H' (.ref a) r n c → r.den = (p.den.drop x).take (y - x) → Q (.ref a) H'
theorem sc_WordCut : FnScope ["self", "first", "last"] ["self", "first", "last"] (defScope sWordCut) := ⟨rfl, rfl, rfl, by decide +kernel, rfl, by decide +kernel, by decide +kernel⟩
theorem gd_word {p : Pt En} (h : p.ok) (hw : p.den.length < WL) (hp : 0 < p.den.length) : Gd [(.p p, 1)] := gd_one (core_ok h fun z => by rw [z] at hp; exact absurd hp (Nat.lt_irrefl 0)) hw
theorem ok_WordCut (D : DefM K CW "cut" "Word.cut" sWordCut ["self", "first", "last"] f fd) (T : PCl K C) {fWI : Addr} {fdWI : FuncData} (TW : WCl K mg CW fWI fdWI) {fMI : Addr} {fdMI : FuncData} (TM : MCl K mg CM fMI fdMI)
    (GMade : FnOk P w K mg base CX0 1 fMI fdMI ["self", "part", "depth", "pieces"] (spMadeInit CM)) (GWord : FnOk P w K mg base CX0 4 fWI fdWI ["self", "entries"] (spWordInit C CW CM K))
    {fC fB fP : Addr} {fdC fdB fdP : FuncData} (DCheckIndex : DefF K mg "check_index" sCheckIndex ["number", "least", "most"] fC fdC) (GCheckIndex : FnOk P w K mg base CX0 3 fC fdC ["number", "least", "most"] spCheckIndex)
    (DBehind : DefF K mg "behind" sBehind ["units", "many"] fB fdB) (GBehind : FnOk P w K mg base CX0 2 fB fdB ["units", "many"] (spBehind C)) (DPartOf : DefF K mg "part_of" sPartOf ["units", "many"] fP fdP) (GPartOf : FnOk P w K mg base CX0 4 fP fdP ["units", "many"] (spPartOf C)) :
    FnOk P w K mg base CX0 6 f fd ["self", "first", "last"] (spWordCut C CW) := by
  refine D.fn.ok sc_WordCut (fun vs H Q E h => ?_) (fun cdv A outer s H vs Q E hr h => ?_)
  · obtain ⟨v, p, n, c, x, y, rfl, _⟩ := h; rfl
  · obtain ⟨v, p, n, c, x, y, rfl, w1, hxy, hy, k⟩ := h
    refine ⟨_, (pss_cons (ps_expr (pe_call GCheckIndex (hr.mono (by first | decide | omega)) rfl DCheckIndex.gl DCheckIndex.fn.kp DCheckIndex.bd .nil pass0 (pa_cons (pv 1) (pa_cons pe_int (pa_cons (pe_fld (pe_fld (pv 0) rfl) rfl) pa_nil))))) (pss_cons (ps_expr (pe_call GCheckIndex (hr.mono (by first | decide | omega)) rfl DCheckIndex.gl DCheckIndex.fn.kp DCheckIndex.bd .nil pass0 (pa_cons (pv 2) (pa_cons (pv 1) (pa_cons (pe_fld (pe_fld (pv 0) rfl) rfl) pa_nil))))) (pss_one (ps_ret (pe_make TW.mkr GWord (hr.mono (by first | decide | omega)) rfl TW.gl TW.b .nil pass0 (pa_cons (pe_make TM.mkr GMade (hr.mono (by first | decide | omega)) rfl TM.gl TM.b3 .nil pass0 (pa_cons (pe_call GPartOf (hr.mono (by first | decide | omega)) rfl DPartOf.gl DPartOf.fn.kp DPartOf.bd .nil pass0 (pa_cons (pe_call GBehind (hr.mono (by first | decide | omega)) rfl DBehind.gl DBehind.fn.kp DBehind.bd .nil pass0 (pa_cons (pe_tup (pa_cons (pe_fld (pv 0) rfl) (pa_cons pe_int (pa_cons pe_non pa_nil)))) (pa_cons (pv 1) pa_nil))) (pa_cons (pe_op op_sub (pv 2) (pv 1)) pa_nil))) (pa_cons (pe_fld (pv 0) rfl) (pa_cons (pe_fld (pv 0) rfl) pa_nil)))) pa_nil)))))), ?_⟩
    obtain ⟨⟨a, dx, fs, vp, rfl, ha, hf, hp⟩, op, lp, kp, dp⟩ := w1
    obtain ⟨b, db, xb, lb, rb, tb, tfb, rfl, hb⟩ := PX.objF hp
    refine ⟨_, rfl, _, rfl, a, CW, dx, _, _, rfl, ha, TW.cl, TW.nPart, hf.part, b, C, db, _, _, rfl, hb, T.cl, T.nWide, pf_wide, _, _, _, rfl, by omega, by omega, ?_⟩
    refine ⟨_, rfl, _, rfl, _, rfl, a, CW, dx, _, _, rfl, ha, TW.cl, TW.nPart, hf.part, b, C, db, _, _, rfl, hb, T.cl, T.nWide, pf_wide, _, _, _, rfl, by omega, by omega, ?_⟩
    refine ⟨_, rfl, a, CW, dx, _, _, rfl, ha, TW.cl, TW.nPart, hf.part, three_line, fun t1 ht1 => ⟨_, rfl, ?_⟩⟩
    have s1 := Same.new (o := .tup [.ref b, .int 1, .non]) ht1
    have lo : (den [((.p p, 1) : Un En × Nat)]).length = p.den.length := by rw [den_one]; rfl
    refine ⟨.ref t1, [(.p p, 1)], x, rfl, .cons (t := 1) upd_same (hp.mono s1) .nil, fun z => gd_word op lp (by omega), by omega, fun v2 H2 us2 s2 hu2 go2 => ?_⟩
    have s12 := s1.trans s2
    refine ⟨_, rfl, _, rfl, _, _, rfl, rfl, ?_⟩
    refine ⟨v2, us2, y - x, p.rk, p.rk, (by
      show _ = [v2, V.int ((y - x : Nat) : Int)]
      rw [Int.ofNat_sub hxy]; rfl), hu2, fun z => go2.2.2 (gd_word op lp (by omega)), by rw [go2.len]; omega, by omega, go2.2.1 _ _ _ (vis_one p _), fun v3 H3 r s3 hr3 or3 dr3 kr3 => ?_⟩
    have s13 := s12.trans s3
    refine ⟨_, rfl, a, CW, dx, _, _, rfl, s13 _ _ ha, TW.cl, TW.nNesting, hf.nesting, _, rfl, a, CW, dx, _, _, rfl, s13 _ _ ha, TW.cl, TW.nPieces, hf.pieces, ?_⟩
    have d3 : r.den = (p.den.drop x).take (y - x) := by rw [dr3, go2.1, den_one]; rfl
    refine mk_made fun m5 dm H5 s5 hm5 => ?_
    refine mk_wordM hm5 rfl rfl (hr3.mono s5) or3 (by rw [d3, List.length_take, List.length_drop]; omega) (by omega) dp fun a6 H6 s6 w6 => ?_
    exact k a6 H6 r ((s13.trans s5).trans s6) w6 d3
end
end Wd
set_option Elab.async false
set_option linter.all false
set_option maxRecDepth 100000
set_option maxHeartbeats 4000000
namespace Wd
open PySem L2
section
variable {X : Cx}
/-- a list of anything != [] -/
def rNeNil : R2 := fun x y H Q => ∃ a b xs, x = .ref a ∧ y = .ref b ∧ H a = some (.lst xs) ∧ H b = some (.lst []) ∧ Q (.bl (!xs.isEmpty)) H
theorem op_neNil (hu : X.A.units + 64 < cLine) : OpR X (compareOp .NotEq) rNeNil := by
  intro pins s σ H x y v u Q I rx ry h
  obtain ⟨a, b, xs, rfl, rfl, ha, hb, q⟩ := h
  cases rx
  cases ry
  obtain ⟨its, rv, pl, hz⟩ := I.list (SqL.of ha)
  obtain ⟨its2, rv2, pl2, hz2⟩ := I.list (SqL.of hb)
  have e2 : its2 = [] := by cases rv2; rfl
  subst e2
  cases xs with
  | nil =>
    cases rv
    refine SeqAt.RcNeAt.lists (items := [].toArray) (items2 := [].toArray) (e := fun _ => true) pl.isList pl2.isList rfl (by omega) (fun j h1 h2 => absurd h2 (by simp)) X.prog X.w _ _ ?_
    exact ⟨.bl false, H, I, rfl, q⟩
  | cons y ys =>
    cases rv with
    | cons r1 r2 =>
      refine SeqAt.RcNeAt.lists_lengths pl.isList pl2.isList (by simp) (by omega) X.prog X.w _ _ ?_
      exact ⟨.bl true, H, I, rfl, q⟩
end
end Wd
set_option Elab.async false
set_option linter.all false
set_option maxRecDepth 100000
set_option maxHeartbeats 4000000
set_option exponentiation.threshold 100000
namespace Wd
open PySem L2
theorem cut_init (xs : List V) (x : V) : cutV (xs ++ [x]) none (some (-1)) = xs := by
  unfold cutV
  have hl : (xs ++ [x]).length = xs.length + 1 := by rw [List.length_append]; rfl
  have e : HT.sIx (xs ++ [x]).length (xs ++ [x]).length (some (-1)) = xs.length := by
    rw [hl]
    unfold HT.sIx
    simp only
    rw [if_pos (by decide)]; omega
  rw [e]
  show ((xs ++ [x]).drop 0).take (xs.length - 0) = xs
  rw [List.drop_zero, Nat.sub_zero, List.take_append_of_le_length (Nat.le_refl _), List.take_of_length_le (Nat.le_refl _)]
theorem Paired.snoc {A B : Type} {F : A → B → Prop} : ∀ {l : List A} {x : A} {r : List B}, Paired F (l ++ [x]) r → ∃ r0 y, r = r0 ++ [y] ∧ Paired F l r0 ∧ F x y
  | [], x, _, .cons h .nil => ⟨[], _, rfl, .nil, h⟩
  | a :: l, x, _, .cons h t => by
    obtain ⟨r0, y, rfl, h1, h2⟩ := Paired.snoc (l := l) t
    exact ⟨_ :: r0, y, rfl, .cons h h1, h2⟩
def wt (p : Pt En) : Nat := max 1 p.den.length
def pwt (ps : List (Pt En)) : Nat := (ps.map wt).sum
theorem pwt_append (a b : List (Pt En)) : pwt (a ++ b) = pwt a + pwt b := by unfold pwt; rw [List.map_append, List.sum_append]
theorem pwt_len : ∀ ps : List (Pt En), ps.length ≤ pwt ps
  | [] => Nat.le_refl _
  | p :: ps => by
    have := pwt_len ps
    have h : 1 ≤ wt p := Nat.le_max_left _ _
    show ps.length + 1 ≤ wt p + pwt ps
    omega
theorem wt_nz {p : Pt En} (h : p.nz) : wt p = p.den.length := by have := Pt.nz_pos h; unfold wt; omega
theorem core_sz (p : Pt En) : (core p).sz ≤ p.sz := by cases p <;> exact Nat.le_refl _
def psz (ps : List (Pt En)) : Nat := (ps.map fun p => p.sz + 1).sum
theorem psz_append (a b : List (Pt En)) : psz (a ++ b) = psz a + psz b := by unfold psz; rw [List.map_append, List.sum_append]
theorem mem_rpt {A : Type} {x : A} {n : Nat} {xs : List A} (h : 1 ≤ n) : x ∈ rpt n xs ↔ x ∈ xs := by
  unfold rpt
  rw [List.mem_flatten]
  constructor
  · rintro ⟨l, hl, hx⟩
    rw [List.eq_of_mem_replicate hl] at hx; exact hx
  · intro hx
    exact ⟨xs, List.mem_replicate.mpr ⟨by omega, rfl⟩, hx⟩
section
variable {P : Program} {w : World} {K : PySem.W.Frag} {mg : Str → Option Value} {base : Heap} {f C CW CM : Addr} {fd : FuncData} {H : Hp}
def spWordContains (C CW : Addr) : Sp := fun vs H Q _ => ∃ v x e p n pc, vs = [v, x] ∧ WAt C CW H v p n pc ∧ EAt H x e ∧ p.den.length ≤ 1000000 ∧ ∀ H', Same H H' → Q (.bl (decide (e ∈ p.den))) H'
theorem sc_WordContains : FnScope ["self", "entry", "waiting", "part", "some"] ["self", "entry"] (defScope sWordContains) := ⟨rfl, rfl, rfl, by decide +kernel, rfl, by decide +kernel, by decide +kernel⟩
theorem ok_WordContains (D : Fun K "__contains__" "Word.__contains__" sWordContains f fd) (B : Blt mg) (T : PCl K C) {fWI : Addr} {fdWI : FuncData} (TW : WCl K mg CW fWI fdWI) : FnOk P w K mg base CX0 1 f fd ["self", "entry"] (spWordContains C CW) := by
  refine D.ok sc_WordContains (fun vs H Q E h => ?_) (fun cdv A outer s H vs Q E hr h => ?_)
  · obtain ⟨v, x, e, p, n, pc, rfl, _⟩ := h; rfl
  · obtain ⟨v, x, e, p, n, pc, rfl, ⟨⟨a, dx, fs, vp, rfl, ha, hf, hp⟩, op, _⟩, he, hl6, k⟩ := h
    refine ⟨_, (pss_cons (ps_set (i := 2) sc_WordContains.nd rfl (.inl rfl) (pe_lst (pa_cons (pe_fld (pv 0) rfl) pa_nil))) (pss_cons (ps_while PassesOwn.never (pt_cmpR (op_neNil hr.units) (pv 2) (pe_lst pa_nil) (nomark _)) (pss_cons (ps_set (i := 3) sc_WordContains.nd rfl (.inl rfl) (pe_ix ix_list (pv 2) (pe_un un_neg pe_int) (fun _ _ => rfl))) (pss_cons (ps_set (i := 2) sc_WordContains.nd rfl (.inl rfl) (pe_op op_cat (pe_slice sl_list (pv 2) po_none (po_some (pe_un un_neg pe_int))) (pe_lc (own := [("some", 4)]) (g := gName 4)  rfl sc_WordContains.nd (pi_tup (pe_tup (pa_cons (pe_fld (pv 3) rfl) (pa_cons (pe_fld (pv 3) rfl) pa_nil)))) (blkOk_by (N := ["self", "entry", "waiting", "part", "some"]) (sc := defScope sWordContains) (by decide +kernel)) (fun _ _ _ _ _ => pg_name (i := 4) sc_WordContains.nd rfl (Or.inl rfl)) (fun _ _ _ _ _ => (pts_one (pt_cmp (pc_notN (pv 4)) rfl))) (fun _ _ _ _ _ => (pv 4))))) (pss_one (ps_if (pt_cmpR (op_inRow hr.units) (pv 1) (pe_fld (pv 3) rfl) rfl) (pss_one (ps_ret pe_bl)) pss_nil))))) (pss_one (ps_ret pe_bl)))), ?_⟩
    refine ⟨_, rfl, a, CW, dx, _, _, rfl, ha, TW.cl, TW.nPart, hf.part, Nat.le_trans (show 1 ≤ 3 by decide) three_line, fun t0 ht0 => ?_⟩
    have s0 := Same.new (o := .lst [vp]) ht0
    refine ⟨fun m σ H' => ∃ (wl : Addr) (vs : List V) (ps : List (Pt En)) (o3 o4 : Option V), σ = [some (.ref a), some x, some (.ref wl), o3, o4] ∧ Same H H' ∧ H' wl = some (.lst vs) ∧ Paired (PAt C H') vs ps ∧ (∀ q ∈ ps, q.ok) ∧ (e ∈ p.den ↔ ∃ q ∈ ps, e ∈ q.den) ∧ pwt ps ≤ 1000000 ∧ m = psz ps,
      ⟨_, t0, [vp], [p], none, none, rfl, s0, upd_same, .cons (hp.mono s0) .nil, fun q hq => by rw [List.mem_singleton.mp hq]; exact op, by simp, by show max 1 p.den.length + 0 ≤ 1000000; omega, rfl⟩, ?_⟩
    rintro m σ H' ⟨wl, vs, ps, o3, o4, rfl, s1, hw, pp, oks, hiff, hlen, rfl⟩
    refine ⟨_, rfl, Nat.zero_le _, fun t1 ht1 => ⟨wl, t1, vs, rfl, rfl, ?_, upd_same, _, rfl, ?_⟩⟩
    · rw [upd_ne (ne_of_none hw ht1)]; exact hw
    have s2 := Same.new (o := .lst []) ht1
    have s12 := s1.trans s2
    rcases List.eq_nil_or_concat vs with z | ⟨vs0, v, z⟩
    · subst z
      cases pp
      refine iteF ?_
      have e0 : decide (e ∈ p.den) = false := decide_eq_false fun z => by
        obtain ⟨q, hq, _⟩ := hiff.mp z
        cases hq
      have := k _ s12
      rwa [e0] at this
    · rw [List.concat_eq_append] at z
      subst z
      obtain ⟨ps0, q, rfl, pp0, hq⟩ := Paired.snoc pp
      have hne : (!(vs0 ++ [v]).isEmpty) = true := by cases vs0 <;> rfl
      rw [hne]
      refine iteT ⟨_, fun _ _ z => z, ?_⟩
      have hw2 := s2 _ _ hw
      refine ⟨_, rfl, _, rfl, wl, _, -1, v, rfl, rfl, SqL.of hw2, atI_last _ _, ?_⟩
      refine ⟨_, rfl, _, rfl, _, rfl, wl, _, rfl, SqL.of hw2, fun t3 ht3 => ?_⟩
      dsimp only
      rw [cut_init]
      have s3 := Same.new (o := .lst vs0) ht3
      obtain ⟨b, db, xb, lb, rb, tb, tfb, rfl, hb, vw⟩ := PX.view (hq.mono s2)
      have hb3 := s3 _ _ hb
      refine ⟨_, rfl, b, C, db, _, _, rfl, hb3, T.cl, T.nLeft, pf_left, _, rfl, b, C, db, _, _, rfl, hb3, T.cl, T.nRight, pf_right, Nat.le_trans (show 2 ≤ 3 by decide) three_line, fun t4 ht4 => ?_⟩
      have s4 := Same.new (o := .tup [lb, rb]) ht4
      generalize hH1 : upd H' t1 (.lst []) = H1' at *
      cases vw with
      | @leaf row ec hrow =>
        have okc : ∀ c ∈ ([] : List (Pt En)), c.ok := fun c hc => (nomatch hc)
        have hqd : e ∈ q.den ↔ e ∈ row ∨ ∃ c ∈ ([] : List (Pt En)), e ∈ c.den := by
          rw [← core_den q, ec]
          exact ⟨fun h => .inl h, fun h => h.elim (fun h => h) fun ⟨c, hc, _⟩ => (nomatch hc)⟩
        have wc : pwt ([] : List (Pt En)) ≤ wt q := Nat.zero_le _
        have zc : psz ([] : List (Pt En)) < q.sz + 1 := Nat.succ_pos _
        refine ⟨t4, rfl, ⟨_, SqT.of upd_same⟩, fun D hD => lc_tup (xs := [V.non, V.non]) (fun i H' => Same (upd (upd H1' t3 (.lst vs0)) t4 (.tup [V.non, V.non])) H' ∧ H' D = some (.lst ((([] : List V)).take i))) ⟨Same.new hD, upd_same⟩ (fun i H' _ h => SqT.of (h.1 _ _ upd_same)) ?_ ?_⟩
        · rintro i x H' hx ⟨s5, hD'⟩
          have hput : ∀ l, Same (upd (upd H1' t3 (.lst vs0)) t4 (.tup [V.non, V.non])) (upd H' D (.lst l)) := fun l b o z => by
            rw [upd_ne (fun q => by rw [q, hD] at z; cases z)]; exact s5 _ _ z
          refine ⟨rfl, ?_⟩
          rcases i with _ | _ | i
          · cases Option.some.inj hx
            refine ⟨_, rfl, _, rfl, ?_⟩
            refine iteF ⟨s5, hD'⟩
          · cases Option.some.inj hx
            refine ⟨_, rfl, _, rfl, ?_⟩
            refine iteF ⟨s5, hD'⟩
          · exact absurd hx (by simp)
        · rintro H5 ⟨s5', hD5⟩
          have s45 : Same (upd H1' t3 (.lst vs0)) H5 := s4.trans s5'
          have hpc : Paired (PAt C H5) (([] : List V)) (([] : List (Pt En))) := .nil
          have hl0 := pwt_len (ps0 ++ [q])
          have hla := Paired.len pp0
          have hlq : pwt (ps0 ++ [q]) = pwt ps0 + (wt q + 0) := pwt_append _ _
          rw [List.length_append] at hl0
          have sz6 : (1000010 : Nat) ≤ sizeLine := by rw [sizeLine_eq]; decide
          have l1 : ([q] : List (Pt En)).length = 1 := rfl
          refine ⟨t3, D, vs0, ([] : List V), rfl, rfl, s45 _ _ upd_same, hD5, by show vs0.length + (([] : List V)).length ≤ sizeLine; rw [show (([] : List V)).length = 0 from rfl]; omega, fun t6 ht6 => ?_⟩
          have s6 := Same.new (o := .lst (vs0 ++ (([] : List V)))) ht6
          have sAll := (s3.trans s45).trans s6
          refine ⟨_, rfl, _, rfl, b, C, db, _, _, rfl, sAll _ _ hb, T.cl, T.nLetters, pf_letters, e, row, he.mono (s12.trans sAll), hrow.mono sAll, _, rfl, ?_⟩
          refine ite2 (fun z => ?_) (fun z => ?_)
          · have hin : e ∈ (row) := of_decide_eq_true z
            have := k _ (s12.trans sAll)
            rw [decide_eq_true (hiff.mpr ⟨q, List.mem_append_right _ (List.mem_singleton.mpr rfl), hqd.mpr (.inl hin)⟩)] at this
            exact this
          · have hnot : ¬ e ∈ (row) := fun q => z (decide_eq_true q)
            refine ⟨psz (ps0 ++ (([] : List (Pt En)))), ?_, t6, vs0 ++ (([] : List V)), ps0 ++ (([] : List (Pt En))), _, _, rfl, s12.trans sAll, upd_same, Paired.app (Paired.mono (fun _ _ => PX.mono (s2.trans sAll)) pp0) (Paired.mono (fun _ _ => PX.mono s6) hpc), ?_, ?_, ?_, rfl⟩
            · rw [psz_append, psz_append]
              have : psz [q] = q.sz + 1 + 0 := rfl
              omega
            · intro c hc
              rcases List.mem_append.mp hc with hc | hc
              · exact oks c (List.mem_append_left _ hc)
              · exact okc c hc
            · rw [hiff]
              constructor
              · rintro ⟨c, hc, hx⟩
                rcases List.mem_append.mp hc with hc | hc
                · exact ⟨c, List.mem_append_left _ hc, hx⟩
                · rw [List.mem_singleton.mp hc] at hx
                  rcases hqd.mp hx with h | ⟨c2, h2, h3⟩
                  · exact absurd h hnot
                  · exact ⟨c2, List.mem_append_right _ h2, h3⟩
              · rintro ⟨c, hc, hx⟩
                rcases List.mem_append.mp hc with hc | hc
                · exact ⟨c, List.mem_append_left _ hc, hx⟩
                · exact ⟨q, List.mem_append_right _ (List.mem_singleton.mpr rfl), hqd.mpr (.inr ⟨c, hc, hx⟩)⟩
            · rw [pwt_append]; omega
      | @cat al ar l r ec hrow hla' hra' =>
        have nq : q.nz := core_ok (oks q (List.mem_append_right _ (List.mem_singleton.mpr rfl))) fun z => by
          have := core_den q
          rw [ec, z] at this
          have okq := oks q (List.mem_append_right _ (List.mem_singleton.mpr rfl))
          rcases okq with h | h
          · rw [h] at ec; cases ec
          · have := Pt.nz_pos h; rw [z] at this; exact absurd this (Nat.lt_irrefl 0)
        have nc := core_nz nq
        rw [ec] at nc
        have ed : q.den = l.den ++ r.den := by rw [← core_den q, ec]; rfl
        have okc : ∀ c ∈ [l, r], c.ok := fun c hc => by
          rcases List.mem_cons.mp hc with rfl | hc
          · exact .inr nc.1
          · rw [List.mem_singleton.mp hc]; exact .inr nc.2
        have hqd : e ∈ q.den ↔ e ∈ ([] : List En) ∨ ∃ c ∈ [l, r], e ∈ c.den := by
          rw [ed, List.mem_append]; simp
        have wc : pwt [l, r] ≤ wt q := by
          show wt l + (wt r + 0) ≤ wt q
          rw [wt_nz nc.1, wt_nz nc.2, wt_nz nq, ed, List.length_append]; omega
        have zc : psz [l, r] < q.sz + 1 := by
          show l.sz + 1 + (r.sz + 1 + 0) < q.sz + 1
          have := core_sz q
          rw [ec] at this
          have : (Pt.cat l r).sz = l.sz + r.sz + 2 := rfl
          omega
        refine ⟨t4, rfl, ⟨_, SqT.of upd_same⟩, fun D hD => lc_tup (xs := [(V.ref al), (V.ref ar)]) (fun i H' => Same (upd (upd H1' t3 (.lst vs0)) t4 (.tup [(V.ref al), (V.ref ar)])) H' ∧ H' D = some (.lst (([V.ref al, V.ref ar]).take i))) ⟨Same.new hD, upd_same⟩ (fun i H' _ h => SqT.of (h.1 _ _ upd_same)) ?_ ?_⟩
        · rintro i x H' hx ⟨s5, hD'⟩
          have hput : ∀ l, Same (upd (upd H1' t3 (.lst vs0)) t4 (.tup [(V.ref al), (V.ref ar)])) (upd H' D (.lst l)) := fun l b o z => by
            rw [upd_ne (fun q => by rw [q, hD] at z; cases z)]; exact s5 _ _ z
          refine ⟨rfl, ?_⟩
          rcases i with _ | _ | i
          · cases Option.some.inj hx
            refine ⟨_, rfl, _, rfl, ?_⟩
            refine iteT ⟨_, rfl, _, hD', Nat.lt_of_lt_of_le (show _ < 3 by show (List.take _ _).length < 3; simp) three_line, hput _, upd_same⟩
          · cases Option.some.inj hx
            refine ⟨_, rfl, _, rfl, ?_⟩
            refine iteT ⟨_, rfl, _, hD', Nat.lt_of_lt_of_le (show _ < 3 by show (List.take _ _).length < 3; simp) three_line, hput _, upd_same⟩
          · exact absurd hx (by simp)
        · rintro H5 ⟨s5', hD5⟩
          have s45 : Same (upd H1' t3 (.lst vs0)) H5 := s4.trans s5'
          have hpc : Paired (PAt C H5) ([V.ref al, V.ref ar]) ([l, r]) := .cons (hla'.mono (s3.trans s45)) (.cons (hra'.mono (s3.trans s45)) .nil)
          have hl0 := pwt_len (ps0 ++ [q])
          have hla := Paired.len pp0
          have hlq : pwt (ps0 ++ [q]) = pwt ps0 + (wt q + 0) := pwt_append _ _
          rw [List.length_append] at hl0
          have sz6 : (1000010 : Nat) ≤ sizeLine := by rw [sizeLine_eq]; decide
          have l1 : ([q] : List (Pt En)).length = 1 := rfl
          refine ⟨t3, D, vs0, [V.ref al, V.ref ar], rfl, rfl, s45 _ _ upd_same, hD5, by show vs0.length + ([V.ref al, V.ref ar]).length ≤ sizeLine; rw [show ([V.ref al, V.ref ar]).length = 2 from rfl]; omega, fun t6 ht6 => ?_⟩
          have s6 := Same.new (o := .lst (vs0 ++ ([V.ref al, V.ref ar]))) ht6
          have sAll := (s3.trans s45).trans s6
          refine ⟨_, rfl, _, rfl, b, C, db, _, _, rfl, sAll _ _ hb, T.cl, T.nLetters, pf_letters, e, ([] : List En), he.mono (s12.trans sAll), hrow.mono sAll, _, rfl, ?_⟩
          refine ite2 (fun z => ?_) (fun z => ?_)
          · have hin : e ∈ (([] : List En)) := of_decide_eq_true z
            have := k _ (s12.trans sAll)
            rw [decide_eq_true (hiff.mpr ⟨q, List.mem_append_right _ (List.mem_singleton.mpr rfl), hqd.mpr (.inl hin)⟩)] at this
            exact this
          · have hnot : ¬ e ∈ (([] : List En)) := fun q => z (decide_eq_true q)
            refine ⟨psz (ps0 ++ ([l, r])), ?_, t6, vs0 ++ ([V.ref al, V.ref ar]), ps0 ++ ([l, r]), _, _, rfl, s12.trans sAll, upd_same, Paired.app (Paired.mono (fun _ _ => PX.mono (s2.trans sAll)) pp0) (Paired.mono (fun _ _ => PX.mono s6) hpc), ?_, ?_, ?_, rfl⟩
            · rw [psz_append, psz_append]
              have : psz [q] = q.sz + 1 + 0 := rfl
              omega
            · intro c hc
              rcases List.mem_append.mp hc with hc | hc
              · exact oks c (List.mem_append_left _ hc)
              · exact okc c hc
            · rw [hiff]
              constructor
              · rintro ⟨c, hc, hx⟩
                rcases List.mem_append.mp hc with hc | hc
                · exact ⟨c, List.mem_append_left _ hc, hx⟩
                · rw [List.mem_singleton.mp hc] at hx
                  rcases hqd.mp hx with h | ⟨c2, h2, h3⟩
                  · exact absurd h hnot
                  · exact ⟨c2, List.mem_append_right _ h2, h3⟩
              · rintro ⟨c, hc, hx⟩
                rcases List.mem_append.mp hc with hc | hc
                · exact ⟨c, List.mem_append_left _ hc, hx⟩
                · exact ⟨q, List.mem_append_right _ (List.mem_singleton.mpr rfl), hqd.mpr (.inr ⟨c, hc, hx⟩)⟩
            · rw [pwt_append]; omega
      | @rep al l n ec hrow hla' =>
        have nq : q.nz := by
          rcases oks q (List.mem_append_right _ (List.mem_singleton.mpr rfl)) with h | h
          · rw [h] at ec; cases ec
          · exact h
        have nc := core_nz nq
        rw [ec] at nc
        have ed : q.den = rpt n l.den := by rw [← core_den q, ec]; rfl
        have okc : ∀ c ∈ [l], c.ok := fun c hc => by rw [List.mem_singleton.mp hc]; exact .inr nc.1
        have hqd : e ∈ q.den ↔ e ∈ ([] : List En) ∨ ∃ c ∈ [l], e ∈ c.den := by
          rw [ed, mem_rpt nc.2]; simp
        have wc : pwt [l] ≤ wt q := by
          show wt l + 0 ≤ wt q
          rw [wt_nz nc.1, wt_nz nq, ed, len_rpt]
          exact Nat.le_mul_of_pos_left _ nc.2
        have zc : psz [l] < q.sz + 1 := by
          show l.sz + 1 + 0 < q.sz + 1
          have := core_sz q
          rw [ec] at this
          have : (Pt.rep l n).sz = l.sz + 1 := rfl
          omega
        refine ⟨t4, rfl, ⟨_, SqT.of upd_same⟩, fun D hD => lc_tup (xs := [(V.ref al), V.non]) (fun i H' => Same (upd (upd H1' t3 (.lst vs0)) t4 (.tup [(V.ref al), V.non])) H' ∧ H' D = some (.lst (([V.ref al]).take i))) ⟨Same.new hD, upd_same⟩ (fun i H' _ h => SqT.of (h.1 _ _ upd_same)) ?_ ?_⟩
        · rintro i x H' hx ⟨s5, hD'⟩
          have hput : ∀ l, Same (upd (upd H1' t3 (.lst vs0)) t4 (.tup [(V.ref al), V.non])) (upd H' D (.lst l)) := fun l b o z => by
            rw [upd_ne (fun q => by rw [q, hD] at z; cases z)]; exact s5 _ _ z
          refine ⟨rfl, ?_⟩
          rcases i with _ | _ | i
          · cases Option.some.inj hx
            refine ⟨_, rfl, _, rfl, ?_⟩
            refine iteT ⟨_, rfl, _, hD', Nat.lt_of_lt_of_le (show _ < 3 by show (List.take _ _).length < 3; simp) three_line, hput _, upd_same⟩
          · cases Option.some.inj hx
            refine ⟨_, rfl, _, rfl, ?_⟩
            refine iteF ⟨s5, hD'⟩
          · exact absurd hx (by simp)
        · rintro H5 ⟨s5', hD5⟩
          have s45 : Same (upd H1' t3 (.lst vs0)) H5 := s4.trans s5'
          have hpc : Paired (PAt C H5) ([V.ref al]) ([l]) := .cons (hla'.mono (s3.trans s45)) .nil
          have hl0 := pwt_len (ps0 ++ [q])
          have hla := Paired.len pp0
          have hlq : pwt (ps0 ++ [q]) = pwt ps0 + (wt q + 0) := pwt_append _ _
          rw [List.length_append] at hl0
          have sz6 : (1000010 : Nat) ≤ sizeLine := by rw [sizeLine_eq]; decide
          have l1 : ([q] : List (Pt En)).length = 1 := rfl
          refine ⟨t3, D, vs0, [V.ref al], rfl, rfl, s45 _ _ upd_same, hD5, by show vs0.length + ([V.ref al]).length ≤ sizeLine; rw [show ([V.ref al]).length = 1 from rfl]; omega, fun t6 ht6 => ?_⟩
          have s6 := Same.new (o := .lst (vs0 ++ ([V.ref al]))) ht6
          have sAll := (s3.trans s45).trans s6
          refine ⟨_, rfl, _, rfl, b, C, db, _, _, rfl, sAll _ _ hb, T.cl, T.nLetters, pf_letters, e, ([] : List En), he.mono (s12.trans sAll), hrow.mono sAll, _, rfl, ?_⟩
          refine ite2 (fun z => ?_) (fun z => ?_)
          · have hin : e ∈ (([] : List En)) := of_decide_eq_true z
            have := k _ (s12.trans sAll)
            rw [decide_eq_true (hiff.mpr ⟨q, List.mem_append_right _ (List.mem_singleton.mpr rfl), hqd.mpr (.inl hin)⟩)] at this
            exact this
          · have hnot : ¬ e ∈ (([] : List En)) := fun q => z (decide_eq_true q)
            refine ⟨psz (ps0 ++ ([l])), ?_, t6, vs0 ++ ([V.ref al]), ps0 ++ ([l]), _, _, rfl, s12.trans sAll, upd_same, Paired.app (Paired.mono (fun _ _ => PX.mono (s2.trans sAll)) pp0) (Paired.mono (fun _ _ => PX.mono s6) hpc), ?_, ?_, ?_, rfl⟩
            · rw [psz_append, psz_append]
              have : psz [q] = q.sz + 1 + 0 := rfl
              omega
            · intro c hc
              rcases List.mem_append.mp hc with hc | hc
              · exact oks c (List.mem_append_left _ hc)
              · exact okc c hc
            · rw [hiff]
              constructor
              · rintro ⟨c, hc, hx⟩
                rcases List.mem_append.mp hc with hc | hc
                · exact ⟨c, List.mem_append_left _ hc, hx⟩
                · rw [List.mem_singleton.mp hc] at hx
                  rcases hqd.mp hx with h | ⟨c2, h2, h3⟩
                  · exact absurd h hnot
                  · exact ⟨c2, List.mem_append_right _ h2, h3⟩
              · rintro ⟨c, hc, hx⟩
                rcases List.mem_append.mp hc with hc | hc
                · exact ⟨c, List.mem_append_left _ hc, hx⟩
                · exact ⟨q, List.mem_append_right _ (List.mem_singleton.mpr rfl), hqd.mpr (.inr ⟨c, hc, hx⟩)⟩
            · rw [pwt_append]; omega
end
end Wd
set_option Elab.async false
set_option linter.all false
set_option maxRecDepth 100000
set_option maxHeartbeats 4000000
set_option exponentiation.threshold 100000
namespace Wd
open PySem L2
theorem KeepT.putL {C : Addr} {H : Hp} {p : Addr} {xs : List V} {o : HO} (h : H p = some (.lst xs)) : KeepT C H (upd H p o) :=
  ⟨fun b ys e => by rw [upd_ne (fun z => by rw [z, h] at e; cases e)]; exact e, fun b dy gs e => by rw [upd_ne (fun z => by rw [z, h] at e; cases e)]; exact e⟩
theorem UAt.kept {C : Addr} {H H' : Hp} (s : KeepT C H H') {v : V} {u : Un En} (h : UAt C H v u) : UAt C H' v u := by
  cases u with
  | e x => exact EAt.kept s h
  | p q => exact PX.kept s h
theorem UsAt.kept {C : Addr} {H H' : Hp} (s : KeepT C H H') {v : V} {us : Us En} (h : UsAt C H v us) : UsAt C H' v us := by
  induction h with
  | nil => exact .nil
  | cons h1 h2 _ i => exact .cons (s.1 _ _ h1) (UAt.kept s h2) i
theorem hz_le {S : Nat} : ∀ {us : Us En}, mx S us → hz us ≤ S
  | [], _ => Nat.zero_le _
  | (u, t) :: us, h => by
    show (if t = 0 then hz us else u.sz) ≤ S
    split
    · exact hz_le (us := us) fun x hx => h x (List.mem_cons_of_mem _ hx)
    · exact h _ (List.mem_cons_self ..)
theorem mx_ex : ∀ us : Us En, ∃ S, mx S us
  | [] => ⟨0, fun _ h => (nomatch h)⟩
  | (u, t) :: us => by
    obtain ⟨S, h⟩ := mx_ex us
    refine ⟨max S u.sz, fun x hx => ?_⟩
    rcases List.mem_cons.mp hx with rfl | hx
    · exact Nat.le_max_right _ _
    · exact Nat.le_trans (h x hx) (Nat.le_max_left _ _)
section
variable {P : Program} {w : World} {K : PySem.W.Frag} {mg : Str → Option Value} {base : Heap} {f C CW CM : Addr} {fd : FuncData} {H : Hp}
def spWordEntries (C CW : Addr) : Sp := fun vs H Q _ => ∃ v p n c x y, vs = [v, .int (x : Nat), .int (y : Nat)] ∧ WAt C CW H v p n c ∧ x ≤ y ∧ y ≤ p.den.length ∧ y ≤ x + 1000 ∧
  ∀ (l : Addr) H' xs, Same H H' → H l = none → H' l = some (.lst xs) → Paired (EAt H') xs ((p.den.drop x).take (y - x)) → Q (.ref l) H'
theorem sc_WordEntries : FnScope ["self", "first", "last", "found", "units", "unit", "times", "rest"] ["self", "first", "last"] (defScope sWordEntries) := ⟨rfl, rfl, rfl, by decide +kernel, rfl, by decide +kernel, by decide +kernel⟩
theorem ok_WordEntries (D : DefM K CW "entries" "Word.entries" sWordEntries ["self", "first", "last"] f fd) (B : Blt mg) (T : PCl K C) {fWI : Addr} {fdWI : FuncData} (TW : WCl K mg CW fWI fdWI)
    {fC fB fF fO : Addr} {fdC fdB fdF fdO : FuncData} (DCheckIndex : DefF K mg "check_index" sCheckIndex ["number", "least", "most"] fC fdC) (GCheckIndex : FnOk P w K mg base CX0 3 fC fdC ["number", "least", "most"] spCheckIndex)
    (DBehind : DefF K mg "behind" sBehind ["units", "many"] fB fdB) (GBehind : FnOk P w K mg base CX0 2 fB fdB ["units", "many"] (spBehind C))
    (DFirstUnit : DefF K mg "first_unit" sFirstUnit ["units"] fF fdF) (GFirstUnit : FnOk P w K mg base CX0 2 fF fdF ["units"] (spFirstUnit C))
    (DOpened : DefF K mg "opened" sOpened ["part", "rest"] fO fdO) (GOpened : FnOk P w K mg base CX0 1 fO fdO ["part", "rest"] (spOpened C)) {tT : Tok} (mTold : mg "MOST_TOLD" = some (.int 1000 tT)) :
    FnOk P w K mg base CX0 4 f fd ["self", "first", "last"] (spWordEntries C CW) := by
  refine D.fn.ok sc_WordEntries (fun vs H Q E h => ?_) (fun cdv A outer s H vs Q E hr h => ?_)
  · obtain ⟨v, p, n, c, x, y, rfl, _⟩ := h; rfl
  · obtain ⟨v, p, n, c, x, y, rfl, w1, hxy, hy, hy2, k⟩ := h
    refine ⟨_, (pss_cons (ps_expr (pe_call GCheckIndex (hr.mono (by first | decide | omega)) rfl DCheckIndex.gl DCheckIndex.fn.kp DCheckIndex.bd .nil pass0 (pa_cons (pv 1) (pa_cons pe_int (pa_cons (pe_fld (pe_fld (pv 0) rfl) rfl) pa_nil))))) (pss_cons (ps_expr (pe_call GCheckIndex (hr.mono (by first | decide | omega)) rfl DCheckIndex.gl DCheckIndex.fn.kp DCheckIndex.bd .nil pass0 (pa_cons (pv 2) (pa_cons (pv 1) (pa_cons (pe_callB (call_min2 rfl) (by rfl) B.min PyProof.Rows.boot_min (pa_cons (pe_fld (pe_fld (pv 0) rfl) rfl) (pa_cons (pe_op op_add (pv 1) (pe_glob (v := .int 1000) rfl mTold ⟨_, rfl⟩)) pa_nil))) pa_nil))))) (pss_cons (ps_set (i := 3) sc_WordEntries.nd rfl (.inl rfl) (pe_lst pa_nil)) (pss_cons (ps_set (i := 4) sc_WordEntries.nd rfl (.inl rfl) (pe_call GBehind (hr.mono (by first | decide | omega)) rfl DBehind.gl DBehind.fn.kp DBehind.bd .nil pass0 (pa_cons (pe_tup (pa_cons (pe_fld (pv 0) rfl) (pa_cons pe_int (pa_cons pe_non pa_nil)))) (pa_cons (pv 1) pa_nil)))) (pss_cons (ps_while PassesOwn.never (pt_cmpR op_lt (pe_callB call_len_seq (by rfl) B.len PySem.boot_len (pa_cons (pv 3) pa_nil)) (pe_op op_sub (pv 2) (pv 1)) (nomark _)) (pss_cons (ps_asg (pe_call GFirstUnit (hr.mono (by first | decide | omega)) rfl DFirstUnit.gl DFirstUnit.fn.kp DFirstUnit.bd .nil pass0 (pa_cons (pv 4) pa_nil)) (pg_tup rfl (pgs_cons (pg_name (i := 5) sc_WordEntries.nd rfl (.inl rfl)) (pgs_cons (pg_name (i := 6) sc_WordEntries.nd rfl (.inl rfl)) (pgs_cons (pg_name (i := 7) sc_WordEntries.nd rfl (.inl rfl)) pgs_nil))))) (pss_cons (ps_set (i := 4) sc_WordEntries.nd rfl (.inl rfl) (pe_tup (pa_cons (pv 5) (pa_cons (pe_op op_sub (pv 6) pe_int) (pa_cons (pv 7) pa_nil))))) (pss_one (ps_if (pt_val (pe_callB call_isi (by rfl) B.isi PyProof.Rows.boot_isinstance (pa_cons (pv 5) (pa_cons (pe_bltn (v := .ty "tuple") (by rfl) B.tuple PyProof.Rows.boot_tuple rfl) pa_nil)))) (pss_one (ps_expr (pe_bm F.plainAttrs_list F.slot_list_append F.type_list_append mt_append (pv 3) (pa_cons (pv 5) pa_nil)))) (pss_one (ps_set (i := 4) sc_WordEntries.nd rfl (.inl rfl) (pe_call GOpened (hr.mono (by first | decide | omega)) rfl DOpened.gl DOpened.fn.kp DOpened.bd .nil pass0 (pa_cons (pv 5) (pa_cons (pv 4) pa_nil)))))))))) (pss_one (ps_ret (pv 3)))))))), ?_⟩
    obtain ⟨⟨a, dx, fs, vp, rfl, ha, hf, hp⟩, op, lp, kp, dp⟩ := w1
    obtain ⟨b, db, xb, lb, rb, tb, tfb, rfl, hb⟩ := PX.objF hp
    refine ⟨_, rfl, _, rfl, a, CW, dx, _, _, rfl, ha, TW.cl, TW.nPart, hf.part, b, C, db, _, _, rfl, hb, T.cl, T.nWide, pf_wide, _, _, _, rfl, by omega, by omega, ?_⟩
    refine ⟨_, rfl, _, rfl, _, rfl, a, CW, dx, _, _, rfl, ha, TW.cl, TW.nPart, hf.part, b, C, db, _, _, rfl, hb, T.cl, T.nWide, pf_wide, _, rfl, _, _, rfl, rfl, _, _, rfl, _, _, _, rfl, by omega, by split <;> omega, ?_⟩
    refine ⟨Nat.zero_le _, fun fl hfl => ?_⟩
    have s0 := Same.new (o := .lst []) hfl
    refine ⟨_, rfl, a, CW, dx, _, _, rfl, s0 _ _ ha, TW.cl, TW.nPart, hf.part, three_line, fun t1 ht1 => ⟨_, rfl, ?_⟩⟩
    have s1 := s0.trans (Same.new (o := .tup [.ref b, .int 1, .non]) ht1)
    have nfl : t1 ≠ fl := fun z => by rw [z, upd_same] at ht1; cases ht1
    have lo : (den [((.p p, 1) : Un En × Nat)]).length = p.den.length := by rw [den_one]; rfl
    refine ⟨.ref t1, [(.p p, 1)], x, rfl, .cons (t := 1) upd_same (hp.mono s1) .nil, fun z => gd_word op lp (by omega), by omega, fun v2 H2 us2 s2 hu2 go2 => ?_⟩
    have s12 := s1.trans s2
    obtain ⟨S, hS⟩ := mx_ex us2
    have hfl2 : H2 fl = some (.lst []) := s2 _ _ (by rw [upd_ne (Ne.symm nfl)]; exact upd_same)
    have d2 : den us2 = p.den.drop x := by rw [go2.1, den_one]; rfl
    refine ⟨fun m σ H' => ∃ (v' : V) (us' : Us En) (items : List V) (j : Nat) (o5 o6 o7 : Option V), σ = [some (.ref a), some (.int (x : Nat)), some (.int (y : Nat)), some (.ref fl), some v', o5, o6, o7] ∧ Same H H' ∧ H' fl = some (.lst items) ∧ Paired (EAt H') items ((p.den.drop x).take j) ∧
        UsAt C H' v' us' ∧ Gone us2 j us' ∧ j ≤ y - x ∧ mx S us' ∧ items.length = j ∧ m = (y - x - j) * (S + 2) + hz us',
      ⟨_, v2, us2, [], 0, none, none, none, rfl, s12, hfl2, .nil, hu2, Gone.of (Keeps.refl us2), Nat.zero_le _, hS, rfl, rfl⟩, ?_⟩
    rintro m σ H' ⟨v', us', items, j, o5, o6, o7, rfl, s3, hl, hpi, hu, go, hj, hmx, hlen, rfl⟩
    refine ⟨_, rfl, fl, items, rfl, .inl (SqL.of hl), _, rfl, _, rfl, _, _, rfl, rfl, _, _, rfl, rfl, _, rfl, ?_⟩
    refine ite2 (fun h => ?_) (fun h => ?_)
    · have hlt : j < y - x := by have := of_decide_eq_true h; omega
      refine ⟨_, fun _ _ z => z, ?_⟩
      refine ⟨_, rfl, v', us', rfl, hu, fun v4 H4 us4 s4 hu4 kp4 hd4 th4 => ?_⟩
      have gd2 : Gd us2 := go2.2.2 (gd_word op lp (by omega))
      have th := th4 (go.2.2 gd2)
      have go4 := go.keeps kp4
      have gd4 := go4.2.2 gd2
      have l4 := go4.len
      rw [d2, List.length_drop] at l4
      have mx4 := th.1 S hmx
      have hl4 := s4 _ _ hl
      cases hu4 with
      | nil => exact absurd l4 (by show ¬ (0 = _); omega)
      | @cons c4 vu vr u t us5 h11 h12 h13 =>
      have ht : 1 ≤ t ∧ (u.isE = true ∨ 2 ≤ t) := by
        rcases hd4 with z | ⟨_, _, _, z, a, b⟩
        · cases z
        · cases z; exact ⟨a, b⟩
      have hzu : hz ((u, t) :: us5) = u.sz := by
        show (if t = 0 then hz us5 else u.sz) = u.sz
        rw [if_neg (by omega)]
      have hzS : u.sz ≤ S := mx4 _ (List.mem_cons_self ..)
      have hzS' := hz_le hmx
      have th2 := th.2
      rw [hzu] at th2
      refine ⟨c4, _, rfl, SqT.of h11, rfl, _, _, rfl, _, _, rfl, _, _, rfl, rfl, ?_⟩
      refine ⟨_, rfl, _, rfl, _, _, rfl, rfl, _, rfl, three_line, fun t5 ht5 => ?_⟩
      have s5 := Same.new (o := .tup [vu, .int (((t : Nat) : Int) - 1), vr]) ht5
      have e5 : ((t : Nat) : Int) - 1 = ((t - 1 : Nat) : Int) := by omega
      have s45 := s4.trans s5
      have hl5 := s5 _ _ hl4
      have hu5 : UsAt C _ (.ref t5) ((u, t - 1) :: us5) := .cons (cell3 e5) (h12.mono s5) (h13.mono s5)
      have pi5 : Paired (EAt _) items ((p.den.drop x).take j) := Paired.mono (fun _ _ => EAt.mono s45) hpi
      have mx5 : mx S ((u, t - 1) :: us5) := fun z hz' => by
        rcases List.mem_cons.mp hz' with rfl | hz'
        · exact hzS
        · exact mx4 z (List.mem_cons_of_mem _ hz')
      obtain ⟨ty, hty, kit⟩ := (h12.mono s5).ty T
      refine ⟨_, rfl, _, _, _, _, _, rfl, ClsV.ty _, hty, kit, _, rfl, ?_⟩
      have hmul : (y - x - j) * (S + 2) = (y - x - (j + 1)) * (S + 2) + (S + 2) := by
        rw [← Nat.succ_mul]; congr 1; omega
      have sz6 : (1000 : Nat) < sizeLine := by rw [sizeLine_eq]; decide
      cases u with
      | e ev =>
        refine iteT ⟨_, rfl, ?_⟩
        have hd : ((p.den.drop x).take j ++ [ev]) = (p.den.drop x).take (j + 1) := by
          have e1 := go4.1
          rw [d2, den_cons, show t = (t - 1) + 1 by omega, rpt_succ] at e1
          rw [List.take_add, ← e1]; rfl
        refine ⟨.inl ⟨rfl, items, SqL.of hl5⟩, _, rfl, fl, items, vu, rfl, rfl, hl5, by omega, ?_⟩
        have kt : KeepT C _ (upd _ fl (.lst (items ++ [vu]))) := KeepT.putL hl5
        have hz1 := hz_le mx5
        have gl : Gone us2 (j + 1) ((.e ev, t - 1) :: us5) := go4.trans (Gone.less (u := .e ev) (t := t) (j := 1) (us := us5) ht.1)
        refine ⟨(y - x - (j + 1)) * (S + 2) + hz ((.e ev, t - 1) :: us5), by omega, .ref t5, _, items ++ [vu], j + 1, _, _, _, rfl, fun c o z => ?_, upd_same, ?_, hu5.kept kt, gl, hlt, mx5, by rw [List.length_append, hlen]; rfl, rfl⟩
        · rw [upd_ne (fun q => by rw [q, hfl] at z; cases z)]
          exact s45 _ _ (s3 _ _ z)
        · rw [← hd]
          exact Paired.app (Paired.mono (fun _ _ => EAt.kept kt) pi5) (.cons (EAt.kept kt (h12.mono s5)) .nil)
      | p q =>
        have ht2 : 2 ≤ t := by rcases ht.2 with z | z; cases z; exact z
        refine iteF ⟨_, rfl, _, rfl, vu, .ref t5, q, (.p q, t - 1) :: us5, rfl, h12.mono s5, hu5, fun v6 H6 s6 hu6 => ?_⟩
        have kk : Keeps ((.p q, t) :: us5) (cont q ++ (.p q, t - 1) :: us5) := Keeps.opens (by omega)
        have nq : q.nz := gd4.1.1
        have hzc := hz_cont q ((.p q, t - 1) :: us5) nq
        have e7 : (Un.p q).sz = q.sz := rfl
        refine ⟨(y - x - j) * (S + 2) + hz (cont q ++ (.p q, t - 1) :: us5), by omega, v6, _, items, j, _, _, _, rfl, (s3.trans s45).trans s6, s6 _ _ hl5, Paired.mono (fun _ _ => EAt.mono s6) pi5, hu6, go4.keeps kk, hj, fun z hz' => ?_, hlen, rfl⟩
        rcases List.mem_append.mp hz' with hz' | hz'
        · exact mx_cont q S hzS z hz'
        · exact mx5 z hz'
    · have q : ¬ (((items.length : Nat) : Int) < ((y : Nat) : Int) - ((x : Nat) : Int)) := fun q => h (decide_eq_true q)
      have ej : j = y - x := by omega
      subst ej
      exact ⟨_, rfl, k fl H' items s3 hfl hl hpi⟩
def spWordGetitem (C CW : Addr) : Sp := fun vs H Q _ => ∃ v p n c x e, vs = [v, .int (x : Nat)] ∧ WAt C CW H v p n c ∧ p.den[x]? = some e ∧ ∀ u H', Same H H' → EAt H' u e → Q u H'
theorem sc_WordGetitem : FnScope ["self", "number"] ["self", "number"] (defScope sWordGetitem) := ⟨rfl, rfl, rfl, by decide +kernel, rfl, by decide +kernel, by decide +kernel⟩
theorem ok_WordGetitem (D : Fun K "__getitem__" "Word.__getitem__" sWordGetitem f fd) (T : PCl K C) {fWI : Addr} {fdWI : FuncData} (TW : WCl K mg CW fWI fdWI)
    {fC fE : Addr} {fdC fdE : FuncData} (DCheckIndex : DefF K mg "check_index" sCheckIndex ["number", "least", "most"] fC fdC) (GCheckIndex : FnOk P w K mg base CX0 3 fC fdC ["number", "least", "most"] spCheckIndex)
    (DEntries : DefM K CW "entries" "Word.entries" sWordEntries ["self", "first", "last"] fE fdE) (GEntries : FnOk P w K mg base CX0 4 fE fdE ["self", "first", "last"] (spWordEntries C CW)) :
    FnOk P w K mg base CX0 5 f fd ["self", "number"] (spWordGetitem C CW) := by
  refine D.ok sc_WordGetitem (fun vs H Q E h => ?_) (fun cdv A outer s H vs Q E hr h => ?_)
  · obtain ⟨v, p, n, c, x, e, rfl, _⟩ := h; rfl
  · obtain ⟨v, p, n, c, x, e, rfl, w1, he, k⟩ := h
    refine ⟨_, (pss_cons (ps_expr (pe_call GCheckIndex (hr.mono (by first | decide | omega)) rfl DCheckIndex.gl DCheckIndex.fn.kp DCheckIndex.bd .nil pass0 (pa_cons (pv 1) (pa_cons pe_int (pa_cons (pe_op op_sub (pe_fld (pe_fld (pv 0) rfl) rfl) pe_int) pa_nil))))) (pss_one (ps_ret (pe_ix ix_list (pe_meth (pv 0) TW.cl DEntries.mt GEntries (hr.mono (by first | decide | omega)) DEntries.bd .nil pass0 (pa_cons (pv 1) (pa_cons (pe_op op_add (pv 1) pe_int) pa_nil))) pe_int (fun _ _ => rfl))))), ?_⟩
    obtain ⟨⟨a, dx, fs, vp, rfl, ha, hf, hp⟩, op, lp, kp, dp⟩ := id w1
    obtain ⟨b, db, xb, lb, rb, tb, tfb, rfl, hb⟩ := PX.objF hp
    have hx : x < p.den.length := (List.getElem?_eq_some_iff.mp he).1
    refine ⟨_, rfl, _, rfl, a, CW, dx, _, _, rfl, ha, TW.cl, TW.nPart, hf.part, b, C, db, _, _, rfl, hb, T.cl, T.nWide, pf_wide, _, _, rfl, rfl, _, _, _, rfl, by omega, by omega, ?_⟩
    have e1 : ((x : Nat) : Int) + 1 = ((x + 1 : Nat) : Int) := (Int.natCast_add _ _).symm
    refine ⟨_, rfl, a, dx, fs, rfl, ha, hf.mEntries, _, rfl, _, rfl, _, _, rfl, rfl, .ref a, p, n, c, x, x + 1, (by show _ = [V.ref a, V.int (x : Nat), V.int ((x + 1 : Nat) : Int)]; rw [← e1]; rfl), w1, by omega, by omega, by omega, fun l H' xs s1 hl hl' pp => ?_⟩
    rw [show x + 1 - x = 1 by omega] at pp
    have e2 : (p.den.drop x).take 1 = [e] := by
      have hd := List.drop_eq_getElem_cons hx
      rw [hd, (List.getElem?_eq_some_iff.mp he).2]; rfl
    rw [e2] at pp
    cases pp with
    | cons h1 h2 =>
      cases h2
      exact ⟨l, _, 0, _, rfl, rfl, SqL.of hl', rfl, k _ H' s1 h1⟩
end
end Wd
set_option Elab.async false
set_option linter.all false
set_option maxRecDepth 100000
set_option maxHeartbeats 4000000
set_option exponentiation.threshold 100000
namespace Wd
open PySem L2
section
variable {P : Program} {w : World} {K : PySem.W.Frag} {mg : Str → Option Value} {base : Heap} {f C CW CM : Addr} {fd : FuncData} {H : Hp}
theorem spAA_zero {C : Addr} {vs : List V} {H : Hp} {Q : VK} {E : XK} (h : spAA C 0 vs H Q E) : False := by
  obtain ⟨v1, v2, u1, t1, us1, u2, t2, us2, most, e1, r1, e2, r2, rfl, hu1, hu2, g1, g2, vz1, vz2, hd, hpos, hk1, hk2, hne, _⟩ := h
  obtain ⟨_, z12, _⟩ := vz1.1 hpos
  obtain ⟨_, z22, _⟩ := vz2.1 hpos
  cases u1 with
  | p p =>
    have ht : 2 ≤ t1 := by rcases hk1 with z | z; cases z; exact z
    rw [Un.lv_two p ht] at z12
    unfold dep at hd; omega
  | e x =>
    cases u2 with
    | e y => exact hne ⟨rfl, rfl⟩
    | p q =>
      have ht : 2 ≤ t2 := by rcases hk2 with z | z; cases z; exact z
      rw [Un.lv_two q ht] at z22
      unfold dep at hd; omega
theorem spAF_zero {C : Addr} {vs : List V} {H : Hp} {Q : VK} {E : XK} (h : spAF C 0 vs H Q E) : False := by
  obtain ⟨v1, v2, p, q, e1, r1, e2, r2, rfl, hp, hq, np, nq, lp, lq, kp, kq, hd, k⟩ := h
  unfold dep at hd
  have : depF 1 ≤ depF (e1 + e2) := depF_mono (by omega)
  have : depF 1 = 3 := rfl
  omega
theorem ok_agr {mg : Str → Option Value} (B : Blt mg) (T : PCl K C) {fF fW fR fG fA fL fO fS : Addr} {fdF fdW fdR fdG fdA fdL fdO fdS : FuncData}
    (DFirstUnit : DefF K mg "first_unit" sFirstUnit ["units"] fF fdF) (GFirstUnit : FnOk P w K mg base CX0 2 fF fdF ["units"] (spFirstUnit C))
    (DWidth : DefF K mg "width" sWidth ["unit"] fW fdW) (GWidth : FnOk P w K mg base CX0 1 fW fdW ["unit"] (spWidth C))
    (DRunAhead : DefF K mg "run_ahead" sRunAhead ["units", "most"] fR fdR) (GRunAhead : FnOk P w K mg base CX0 3 fR fdR ["units", "most"] (spRunAhead C))
    (DGoneBy : DefF K mg "gone_by" sGoneBy ["units", "many"] fG fdG) (GGoneBy : FnOk P w K mg base CX0 6 fG fdG ["units", "many"] (spGoneBy C))
    (DOpened : DefF K mg "opened" sOpened ["part", "rest"] fO fdO) (GOpened : FnOk P w K mg base CX0 1 fO fdO ["part", "rest"] (spOpened C))
    (DAlikeAhead : DefF K mg "alike_ahead" sAlikeAhead ["one", "other", "most"] fA fdA) (DAlikeFor : DefF K mg "alike_for" sAlikeFor ["unit", "other"] fL fdL)
    (DAgreement : DefF K mg "agreement" sAgreement ["one", "other", "most"] fS fdS) : ∀ n, FnOk P w K mg base CX0 (2 * n + 7) fS fdS ["one", "other", "most"] (spAgr C n)
  | 0 => ok_Agreement DAgreement B T DFirstUnit GFirstUnit DWidth GWidth DRunAhead GRunAhead DGoneBy GGoneBy DAlikeAhead
      (DAlikeAhead.fn.ok sc_AlikeAhead (fun _ _ _ _ h => (spAA_zero h).elim) (fun _ _ _ _ _ _ _ _ _ h => (spAA_zero h).elim)) DAlikeFor
      (DAlikeFor.fn.ok sc_AlikeFor (fun _ _ _ _ h => (spAF_zero h).elim) (fun _ _ _ _ _ _ _ _ _ h => (spAF_zero h).elim))
  | n + 1 =>
    have ih := ok_agr B T DFirstUnit GFirstUnit DWidth GWidth DRunAhead GRunAhead DGoneBy GGoneBy DOpened GOpened DAlikeAhead DAlikeFor DAgreement n
    ok_Agreement DAgreement B T DFirstUnit GFirstUnit DWidth GWidth DRunAhead GRunAhead DGoneBy GGoneBy DAlikeAhead (ok_AlikeAhead DAlikeAhead B T DOpened GOpened DAgreement ih) DAlikeFor (ok_AlikeFor DAlikeFor B T DOpened GOpened DAgreement ih)
def spWordEq (C CW : Addr) : Sp := fun vs H Q _ => ∃ v1 v2 p n c, vs = [v1, v2] ∧ WAt C CW H v1 p n c ∧ ((∃ q m d, WAt C CW H v2 q m d ∧ ∀ H', Same H H' → Q (.bl (decide (p.den = q.den))) H') ∨ (∃ b xs, v2 = .ref b ∧ H b = some (.lst xs) ∧ Q (.bl false) H))
theorem sc_WordEq : FnScope ["self", "other"] ["self", "other"] (defScope sWordEq) := ⟨rfl, rfl, rfl, by decide +kernel, rfl, by decide +kernel, by decide +kernel⟩
theorem ok_WordEq (D : Fun K "__eq__" "Word.__eq__" sWordEq f fd) (B : Blt mg) (T : PCl K C) {fWI : Addr} {fdWI : FuncData} (TW : WCl K mg CW fWI fdWI)
    {fS : Addr} {fdS : FuncData} (DAgreement : DefF K mg "agreement" sAgreement ["one", "other", "most"] fS fdS) (GAgreement : FnOk P w K mg base CX0 177 fS fdS ["one", "other", "most"] (spAgr C 85)) :
    FnOk P w K mg base CX0 178 f fd ["self", "other"] (spWordEq C CW) := by
  refine D.ok sc_WordEq (fun vs H Q E h => ?_) (fun cdv A outer s H vs Q E hr h => ?_)
  · obtain ⟨v1, v2, p, n, c, rfl, _⟩ := h; rfl
  · obtain ⟨v1, v2, p, n, c, rfl, ⟨⟨a, dx, fs, vp, rfl, ha, hf, hp⟩, op, lp, kp, dp⟩, h⟩ := h
    refine ⟨_, (pss_cons (ps_if (PW.pt (pw_or (pt_not (pt_val (pe_callB call_isi (by rfl) B.isi PyProof.Rows.boot_isinstance (pa_cons (pv 1) (pa_cons (pe_glob (v := .ref CW) rfl TW.gl rfl) pa_nil))))) (pw_or1 (pt_cmpR op_ne (pe_fld (pe_fld (pv 0) rfl) rfl) (pe_fld (pe_fld (pv 1) rfl) rfl) (nomark _))))) (pss_one (ps_ret pe_bl)) pss_nil) (pss_one (ps_ret (pe_cmpR op_eq (pe_call GAgreement (hr.mono (by first | decide | omega)) rfl DAgreement.gl DAgreement.fn.kp DAgreement.bd .nil pass0 (pa_cons (pe_tup (pa_cons (pe_fld (pv 0) rfl) (pa_cons pe_int (pa_cons pe_non pa_nil)))) (pa_cons (pe_tup (pa_cons (pe_fld (pv 1) rfl) (pa_cons pe_int (pa_cons pe_non pa_nil)))) (pa_cons (pe_fld (pe_fld (pv 0) rfl) rfl) pa_nil)))) (pe_fld (pe_fld (pv 0) rfl) rfl) (nomark _))))), ?_⟩
    rcases h with ⟨q, m, d, ⟨⟨b, dy, gs, vq, rfl, hb, hg, hq⟩, oq, lq, kq, dq⟩, k⟩ | ⟨b, xs, rfl, hb, k⟩
    · refine ⟨_, rfl, _, _, _, _, true, rfl, ClsV.own _, .base (.ins hb TW.cl TW.ha TW.hn TW.ht TW.hm), TW.self, _, rfl, iteF ?_⟩
      obtain ⟨a2, da2, xa2, la2, ra2, ta2, tfa2, rfl, ha2⟩ := PX.objF hp
      obtain ⟨b2, db2, xb2, lb2, rb2, tb2, tfb2, rfl, hb2⟩ := PX.objF hq
      refine ⟨_, rfl, a, CW, dx, _, _, rfl, ha, TW.cl, TW.nPart, hf.part, a2, C, da2, _, _, rfl, ha2, T.cl, T.nWide, pf_wide, _, rfl, b, CW, dy, _, _, rfl, hb, TW.cl, TW.nPart, hg.part, b2, C, db2, _, _, rfl, hb2, T.cl, T.nWide, pf_wide, rfl, _, rfl, ?_⟩
      by_cases hne : p.den.length = q.den.length
      · rw [show (!decide (V.int (p.den.length : Nat) = V.int (q.den.length : Nat))) = false by rw [hne]; simp]
        refine iteF ?_
        have dd : dep p.rk p.rk q.rk q.rk ≤ 85 := by
          unfold dep
          have h1 : depF (p.rk + q.rk) ≤ depF 10 := depF_mono (by omega)
          have h2 : depF 10 = 75 := by decide
          omega
        refine ⟨_, rfl, a, CW, dx, _, _, rfl, ha, TW.cl, TW.nPart, hf.part, three_line, fun t1 ht1 => ?_⟩
        have s1 := Same.new (o := .tup [.ref a2, .int 1, .non]) ht1
        refine ⟨_, rfl, b, CW, dy, _, _, rfl, s1 _ _ hb, TW.cl, TW.nPart, hg.part, three_line, fun t2 ht2 => ?_⟩
        have s2 := Same.new (o := .tup [.ref b2, .int 1, .non]) ht2
        have s12 := s1.trans s2
        refine ⟨_, rfl, a, CW, dx, _, _, rfl, s12 _ _ ha, TW.cl, TW.nPart, hf.part, a2, C, da2, _, _, rfl, s12 _ _ ha2, T.cl, T.nWide, pf_wide, ?_⟩
        refine ⟨.ref t1, .ref t2, [(.p p, 1)], [(.p q, 1)], p.den.length, p.rk, p.rk, q.rk, q.rk, rfl, .cons (t := 1) (s2 _ _ upd_same) (hp.mono s12) .nil, .cons (t := 1) upd_same (hq.mono s12) .nil,
          fun z => gd_word op lp z, fun z => gd_word oq lq (by omega), vis_one p _, vis_one q _, dd, fun H3 s3 => ?_⟩
        have s13 := s12.trans s3
        refine ⟨_, rfl, a, CW, dx, _, _, rfl, s13 _ _ ha, TW.cl, TW.nPart, hf.part, a2, C, da2, _, _, rfl, s13 _ _ ha2, T.cl, T.nWide, pf_wide, rfl, ?_⟩
        rw [den_one, den_one]
        have e : decide (V.int ((min p.den.length (lcp (Un.p p).den (Un.p q).den) : Nat) : Int) = V.int ((p.den.length : Nat) : Int)) = decide (p.den = q.den) := by
          apply decide_eq_decide.mpr
          show _ ↔ p.den = q.den
          have hle := lcp_le p.den q.den
          constructor
          · intro z
            have z := V.int.inj z
            have z : min p.den.length (lcp p.den q.den) = p.den.length := by exact_mod_cast z
            exact lcp_all (by omega) hne
          · intro z
            have e2 : lcp (Un.p p).den (Un.p q).den = p.den.length := by
              show lcp p.den q.den = _
              rw [z, lcp_self]
            rw [e2, Nat.min_self]
        rw [e]
        exact k H3 s13
      · rw [show (!decide (V.int (p.den.length : Nat) = V.int (q.den.length : Nat))) = true by
          rw [decide_eq_false (fun z => hne (by have := V.int.inj z; omega))]; rfl]
        refine iteT ?_
        have := k H (Same.refl H)
        rwa [decide_eq_false (fun z => hne (by rw [z]))] at this
    · refine ⟨_, rfl, _, _, _, _, false, rfl, ClsV.own _, .base (.lst hb), TW.noList, _, rfl, iteT (iteT ?_)⟩
      exact k
end
end Wd
set_option Elab.async false
set_option linter.all false
set_option maxRecDepth 100000
set_option maxHeartbeats 4000000
namespace Wd
open PySem SeqAt
/-! ### dicts whose keys are tuples and None, at the model's own level -/
/-- a key, its value in the heap, what it holds -/
abbrev Rw := NestedKey × Value × Value
def rowE (w : World) (x : Rw) : DictEntry := ⟨x.1.hash w, x.2.1, x.2.2⟩
structure KeyOf (h : Heap) (k : NestedKey) (v : Value) : Prop where
  is : NestedIs h k v
  low : k.depth ≤ 8
  sort : v = .none ∨ ∃ a, v = .ref a
theorem idx_of {α : Type} [DecidableEq α] {β : Type} : ∀ {xs : List (α × β)} {k : α} {j : Nat} {b : β}, (xs.map (·.1)).Nodup → xs[j]? = some (k, b) → xs.findIdx? (fun x => decide (x.1 = k)) = some j
  | [], _, _, _, _, h => by cases h
  | x :: xs, k, 0, b, hn, h => by
    cases h
    rw [List.findIdx?_cons, decide_eq_true rfl]; rfl
  | x :: xs, k, j + 1, b, hn, h => by
    rw [List.map_cons, List.nodup_cons] at hn
    have hm : k ∈ xs.map (·.1) := List.mem_map.mpr ⟨(k, b), List.mem_of_getElem? h, rfl⟩
    have hne : ¬ x.1 = k := fun e => hn.1 (e ▸ hm)
    rw [List.findIdx?_cons, decide_eq_false hne, idx_of hn.2 h]; rfl
theorem idx_none {α : Type} [DecidableEq α] {β : Type} {xs : List (α × β)} {k : α} (h : ∀ (j : Nat) (b : β), xs[j]? ≠ some (k, b)) : xs.findIdx? (fun x => decide (x.1 = k)) = none := by
  rw [List.findIdx?_eq_none_iff]
  intro x hx
  apply decide_eq_false
  intro e
  obtain ⟨j, hj⟩ := List.mem_iff_getElem?.mp hx
  exact h j x.2 (by rw [hj, ← e])
section
variable {prog : Program} {w : World} {A : Around} {E : Value → Shared → Prop} {s : Shared} {d : Addr} {o : Obj} {es : Array DictEntry} {ep : Nat} {xs : List Rw} {k : NestedKey} {v : Value}
theorem KeyOf.quiet {Q : Bool → Shared → Prop} (x : KeyOf s.heap k v) (h : Q true s) : wpAny (model prog w) A (eqIsQuiet 8 v) Q E s := quiet_key k v 8 s x.is x.low A E Q h
theorem row_at (he : es.toList = xs.map (rowE w)) (j : Nat) : es[j]? = (xs[j]?).map (rowE w) := by
  rw [← Array.getElem?_toList, he, List.getElem?_map]
theorem may_not_tell {st : List Value} {Q : Bool → Shared → Prop} (x : KeyOf s.heap k v) (hst : ∀ u ∈ st, ∃ k', KeyOf s.heap k' u) (h : Q false s) : wpAny (model prog w) A (tableMayTell v st) Q E s := by
  unfold tableMayTell
  split
  · exact wpAny_pure h
  · refine wpAny_bind (x.quiet ?_)
    rw [if_neg (show ¬ (!true) = true by decide)]
    refine wpAny_bind ?_
    refine wpAny_forIn_list _ (fun rest r s' => s' = s ∧ r = (none, ()) ∧ ∀ u ∈ rest, ∃ k', KeyOf s.heap k' u) _ ?_ ?_ _ _ ⟨rfl, rfl, hst⟩
    · rintro u rest r s' ⟨rfl, rfl, hr⟩
      obtain ⟨k', hu⟩ := hr u List.mem_cons_self
      refine wpAny_bind (hu.quiet ?_)
      rw [if_neg (show ¬ (!true) = true by decide)]
      exact wpAny_pure ⟨rfl, rfl, fun z hz => hr z (List.mem_cons_of_mem _ hz)⟩
    · rintro r s' ⟨rfl, rfl, _⟩
      exact wpAny_pure h
theorem find_key {Q : Option Nat → Shared → Prop} (hu : A.units + 8 < cLine) (x : KeyOf s.heap k v) (ho : s.heap.get? d = some o) (hd : o.data = .dict es ep) (he : es.toList = xs.map (rowE w))
    (hx : ∀ r ∈ xs, KeyOf s.heap r.1 r.2.1) (hn : (xs.map (·.1)).Nodup) (h : Q (xs.findIdx? fun r => decide (r.1 = k)) s) : wpAny (model prog w) A (dictFind d v (k.hash w)) Q E s := by
  have hsz : es.size = xs.length := by rw [← Array.length_toList, he, List.length_map]
  -- the places of this hash
  generalize hps : placesWithHash es.size (fun i => es[i]?.map (·.hash)) (k.hash w) = ps
  have hps' : ps = (List.range es.size).filter fun i => (es[i]?.map (·.hash)) == some (k.hash w) := hps.symm
  have nps : ps.Nodup := by rw [hps']; exact List.Pairwise.filter _ List.nodup_range
  have inps : ∀ i, i ∈ ps → ∃ r, xs[i]? = some r ∧ r.1.hash w = k.hash w := fun i hi => by
    rw [hps', List.mem_filter] at hi
    have hlt : i < xs.length := by rw [← hsz]; exact List.mem_range.mp hi.1
    refine ⟨xs[i], List.getElem?_eq_getElem hlt, ?_⟩
    have := hi.2
    rw [row_at he, List.getElem?_eq_getElem hlt] at this
    simpa [rowE] using this
  have has : ∀ j b, xs[j]? = some (k, b) → j ∈ ps := fun j b hj => by
    rw [hps', List.mem_filter]
    have hlt : j < xs.length := (List.getElem?_eq_some_iff.mp hj).1
    refine ⟨List.mem_range.mpr (by omega), ?_⟩
    rw [row_at he, hj]; simp [rowE]
  have eqs : ∀ r ∈ xs, ∀ (E : Value → Shared → Prop) (Q : Bool → Shared → Prop), Q (decide (r.1 = k)) s → wpAny (model prog w) A (eqBool r.2.1 v) Q E s := fun r hr E Q q =>
    eqAt_key r.1 k A s _ _ (hx r hr).is x.is (by have := (hx r hr).low; omega) prog w E Q (by rw [← NestedKey.decide_eq]; exact q)
  have kst : ∀ u ∈ ps.filterMap (fun i => es[i]?.map (·.key)), ∃ k', KeyOf s.heap k' u := fun u hu => by
    obtain ⟨i, hi, e⟩ := List.mem_filterMap.mp hu
    obtain ⟨r, hr, _⟩ := inps i hi
    rw [row_at he, hr] at e
    cases e
    exact ⟨r.1, hx r (List.mem_of_getElem? hr)⟩
  unfold dictFind
  try with_reducible refine wpAny_holding ?_
  refine wpAny_bind (wpAny_dictEntries ho hd ?_)
  dsimp only
  rw [hps]
  rcases x.sort with rfl | ⟨a, rfl⟩
  · show wpAny _ _ (if (Value.none :: ps.filterMap (fun i => es[i]?.map (·.key))).all carriedByValue = true then dictWalkPlain d Value.none (k.hash w) es ps else _) Q E s
    by_cases hall : (Value.none :: ps.filterMap (fun i => es[i]?.map (·.key))).all carriedByValue = true
    · rw [if_pos hall]
      unfold dictWalkPlain
      refine wpAny_bind ?_
      refine wpAny_forIn_list _ (fun rest b s' => s' = s ∧ ∃ done, ps = done ++ rest ∧ b = (none, ()) ∧ ∀ j ∈ done, ∀ c, xs[j]? ≠ some (k, c)) _ ?_ ?_ _ _ ⟨rfl, [], rfl, rfl, fun _ z => (nomatch z)⟩
      · rintro i rest b s' ⟨rfl, done, hp, rfl, hH⟩
        obtain ⟨r, hr, hh⟩ := inps i (by rw [hp]; simp)
        rw [show es[i]? = some (rowE w r) by rw [row_at he, hr]; rfl]
        dsimp only
        rw [if_pos (show ((rowE w r).hash == k.hash w) = true by simp [rowE, hh])]
        refine wpAny_bind (wpAny_dictEpoch ho hd (wpAny_bind (eqs r (List.mem_of_getElem? hr) _ _ (wpAny_bind (wpAny_dictEpoch ho hd ?_)))))
        rw [if_neg (show ¬ (ep != ep) = true by simp)]
        by_cases hk : r.1 = k
        · rw [decide_eq_true hk, if_pos rfl]
          refine wpAny_bind (wpAny_rule ?_)
          refine wpAny_pure (wpAny_pure ?_)
          rw [idx_of (k := k) (j := i) (b := r.2) hn (by rw [hr, ← hk])] at h
          exact h
        · rw [decide_eq_false hk, if_neg (by decide)]
          refine wpAny_bind (wpAny_rule ?_)
          refine wpAny_pure ⟨rfl, done ++ [i], by rw [hp, List.append_assoc]; rfl, rfl, fun j hj c hc => ?_⟩
          rcases List.mem_append.mp hj with hj | hj
          · exact hH j hj c hc
          · rw [List.mem_singleton.mp hj, hr] at hc
            exact hk (by rw [Option.some.inj hc])
      · rintro b s' ⟨rfl, done, hp, rfl, hH⟩
        rw [List.append_nil] at hp
        rw [idx_none (k := k) (fun j c hc => hH j (by rw [← hp]; exact has j c hc) c hc)] at h
        exact wpAny_pure h
    · rw [if_neg hall]
      show wpAny _ _ (if (ps.filterMap (fun i => es[i]?.map (·.key)) == [Value.none]) = true then _ else _) Q E s
      by_cases hone : (ps.filterMap (fun i => es[i]?.map (·.key)) == [Value.none]) = true
      · rw [if_pos hone]
        refine wpAny_bind (wpAny_pure ?_)
        rw [if_neg (by simp)]
        refine wpAny_bind ?_
        refine wpAny_forIn_list _ (fun rest b s' => s' = s ∧ ∃ done hit, ps = done ++ rest ∧ b = (none, hit) ∧ ((hit = none ∧ ∀ j ∈ done, ∀ c, xs[j]? ≠ some (k, c)) ∨ ∃ j c, hit = some j ∧ j ∈ done ∧ xs[j]? = some (k, c))) _ ?_ ?_ _ _ ⟨rfl, [], none, rfl, rfl, .inl ⟨rfl, fun _ z => (nomatch z)⟩⟩
        · rintro i rest b s' ⟨rfl, done, hit, hp, rfl, hH⟩
          obtain ⟨r, hr, hh⟩ := inps i (by rw [hp]; simp)
          have hnd : i ∉ done := fun z => by
            rw [hp] at nps
            exact (List.nodup_append.mp nps).2.2 i z i (by simp) rfl
          rw [show es[i]? = some (rowE w r) by rw [row_at he, hr]; rfl]
          dsimp only
          rw [if_pos (show ((rowE w r).hash == k.hash w) = true by simp [rowE, hh])]
          refine wpAny_bind (wpAny_dictEpoch ho hd (wpAny_bind (eqs r (List.mem_of_getElem? hr) _ _ (wpAny_bind (wpAny_dictEpoch ho hd ?_)))))
          rw [if_neg (show ¬ (ep != ep) = true by simp)]
          by_cases hk : r.1 = k
          · rw [decide_eq_true hk, if_pos rfl]
            have hr' : xs[i]? = some (k, r.2) := by rw [hr, ← hk]
            rcases hH with ⟨rfl, hno⟩ | ⟨j, c, rfl, hj, hc⟩
            · rw [if_neg (show ¬ (Option.isSome (none : Option Nat)) = true by decide)]
              refine wpAny_bind (wpAny_rule ?_)
              split
              · refine wpAny_pure (wpAny_pure ?_)
                rw [idx_of hn hr'] at h
                exact h
              · exact wpAny_pure ⟨rfl, done ++ [i], some i, by rw [hp, List.append_assoc]; rfl, rfl, .inr ⟨i, _, rfl, by simp, hr'⟩⟩
            · have e1 := idx_of hn hc
              have e2 := idx_of hn hr'
              rw [e1] at e2
              exact absurd (by rw [← Option.some.inj e2]; exact hj) hnd
          · rw [decide_eq_false hk, if_neg (by decide)]
            refine wpAny_bind (wpAny_rule ?_)
            rw [if_neg (by simp)]
            refine wpAny_pure ⟨rfl, done ++ [i], hit, by rw [hp, List.append_assoc]; rfl, rfl, ?_⟩
            rcases hH with ⟨h0, hno⟩ | ⟨j, c, h1, hj, hc⟩
            · refine .inl ⟨h0, fun j hj c hc => ?_⟩
              rcases List.mem_append.mp hj with hj | hj
              · exact hno j hj c hc
              · rw [List.mem_singleton.mp hj, hr] at hc
                exact hk (by rw [Option.some.inj hc])
            · exact .inr ⟨j, c, h1, List.mem_append_left _ hj, hc⟩
        · rintro b s' ⟨rfl, done, hit, hp, rfl, hH⟩
          rw [List.append_nil] at hp
          rcases hH with ⟨rfl, hno⟩ | ⟨j, c, rfl, hj, hc⟩
          · rw [idx_none (k := k) (fun j c hc => hno j (by rw [← hp]; exact has j c hc) c hc)] at h
            exact wpAny_pure h
          · rw [idx_of hn hc] at h
            exact wpAny_pure h
      · rw [if_neg hone]
        refine wpAny_bind (may_not_tell x kst ?_)
        rw [if_neg (by simp)]
        refine wpAny_bind ?_
        refine wpAny_forIn_list _ (fun rest b s' => s' = s ∧ ∃ done hit, ps = done ++ rest ∧ b = (none, hit) ∧ ((hit = none ∧ ∀ j ∈ done, ∀ c, xs[j]? ≠ some (k, c)) ∨ ∃ j c, hit = some j ∧ j ∈ done ∧ xs[j]? = some (k, c))) _ ?_ ?_ _ _ ⟨rfl, [], none, rfl, rfl, .inl ⟨rfl, fun _ z => (nomatch z)⟩⟩
        · rintro i rest b s' ⟨rfl, done, hit, hp, rfl, hH⟩
          obtain ⟨r, hr, hh⟩ := inps i (by rw [hp]; simp)
          have hnd : i ∉ done := fun z => by
            rw [hp] at nps
            exact (List.nodup_append.mp nps).2.2 i z i (by simp) rfl
          rw [show es[i]? = some (rowE w r) by rw [row_at he, hr]; rfl]
          dsimp only
          rw [if_pos (show ((rowE w r).hash == k.hash w) = true by simp [rowE, hh])]
          refine wpAny_bind (wpAny_dictEpoch ho hd (wpAny_bind (eqs r (List.mem_of_getElem? hr) _ _ (wpAny_bind (wpAny_dictEpoch ho hd ?_)))))
          rw [if_neg (show ¬ (ep != ep) = true by simp)]
          by_cases hk : r.1 = k
          · rw [decide_eq_true hk, if_pos rfl]
            have hr' : xs[i]? = some (k, r.2) := by rw [hr, ← hk]
            rcases hH with ⟨rfl, hno⟩ | ⟨j, c, rfl, hj, hc⟩
            · rw [if_neg (show ¬ (Option.isSome (none : Option Nat)) = true by decide)]
              refine wpAny_bind (wpAny_rule ?_)
              split
              · refine wpAny_pure (wpAny_pure ?_)
                rw [idx_of hn hr'] at h
                exact h
              · exact wpAny_pure ⟨rfl, done ++ [i], some i, by rw [hp, List.append_assoc]; rfl, rfl, .inr ⟨i, _, rfl, by simp, hr'⟩⟩
            · have e1 := idx_of hn hc
              have e2 := idx_of hn hr'
              rw [e1] at e2
              exact absurd (by rw [← Option.some.inj e2]; exact hj) hnd
          · rw [decide_eq_false hk, if_neg (by decide)]
            refine wpAny_bind (wpAny_rule ?_)
            rw [if_neg (by simp)]
            refine wpAny_pure ⟨rfl, done ++ [i], hit, by rw [hp, List.append_assoc]; rfl, rfl, ?_⟩
            rcases hH with ⟨h0, hno⟩ | ⟨j, c, h1, hj, hc⟩
            · refine .inl ⟨h0, fun j hj c hc => ?_⟩
              rcases List.mem_append.mp hj with hj | hj
              · exact hno j hj c hc
              · rw [List.mem_singleton.mp hj, hr] at hc
                exact hk (by rw [Option.some.inj hc])
            · exact .inr ⟨j, c, h1, List.mem_append_left _ hj, hc⟩
        · rintro b s' ⟨rfl, done, hit, hp, rfl, hH⟩
          rw [List.append_nil] at hp
          rcases hH with ⟨rfl, hno⟩ | ⟨j, c, rfl, hj, hc⟩
          · rw [idx_none (k := k) (fun j c hc => hno j (by rw [← hp]; exact has j c hc) c hc)] at h
            exact wpAny_pure h
          · rw [idx_of hn hc] at h
            exact wpAny_pure h
  · show wpAny _ _ (if (Value.ref a :: ps.filterMap (fun i => es[i]?.map (·.key))).all carriedByValue = true then _ else _) Q E s
    rw [if_neg (show ¬ (Value.ref a :: ps.filterMap (fun i => es[i]?.map (·.key))).all carriedByValue = true by simp [carriedByValue])]
    show wpAny _ _ (if (es.any fun e => e.key == Value.ref a && e.hash != k.hash w) = true then _ else _) Q E s
    have hany : ¬ (es.any fun e => e.key == Value.ref a && e.hash != k.hash w) = true := by
      rw [← Array.any_toList, he, List.any_eq_true]
      rintro ⟨e, hin, hc⟩
      obtain ⟨r, hr, rfl⟩ := List.mem_map.mp hin
      rw [Bool.and_eq_true] at hc
      have e1 : r.2.1 = Value.ref a := eq_of_beq hc.1
      have e2 : r.1 = k := NestedIs.inj _ _ _ (by rw [← e1]; exact (hx r hr).is) x.is
      have := hc.2
      rw [show (rowE w r).hash = k.hash w by rw [← e2]; rfl] at this
      simp at this
    rw [if_neg hany]
    by_cases hone : (ps.filterMap (fun i => es[i]?.map (·.key)) == [Value.ref a]) = true
    · rw [if_pos hone]
      refine wpAny_bind (wpAny_pure ?_)
      rw [if_neg (by simp)]
      refine wpAny_bind ?_
      refine wpAny_forIn_list _ (fun rest b s' => s' = s ∧ ∃ done hit, ps = done ++ rest ∧ b = (none, hit) ∧ ((hit = none ∧ ∀ j ∈ done, ∀ c, xs[j]? ≠ some (k, c)) ∨ ∃ j c, hit = some j ∧ j ∈ done ∧ xs[j]? = some (k, c))) _ ?_ ?_ _ _ ⟨rfl, [], none, rfl, rfl, .inl ⟨rfl, fun _ z => (nomatch z)⟩⟩
      · rintro i rest b s' ⟨rfl, done, hit, hp, rfl, hH⟩
        obtain ⟨r, hr, hh⟩ := inps i (by rw [hp]; simp)
        have hnd : i ∉ done := fun z => by
          rw [hp] at nps
          exact (List.nodup_append.mp nps).2.2 i z i (by simp) rfl
        rw [show es[i]? = some (rowE w r) by rw [row_at he, hr]; rfl]
        dsimp only
        rw [if_pos (show ((rowE w r).hash == k.hash w) = true by simp [rowE, hh])]
        refine wpAny_bind (wpAny_dictEpoch ho hd (wpAny_bind (eqs r (List.mem_of_getElem? hr) _ _ (wpAny_bind (wpAny_dictEpoch ho hd ?_)))))
        rw [if_neg (show ¬ (ep != ep) = true by simp)]
        by_cases hk : r.1 = k
        · rw [decide_eq_true hk, if_pos rfl]
          have hr' : xs[i]? = some (k, r.2) := by rw [hr, ← hk]
          rcases hH with ⟨rfl, hno⟩ | ⟨j, c, rfl, hj, hc⟩
          · rw [if_neg (show ¬ (Option.isSome (none : Option Nat)) = true by decide)]
            refine wpAny_bind (wpAny_rule ?_)
            split
            · refine wpAny_pure (wpAny_pure ?_)
              rw [idx_of hn hr'] at h
              exact h
            · exact wpAny_pure ⟨rfl, done ++ [i], some i, by rw [hp, List.append_assoc]; rfl, rfl, .inr ⟨i, _, rfl, by simp, hr'⟩⟩
          · have e1 := idx_of hn hc
            have e2 := idx_of hn hr'
            rw [e1] at e2
            exact absurd (by rw [← Option.some.inj e2]; exact hj) hnd
        · rw [decide_eq_false hk, if_neg (by decide)]
          refine wpAny_bind (wpAny_rule ?_)
          rw [if_neg (by simp)]
          refine wpAny_pure ⟨rfl, done ++ [i], hit, by rw [hp, List.append_assoc]; rfl, rfl, ?_⟩
          rcases hH with ⟨h0, hno⟩ | ⟨j, c, h1, hj, hc⟩
          · refine .inl ⟨h0, fun j hj c hc => ?_⟩
            rcases List.mem_append.mp hj with hj | hj
            · exact hno j hj c hc
            · rw [List.mem_singleton.mp hj, hr] at hc
              exact hk (by rw [Option.some.inj hc])
          · exact .inr ⟨j, c, h1, List.mem_append_left _ hj, hc⟩
      · rintro b s' ⟨rfl, done, hit, hp, rfl, hH⟩
        rw [List.append_nil] at hp
        rcases hH with ⟨rfl, hno⟩ | ⟨j, c, rfl, hj, hc⟩
        · rw [idx_none (k := k) (fun j c hc => hno j (by rw [← hp]; exact has j c hc) c hc)] at h
          exact wpAny_pure h
        · rw [idx_of hn hc] at h
          exact wpAny_pure h
    · rw [if_neg hone]
      refine wpAny_bind (may_not_tell x kst ?_)
      rw [if_neg (by simp)]
      refine wpAny_bind ?_
      refine wpAny_forIn_list _ (fun rest b s' => s' = s ∧ ∃ done hit, ps = done ++ rest ∧ b = (none, hit) ∧ ((hit = none ∧ ∀ j ∈ done, ∀ c, xs[j]? ≠ some (k, c)) ∨ ∃ j c, hit = some j ∧ j ∈ done ∧ xs[j]? = some (k, c))) _ ?_ ?_ _ _ ⟨rfl, [], none, rfl, rfl, .inl ⟨rfl, fun _ z => (nomatch z)⟩⟩
      · rintro i rest b s' ⟨rfl, done, hit, hp, rfl, hH⟩
        obtain ⟨r, hr, hh⟩ := inps i (by rw [hp]; simp)
        have hnd : i ∉ done := fun z => by
          rw [hp] at nps
          exact (List.nodup_append.mp nps).2.2 i z i (by simp) rfl
        rw [show es[i]? = some (rowE w r) by rw [row_at he, hr]; rfl]
        dsimp only
        rw [if_pos (show ((rowE w r).hash == k.hash w) = true by simp [rowE, hh])]
        refine wpAny_bind (wpAny_dictEpoch ho hd (wpAny_bind (eqs r (List.mem_of_getElem? hr) _ _ (wpAny_bind (wpAny_dictEpoch ho hd ?_)))))
        rw [if_neg (show ¬ (ep != ep) = true by simp)]
        by_cases hk : r.1 = k
        · rw [decide_eq_true hk, if_pos rfl]
          have hr' : xs[i]? = some (k, r.2) := by rw [hr, ← hk]
          rcases hH with ⟨rfl, hno⟩ | ⟨j, c, rfl, hj, hc⟩
          · rw [if_neg (show ¬ (Option.isSome (none : Option Nat)) = true by decide)]
            refine wpAny_bind (wpAny_rule ?_)
            split
            · refine wpAny_pure (wpAny_pure ?_)
              rw [idx_of hn hr'] at h
              exact h
            · exact wpAny_pure ⟨rfl, done ++ [i], some i, by rw [hp, List.append_assoc]; rfl, rfl, .inr ⟨i, _, rfl, by simp, hr'⟩⟩
          · have e1 := idx_of hn hc
            have e2 := idx_of hn hr'
            rw [e1] at e2
            exact absurd (by rw [← Option.some.inj e2]; exact hj) hnd
        · rw [decide_eq_false hk, if_neg (by decide)]
          refine wpAny_bind (wpAny_rule ?_)
          rw [if_neg (by simp)]
          refine wpAny_pure ⟨rfl, done ++ [i], hit, by rw [hp, List.append_assoc]; rfl, rfl, ?_⟩
          rcases hH with ⟨h0, hno⟩ | ⟨j, c, h1, hj, hc⟩
          · refine .inl ⟨h0, fun j hj c hc => ?_⟩
            rcases List.mem_append.mp hj with hj | hj
            · exact hno j hj c hc
            · rw [List.mem_singleton.mp hj, hr] at hc
              exact hk (by rw [Option.some.inj hc])
          · exact .inr ⟨j, c, h1, List.mem_append_left _ hj, hc⟩
      · rintro b s' ⟨rfl, done, hit, hp, rfl, hH⟩
        rw [List.append_nil] at hp
        rcases hH with ⟨rfl, hno⟩ | ⟨j, c, rfl, hj, hc⟩
        · rw [idx_none (k := k) (fun j c hc => hno j (by rw [← hp]; exact has j c hc) c hc)] at h
          exact wpAny_pure h
        · rw [idx_of hn hc] at h
          exact wpAny_pure h
theorem find_key2 {Q : Option Nat → Shared → Prop} (hu : A.units + 8 < cLine) (x : KeyOf s.heap k v) (ho : s.heap.get? d = some o) (hd : o.data = .dict es ep) (he : es.toList = xs.map (rowE w))
    (hx : ∀ r ∈ xs, KeyOf s.heap r.1 r.2.1) (hn : (xs.map (·.1)).Nodup) (h0 : (∀ (j : Nat) b, xs[j]? ≠ some (k, b)) → Q none s) (h1 : ∀ (j : Nat) b, xs[j]? = some (k, b) → Q (some j) s) :
    wpAny (model prog w) A (dictFind d v (k.hash w)) Q E s := by
  refine find_key hu x ho hd he hx hn ?_
  by_cases h : ∃ (j : Nat) (b : Value × Value), xs[j]? = some (k, b)
  · obtain ⟨j, b, hj⟩ := h
    rw [idx_of hn hj]
    exact h1 j b hj
  · rw [idx_none fun j b hj => h ⟨j, b, hj⟩]
    exact h0 fun j b hj => h ⟨j, b, hj⟩
/-- the dict at d, by its rows -/
def MDict (w : World) (h : Heap) (d : Addr) (xs : List Rw) : Prop := ∃ o es ep, h.get? d = some o ∧ o.ExactDict ∧ o.data = .dict es ep ∧ es.toList = xs.map (rowE w) ∧ (xs.map (·.1)).Nodup
def valR (xs : List Rw) (k : NestedKey) : Option Value := (xs.find? fun r => decide (r.1 = k)).map (·.2.2)
/-- in its place, or at the end -/
def putR (xs : List Rw) (k : NestedKey) (v u : Value) : List Rw := if k ∈ xs.map (·.1) then xs.map (fun r => if r.1 = k then (r.1, r.2.1, u) else r) else xs ++ [(k, v, u)]
theorem valR_at : ∀ {xs : List Rw} {j : Nat} {b : Value × Value}, (xs.map (·.1)).Nodup → xs[j]? = some (k, b) → valR xs k = some b.2
  | [], _, _, _, h => by cases h
  | r :: xs, 0, b, _, h => by
    cases h
    show ((List.find? _ ((k, b) :: xs)).map _) = _
    rw [List.find?_cons, decide_eq_true rfl]; rfl
  | r :: xs, j + 1, b, hn, h => by
    rw [List.map_cons, List.nodup_cons] at hn
    have hm : k ∈ xs.map (·.1) := List.mem_map.mpr ⟨(k, b), List.mem_of_getElem? h, rfl⟩
    have hne : ¬ r.1 = k := fun e => hn.1 (e ▸ hm)
    show ((List.find? _ (r :: xs)).map _) = _
    rw [List.find?_cons, decide_eq_false hne]
    exact valR_at hn.2 h
theorem valR_none (h : ∀ (j : Nat) b, xs[j]? ≠ some (k, b)) : valR xs k = none := by
  unfold valR
  rw [Option.map_eq_none_iff, List.find?_eq_none]
  intro r hr e
  obtain ⟨j, hj⟩ := List.mem_iff_getElem?.mp hr
  exact h j r.2 (by rw [hj, ← of_decide_eq_true e])
theorem MDict.typeIs (M : MDict w s.heap d xs) : s.TypeIs (.ref d) "dict" := let ⟨o, _, _, ho, hc, _⟩ := M; ⟨o, ho, hc.1⟩
theorem MDict.new (h : Heap) : MDict w (h.push { cls := .type "dict", data := .dict #[] }) h.objs.size [] := ⟨_, #[], 0, Heap.get?_push_size _ rfl, ⟨rfl, rfl, rfl⟩, rfl, rfl, List.nodup_nil⟩
theorem m_get {Q : Option Value → Shared → Prop} (hu : A.units + 8 < cLine) (x : KeyOf s.heap k v) (M : MDict w s.heap d xs) (hx : ∀ r ∈ xs, KeyOf s.heap r.1 r.2.1) (h : Q (valR xs k) { s with toks := s.toks + k.draws }) :
    wpAny (model prog w) A (dictGet d v) Q E s := by
  obtain ⟨o, es, ep, ho, _, hd, he, hn⟩ := M
  unfold dictGet
  try with_reducible refine wpAny_holding ?_
  refine wpAny_bind (pyHash_key k v A s _ x.is (by have := x.low; omega) (wpAny_bind (find_key2 (s := { s with toks := s.toks + k.draws }) hu x ho hd he hx hn (fun h0 => ?_) fun j b hj => ?_)))
  · rw [valR_none h0] at h
    exact wpAny_pure h
  · rw [valR_at hn hj] at h
    refine wpAny_bind (wpAny_dictEntries (s := { s with toks := s.toks + k.draws }) ho hd ?_)
    rw [row_at he, hj]
    exact wpAny_pure h
theorem m_set {u : Value} {Q : Unit → Shared → Prop} (hu : A.units + 8 < cLine) (x : KeyOf s.heap k v) (M : MDict w s.heap d xs) (hx : ∀ r ∈ xs, KeyOf s.heap r.1 r.2.1) (hsz : xs.length ≤ sizeLine)
    (hQ : ∀ h', MDict w h' d (putR xs k v u) → Heap.SameBut d s.heap h' → Q () { s with heap := h', toks := s.toks + k.draws }) : wpAny (model prog w) A (dictSet d v u) Q E s := by
  obtain ⟨o, es, ep, ho, hc, hd, he, hn⟩ := M
  have hse : es.size = xs.length := by rw [← Array.length_toList, he, List.length_map]
  unfold dictSet
  try with_reducible refine wpAny_holding ?_
  refine wpAny_bind (pyHash_key k v A s _ x.is (by have := x.low; omega) ?_)
  unfold dictSetHashed
  try with_reducible refine wpAny_holding ?_
  refine wpAny_bind (find_key2 (s := { s with toks := s.toks + k.draws }) hu x ho hd he hx hn (fun h0 => ?_) fun j b hj => ?_)
  · have hnot : k ∉ xs.map (·.1) := fun hm => by
      obtain ⟨r, hr, e⟩ := List.mem_map.mp hm
      obtain ⟨j, hj⟩ := List.mem_iff_getElem?.mp hr
      exact h0 j r.2 (by rw [hj, ← e])
    refine wpAny_bind (wpAny_rule (wpAny_updateDictKeys (hz := by omega) (s := { s with toks := s.toks + k.draws }) ho hd (hQ _ ⟨_, _, ep + 1, Heap.get?_update_self _ ho (Obj.isFreed_of_dict (Obj.data_mapDictKeys hd _)),
      hc.mapDictKeys _, Obj.data_mapDictKeys hd _, ?_, ?_⟩ (Heap.SameBut.update ..))))
    · unfold putR
      rw [if_neg hnot, Array.toList_push, he, List.map_append]; rfl
    · unfold putR
      rw [if_neg hnot, List.map_append, List.nodup_append]
      refine ⟨hn, by simp, fun y hy z hz e => ?_⟩
      rw [List.map_cons, List.map_nil, List.mem_singleton] at hz
      exact hnot (by have e2 : y = k := e.trans hz; rw [← e2]; exact hy)
  · have hin : k ∈ xs.map (·.1) := List.mem_map.mpr ⟨(k, b), List.mem_of_getElem? hj, rfl⟩
    refine wpAny_bind (wpAny_rule (wpAny_bind (wpAny_updateDict (s := { s with toks := s.toks + k.draws }) ho hd (wpAny_point (hQ _ ⟨_, _, ep, Heap.get?_update_self _ ho (Obj.isFreed_of_dict (Obj.data_mapDict hd _)),
      hc.mapDict _, Obj.data_mapDict hd _, ?_, ?_⟩ (Heap.SameBut.update ..))))))
    · unfold putR
      rw [if_pos hin, Array.toList_modify, he]
      apply List.ext_getElem?
      intro i
      rw [List.getElem?_modify, List.getElem?_map, List.getElem?_map, List.getElem?_map]
      cases hi : xs[i]? with
      | none => rfl
      | some r =>
        show some (if j = i then _ else _) = some _
        by_cases hij : j = i
        · subst hij
          rw [hj] at hi
          have hr := Option.some.inj hi
          subst hr
          rw [if_pos rfl]
          dsimp only
          rw [if_pos rfl]; rfl
        · have e : ¬ r.1 = k := fun e => by
            have e1 := idx_of hn hj
            have e2 := idx_of (k := k) (j := i) (b := r.2) hn (by rw [hi, ← e])
            rw [e1] at e2
            exact hij (Option.some.inj e2)
          rw [if_neg hij]
          dsimp only
          rw [if_neg e]
    · unfold putR
      rw [if_pos hin, List.map_map]
      have : ((fun r : Rw => r.1) ∘ fun r : Rw => if r.1 = k then (r.1, r.2.1, u) else r) = fun r => r.1 := by
        funext r
        show (if r.1 = k then (r.1, r.2.1, u) else r).1 = r.1
        split <;> rfl
      rw [this]; exact hn
end
end Wd
set_option Elab.async false
set_option linter.all false
set_option maxRecDepth 100000
set_option maxHeartbeats 4000000
namespace Wd
open PySem L2 SeqAt
/-! ### the same over the hand layer -/
def nk (e : En) : NestedKey := .tup [.text e.1, match e.2 with | none => .none | some t => .text t]
theorem nk_inj {e g : En} (h : nk e = nk g) : e = g := by
  obtain ⟨a, b⟩ := e
  obtain ⟨c, d⟩ := g
  unfold nk at h
  injection h with h
  injection h with h1 h2
  injection h1 with h1
  injection h2 with h2 _
  subst h1
  cases b with
  | none => cases d with
    | none => rfl
    | some t => cases h2
  | some t => cases d with
    | none => cases h2
    | some u => injection h2 with h2; subst h2; rfl
theorem nk_low (e : En) : (nk e).depth ≤ 8 := by
  obtain ⟨a, b⟩ := e
  cases b with
  | none => exact (show 1 ≤ 8 by decide)
  | some t => exact (show 1 ≤ 8 by decide)
def MDO (w : World) (d : Addr) (xs : List Rw) : HO := .ext fun h => MDict w h d xs ∧ (d == sysModules) = false
/-- a key's value in the heap -/
def KAt (H : Hp) (k : NestedKey) (v : Value) : Prop := (k = .none ∧ v = .none) ∨ ∃ (e : En) (a : Addr), k = nk e ∧ v = .ref a ∧ H a = some (.tup e.vs)
def KV' (H : Hp) (k : NestedKey) (y : V) : Prop := (k = .none ∧ y = .non) ∨ ∃ (e : En) (a : Addr), k = nk e ∧ y = .ref a ∧ H a = some (.tup e.vs)
structure DAtM (w : World) (H : Hp) (d : Addr) (kvs : List (NestedKey × V)) (xs : List Rw) : Prop where
  at_ : H d = some (MDO w d xs)
  rel : Paired (fun (p : NestedKey × V) (r : Rw) => p.1 = r.1 ∧ RelV p.2 r.2.2) kvs xs
  keys : ∀ r ∈ xs, KAt H r.1 r.2.1
  few : xs.length ≤ 1000
section
variable {P : Program} {w : World} {H : Hp} {h : Heap} {d : Addr} {xs : List Rw} {k : NestedKey} {v : Value}
theorem mdo_ok (M : MDict w h d xs) (hd : (d == sysModules) = false) : ObjOk P w H h d (MDO w d xs) :=
  ⟨⟨M, hd⟩, let ⟨o, _, _, ho, _⟩ := M; ⟨o, ho⟩, fun _ h2 ⟨⟨o, es, ep, ho, r⟩, hd⟩ k => ⟨⟨o, es, ep, k o ho, r⟩, hd⟩⟩
theorem KAt.key (ok : HOk P w H h) (x : KAt H k v) : KeyOf h k v := by
  rcases x with ⟨rfl, rfl⟩ | ⟨e, a, rfl, rfl, ha⟩
  · exact ⟨.none, Nat.zero_le _, .inl rfl⟩
  · obtain ⟨_, its, r, o, h1, h2, n, h3⟩ := (show ObjOk P w H h a (.tup e.vs) from ok a _ ha)
    refine ⟨.tup h1 h2 h3 ?_, nk_low e, .inr ⟨a, rfl⟩⟩
    obtain ⟨x, y⟩ := e
    rw [List.toList_toArray]
    cases r with
    | cons r1 r2 =>
      cases r2 with
      | cons r2 r3 =>
        cases r3
        obtain ⟨t1, rfl⟩ := (show ∃ t, _ = Value.str x t from r1)
        cases y with
        | none =>
          cases (show _ = Value.none from r2)
          exact .cons (.text _ _) (.cons .none .nil)
        | some z =>
          obtain ⟨t2, rfl⟩ := (show ∃ t, _ = Value.str z t from r2)
          exact .cons (.text _ _) (.cons (.text _ _) .nil)
theorem KV'.at_ {y : V} {u : Value} (x : KV' H k y) (r : RelV y u) : KAt H k u := by
  rcases x with ⟨rfl, rfl⟩ | ⟨e, a, rfl, rfl, ha⟩
  · cases (show u = Value.none from r); exact .inl ⟨rfl, rfl⟩
  · cases (show u = Value.ref a from r); exact .inr ⟨e, a, rfl, rfl, ha⟩
theorem KAt.mono {H' : Hp} (s : ∀ a ys, H a = some (.tup ys) → H' a = some (.tup ys)) (x : KAt H k v) : KAt H' k v := by
  rcases x with x | ⟨e, a, h1, h2, ha⟩
  · exact .inl x
  · exact .inr ⟨e, a, h1, h2, s _ _ ha⟩
theorem rel_val {kvs : List (NestedKey × V)} {xs : List Rw} (r : Paired (fun (p : NestedKey × V) (r : Rw) => p.1 = r.1 ∧ RelV p.2 r.2.2) kvs xs) (k : NestedKey) : RelO (valV kvs k) (valR xs k) := by
  induction r with
  | nil => exact True.intro
  | @cons p q ps qs h t ih =>
    obtain ⟨h1, h2⟩ := h
    unfold valR
    rw [List.find?_cons]
    by_cases e : p.1 = k
    · rw [valV_pos e, decide_eq_true (h1.symm.trans e)]; exact h2
    · rw [valV_neg e, decide_eq_false (fun z => e (h1.trans z))]; exact ih
theorem keys_eq {kvs : List (NestedKey × V)} {xs : List Rw} (r : Paired (fun (p : NestedKey × V) (r : Rw) => p.1 = r.1 ∧ RelV p.2 r.2.2) kvs xs) : kvs.map (·.1) = xs.map (·.1) := by
  induction r with
  | nil => rfl
  | cons h t ih => rw [List.map_cons, List.map_cons, h.1, ih]
theorem any_keys {kvs : List (NestedKey × V)} (k : NestedKey) : (kvs.any fun kv => decide (kv.1 = k)) = true ↔ k ∈ kvs.map (·.1) := by
  rw [List.any_eq_true, List.mem_map]
  constructor
  · rintro ⟨p, hp, e⟩; exact ⟨p, hp, of_decide_eq_true e⟩
  · rintro ⟨p, hp, e⟩; exact ⟨p, hp, decide_eq_true e⟩
theorem rel_put {kvs : List (NestedKey × V)} {xs : List Rw} (r : Paired (fun (p : NestedKey × V) (r : Rw) => p.1 = r.1 ∧ RelV p.2 r.2.2) kvs xs) (k : NestedKey) {y : V} {u : Value} (v : Value) (ry : RelV y u) :
    Paired (fun (p : NestedKey × V) (r : Rw) => p.1 = r.1 ∧ RelV p.2 r.2.2) (putK kvs k y) (putR xs k v u) := by
  unfold putK putR
  by_cases a : k ∈ xs.map (·.1)
  · rw [if_pos ((any_keys k).mpr (by rw [keys_eq r]; exact a)), if_pos a]
    clear a
    induction r with
    | nil => exact .nil
    | @cons p q ps qs h t ih =>
      rw [List.map_cons, List.map_cons]
      refine .cons ?_ ih
      obtain ⟨h1, h2⟩ := h
      by_cases e : p.1 = k
      · rw [if_pos e, if_pos (h1.symm.trans e)]; exact ⟨h1, ry⟩
      · rw [if_neg e, if_neg (fun z => e (h1.trans z))]; exact ⟨h1, h2⟩
  · rw [if_neg (fun z => a (by rw [← keys_eq r]; exact (any_keys k).mp z)), if_neg a]
    exact PySem.Paired.snoc r ⟨rfl, ry⟩
theorem mem_putR {xs : List Rw} {k : NestedKey} {v u : Value} {r : Rw} (h : r ∈ putR xs k v u) : (∃ q ∈ xs, r.1 = q.1 ∧ r.2.1 = q.2.1) ∨ (r.1 = k ∧ r.2.1 = v) := by
  unfold putR at h
  split at h
  · obtain ⟨q, hq, e⟩ := List.mem_map.mp h
    refine .inl ⟨q, hq, ?_⟩
    rw [← e]
    split <;> exact ⟨rfl, rfl⟩
  · rcases List.mem_append.mp h with h | h
    · exact .inl ⟨r, h, rfl, rfl⟩
    · rw [List.mem_singleton.mp h]; exact .inr ⟨rfl, rfl⟩
theorem len_putR {xs : List Rw} {k : NestedKey} {v u : Value} : (putR xs k v u).length ≤ xs.length + 1 := by
  unfold putR
  split
  · rw [List.length_map]; omega
  · rw [List.length_append]; exact Nat.le_refl _
end
section
variable {X : Cx} {pins : List (Addr × Obj)} {σ : St} {H : Hp} {s : Shared} {A : Around} {E : Value → Shared → Prop} {d : Addr} {kvs : List (NestedKey × V)} {xs : List Rw} {k : NestedKey} {y z : V} {u r : Value}
theorem DAtM.dict (D : DAtM X.w H d kvs xs) (I : Inv X pins σ H s) : MDict X.w s.heap d xs ∧ (d == sysModules) = false := (show ObjOk X.prog X.w H s.heap d (MDO X.w d xs) from I.hok d _ D.at_).1
theorem DAtM.kof (D : DAtM X.w H d kvs xs) (I : Inv X pins σ H s) : ∀ r ∈ xs, KeyOf s.heap r.1 r.2.1 := fun r hr => (D.keys r hr).key I.hok
/-- d.get(y, z) -/
theorem md_get2 {Q : Value → Shared → Prop} (hu : A.units + 9 < cLine) (I : Inv X pins σ H s) (D : DAtM X.w H d kvs xs) (hk : KV' H k y) (ry : RelV y u) (rz : RelV z r) (h : ∀ w' s', Inv X pins σ H s' → RelV ((valV kvs k).getD z) w' → Q w' s') :
    wpAny (model X.prog X.w) A (call (.builtin "dict.get") [.ref d, u, r]) Q E s := by
  obtain ⟨M, hd⟩ := D.dict I
  have M' := M.typeIs
  refine call_meetsIn (S := fun A R s' => s' = s ∧ A.units + 9 < cLine ∧ R (.ok (.ret ((valR xs k).getD r))) { s with toks := s.toks + k.draws }) PySem.F.slot_dict_get M.typeIs PySem.F.entry_dict_get (PySem.F.args_dict_get_3 _ _ _) (.of_wp fun A R s' ⟨e, hu', hr⟩ => ?_) ⟨rfl, hu, h _ _ (I.tok _) ((rel_val D.rel k).getD rz)⟩
  · subst e
    show wpAny _ _ (dictGet d u >>= _) _ _ _
    refine wpAny_bind (m_get (by show A.units + 1 + 8 < cLine; omega) ((hk.at_ ry).key I.hok) M (D.kof I) ?_)
    cases hf : valR xs k with
    | some v =>
      rw [hf] at hr
      exact wpAny_pure ⟨v, rfl, hr⟩
    | none =>
      rw [hf] at hr
      show wpAny _ _ (Builtin.Dict.missed d u >>= _) _ _ _
      exact wpAny_bind (wpAny_missed_other hd (wpAny_pure ⟨r, rfl, hr⟩))
theorem md_keep {o : HO} {b : Addr} {ys : List V} (D : DAtM X.w H d kvs xs) (h : H b = some (.tup ys)) : (upd H d o) b = some (.tup ys) := by
  rw [upd_ne (fun e => by rw [e, D.at_] at h; cases h)]; exact h
theorem md_after {v : Value} {h' : Heap} {t' : Nat} (I : Inv X pins σ H s) (D : DAtM X.w H d kvs xs) (hk : KAt H k v) (rz : RelV z r) (few : xs.length < 1000) (M : MDict X.w h' d (putR xs k v r)) (hs : Heap.SameBut d s.heap h') :
    Inv X pins σ (upd H d (MDO X.w d (putR xs k v r))) { s with heap := h', toks := t' } ∧ DAtM X.w (upd H d (MDO X.w d (putR xs k v r))) d (putK kvs k z) (putR xs k v r) := by
  have hd := (D.dict I).2
  refine ⟨d_write I (by rw [D.at_]; exact True.intro) hs (let ⟨q, _, _, hq, _⟩ := M; ⟨q, hq⟩) (mdo_ok M hd), upd_same, rel_put D.rel k v rz, fun q hq => ?_, ?_⟩
  · rcases mem_putR hq with ⟨q', hq', e1, e2⟩ | ⟨e1, e2⟩
    · rw [e1, e2]; exact (D.keys q' hq').mono fun _ _ => md_keep D
    · rw [e1, e2]; exact hk.mono fun _ _ => md_keep D
  · have := len_putR (xs := xs) (k := k) (v := v) (u := r)
    omega
/-- d[y] = z, as the model stores it -/
theorem md_dset {Q : Unit → Shared → Prop} (hu : A.units + 8 < cLine) (I : Inv X pins σ H s) (D : DAtM X.w H d kvs xs) (hk : KV' H k y) (ry : RelV y u) (rz : RelV z r) (few : xs.length < 1000)
    (h : ∀ s' xs', xs'.length ≤ xs.length + 1 → Inv X pins σ (upd H d (MDO X.w d xs')) s' → DAtM X.w (upd H d (MDO X.w d xs')) d (putK kvs k z) xs' → Q () s') : wpAny (model X.prog X.w) A (dictSet d u r) Q E s := by
  obtain ⟨M, hd⟩ := D.dict I
  have szl : (1000 : Nat) ≤ sizeLine := by rw [sizeLine_eq]; decide
  refine m_set hu ((hk.at_ ry).key I.hok) M (D.kof I) (by omega) fun h' M' hs => ?_
  obtain ⟨I', D'⟩ := md_after (t' := s.toks + k.draws) I D (hk.at_ ry) rz few M' hs
  exact h _ _ len_putR I' D'
theorem md_setItem {Q : Unit → Shared → Prop} (hu : A.units + 9 < cLine) (I : Inv X pins σ H s) (D : DAtM X.w H d kvs xs) (hk : KV' H k y) (ry : RelV y u) (rz : RelV z r) (few : xs.length < 1000)
    (h : ∀ s' xs', xs'.length ≤ xs.length + 1 → Inv X pins σ (upd H d (MDO X.w d xs')) s' → DAtM X.w (upd H d (MDO X.w d xs')) d (putK kvs k z) xs' → Q () s') : wpAny (model X.prog X.w) A (setItem (.ref d) u r) Q E s := by
  obtain ⟨M, hd⟩ := D.dict I
  have hT := M.typeIs
  unfold setItem
  try with_reducible refine wpAny_holding ?_
  refine wpAny_bind (wpAny_sequenceKey hT (by decide) ?_)
  refine wpAny_bind (wpAny_callSpecial?_slot (name := Str.ofString "__setitem__") hT slot_dict_setitem (wpAny_call_entry slot_dict_setitem hT entry_dict_setitem ?_ (args_dict_setitem _ _ _)))
  show wpAny _ _ (Builtin.Dict.notOrdered "__setitem__" ⟨[.ref d, u, r], []⟩ >>= _) _ _ s
  refine wpAny_bind (wpAny_notOrdered_dict hT ?_)
  show wpAny _ _ (dictSet d u r >>= _) _ _ s
  exact wpAny_bind (md_dset (by show A.units + 1 + 8 < cLine; omega) I D hk ry rz few fun s' xs' hl I' D' => wpAny_pure ⟨.none, rfl, wpAny_pure (h s' xs' hl I' D')⟩)
end
def tMGet2 (w : World) (td ty tx : TE) : TE := fun σ H Q => td σ H fun x H1 => ∃ a, x = .ref a ∧ (∃ kvs xs, DAtM w H1 a kvs xs) ∧ ty σ H1 fun y H2 => tx σ H2 fun z H3 => ∃ kvs xs k, DAtM w H3 a kvs xs ∧ KV' H3 k y ∧ Q ((valV kvs k).getD z) H3
def sMPut (w : World) (td ty tv : TE) : TS := fun D σ H => tv σ H fun v H1 => td σ H1 fun x H2 => ty σ H2 fun y H3 => ∃ a kvs xs k, x = .ref a ∧ DAtM w H3 a kvs xs ∧ KV' H3 k y ∧ xs.length < 1000 ∧
  ∀ xs', xs'.length ≤ xs.length + 1 → DAtM w (upd H3 a (MDO w a xs')) a (putK kvs k v) xs' → D.nx σ (upd H3 a (MDO w a xs'))
section
variable {X : Cx} {o e f i value : Expr} {apos cpos pos pos' : Pos} {td ty tx tv : TE}
theorem pe_mget2 (hu : X.A.units + 9 < cLine) (ho : PE X o td) (he : PE X e ty) (hf : PE X f tx) (m : M2 X o "get" apos e f cpos) : PE X (.Call (.Attribute o "get" apos) [e, f] [] cpos) (tMGet2 X.w td ty tx) := by
  refine ⟨fun pins s σ H Q I h => ?_⟩
  refine wpAny_Call_method m.base m.few m.line PySem.F.plainAttrs_dict PySem.F.slot_dict_get PySem.F.type_dict_get (thn (ho.run pins s σ H _ I h) fun u s1 ⟨x, H1, I1, rx, a, ex, ⟨kvs, xs, D⟩, q1⟩ => ?_)
  subst ex
  obtain rfl : u = Value.ref a := rx
  have M := (D.dict I1).1
  refine ⟨M.typeIs, fun b q => ?_, ?_⟩
  · cases q
    obtain ⟨ob, _, _, h1, h2, _⟩ := M
    exact ⟨ob, h1, h2.2.1⟩
  rw [m.trees]
  refine Calls.callWith_builtin rfl (Calls.evalArgs_plain (Calls.spliced_cons (thn (he.run pins s1 σ H1 _ I1 q1) fun iv s2 ⟨y, H2, I2, ry, q2⟩ =>
    Calls.spliced_cons (thn (hf.run pins s2 σ H2 _ I2 q2) fun fv s3 ⟨z, H3, I3, rz, kvs', xs', k, D3, hk, q3⟩ => Calls.spliced_nil ?_))))
  exact md_get2 hu I3 D3 hk ry rz fun w' s4 I4 rw' => ⟨_, H3, I4, rw', q3⟩
theorem ps_mput (hu : X.A.units + 9 < cLine) (ho : PE X o td) (hi : PE X i ty) (hv : PE X value tv) (hs : swapsWith value (some (.Subscript o i pos')) pos.line X.env = pure false) :
    PS X (.Assign [.Subscript o i pos'] value pos) (sMPut X.w td ty tv) := by
  refine ⟨fun pins s σ H D I h => ?_⟩
  refine wpAny_Assign_Subscript (thn (hv.run pins s σ H _ I h) fun r s1 ⟨v, H1, I1, rv, q1⟩ => thn (ho.run pins s1 σ H1 _ I1 q1) fun u s2 ⟨x, H2, I2, rx, q2⟩ => thn (hi.run pins s2 σ H2 _ I2 q2) fun iv s3 ⟨y, H3, I3, ry, a, kvs, xs, k, ex, D3, hk, few, q3⟩ => ?_) hs
  subst ex
  obtain rfl : u = Value.ref a := rx
  exact md_setItem hu I3 D3 hk ry rv few fun s4 xs' hl I4 D4 => ⟨σ, _, I4, q3 xs' hl D4⟩
end
end Wd
set_option Elab.async false
set_option linter.all false
set_option maxRecDepth 100000
set_option maxHeartbeats 4000000
namespace Wd
open PySem L2 PySem.Spec PyProof.Rows
/-! ### {key: value for target in iter} with such keys -/
def tMDc (w : World) (wi : TI) (g : TG) (tk tv : TE) (vs : List Nat) : TE := fun σ H Q => wi σ H fun J H1 => ∀ D, H1 D = none → ∃ W : Nat → Nat → Hp → Prop, (∃ m, W 0 m (upd H1 D (MDO w D []))) ∧ ∀ i m H, W i m H →
  (J.stop i H ∧ Q (.ref D) H) ∨ (J.go i H ∧ ∃ Nx : Hp → Prop, (∀ H', Nx H' → ∃ m', m' < m ∧ W (i + 1) m' H') ∧ ∀ x H', J.yld i H x H' → g x (wipe σ vs) H' fun σ2 H2 => wipe σ2 vs = wipe σ vs ∧
    tk σ2 H2 fun y H4 => tv σ2 H4 fun z H5 => ∃ kvs xs k, DAtM w H5 D kvs xs ∧ KV' H5 k y ∧ xs.length < 1000 ∧ ∀ xs', xs'.length ≤ xs.length + 1 → DAtM w (upd H5 D (MDO w D xs')) D (putK kvs k z) xs' → Nx (upd H5 D (MDO w D xs')))
section
variable {X : Cx}
theorem mdc_core {pins : List (Addr × Obj)} {s : Shared} {σ : L2.St} {H : Hp} {Q : VK} {use : Option (Value → Sem Unit)} {Qf : Value → Shared → Prop} {pos' : Pos} {kx vx tg iter : Expr} {scope : Scope} {own : List (Str × Nat)} {pos : Pos} {wi : TI} {g : TG} {tk tv : TE} (hc : X.calm = true) (hu : X.A.units + 9 < cLine) (hN : X.N.Nodup) (I : Inv X pins σ H s) (hi : PI X tg iter wi) (ok : BlkOk X.N X.env.scope scope own)
    (hg : ∀ (s : Shared) (H : Hp) (C : Addr) (cl : List (Str × Addr)) (fp : List Addr), PG (X.blk s H scope (compEnvC scope cl C X.env) fp) tg g)
    (hk : ∀ (s : Shared) (H : Hp) (C : Addr) (cl : List (Str × Addr)) (fp : List Addr), PE (X.blk s H scope (compEnvC scope cl C X.env) fp) kx tk)
    (he : ∀ (s : Shared) (H : Hp) (C : Addr) (cl : List (Str × Addr)) (fp : List Addr), PE (X.blk s H scope (compEnvC scope cl C X.env) fp) vx tv) (hs : ∀ x, foldedSetIterable iter X.env x = pure x)
    (h : tMDc X.w wi g tk tv (own.map (·.2)) σ H Q) (hR : ∀ D C s' m H', Inv X pins σ H' s' → Q (.ref D) H' → s'.heap.Ns C m → FpOk X pins H' C → compPost (model X.prog X.w) X.A X.xe use Qf (.ref D) C (.ok .next) s') :
    wpAny (model X.prog X.w) X.A (comprehension (.DictComp kx vx [⟨tg, iter, [], 0⟩] scope pos) scope X.env pos' newDict false (eval iter X.env) use) Qf X.xe s := by
  have hfree : ∀ y ∈ scope.names, y.2 = .free → ∃ c, X.env.cells.lookup y.1 = some c := fun y hy e =>
    (ok.free y hy e).elim (fun z => I.ok.has _ (.inl z)) fun z => I.ok.has _ (.inr z)
  refine wpAny_comprehension_free (use := use) rfl hs (closure_ok hfree) ok.kind (fun y hy e => by rw [ok.uniq y hy, e])
    (thn (hi.run pins s σ H _ I h) fun xv s1 hx => thn hx fun itv s2 h2 => ?_)
  obtain ⟨it, fp, tn, J, H2, rfl, I2, T, st2, f2, q⟩ := h2
  refine wpAny_newObj_type (newEnv_comp ?_)
  have Dn : H2 s2.heap.objs.size = none := I2.hok.fresh (Nat.le_refl _)
  obtain ⟨W, ⟨m0, w0⟩, turn⟩ := q _ Dn
  -- the dict, new
  have bigS : (s2.heap.objs.size == sysModules) = false := beq_eq_false_iff_ne.mpr (Ne.symm (Nat.ne_of_lt I2.big))
  have I3 : Inv X pins σ (upd H2 s2.heap.objs.size (MDO X.w s2.heap.objs.size [])) { s2 with heap := s2.heap.push { cls := .type "dict", data := .dict #[] } } :=
    I2.laid (t' := s2.toks) (fun b o e => Heap.get?_push_of_some _ e) (Nat.le_refl _) (mdo_ok (MDict.new s2.heap) bigS)
  have flt : ∀ b ∈ fp, b < s2.heap.objs.size := fun b hb => let ⟨o, e, _⟩ := T.obj _ _ st2 b hb; Heap.lt_size e
  generalize hD : s2.heap.objs.size = D at *
  generalize hH3 : upd H2 D (MDO X.w D []) = H3 at *
  have sz3 : ({ s2 with heap := s2.heap.push { cls := .type "dict", data := .dict #[] } } : Shared).heap.objs.size = D + 1 := by rw [← hD]; exact Heap.size_push _ _
  have f3 : ∀ b ∈ fp, FpOk X pins H3 b ∧ b < D + 1 := fun b hb => by
    have hlt := flt b hb
    refine ⟨⟨?_, (f2 b hb).2⟩, Nat.lt_succ_of_lt hlt⟩
    rw [← hH3, upd_ne (Nat.ne_of_lt hlt)]
    exact (f2 b hb).1
  have st3 : tn 0 (s2.heap.push { cls := .type "dict", data := .dict #[] }) := T.keep _ _ _ st2 fun b _ o e => Heap.get?_push_of_some _ e
  generalize hs3 : ({ s2 with heap := s2.heap.push { cls := .type "dict", data := .dict #[] } } : Shared) = s3 at I3 sz3
  have h3 : s3.heap = s2.heap.push { cls := .type "dict", data := .dict #[] } := by rw [← hs3]
  rw [← h3] at st3
  have I4 := block_start I3 ok hN (fun b hb => ⟨(f3 b hb).1, by rw [sz3]; exact (f3 b hb).2⟩)
  have pg := hg s3 H3 s3.heap.objs.size (cellsFrom (s3.heap.objs.size + 1) scope.names (cloFrom X.env.cells scope.names [])) fp
  have pk := hk s3 H3 s3.heap.objs.size (cellsFrom (s3.heap.objs.size + 1) scope.names (cloFrom X.env.cells scope.names [])) fp
  have pe := he s3 H3 s3.heap.objs.size (cellsFrom (s3.heap.objs.size + 1) scope.names (cloFrom X.env.cells scope.names [])) fp
  show codeAny _ _ (.compStart (.DictComp kx vx [⟨tg, iter, [], 0⟩] scope pos) 0 (.ref it) (.ref D) (compEnvC scope (cellsFrom (s3.heap.objs.size + 1) scope.names (cloFrom X.env.cells scope.names [])) s3.heap.objs.size X.env))
    (compPost (model X.prog X.w) X.A X.xe use _ (.ref D) s3.heap.objs.size) { s3 with heap := pushCells (s3.heap.push { cls := .type "dict", data := .dict #[] }) scope.names }
  generalize hce : compEnvC scope (cellsFrom (s3.heap.objs.size + 1) scope.names (cloFrom X.env.cells scope.names [])) s3.heap.objs.size X.env = ce at I4 pg pk pe ⊢
  have cL : ce.locals = s3.heap.objs.size := by rw [← hce]; rfl
  generalize hs4 : ({ s3 with heap := pushCells (s3.heap.push { cls := .type "dict", data := .dict #[] }) scope.names } : Shared) = s4 at I4 ⊢
  have st4 : tn 0 s4.heap := T.keep _ _ _ st3 fun b _ o e => by rw [← hs4]; exact pushCells_keeps _ _ _ _ (Heap.get?_push_of_some _ e)
  -- what the walk's own objects owe in the block
  have stat : ∀ {σ' : L2.St} {H' : Hp} {s' : Shared}, Inv (X.blk s3 H3 scope ce fp) [] σ' H' s' → (∀ b ∈ fp, H' b = none) → ∀ b ∈ fp, FpOk (X.blk s3 H3 scope ce fp) [] H' b := fun {σ' H' s'} I' hn b hb =>
    ⟨hn b hb, (I'.ok.exf b hb).1, I'.ok.exfs b hb, .inl hb, fun x c e => (I'.ok.exf b hb).2 x c e, fun p hp => (nomatch (show p ∈ ([] : List (Addr × Obj)) from hp))⟩
  refine codeAny_compStart_dict ?loop (T.self X.A 0 _ _ _ st4 ?loop)
  case loop =>
    refine compLoop_anyD (fun n s' => ∃ i H', Inv (X.blk s3 H3 scope ce fp) [] (wipe σ (own.map (·.2))) H' s' ∧ tn i s'.heap ∧ (∀ b ∈ fp, H' b = none) ∧ W i n H') ?_ m0 ⟨0, H3, I4, st4, fun b hb => (f3 b hb).1.1, w0⟩
    rintro n s5 ⟨i, H5, I5, st5, n5, w5⟩
    rcases turn i n H5 w5 with ⟨stop, qq⟩ | ⟨go, Nx, hNx, step⟩
    · refine thnF (T.done (X.blk s3 H3 scope ce fp) rfl rfl rfl hc i [] s5 _ H5 (fun _ _ => False) I5 (stat I5 n5) st5 stop) fun r s6 ⟨hr, I6⟩ => ?_
      subst hr
      have I7 : Inv X pins σ H5 s6 := I3.call' (ch := fp) I6.os I6.base I6.hok I6.bare fun b hb => ⟨(f3 b hb).1.2.2.2.1, (f3 b hb).1.2.1, (f3 b hb).1.2.2.2.2.1, (f3 b hb).1.2.2.2.2.2⟩
      have nC : H5 s3.heap.objs.size = none := by rw [← cL]; exact I6.free
      obtain ⟨m, hn, _⟩ := I6.loc
      exact hR D s3.heap.objs.size s6 m H5 I7 qq (by rw [← cL]; exact hn) (I3.fpOk (Nat.le_refl _) nC)
    · refine thnF (T.item (X.blk s3 H3 scope ce fp) rfl rfl rfl hc i [] s5 _ H5 (fun _ _ => False) I5 (stat I5 n5) st5 go) fun r s6 ⟨u, hr, h6⟩ => ?_
      subst hr
      refine thnF h6 fun _ s7 ⟨x, H7, I7, r7, y7, st7, n7⟩ => ?_
      have I7' := I7.pinned (stat I7 n7) (T.obj _ _ st7)
      refine thnF (pg.run _ s7 _ H7 x u _ I7' r7 (step x H7 y7)) fun _ s8 ⟨σ8, H8, I8, hw8, q8⟩ => ?_
      refine wpAny_pure ?_
      rw [if_pos rfl]
      refine thnF (pk.run _ s8 σ8 H8 _ I8 q8) fun z s10 ⟨yk, H10, I10, r10, q10⟩ => ?_
      refine thnF (pe.run _ s10 σ8 H10 _ I10 q10) fun z2 s11 ⟨yv, H11, I11, r11, kvs, xs, k, DM, hkv, few, nx⟩ => ?_
      refine md_dset (X := X.blk s3 H3 scope ce fp) (by show X.A.units + 8 < cLine; omega) I11 DM hkv r10 r11 few fun s12 xs' hl I12 D12 => ?_
      -- the turn's end
      obtain ⟨m', hm, w'⟩ := hNx _ (nx xs' hl D12)
      have pin' : ∀ b ∈ fp, ∀ o, s7.heap.get? b = some o → s12.heap.get? b = some o ∧ _ := fun b hb o e =>
        let z := I12.pin (b, o) (List.mem_append_right _ (List.mem_append_right _ (mem_pinsAt hb e)))
        ⟨z.1, z.2.1⟩
      refine ⟨m', hm, i + 1, _, (I12.unpinned (pins := [])).weak (by rw [← hw8, wipe_length]) (fun j v e => ?_), T.keep _ _ _ st7 fun b hb o e => (pin' b hb o e).1, fun b hb => ?_, w'⟩
      · rw [← hw8] at e
        exact (wipe_some e).1
      · obtain ⟨o, e, _⟩ := T.obj _ _ st7 b hb
        exact (pin' b hb o e).2
theorem pe_mdc {kx vx tg iter : Expr} {scope : Scope} {own : List (Str × Nat)} {pos : Pos} {wi : TI} {g : TG} {tk tv : TE} (hc : X.calm = true) (hu : X.A.units + 9 < cLine) (hN : X.N.Nodup) (hi : PI X tg iter wi) (ok : BlkOk X.N X.env.scope scope own)
    (hg : ∀ (s : Shared) (H : Hp) (C : Addr) (cl : List (Str × Addr)) (fp : List Addr), PG (X.blk s H scope (compEnvC scope cl C X.env) fp) tg g)
    (hk : ∀ (s : Shared) (H : Hp) (C : Addr) (cl : List (Str × Addr)) (fp : List Addr), PE (X.blk s H scope (compEnvC scope cl C X.env) fp) kx tk)
    (he : ∀ (s : Shared) (H : Hp) (C : Addr) (cl : List (Str × Addr)) (fp : List Addr), PE (X.blk s H scope (compEnvC scope cl C X.env) fp) vx tv) (hs : ∀ x, foldedSetIterable iter X.env x = pure x := by intro _; rfl) :
    PE X (.DictComp kx vx [⟨tg, iter, [], 0⟩] scope pos) (tMDc X.w wi g tk tv (own.map (·.2))) := by
  refine ⟨fun pins s σ H Q I h => ?_⟩
  rw [arm_eval_DictComp]
  refine mdc_core hc hu hN I hi ok hg hk he hs h fun D C s' m H' I' q hn ⟨g0, g1, g2, g3, g4, g5⟩ => ⟨m, hn, fun h'' sb => ?_⟩
  exact ⟨.ref D, H', I'.turned (t' := s'.toks) (fun b o hb e => (sb.2 b hb).trans e) g0 g1 g3 g4 g5, rfl, q⟩
/-- name = {..} -/
theorem ps_setMDc {i : Nat} {y : Str} {py spos : Pos} {kx vx tg iter : Expr} {scope : Scope} {own : List (Str × Nat)} {pos : Pos} {wi : TI} {g : TG} {tk tv : TE} (hc : X.calm = true) (hu : X.A.units + 9 < cLine) (hN : X.N.Nodup) (hy : X.N[i]? = some y) (hyl : X.env.scope.names.lookup y = some .local)
    (hsw : swapsWith (.DictComp kx vx [⟨tg, iter, [], 0⟩] scope pos) (some (.Name y py)) spos.line X.env = pure true) (hi : PI X tg iter wi) (ok : BlkOk X.N X.env.scope scope own)
    (hg : ∀ (s : Shared) (H : Hp) (C : Addr) (cl : List (Str × Addr)) (fp : List Addr), PG (X.blk s H scope (compEnvC scope cl C X.env) fp) tg g)
    (hk : ∀ (s : Shared) (H : Hp) (C : Addr) (cl : List (Str × Addr)) (fp : List Addr), PE (X.blk s H scope (compEnvC scope cl C X.env) fp) kx tk)
    (he : ∀ (s : Shared) (H : Hp) (C : Addr) (cl : List (Str × Addr)) (fp : List Addr), PE (X.blk s H scope (compEnvC scope cl C X.env) fp) vx tv) (hs : ∀ x, foldedSetIterable iter X.env x = pure x := by intro _; rfl) :
    PS X (.Assign [.Name y py] (.DictComp kx vx [⟨tg, iter, [], 0⟩] scope pos) spos) (tAsg (tMDc X.w wi g tk tv (own.map (·.2))) (gName i)) := by
  refine ⟨fun pins s σ H D I h => ?_⟩
  rw [exec_Assign_Name_used _ _ _ _ hsw]
  refine wpAny_bind (wpAny_standAt (wpAny_bind ?_))
  show wpAny _ X.A (do let _ ← comprehension (.DictComp kx vx [⟨tg, iter, [], 0⟩] scope pos) scope X.env (firstIterPos [⟨tg, iter, [], 0⟩] pos) newDict false (eval iter X.env) (some (assign (.Name y py) X.env))) _ _ s
  refine wpAny_bind (thn (mdc_core (Q := fun x H1 => gName i x σ H1 D.nx) (Qf := fun _ s' => SP X pins D .next s') hc hu hN I hi ok hg hk he hs h fun L C s' m H' I' q hn ⟨g0, g1, g2, g3, g4, g5⟩ => ?_) fun _ s' hq => wpAny_pure (wpAny_pure hq))
  show wpAny _ _ (assign (.Name y py) X.env (.ref L)) _ _ _
  refine wpAny_assign_Name (store_ok2 (v := V.ref L) I' hN hy (.inl hyl) rfl (fun s2 I2 ⟨a, sb, ha⟩ => ?_) (.inr hyl))
  have haC : C ≠ a := ha.elim (fun z => by rw [z]; exact g1) fun z e => g4 y a z e.symm
  exact ⟨m, hn.sameBut sb haC, fun h3 sb3 => ⟨_, H', I2.turned (t' := s2.toks) (fun b o hb e => (sb3.2 b hb).trans e) g0 g1 g3 g4 g5, q⟩⟩
theorem sw_dict {kx vx : Expr} {gs : List Comprehension} {scope : Scope} {pos py : Pos} {y : Str} {l : Nat} {env : Env} (hk : env.scope.kind = .function) (hy : env.scope.names.lookup y = some .local) (hl : (py.line == pos.line) = true)
    (ha : (scope.names.any fun (n, k) => n == y && (k == .local || k == .cell)) = false) : swapsWith (.DictComp kx vx gs scope pos) (some (.Name y py)) l env = pure true := by
  have ky : env.kindOf y = some .local := hy
  have hb : env.blockKind = .function := by unfold Env.blockKind; rw [hk]; rfl
  unfold swapsWith
  simp only [hb, ky, ha, Expr.pos, hl]
  rfl
end
end Wd
set_option linter.all false
namespace Wd
/-! ### rows in lists: the automaton that counts them -/
section
variable {A : Type} [DecidableEq A]
/-- the greatest n, at most so many, such that the first n of the row end the list -/
def mtF (row es : List A) : Nat → Nat
  | 0 => 0
  | n + 1 => if row.take (n + 1) = es.drop (es.length - (n + 1)) then n + 1 else mtF row es n
def mtc (row es : List A) : Nat := mtF row es (min row.length es.length)
theorem take_suf {row es : List A} {n : Nat} (h : n ≤ row.length) (h2 : n ≤ es.length) : row.take n = es.drop (es.length - n) ↔ row.take n <:+ es := by
  constructor
  · intro e; rw [e]; exact List.drop_suffix _ _
  · intro s
    have e := List.suffix_iff_eq_drop.mp s
    rw [List.length_take, Nat.min_eq_left h] at e
    exact e
theorem mtF_le (row es : List A) : ∀ n, mtF row es n ≤ n
  | 0 => Nat.le_refl _
  | n + 1 => by
    unfold mtF
    split
    · exact Nat.le_refl _
    · exact Nat.le_succ_of_le (mtF_le row es n)
theorem mtF_fit (row es : List A) : ∀ n, n ≤ row.length → n ≤ es.length → row.take (mtF row es n) <:+ es
  | 0, _, _ => by show row.take 0 <:+ es; rw [List.take_zero]; exact List.nil_suffix
  | n + 1, h, h2 => by
    unfold mtF
    split
    · rename_i e; exact (take_suf h h2).mp e
    · exact mtF_fit row es n (by omega) (by omega)
theorem mtF_max (row es : List A) : ∀ n m, n ≤ row.length → n ≤ es.length → m ≤ n → row.take m <:+ es → m ≤ mtF row es n
  | 0, m, _, _, hm, _ => by omega
  | n + 1, m, h, h2, hm, s => by
    unfold mtF
    split
    · exact hm
    · rename_i e
      refine mtF_max row es n m (by omega) (by omega) ?_ s
      rcases Nat.lt_or_ge m (n + 1) with z | z
      · omega
      · exact absurd ((take_suf h h2).mpr (by have : m = n + 1 := by omega
                                              rw [← this]; exact s)) e
theorem mtc_le (row es : List A) : mtc row es ≤ row.length := Nat.le_trans (mtF_le _ _ _) (Nat.min_le_left _ _)
theorem mtc_fit (row es : List A) : row.take (mtc row es) <:+ es := mtF_fit row es _ (Nat.min_le_left _ _) (Nat.min_le_right _ _)
theorem mtc_max {row es : List A} {m : Nat} (h : m ≤ row.length) (s : row.take m <:+ es) : m ≤ mtc row es := by
  have := s.length_le
  rw [List.length_take, Nat.min_eq_left h] at this
  exact mtF_max row es _ m (Nat.min_le_left _ _) (Nat.min_le_right _ _) (by omega) s
theorem suf_snoc {l es : List A} {e : A} (h : l <:+ es ++ [e]) : l = [] ∨ ∃ t, l = t ++ [e] ∧ t <:+ es := by
  obtain ⟨p, hp⟩ := h
  rcases List.eq_nil_or_concat l with z | ⟨t, x, z⟩
  · exact .inl z
  · rw [List.concat_eq_append] at z
    subst z
    rw [← List.append_assoc] at hp
    have h1 := List.append_inj' hp rfl
    have hx : x = e := by have := h1.2; injection this
    exact .inr ⟨t, by rw [hx], ⟨p, h1.1⟩⟩
theorem suf_both {l es : List A} {e : A} (h : l <:+ es) : l ++ [e] <:+ es ++ [e] := by
  obtain ⟨p, hp⟩ := h
  exact ⟨p, by rw [← List.append_assoc, hp]⟩
/-- one entry more -/
theorem mtc_step (row es : List A) (e : A) : mtc row (row.take (mtc row es) ++ [e]) = mtc row (es ++ [e]) := by
  apply Nat.le_antisymm
  · refine mtc_max (mtc_le _ _) ?_
    have h := mtc_fit row (row.take (mtc row es) ++ [e])
    rcases suf_snoc h with z | ⟨t, z, s⟩
    · rw [z]; exact List.nil_suffix
    · rw [z]; exact suf_both (s.trans (mtc_fit row es))
  · refine mtc_max (mtc_le _ _) ?_
    have h := mtc_fit row (es ++ [e])
    rcases suf_snoc h with z | ⟨t, z, s⟩
    · rw [z]; exact List.nil_suffix
    · rw [z]
      apply suf_both
      -- t is a beginning of the row that ends es
      have hl := mtc_le row (es ++ [e])
      generalize mtc row (es ++ [e]) = m at z hl
      have lz := congrArg List.length z
      rw [List.length_take, Nat.min_eq_left hl, List.length_append, List.length_singleton] at lz
      have ht : t = row.take (m - 1) := by
        have e1 : (t ++ [e]).take (m - 1) = t := by rw [List.take_append_of_le_length (by omega), List.take_of_length_le (by omega)]
        rw [← e1, ← z, List.take_take, Nat.min_eq_left (by omega)]
      have hm : m - 1 ≤ mtc row es := mtc_max (by omega) (by rw [← ht]; exact s)
      have e2 : t = row.take (m - 1) := ht
      refine List.suffix_of_suffix_length_le s (mtc_fit row es) ?_
      rw [List.length_take, Nat.min_eq_left (mtc_le _ _)]; omega
def nxt (row : List A) (j : Nat) (e : A) : Nat := mtc row (row.take j ++ [e])
def runA (row : List A) : Nat → List A → Nat
  | q, [] => q
  | q, e :: es => runA row (nxt row q e) es
def visA (row : List A) : Nat → List A → Nat
  | _, [] => 0
  | q, e :: es => (if nxt row q e = row.length then 1 else 0) + visA row (nxt row q e) es
theorem runA_app (row : List A) : ∀ (q : Nat) (as bs : List A), runA row q (as ++ bs) = runA row (runA row q as) bs
  | _, [], _ => rfl
  | q, a :: as, bs => runA_app row (nxt row q a) as bs
theorem visA_app (row : List A) : ∀ (q : Nat) (as bs : List A), visA row q (as ++ bs) = visA row q as + visA row (runA row q as) bs
  | _, [], _ => (Nat.zero_add _).symm
  | q, a :: as, bs => by
    show _ + visA row (nxt row q a) (as ++ bs) = (_ + visA row (nxt row q a) as) + _
    rw [visA_app row (nxt row q a) as bs, Nat.add_assoc]; rfl
theorem snoc_ind {p : List A → Prop} (h0 : p []) (hs : ∀ l e, p l → p (l ++ [e])) (l : List A) : p l := by
  have : ∀ n (l : List A), l.length = n → p l := by
    intro n
    induction n with
    | zero => intro l h; rw [List.length_eq_zero_iff.mp h]; exact h0
    | succ n ih =>
      intro l h
      rcases List.eq_nil_or_concat l with z | ⟨t, x, z⟩
      · rw [z] at h; cases h
      · rw [List.concat_eq_append] at z
        rw [z] at h ⊢
        rw [List.length_append, List.length_singleton] at h
        exact hs t x (ih t (by omega))
  exact this _ l rfl
theorem mtc_nil (row : List A) : mtc row [] = 0 := by unfold mtc; rw [List.length_nil, Nat.min_zero]; rfl
theorem runA_mtc (row es : List A) : runA row 0 es = mtc row es := by
  refine snoc_ind (p := fun es => runA row 0 es = mtc row es) ?_ ?_ es
  · rw [mtc_nil]; rfl
  · intro l e ih
    rw [runA_app, ih]
    show nxt row (mtc row l) e = _
    exact mtc_step row l e
/-- at how many indexes the row stands -/
def stands (row es : List A) : List Nat := (List.range (es.length + 1 - row.length)).filter fun k => decide ((es.drop k).take row.length = row)
theorem visA_stands {row : List A} (hr : 1 ≤ row.length) (es : List A) : visA row 0 es = (stands row es).length := by
  refine snoc_ind (p := fun es => visA row 0 es = (stands row es).length) ?_ ?_ es
  · unfold stands
    rw [List.length_nil, show 0 + 1 - row.length = 0 by omega]; rfl
  · intro l e ih
    rw [visA_app, ih, runA_mtc]
    show _ + ((if nxt row (mtc row l) e = row.length then 1 else 0) + 0) = _
    rw [Nat.add_zero, show nxt row (mtc row l) e = mtc row (l ++ [e]) from mtc_step row l e]
    unfold stands
    rw [List.length_append, List.length_singleton]
    have old : ∀ k, k < l.length + 1 - row.length → ((l ++ [e]).drop k).take row.length = (l.drop k).take row.length := fun k hk => by
      rw [List.drop_append_of_le_length (by omega), List.take_append_of_le_length (by rw [List.length_drop]; omega)]
    have same : ((List.range (l.length + 1 - row.length)).filter fun k => decide (((l ++ [e]).drop k).take row.length = row)) = (List.range (l.length + 1 - row.length)).filter fun k => decide ((l.drop k).take row.length = row) :=
      List.filter_congr fun k hk => by rw [old k (List.mem_range.mp hk)]
    rcases Nat.lt_or_ge (l.length + 1) row.length with z | z
    · have h1 : mtc row (l ++ [e]) ≠ row.length := fun q => by
        have := (mtc_fit row (l ++ [e])).length_le
        rw [q, List.length_take, Nat.min_self, List.length_append, List.length_singleton] at this
        omega
      rw [if_neg h1, show l.length + 1 + 1 - row.length = l.length + 1 - row.length by omega, same]; rfl
    · rw [show l.length + 1 + 1 - row.length = (l.length + 1 - row.length) + 1 by omega, List.range_succ, List.filter_append, List.length_append, same]
      congr 1
      have hiff : (((l ++ [e]).drop (l.length + 1 - row.length)).take row.length = row) ↔ mtc row (l ++ [e]) = row.length := by
        have ll : (l ++ [e]).length = l.length + 1 := by rw [List.length_append, List.length_singleton]
        rw [List.take_of_length_le (by rw [List.length_drop, ll]; omega)]
        constructor
        · intro q
          apply Nat.le_antisymm (mtc_le _ _)
          refine mtc_max (Nat.le_refl _) ?_
          rw [List.take_length]
          conv => lhs; rw [← q]
          exact List.drop_suffix _ _
        · intro q
          have s := mtc_fit row (l ++ [e])
          rw [q, List.take_length] at s
          have := List.suffix_iff_eq_drop.mp s
          rw [ll] at this
          exact this.symm
      by_cases q : mtc row (l ++ [e]) = row.length
      · rw [if_pos q, List.filter_cons, decide_eq_true (hiff.mpr q)]; rfl
      · rw [if_neg q, List.filter_cons, decide_eq_false (fun z => q (hiff.mp z))]; rfl
end
end Wd
set_option Elab.async false
set_option linter.all false
set_option maxRecDepth 100000
set_option maxHeartbeats 4000000
set_option exponentiation.threshold 100000
namespace Wd
open PySem L2
theorem cut_lo (xs : List V) (k : Nat) : cutV xs (some ((k : Nat) : Int)) none = xs.drop k := by
  unfold cutV
  rw [HT.sIx_nat, HT.sIx_none]
  rcases Nat.le_total k xs.length with h | h
  · rw [Nat.min_eq_left h, List.take_of_length_le (by rw [List.length_drop]; exact Nat.le_refl _)]
  · rw [Nat.min_eq_right h, Nat.sub_self, List.take_zero, List.drop_of_length_le h]
theorem cut_hi (xs : List V) (k : Nat) : cutV xs none (some ((k : Nat) : Int)) = xs.take k := by
  have := cut_nat xs 0 k
  rw [Nat.sub_zero, List.drop_zero] at this
  exact this
def LAt0 (H : Hp) (a : Addr) (es : List En) : Prop := ∃ xs, H a = some (.lst xs) ∧ Paired (EAt H) xs es
theorem LAt0.mono {H H' : Hp} (s : Same H H') {a : Addr} {es : List En} (h : LAt0 H a es) : LAt0 H' a es := let ⟨xs, h1, h2⟩ := h; ⟨xs, s _ _ h1, Paired.mono (fun _ _ => EAt.mono s) h2⟩
theorem LAt0.lat {K : PySem.W.Frag} {H : Hp} {a : Addr} {es : List En} (h : LAt0 H a es) : LAt K H (.ref a) es := let ⟨xs, h1, h2⟩ := h; ⟨a, xs, rfl, h1, h2⟩
theorem LAt.lat0 {K : PySem.W.Frag} {H : Hp} {a : Addr} {es : List En} (h : LAt K H (.ref a) es) : LAt0 H a es := let ⟨b, xs, e, h1, h2⟩ := h; ⟨xs, by cases e; exact h1, h2⟩
section
variable {P : Program} {w : World} {K : PySem.W.Frag} {mg : Str → Option Value} {base : Heap} {f C CW CM : Addr} {fd : FuncData} {H : Hp}
def spMatched : Sp := fun vs H Q _ => ∃ (a b : Addr) (es gs : List En), vs = [.ref a, .ref b] ∧ LAt0 H a es ∧ LAt0 H b gs ∧ es.length ≤ 1000000 ∧ gs.length ≤ 1000000 ∧ ∀ H', Same H H' → Q (.int ((mtc es gs : Nat) : Int)) H'
theorem sc_Matched : FnScope ["row", "seen", "many"] ["row", "seen"] (defScope sMatched) := ⟨rfl, rfl, rfl, by decide +kernel, rfl, by decide +kernel, by decide +kernel⟩
theorem ok_Matched (D : DefF K mg "matched" sMatched ["row", "seen"] f fd) (B : Blt mg) : FnOk P w K mg base CX0 1 f fd ["row", "seen"] spMatched := by
  refine D.fn.ok sc_Matched (fun vs H Q E h => ?_) (fun cdv A outer s H vs Q E hr h => ?_)
  · obtain ⟨a, b, es, gs, rfl, _⟩ := h; rfl
  · obtain ⟨a, b, es, gs, rfl, ⟨xs, ha, px⟩, ⟨ys, hb, py⟩, h1, h2, k⟩ := h
    refine ⟨_, (pss_cons (ps_for PassesOwn.never rfl (pi_range3 rfl B.range (pa_cons (pe_callB (call_min2 rfl) (by rfl) B.min PyProof.Rows.boot_min (pa_cons (pe_callB call_len_seq (by rfl) B.len PySem.boot_len (pa_cons (pv 0) pa_nil)) (pa_cons (pe_callB call_len_seq (by rfl) B.len PySem.boot_len (pa_cons (pv 1) pa_nil)) pa_nil))) (pa_cons pe_int (pa_cons (pe_un un_neg pe_int) pa_nil)))) (pg_name (i := 2) sc_Matched.nd rfl (.inl rfl)) (pss_one (ps_if (pt_cmpR (op_eqD hr.units) (pe_slice sl_list (pv 0) po_none (po_some (pv 2))) (pe_slice sl_list (pv 1) (po_some (pe_op op_sub (pe_callB call_len_seq (by rfl) B.len PySem.boot_len (pa_cons (pv 1) pa_nil)) (pv 2))) po_none) (nomark _)) (pss_one (ps_ret (pv 2))) pss_nil))) (pss_one (ps_ret pe_int))), ?_⟩
    have lx := Paired.len px
    have ly := Paired.len py
    obtain ⟨M, hM⟩ : ∃ M, M = min es.length gs.length := ⟨_, rfl⟩
    have p62 : (2 : Int) ^ 62 = 4611686018427387904 := by decide
    refine ⟨_, rfl, a, xs, rfl, .inl (SqL.of ha), _, rfl, b, ys, rfl, .inl (SqL.of hb), _, _, rfl, ?_⟩
    rw [show (if ((ys.length : Nat) : Int) < ((xs.length : Nat) : Int) then ((ys.length : Nat) : Int) else ((xs.length : Nat) : Int)) = ((M : Nat) : Int) by split <;> omega]
    refine ⟨_, rfl, _, _, _, M, rfl, ?_, ?_⟩
    · have := RgC.neg (i := ((M : Nat) : Int)) (j := 0) (by omega) (by omega) (by omega) (by omega)
      rw [show (((M : Nat) : Int) - 0).toNat = M by omega] at this
      exact this
    refine for_rangeC (fun i σ H' => ∃ o2, σ = [some (.ref a), some (.ref b), o2] ∧ Same H H' ∧ mtF es gs M = mtF es gs (M - i)) ⟨none, rfl, Same.refl H, rfl⟩ ?_ ?_
    · rintro i σ H1 hi ⟨o2, rfl, s1, hm⟩
      obtain ⟨n, hn⟩ : ∃ n, M - i = n + 1 := ⟨M - i - 1, by omega⟩
      have ei : ((M : Nat) : Int) + (i : Nat) * (-1) = ((n + 1 : Nat) : Int) := by omega
      have a1 := s1 _ _ ha
      have b1 := s1 _ _ hb
      refine ⟨_, rfl, _, rfl, _, rfl, a, xs, rfl, SqL.of a1, fun t1 ht1 => ?_⟩
      have c1 : cutV xs none (some (((M : Nat) : Int) + (i : Nat) * (-1))) = xs.take (n + 1) := by rw [ei]; exact cut_hi xs _
      rw [c1]
      have v1 := Same.new (o := .lst (xs.take (n + 1))) ht1
      refine ⟨_, rfl, _, rfl, b, ys, rfl, .inl (SqL.of (v1 _ _ b1)), _, rfl, _, _, rfl, rfl, _, rfl, b, ys, rfl, SqL.of (v1 _ _ b1), fun t2 ht2 => ?_⟩
      have c2 : cutV ys (some (((ys.length : Nat) : Int) - (((M : Nat) : Int) + (i : Nat) * (-1)))) none = ys.drop (ys.length - (n + 1)) := by
        rw [show ((ys.length : Nat) : Int) - (((M : Nat) : Int) + (i : Nat) * (-1)) = ((ys.length - (n + 1) : Nat) : Int) by omega]; exact cut_lo ys _
      rw [c2]
      have v2 := Same.new (o := .lst (ys.drop (ys.length - (n + 1)))) ht2
      have sA := s1.trans (v1.trans v2)
      have L1 : LAt K _ (.ref t1) (es.take (n + 1)) := ⟨t1, _, rfl, v2 _ _ upd_same, Paired.take _ (Paired.mono (fun _ _ => EAt.mono sA) px)⟩
      have L2 : LAt K _ (.ref t2) (gs.drop (gs.length - (n + 1))) := ⟨t2, _, rfl, upd_same, by rw [← ly]; exact Paired.drop _ (Paired.mono (fun _ _ => EAt.mono sA) py)⟩
      refine ⟨_, _, L1.dp, L2.dp, enDs_shaped L1.oks, enDs_shaped L2.oks, _, rfl, ?_⟩
      rw [enDs_eqv]
      have step : mtF es gs (n + 1) = if es.take (n + 1) = gs.drop (gs.length - (n + 1)) then n + 1 else mtF es gs n := rfl
      refine ite2 (fun hq => ?_) (fun hq => ?_)
      · have q := of_decide_eq_true hq
        rw [if_pos q] at step
        refine ⟨_, rfl, ?_⟩
        have := k _ sA
        unfold mtc at this
        rw [← hM, hm, hn, step] at this
        rw [ei]; exact this
      · have q : ¬ es.take (n + 1) = gs.drop (gs.length - (n + 1)) := fun z => hq (decide_eq_true z)
        rw [if_neg q] at step
        exact ⟨_, rfl, sA, by rw [hm, hn, step]; congr 1; omega⟩
    · rintro σ H1 ⟨o2, rfl, s1, hm⟩
      rw [Nat.sub_self] at hm
      have := k _ s1
      unfold mtc at this
      rw [← hM, hm] at this
      exact this
end
end Wd
set_option Elab.async false
set_option linter.all false
set_option maxRecDepth 100000
set_option maxHeartbeats 4000000
set_option exponentiation.threshold 100000
namespace Wd
open PySem L2
/-- over a list that stays -/
theorem mdc_list {K : PySem.W.Frag} {w : World} {a : Addr} {xs : List V} {g : TG} {tk tv : TE} {vs : List Nat} {σ : L2.St} {H1 : Hp} {D : Addr} {Qd : Hp → Prop} (Pv : Nat → Hp → Prop) (h0 : Pv 0 (upd H1 D (MDO w D []))) (hl : ∀ i H, i ≤ xs.length → Pv i H → SqL K H a xs)
    (hs : ∀ i x H, xs[i]? = some x → Pv i H → g x (wipe σ vs) H fun σ2 H2 => wipe σ2 vs = wipe σ vs ∧
      tk σ2 H2 fun y H4 => tv σ2 H4 fun z H5 => ∃ kvs ys k, DAtM w H5 D kvs ys ∧ KV' H5 k y ∧ ys.length < 1000 ∧ ∀ xs', xs'.length ≤ ys.length + 1 → DAtM w (upd H5 D (MDO w D xs')) D (putK kvs k z) xs' → Pv (i + 1) (upd H5 D (MDO w D xs'))) (hd : ∀ H, Pv xs.length H → Qd H) :
    ∃ W : Nat → Nat → Hp → Prop, (∃ m, W 0 m (upd H1 D (MDO w D []))) ∧ ∀ i m H, W i m H →
      ((Itl K a).stop i H ∧ Qd H) ∨ ((Itl K a).go i H ∧ ∃ Nx : Hp → Prop, (∀ H', Nx H' → ∃ m', m' < m ∧ W (i + 1) m' H') ∧ ∀ x H', (Itl K a).yld i H x H' → g x (wipe σ vs) H' fun σ2 H2 => wipe σ2 vs = wipe σ vs ∧
        tk σ2 H2 fun y H4 => tv σ2 H4 fun z H5 => ∃ kvs ys k, DAtM w H5 D kvs ys ∧ KV' H5 k y ∧ ys.length < 1000 ∧ ∀ xs', xs'.length ≤ ys.length + 1 → DAtM w (upd H5 D (MDO w D xs')) D (putK kvs k z) xs' → Nx (upd H5 D (MDO w D xs'))) := by
  refine ⟨fun i m H => m = xs.length - i ∧ i ≤ xs.length ∧ Pv i H, ⟨xs.length, rfl, Nat.zero_le _, h0⟩, ?_⟩
  rintro i m H ⟨rfl, hi, p⟩
  have q := hl i H hi p
  rcases Nat.lt_or_ge i xs.length with hlt | hge
  · refine .inr ⟨⟨xs, xs[i], q, List.getElem?_eq_getElem hlt⟩, Pv (i + 1), fun H' p' => ⟨xs.length - (i + 1), by omega, rfl, hlt, p'⟩, ?_⟩
    rintro x H' ⟨rfl, y⟩
    exact hs i x _ (y xs q) p
  · have e : i = xs.length := by omega
    subst e
    exact .inl ⟨⟨xs, q, Nat.le_refl _⟩, hd H p⟩
/-! ### the automaton of a row -/
structure WkC (K : PySem.W.Frag) (mg : Str → Option Value) (CK f : Addr) (fd : FuncData) : Prop where
  cl : Cls K CK
  nMoves : NoAttr K CK "moves"
  nCounted : NoAttr K CK "counted"
  nKnown : NoAttr K CK "known"
  fn : Fun K "__init__" "Walk.__init__" sWalkInit f fd
  b : Binds K fd ["self", "moves", "counted"] []
  mkr : Mk K CK f
  gl : mg "Walk" = some (.ref CK)
def wkf (m c k : V) : List (Str × V) := [("moves", m), ("counted", c), ("known", k)]
theorem wkf_put {m c k : V} : putF "known" k (putF "counted" c (putF "moves" m [])) = wkf m c k := by kernel_rfl
theorem wkf_moves {m c k : V} : (wkf m c k).lookup ("moves" : Str) = some m := by kernel_rfl
theorem wkf_counted {m c k : V} : (wkf m c k).lookup ("counted" : Str) = some c := by kernel_rfl
theorem wkf_no1 {m c k : V} : (wkf m c k).lookup ("next_state" : Str) = none := by kernel_rfl
theorem wkf_no2 {m c k : V} : (wkf m c k).lookup ("once" : Str) = none := by kernel_rfl
theorem wkf_no3 {m c k : V} : (wkf m c k).lookup ("passages" : Str) = none := by kernel_rfl
theorem wkf_no4 {m c k : V} : (wkf m c k).lookup ("go_from" : Str) = none := by kernel_rfl
/-- what the moves of a state tell -/
def Mv (row : List En) (j : Nat) (kvs : List (NestedKey × V)) : Prop := ∀ (e : En) (z : V), (valV kvs (nk e)).getD ((valV kvs .none).getD z) = .int ((nxt row j e : Nat) : Int)
theorem DAtM.mono {w : World} {H H' : Hp} (s : Same H H') {d : Addr} {kvs : List (NestedKey × V)} {xs : List Rw} (D : DAtM w H d kvs xs) : DAtM w H' d kvs xs := ⟨s _ _ D.at_, D.rel, fun r hr => (D.keys r hr).mono fun _ _ h => s _ _ h, D.few⟩
def MvAt (w : World) (H : Hp) (d : V) (row : List En) (j : Nat) : Prop := ∃ a kvs xs, d = .ref a ∧ DAtM w H a kvs xs ∧ Mv row j kvs
theorem MvAt.mono {w : World} {H H' : Hp} (s : Same H H') {d : V} {row : List En} {j : Nat} (h : MvAt w H d row j) : MvAt w H' d row j := let ⟨a, kvs, xs, e, D, m⟩ := h; ⟨a, kvs, xs, e, D.mono s, m⟩
structure WkAt (w : World) (CK : Addr) (H : Hp) (v : V) (row : List En) : Prop where
  obj : ∃ a dx ml kd ms, v = .ref a ∧ H a = some (.ins CK dx (wkf (.ref ml) (.int ((row.length : Nat) : Int)) (.ref kd))) ∧ H ml = some (.lst ms) ∧ ms.length = row.length + 1 ∧ ∀ (j : Nat) d, ms[j]? = some d → MvAt w H d row j
theorem WkAt.mono {w : World} {CK : Addr} {H H' : Hp} (s : Same H H') {v : V} {row : List En} (h : WkAt w CK H v row) : WkAt w CK H' v row :=
  let ⟨a, dx, ml, kd, ms, h1, h2, h3, h4, h5⟩ := h.obj; ⟨⟨a, dx, ml, kd, ms, h1, s _ _ h2, s _ _ h3, h4, fun j d hj => (h5 j d hj).mono s⟩⟩
section
variable {P : Program} {w : World} {K : PySem.W.Frag} {mg : Str → Option Value} {base : Heap} {f C CW CM CK : Addr} {fd : FuncData} {H : Hp}
def spWalkInit (CK : Addr) : Sp := fun vs H Q _ => ∃ (p dx : Addr) (m c : V), vs = [.ref p, m, c] ∧ H p = some (.ins CK dx []) ∧ ∀ kd, H kd = none → Q .non (upd (upd H kd (.dK [])) p (.ins CK dx (wkf m c (.ref kd))))
theorem sc_WalkInit : FnScope ["self", "moves", "counted"] ["self", "moves", "counted"] (defScope sWalkInit) := ⟨rfl, rfl, rfl, by decide +kernel, rfl, by decide +kernel, by decide +kernel⟩
theorem ok_WalkInit (TK : WkC K mg CK f fd) : FnOk P w K mg base CX0 1 f fd ["self", "moves", "counted"] (spWalkInit CK) := by
  refine TK.fn.ok sc_WalkInit (fun vs H Q E h => ?_) (fun cdv A outer s H vs Q E hr h => ?_)
  · obtain ⟨p, dx, m, c, rfl, _⟩ := h; rfl
  · obtain ⟨p, dx, m, c, rfl, hp, k⟩ := h
    refine ⟨_, (pss_cons (ps_fld (pv 0) (pv 1) rfl) (pss_cons (ps_fld (pv 0) (pv 2) rfl) (pss_one (ps_fld (pv 0) pe_dnewK rfl)))), ?_⟩
    refine ⟨_, rfl, _, rfl, p, CK, dx, _, rfl, hp, TK.cl, TK.nMoves, (by show 0 < 1000; decide), ?_⟩
    refine ⟨_, rfl, _, rfl, p, CK, dx, _, rfl, upd_same, TK.cl, TK.nCounted, (by show 1 < 1000; decide), ?_⟩
    rw [upd_upd]
    intro kd hkd
    have hp3 : (upd (upd H p (.ins CK dx (putF "counted" c (putF "moves" m [])))) kd (.dK [])) p = some (.ins CK dx (putF "counted" c (putF "moves" m []))) := by
      rw [upd_ne (fun z => by rw [← z, upd_same] at hkd; cases hkd)]; exact upd_same
    refine ⟨_, rfl, p, CK, dx, _, rfl, hp3, TK.cl, TK.nKnown, (by show 2 < 1000; decide), ?_⟩
    · have hk : H kd = none := by
        by_cases z : kd = p
        · rw [z, upd_same] at hkd; cases hkd
        · rw [upd_ne z] at hkd; exact hkd
      have hne : kd ≠ p := fun z => by rw [z, hp] at hk; cases hk
      have := k kd hk
      rw [wkf_put]
      rw [show upd (upd (upd H p (.ins CK dx (putF "counted" c (putF "moves" m [])))) kd (.dK [])) p (.ins CK dx (wkf m c (.ref kd))) = upd (upd H kd (.dK [])) p (.ins CK dx (wkf m c (.ref kd))) by
        funext b
        unfold upd
        by_cases h1 : b = p
        · simp only [if_pos h1]
        · simp only [if_neg h1]]
      exact this
def spNextState (w : World) (CK : Addr) : Sp := fun vs H Q _ => ∃ (v u : V) (row : List En) (q : Nat) (e : En), vs = [v, .int (q : Nat), u] ∧ WkAt w CK H v row ∧ q ≤ row.length ∧ EAt H u e ∧ Q (.int ((nxt row q e : Nat) : Int)) H
theorem sc_WalkNextState : FnScope ["self", "state", "entry", "move"] ["self", "state", "entry"] (defScope sWalkNextState) := ⟨rfl, rfl, rfl, by decide +kernel, rfl, by decide +kernel, by decide +kernel⟩
theorem ok_NextState (D : DefM K CK "next_state" "Walk.next_state" sWalkNextState ["self", "state", "entry"] f fd) {fI : Addr} {fdI : FuncData} (TK : WkC K mg CK fI fdI) : FnOk P w K mg base CX0 1 f fd ["self", "state", "entry"] (spNextState w CK) := by
  refine D.fn.ok sc_WalkNextState (fun vs H Q E h => ?_) (fun cdv A outer s H vs Q E hr h => ?_)
  · obtain ⟨v, u, row, q, e, rfl, _⟩ := h; rfl
  · obtain ⟨v, u, row, q, e, rfl, hw, hq, he, k⟩ := h
    refine ⟨_, (pss_cons (ps_set (i := 3) sc_WalkNextState.nd rfl (.inl rfl) (pe_ix ix_list (pe_fld (pv 0) rfl) (pv 1) (fun _ _ => rfl))) (pss_one (ps_ret (pe_mget2 (Nat.lt_of_le_of_lt (Nat.add_le_add_left (by decide : 9 ≤ 64) _) hr.units) (pv 3) (pv 2) (pe_mget2 (Nat.lt_of_le_of_lt (Nat.add_le_add_left (by decide : 9 ≤ 64) _) hr.units) (pv 3) pe_non (pv 1) ⟨rfl, rfl, rfl, rfl⟩) ⟨rfl, rfl, rfl, rfl⟩)))), ?_⟩
    obtain ⟨a, dx, ml, kd, ms, rfl, ha, hm, lm, mv⟩ := hw.obj
    obtain ⟨b, rfl, hb, _⟩ := he
    have hj : ms[q]? = some (ms[q]'(by omega)) := List.getElem?_eq_getElem (by omega)
    obtain ⟨d, kvs, xs, hd, DM, M⟩ := mv q _ hj
    rw [hd] at hj
    refine ⟨_, rfl, a, CK, dx, _, _, rfl, ha, TK.cl, TK.nMoves, wkf_moves, _, rfl, ml, _, _, _, rfl, rfl, SqL.of hm, atI_nat hj, ?_⟩
    refine ⟨_, rfl, d, rfl, ⟨_, _, DM⟩, _, rfl, _, rfl, d, rfl, ⟨_, _, DM⟩, _, rfl, kvs, xs, .none, DM, .inl ⟨rfl, rfl⟩, kvs, xs, nk e, DM, .inr ⟨e, b, rfl, rfl, hb⟩, ?_⟩
    rw [M e]
    exact k
end
end Wd
set_option Elab.async false
set_option linter.all false
set_option maxRecDepth 100000
set_option maxHeartbeats 4000000
set_option exponentiation.threshold 100000
namespace Wd
open PySem L2
theorem nxt_out {row : List En} {j : Nat} {e : En} (h : e ∉ row) : nxt row j e = 0 := by
  have s := mtc_fit row (row.take j ++ [e])
  have hl := mtc_le row (row.take j ++ [e])
  unfold nxt
  generalize mtc row (row.take j ++ [e]) = m at s hl ⊢
  rcases suf_snoc s with z | ⟨t, z, _⟩
  · have := congrArg List.length z
    rw [List.length_take, List.length_nil] at this
    omega
  · exact absurd (List.mem_of_mem_take (i := m) (by rw [z]; simp)) h
section
variable {P : Program} {w : World} {K : PySem.W.Frag} {mg : Str → Option Value} {base : Heap} {f C CW CM CK : Addr} {fd : FuncData} {H : Hp}
def spRowWalk (w : World) (CK : Addr) : Sp := fun vs H Q _ => ∃ (a : Addr) (row : List En), vs = [.ref a] ∧ LAt0 H a row ∧ row.length ≤ 8 ∧ ∀ v H', Same H H' → WkAt w CK H' v row → Q v H'
theorem sc_RowWalk : FnScope ["row", "moves", "state", "move", "entry"] ["row"] (defScope sRowWalk) := ⟨rfl, rfl, rfl, by decide +kernel, rfl, by decide +kernel, by decide +kernel⟩
theorem ok_RowWalk (D : DefF K mg "row_walk" sRowWalk ["row"] f fd) (B : Blt mg) {fI fM : Addr} {fdI fdM : FuncData} (TK : WkC K mg CK fI fdI) (GWalk : FnOk P w K mg base CX0 1 fI fdI ["self", "moves", "counted"] (spWalkInit CK))
    (DMatched : DefF K mg "matched" sMatched ["row", "seen"] fM fdM) (GMatched : FnOk P w K mg base CX0 1 fM fdM ["row", "seen"] spMatched) : FnOk P w K mg base CX0 3 f fd ["row"] (spRowWalk w CK) := by
  refine D.fn.ok sc_RowWalk (fun vs H Q E h => ?_) (fun cdv A outer s H vs Q E hr h => ?_)
  · obtain ⟨a, row, rfl, _⟩ := h; rfl
  · obtain ⟨a, row, rfl, ⟨xs, ha, px⟩, h8, k⟩ := h
    refine ⟨_, (pss_cons (ps_set (i := 1) sc_RowWalk.nd rfl (.inl rfl) (pe_lst pa_nil)) (pss_cons (ps_for PassesOwn.never rfl (pi_range1 rfl B.range (pa_cons (pe_op op_add (pe_callB call_len_seq (by rfl) B.len PySem.boot_len (pa_cons (pv 0) pa_nil)) pe_int) pa_nil)) (pg_name (i := 2) sc_RowWalk.nd rfl (.inr rfl)) (pss_cons (ps_setMDc (i := 3) (own := [("entry", 4)]) (g := gName 4) rfl (Nat.lt_of_le_of_lt (Nat.add_le_add_left (by decide : 9 ≤ 64) _) hr.units) sc_RowWalk.nd rfl rfl (sw_dict rfl rfl rfl (by decide +kernel)) (pi_list (pv 0)) (blkOk_by (N := ["row", "moves", "state", "move", "entry"]) (sc := defScope sRowWalk) (by decide +kernel)) (fun _ _ _ _ _ => pg_name (i := 4) sc_RowWalk.nd rfl (Or.inl rfl)) (fun _ _ _ _ _ => (pv 4)) (fun _ _ _ _ _ => (pe_call GMatched (hr.mono (by first | decide | omega)) rfl DMatched.gl DMatched.fn.kp DMatched.bd .nil pass0 (pa_cons (pv 0) (pa_cons (pe_op op_cat (pe_slice (show SlR _ (rSlL K) from sl_list) (pv 0) po_none (po_some (pv 2))) (pe_lst (pa_cons (pv 4) pa_nil))) pa_nil))))) (pss_cons (ps_mput (Nat.lt_of_le_of_lt (Nat.add_le_add_left (by decide : 9 ≤ 64) _) hr.units) (pv 3) pe_non pe_int (by rfl)) (pss_one (ps_expr (pe_bm F.plainAttrs_list F.slot_list_append F.type_list_append mt_append (pv 1) (pa_cons (pv 3) pa_nil))))))) (pss_one (ps_ret (pe_make TK.mkr GWalk (hr.mono (by first | decide | omega)) rfl TK.gl TK.b .nil pass0 (pa_cons (pv 1) (pa_cons (pe_callB call_len_seq (by rfl) B.len PySem.boot_len (pa_cons (pv 0) pa_nil)) pa_nil))))))), ?_⟩
    have szl : (1000000 : Nat) ≤ sizeLine := by rw [sizeLine_eq]; decide
    have lx := Paired.len px
    refine ⟨Nat.zero_le _, fun ml hml => ?_⟩
    have s0 := Same.new (o := .lst []) hml
    refine ⟨_, rfl, a, xs, rfl, .inl (SqL.of (s0 _ _ ha)), _, _, rfl, rfl, _, rfl, by omega, by omega, ?_⟩
    refine for_range (fun i σ H' => ∃ (o2 o3 o4 : Option V), σ = [some (.ref a), some (.ref ml), o2, o3, o4] ∧ Same H H' ∧ ∃ ms, H' ml = some (.lst ms) ∧ ms.length = i ∧ ∀ (j : Nat) d, ms[j]? = some d → MvAt w H' d row j) ⟨none, none, none, rfl, s0, [], upd_same, rfl, fun j d z => by cases z⟩ ?_ ?_
    · rintro i σ H1 hi ⟨o2, o3, o4, rfl, s1, ms, hms, lms, mv⟩
      have a1 := s1 _ _ ha
      have px1 := Paired.mono (fun _ _ => EAt.mono s1) px
      have hi9 : i ≤ row.length := by omega
      refine ⟨_, rfl, a, rfl, ⟨_, SqL.of a1⟩, fun Dd hDd => mdc_list (xs := xs) (fun t H' => Same H1 H' ∧ ∃ kvs ys, DAtM w H' Dd kvs ys ∧ ys.length ≤ t ∧ valV kvs .none = none ∧ ∀ e, valV kvs (nk e) = if e ∈ row.take t then some (.int ((nxt row i e : Nat) : Int)) else none)
        ⟨Same.new hDd, [], [], ⟨upd_same, .nil, fun _ z => (nomatch z), Nat.zero_le _⟩, Nat.le_refl _, rfl, fun e => by rw [List.take_zero, if_neg (List.not_mem_nil)]; rfl⟩ (fun t H' _ h => SqL.of (h.1 _ _ a1)) ?_ ?_⟩
      · rintro t x H2 hx ⟨s2, kvs, ys, DM, ly, v0, vv⟩
        have ht : t < xs.length := (List.getElem?_eq_some_iff.mp hx).1
        obtain ⟨e, he, hee⟩ := Paired.at_ px1 hx
        obtain ⟨ea, rfl, hea, hok⟩ := id hee
        have a2 := s2 _ _ a1
        refine ⟨rfl, ?_⟩
        have ei : (0 : Int) + (i : Nat) = ((i : Nat) : Int) := Int.zero_add _
        refine ⟨_, rfl, _, rfl, _, rfl, _, rfl, _, rfl, a, xs, rfl, SqL.of a2, fun t1 ht1 => ?_⟩
        have c1 : cutV xs none (some ((0 : Int) + (i : Nat))) = xs.take i := by rw [ei]; exact cut_hi xs i
        rw [c1]
        have w1 := Same.new (o := .lst (xs.take i)) ht1
        refine ⟨_, rfl, (show 1 ≤ sizeLine by omega), fun t2 ht2 => ?_⟩
        have w2 := Same.new (o := .lst [.ref ea]) ht2
        refine ⟨t1, t2, _, _, rfl, rfl, w2 _ _ upd_same, upd_same, by rw [List.length_take]; show _ + 1 ≤ _; omega, fun t3 ht3 => ?_⟩
        have w3 := Same.new (o := .lst (xs.take i ++ [.ref ea])) ht3
        have sA := w1.trans (w2.trans w3)
        have s1A := s2.trans sA
        have pxA := Paired.mono (fun _ _ => EAt.mono s1A) px1
        refine ⟨a, t3, row, row.take i ++ [e], rfl, ⟨xs, sA _ _ a2, pxA⟩, ⟨_, upd_same, Paired.app (Paired.take i pxA) (.cons (hee.mono s1A) .nil)⟩, by omega, by rw [List.length_append, List.length_take]; show _ + 1 ≤ _; omega, fun H5 s5 => ?_⟩
        have sB := sA.trans s5
        have DM5 := DM.mono sB
        refine ⟨kvs, ys, nk e, DM5, .inr ⟨e, ea, rfl, rfl, (s1A.trans s5) _ _ hea⟩, by omega, fun xs' hl' D' => ?_⟩
        refine ⟨fun b o z => ?_, putK kvs (nk e) (.int ((nxt row i e : Nat) : Int)), xs', D', by omega, ?_, fun g => ?_⟩
        · rw [upd_ne (fun q => by rw [q, hDd] at z; cases z)]
          exact (s2.trans sB) _ _ z
        · rw [valV_put, if_neg (fun z => by cases z)]; exact v0
        · rw [valV_put, vv g]
          have tk : row.take (t + 1) = row.take t ++ [e] := by
            rw [List.take_succ, he]; rfl
          rw [tk]
          by_cases q : g = e
          · rw [if_pos (by rw [q]), if_pos (by rw [q]; simp), q]
          · rw [if_neg (fun z => q (nk_inj z))]
            by_cases m : g ∈ row.take t
            · rw [if_pos m, if_pos (List.mem_append_left _ m)]
            · rw [if_neg m, if_neg (fun z => (List.mem_append.mp z).elim m fun z => q (List.mem_singleton.mp z))]
      · rintro H2 ⟨s2, kvs, ys, DM, ly, v0, vv⟩
        rw [show row.take xs.length = row by rw [lx]; exact List.take_of_length_le (Nat.le_refl _)] at vv
        refine ⟨_, rfl, Dd, kvs, ys, .none, rfl, DM, .inl ⟨rfl, rfl⟩, by omega, fun xs' hl' D' => ?_⟩
        have s3 : Same H1 (upd H2 Dd (MDO w Dd xs')) := fun b o z => by
          rw [upd_ne (fun q => by rw [q, hDd] at z; cases z)]; exact s2 _ _ z
        have m3 := s3 _ _ hms
        have mvD : Mv row i (putK kvs .none (.int 0)) := fun e z => by
          rw [valV_put, valV_put, if_pos rfl, if_neg (show ¬ nk e = .none from fun q => by cases q), vv e]
          by_cases m : e ∈ row
          · rw [if_pos m]; rfl
          · rw [if_neg m, nxt_out m]; rfl
        refine ⟨_, rfl, .inl ⟨rfl, _, SqL.of m3⟩, _, rfl, ml, ms, _, rfl, rfl, m3, by omega, ?_⟩
        have nD : Dd ≠ ml := fun q => by rw [q, hms] at hDd; cases hDd
        have mN : H ml = none := hml
        have s4 : Same H (upd (upd H2 Dd (MDO w Dd xs')) ml (.lst (ms ++ [.ref Dd]))) := fun b o z => by
          rw [upd_ne (fun q => by rw [q, mN] at z; cases z)]; exact (s1.trans s3) _ _ z
        have keep : ∀ {d : V} {j : Nat}, MvAt w (upd H2 Dd (MDO w Dd xs')) d row j → MvAt w (upd (upd H2 Dd (MDO w Dd xs')) ml (.lst (ms ++ [.ref Dd]))) d row j := by
          rintro d j ⟨b, kv, ys', rfl, D2, m2⟩
          refine ⟨b, kv, ys', rfl, ⟨?_, D2.rel, fun r hr => (D2.keys r hr).mono fun c zs hc => ?_, D2.few⟩, m2⟩
          · rw [upd_ne (fun q => by have := D2.at_; rw [q, m3] at this; cases this)]; exact D2.at_
          · rw [upd_ne (fun q => by rw [q, m3] at hc; cases hc)]; exact hc
        refine ⟨_, _, _, rfl, s4, ms ++ [.ref Dd], upd_same, by rw [List.length_append, lms]; rfl, fun j d hj => ?_⟩
        rcases Nat.lt_or_ge j ms.length with q | q
        · rw [List.getElem?_append_left q] at hj
          exact keep ((mv j d hj).mono s3)
        · have ej : j = ms.length := by
            have := (List.getElem?_eq_some_iff.mp hj).1
            rw [List.length_append] at this
            have : j < ms.length + 1 := this
            omega
          rw [ej, List.getElem?_append_right (Nat.le_refl _), Nat.sub_self] at hj
          cases hj
          rw [ej, lms]
          exact keep ⟨Dd, _, _, rfl, D', mvD⟩
    · rintro σ H' ⟨o2, o3, o4, rfl, s1, ms, hms, lms, mv⟩
      refine ⟨_, rfl, _, rfl, a, xs, rfl, .inl (SqL.of (s1 _ _ ha)), fun p dx hp hd hne => ?_⟩
      refine ⟨p, dx, .ref ml, _, rfl, upd_same, fun kd hkd => ⟨rfl, ?_⟩⟩
      have hkp : kd ≠ p := fun q => by rw [q, upd_same] at hkd; cases hkd
      have hkdx : kd ≠ dx := fun q => by rw [q, upd_ne hne, upd_same] at hkd; cases hkd
      have hk0 : H' kd = none := by rw [upd_ne hkp, upd_ne hkdx] at hkd; exact hkd
      have sE : Same H' (upd (upd (upd (upd H' dx (.own p)) p (.ins CK dx [])) kd (.dK [])) p (.ins CK dx (wkf (.ref ml) (.int ((xs.length : Nat) : Int)) (.ref kd)))) := fun b o z => by
        rw [upd_ne (fun q => by rw [q, hp] at z; cases z), upd_ne (fun q => by rw [q, hk0] at z; cases z), upd_ne (fun q => by rw [q, hp] at z; cases z), upd_ne (fun q => by rw [q, hd] at z; cases z)]
        exact z
      refine k _ _ (s1.trans sE) ⟨⟨p, dx, ml, kd, ms, rfl, ?_, sE _ _ hms, by omega, fun j d hj => (mv j d hj).mono sE⟩⟩
      rw [upd_same, lx]
end
end Wd
set_option Elab.async false
set_option linter.all false
set_option maxRecDepth 100000
set_option maxHeartbeats 4000000
set_option exponentiation.threshold 100000
namespace Wd
open PySem L2
structure PsC (K : PySem.W.Frag) (mg : Str → Option Value) (CP f : Addr) (fd : FuncData) : Prop where
  cl : Cls K CP
  nStates : NoAttr K CP "states"
  nSums : NoAttr K CP "sums"
  fn : Fun K "__init__" "Passages.__init__" sPassagesInit f fd
  b : Binds K fd ["self", "state"] []
  mkr : Mk K CP f
  gl : mg "Passages" = some (.ref CP)
def psf (s u : V) : List (Str × V) := [("states", s), ("sums", u)]
theorem psf_put {s u : V} : putF "sums" u (putF "states" s []) = psf s u := by kernel_rfl
theorem psf_states {s u : V} : (psf s u).lookup ("states" : Str) = some s := by kernel_rfl
theorem psf_sums {s u : V} : (psf s u).lookup ("sums" : Str) = some u := by kernel_rfl
theorem psf_no1 {s u : V} : (psf s u).lookup ("note" : Str) = none := by kernel_rfl
theorem psf_no2 {s u : V} : (psf s u).lookup ("done" : Str) = none := by kernel_rfl
theorem psf_no3 {s u : V} : (psf s u).lookup ("returns" : Str) = none := by kernel_rfl
theorem psf_no4 {s u : V} : (psf s u).lookup ("folded" : Str) = none := by kernel_rfl
theorem psf_no5 {s u : V} : (psf s u).lookup ("end" : Str) = none := by kernel_rfl
/-- what is noted, new since H0 -/
structure PsAt (CP : Addr) (H0 H : Hp) (a : Addr) (sts sms : List V) : Prop where
  obj : ∃ dx sl ul, H a = some (.ins CP dx (psf (.ref sl) (.ref ul))) ∧ H sl = some (.lst sts) ∧ H ul = some (.lst sms) ∧ sl ≠ ul ∧ H0 sl = none ∧ H0 ul = none
  same : Same H0 H
theorem PsAt.mono {CP : Addr} {H0 H H' : Hp} (s : Same H H') {a : Addr} {sts sms : List V} (h : PsAt CP H0 H a sts sms) : PsAt CP H0 H' a sts sms :=
  let ⟨dx, sl, ul, h1, h2, h3, h4⟩ := h.obj; ⟨⟨dx, sl, ul, s _ _ h1, s _ _ h2, s _ _ h3, h4⟩, h.same.trans s⟩
section
variable {P : Program} {w : World} {K : PySem.W.Frag} {mg : Str → Option Value} {base : Heap} {f C CW CM CK CP : Addr} {fd : FuncData} {H : Hp}
def spPassagesInit (CP : Addr) : Sp := fun vs H Q _ => ∃ (p dx : Addr) (v : V), vs = [.ref p, v] ∧ H p = some (.ins CP dx []) ∧
  ∀ H' sl ul, H sl = none → H ul = none → sl ≠ ul → H' p = some (.ins CP dx (psf (.ref sl) (.ref ul))) → H' sl = some (.lst [v]) → H' ul = some (.lst [.int 0]) → SameBut p H H' → Q .non H'
theorem sc_PassagesInit : FnScope ["self", "state"] ["self", "state"] (defScope sPassagesInit) := ⟨rfl, rfl, rfl, by decide +kernel, rfl, by decide +kernel, by decide +kernel⟩
theorem ok_PassagesInit (TP : PsC K mg CP f fd) : FnOk P w K mg base CX0 1 f fd ["self", "state"] (spPassagesInit CP) := by
  refine TP.fn.ok sc_PassagesInit (fun vs H Q E h => ?_) (fun cdv A outer s H vs Q E hr h => ?_)
  · obtain ⟨p, dx, v, rfl, _⟩ := h; rfl
  · obtain ⟨p, dx, v, rfl, hp, k⟩ := h
    refine ⟨_, (pss_cons (ps_fld (pv 0) (pe_lst (pa_cons (pv 1) pa_nil)) rfl) (pss_one (ps_fld (pv 0) (pe_lst (pa_cons pe_int pa_nil)) rfl))), ?_⟩
    have szl : (1000000 : Nat) ≤ sizeLine := by rw [sizeLine_eq]; decide
    refine ⟨_, rfl, (show 1 ≤ sizeLine by omega), fun sl hsl => ?_⟩
    have n1 : sl ≠ p := fun z => by rw [z, hp] at hsl; cases hsl
    have hp1 : upd H sl (.lst [v]) p = some (.ins CP dx []) := by rw [upd_ne (Ne.symm n1)]; exact hp
    refine ⟨_, rfl, p, CP, dx, _, rfl, hp1, TP.cl, TP.nStates, (by show 0 < 1000; decide), ?_⟩
    refine ⟨(show 1 ≤ sizeLine by omega), fun ul hul => ?_⟩
    have n2 : ul ≠ p := fun z => by rw [z, upd_same] at hul; cases hul
    have n3 : ul ≠ sl := fun z => by rw [z, upd_ne n1, upd_same] at hul; cases hul
    have hu0 : H ul = none := by rw [upd_ne n2, upd_ne n3] at hul; exact hul
    have hp2 : upd (upd (upd H sl (.lst [v])) p (.ins CP dx (putF "states" (.ref sl) []))) ul (.lst [.int 0]) p = some (.ins CP dx (putF "states" (.ref sl) [])) := by rw [upd_ne (Ne.symm n2), upd_same]
    refine ⟨_, rfl, p, CP, dx, _, rfl, hp2, TP.cl, TP.nSums, (by show 1 < 1000; decide), ?_⟩
    rw [psf_put]
    refine k _ sl ul hsl hu0 (Ne.symm n3) upd_same ?_ ?_ (fun b o hb z => ?_)
    · rw [upd_ne n1, upd_ne (Ne.symm n3), upd_ne n1]; exact upd_same
    · rw [upd_ne n2]; exact upd_same
    · rw [upd_ne hb, upd_ne (fun q => by rw [q, hu0] at z; cases z), upd_ne hb, upd_ne (fun q => by rw [q, hsl] at z; cases z)]; exact z
def spNote (CP : Addr) : Sp := fun vs H Q _ => ∃ (a : Addr) (H0 : Hp) (x : V) (q v : Int), vs = [.ref a, .int q, .int v] ∧ PsAt CP H0 H a [x] [.int 0] ∧ ∀ H', PsAt CP H0 H' a [x, .int q] [.int 0, .int v] → Q .non H'
theorem sc_PassagesNote : FnScope ["self", "state", "visits"] ["self", "state", "visits"] (defScope sPassagesNote) := ⟨rfl, rfl, rfl, by decide +kernel, rfl, by decide +kernel, by decide +kernel⟩
theorem ok_Note (D : DefM K CP "note" "Passages.note" sPassagesNote ["self", "state", "visits"] f fd) {fI : Addr} {fdI : FuncData} (TP : PsC K mg CP fI fdI) : FnOk P w K mg base CX0 1 f fd ["self", "state", "visits"] (spNote CP) := by
  refine D.fn.ok sc_PassagesNote (fun vs H Q E h => ?_) (fun cdv A outer s H vs Q E hr h => ?_)
  · obtain ⟨a, H0, x, q, v, rfl, _⟩ := h; rfl
  · obtain ⟨a, H0, x, q, v, rfl, ⟨⟨dx, sl, ul, ha, hs, hu, hne, h1, h2⟩, s0⟩, k⟩ := h
    refine ⟨_, (pss_cons (ps_expr (pe_bm F.plainAttrs_list F.slot_list_append F.type_list_append mt_append (pe_fld (pv 0) rfl) (pa_cons (pv 1) pa_nil))) (pss_one (ps_expr (pe_bm F.plainAttrs_list F.slot_list_append F.type_list_append mt_append (pe_fld (pv 0) rfl) (pa_cons (pe_op op_add (pe_ix ix_list (pe_fld (pv 0) rfl) (pe_un un_neg pe_int) (fun _ _ => rfl)) (pv 2)) pa_nil))))), ?_⟩
    have szl : (1000000 : Nat) ≤ sizeLine := by rw [sizeLine_eq]; decide
    refine ⟨_, rfl, a, CP, dx, _, _, rfl, ha, TP.cl, TP.nStates, psf_states, .inl ⟨rfl, _, SqL.of hs⟩, _, rfl, sl, _, _, rfl, rfl, hs, (show 1 < sizeLine by omega), ?_⟩
    have ha1 : upd H sl (.lst ([x] ++ [.int q])) a = some (.ins CP dx (psf (.ref sl) (.ref ul))) := by rw [upd_ne (fun z => by rw [z, hs] at ha; cases ha)]; exact ha
    have hu1 : upd H sl (.lst ([x] ++ [.int q])) ul = some (.lst [.int 0]) := by rw [upd_ne (Ne.symm hne)]; exact hu
    refine ⟨_, rfl, a, CP, dx, _, _, rfl, ha1, TP.cl, TP.nSums, psf_sums, .inl ⟨rfl, _, SqL.of hu1⟩, _, rfl, a, CP, dx, _, _, rfl, ha1, TP.cl, TP.nSums, psf_sums, _, rfl, ul, _, _, _, rfl, rfl, SqL.of hu1, rfl, _, rfl, _, _, rfl, rfl, ul, _, _, rfl, rfl, hu1, (show 1 < sizeLine by omega), ?_⟩
    dsimp only
    rw [Int.zero_add]
    refine k _ ⟨⟨dx, sl, ul, ?_, ?_, upd_same, hne, h1, h2⟩, fun b o z => ?_⟩
    · rw [upd_ne (fun z => by rw [z, hu1] at ha1; cases ha1)]; exact ha1
    · rw [upd_ne hne]; exact upd_same
    · rw [upd_ne (fun q => by rw [q, h2] at z; cases z), upd_ne (fun q => by rw [q, h1] at z; cases z)]; exact s0 _ _ z
def spDone (CP : Addr) : Sp := fun vs H Q _ => ∃ (a : Addr) (H0 : Hp) (sts sms : List V), vs = [.ref a] ∧ PsAt CP H0 H a sts sms ∧ sts.length ≤ 1000 ∧ Q (.int (((sts.length : Nat) : Int) - 1)) H
theorem sc_PassagesDone : FnScope ["self"] ["self"] (defScope sPassagesDone) := ⟨rfl, rfl, rfl, by decide +kernel, rfl, by decide +kernel, by decide +kernel⟩
theorem ok_Done (D : DefM K CP "done" "Passages.done" sPassagesDone ["self"] f fd) (B : Blt mg) {fI : Addr} {fdI : FuncData} (TP : PsC K mg CP fI fdI) : FnOk P w K mg base CX0 1 f fd ["self"] (spDone CP) := by
  refine D.fn.ok sc_PassagesDone (fun vs H Q E h => ?_) (fun cdv A outer s H vs Q E hr h => ?_)
  · obtain ⟨a, H0, sts, sms, rfl, _⟩ := h; rfl
  · obtain ⟨a, H0, sts, sms, rfl, ⟨⟨dx, sl, ul, ha, hs, hu, hne, h1, h2⟩, s0⟩, hl, k⟩ := h
    refine ⟨_, (pss_one (ps_ret (pe_op op_sub (pe_callB call_len_seq (by rfl) B.len PySem.boot_len (pa_cons (pe_fld (pv 0) rfl) pa_nil)) pe_int))), ?_⟩
    exact ⟨_, rfl, a, CP, dx, _, _, rfl, ha, TP.cl, TP.nStates, psf_states, sl, _, rfl, .inl (SqL.of hs), _, _, rfl, rfl, k⟩
def spReturns (CP : Addr) : Sp := fun vs H Q _ => ∃ (a : Addr) (H0 : Hp) (q : Int) (sms : List V), vs = [.ref a] ∧ PsAt CP H0 H a [.int q] sms ∧ ∀ H', Same H H' → Q (.bl false) H'
theorem sc_PassagesReturns : FnScope ["self"] ["self"] (defScope sPassagesReturns) := ⟨rfl, rfl, rfl, by decide +kernel, rfl, by decide +kernel, by decide +kernel⟩
theorem ok_Returns (D : DefM K CP "returns" "Passages.returns" sPassagesReturns ["self"] f fd) {fI : Addr} {fdI : FuncData} (TP : PsC K mg CP fI fdI) : FnOk P w K mg base CX0 1 f fd ["self"] (spReturns CP) := by
  refine D.fn.ok sc_PassagesReturns (fun vs H Q E h => ?_) (fun cdv A outer s H vs Q E hr h => ?_)
  · obtain ⟨a, H0, q, sms, rfl, _⟩ := h; rfl
  · obtain ⟨a, H0, q, sms, rfl, ⟨⟨dx, sl, ul, ha, hs, hu, hne, h1, h2⟩, s0⟩, k⟩ := h
    refine ⟨_, (pss_one (ps_ret (pe_cmpR op_in_seq (pe_ix ix_list (pe_fld (pv 0) rfl) (pe_un un_neg pe_int) (fun _ _ => rfl)) (pe_slice sl_list (pe_fld (pv 0) rfl) po_none (po_some (pe_un un_neg pe_int))) rfl))), ?_⟩
    refine ⟨_, rfl, a, CP, dx, _, _, rfl, ha, TP.cl, TP.nStates, psf_states, _, rfl, sl, _, _, _, rfl, rfl, SqL.of hs, rfl, ?_⟩
    refine ⟨_, rfl, a, CP, dx, _, _, rfl, ha, TP.cl, TP.nStates, psf_states, _, rfl, _, rfl, sl, _, rfl, SqL.of hs, fun t ht => ?_⟩
    refine ⟨t, _, rfl, .inl (SqL.of upd_same), rfl, rfl, ?_⟩
    exact k _ (Same.new ht)
end
end Wd
set_option Elab.async false
set_option linter.all false
set_option maxRecDepth 100000
set_option maxHeartbeats 4000000
set_option exponentiation.threshold 100000
namespace Wd
open PySem L2
section
variable {P : Program} {w : World} {K : PySem.W.Frag} {mg : Str → Option Value} {base : Heap} {f C CW CM CK CP : Addr} {fd : FuncData} {H : Hp}
theorem cm0 {i : Int} (h0 : -2 < i) (h1 : i < 2) : CMulW 0 i :=
  wide_mul (a := 64) (b := 64) (by decide) (show i.natAbs < 2 ^ 64 from Nat.lt_of_le_of_lt (show i.natAbs ≤ 1 by omega) (by decide)) (by decide) (by decide) (by decide)
theorem sz2 : 2 ≤ sizeLine := Nat.le_trans (by decide) three_line
def spFolded (CP : Addr) : Sp := fun vs H Q _ => ∃ (a : Addr) (H0 : Hp) (x y : V) (sms : List V), vs = [.ref a, .int 1] ∧ PsAt CP H0 H a [x, y] sms ∧ ∀ t H', Same H H' → H' t = some (.tup [.int 0, .int 1]) → Q (.ref t) H'
theorem sc_PassagesFolded : FnScope ["self", "times", "first", "period"] ["self", "times"] (defScope sPassagesFolded) := ⟨rfl, rfl, rfl, by decide +kernel, rfl, by decide +kernel, by decide +kernel⟩
theorem ok_Folded (D : DefM K CP "folded" "Passages.folded" sPassagesFolded ["self", "times"] f fd) (B : Blt mg) {fI : Addr} {fdI : FuncData} (TP : PsC K mg CP fI fdI) {fDn : Addr} {fdDn : FuncData}
    (DDone : DefM K CP "done" "Passages.done" sPassagesDone ["self"] fDn fdDn) (GDone : FnOk P w K mg base CX0 1 fDn fdDn ["self"] (spDone CP)) : FnOk P w K mg base CX0 2 f fd ["self", "times"] (spFolded CP) := by
  refine D.fn.ok sc_PassagesFolded (fun vs H Q E h => ?_) (fun cdv A outer s H vs Q E hr h => ?_)
  · obtain ⟨a, H0, x, y, sms, rfl, _⟩ := h; rfl
  · obtain ⟨a, H0, x, y, sms, rfl, ps, k⟩ := h
    refine ⟨_, (pss_cons (ps_if (pt_cmpR op_le (pv 1) (pe_meth0 (pv 0) TP.cl DDone.mt GDone (hr.mono (by first | decide | omega)) DDone.bd .nil pass0) (nomark _)) (pss_one (ps_ret (pe_tup (pa_cons pe_int (pa_cons (pv 1) pa_nil))))) pss_nil) pss_never), ?_⟩
    obtain ⟨dx, sl, ul, ha, hs, hu, hne, h1, h2⟩ := ps.obj
    refine ⟨_, rfl, _, rfl, a, dx, _, rfl, ha, psf_no2, a, H0, _, _, rfl, ps, (show 2 ≤ 1000 by decide), _, _, rfl, rfl, _, rfl, ?_⟩
    refine iteT ⟨_, rfl, sz2, fun t ht => k _ _ (Same.new ht) upd_same⟩
def spEnd (CP : Addr) : Sp := fun vs H Q _ => ∃ (a : Addr) (H0 : Hp) (q q' v : Int), vs = [.ref a, .int 1] ∧ PsAt CP H0 H a [.int q, .int q'] [.int 0, .int v] ∧ 0 ≤ v ∧ v ≤ 1 ∧ ∀ t H', Same H H' → H' t = some (.tup [.int q', .int v]) → Q (.ref t) H'
theorem sc_PassagesEnd : FnScope ["self", "times", "whole", "at", "first"] ["self", "times"] (defScope sPassagesEnd) := ⟨rfl, rfl, rfl, by decide +kernel, rfl, by decide +kernel, by decide +kernel⟩
theorem ok_End (D : DefM K CP "end" "Passages.end" sPassagesEnd ["self", "times"] f fd) {fI : Addr} {fdI : FuncData} (TP : PsC K mg CP fI fdI) {fFo : Addr} {fdFo : FuncData}
    (DFolded : DefM K CP "folded" "Passages.folded" sPassagesFolded ["self", "times"] fFo fdFo) (GFolded : FnOk P w K mg base CX0 2 fFo fdFo ["self", "times"] (spFolded CP)) : FnOk P w K mg base CX0 3 f fd ["self", "times"] (spEnd CP) := by
  refine D.fn.ok sc_PassagesEnd (fun vs H Q E h => ?_) (fun cdv A outer s H vs Q E hr h => ?_)
  · obtain ⟨a, H0, q, q', v, rfl, _⟩ := h; rfl
  · obtain ⟨a, H0, q, q', v, rfl, ps, v0, v1, k⟩ := h
    refine ⟨_, (pss_cons (ps_asg (pe_meth (pv 0) TP.cl DFolded.mt GFolded (hr.mono (by first | decide | omega)) DFolded.bd .nil pass0 (pa_cons (pv 1) pa_nil)) (pg_tup rfl (pgs_cons (pg_name (i := 2) sc_PassagesEnd.nd rfl (.inl rfl)) (pgs_cons (pg_name (i := 3) sc_PassagesEnd.nd rfl (.inl rfl)) pgs_nil)))) (pss_cons (ps_set (i := 4) sc_PassagesEnd.nd rfl (.inl rfl) (pe_bm F.plainAttrs_list F.slot_list_index F.type_list_index mt_index (pe_fld (pv 0) rfl) (pa_cons (pe_ix ix_list (pe_fld (pv 0) rfl) (pe_un un_neg pe_int) (fun _ _ => rfl)) pa_nil))) (pss_one (ps_ret (pe_tup (pa_cons (pe_ix ix_list (pe_fld (pv 0) rfl) (pv 3) (fun _ _ => rfl)) (pa_cons (pe_op op_add (pe_ix ix_list (pe_fld (pv 0) rfl) (pv 3) (fun _ _ => rfl)) (pe_op op_mulW (pv 2) (pe_op op_sub (pe_ix ix_list (pe_fld (pv 0) rfl) (pe_un un_neg pe_int) (fun _ _ => rfl)) (pe_ix ix_list (pe_fld (pv 0) rfl) (pv 4) (fun _ _ => rfl))))) pa_nil))))))), ?_⟩
    obtain ⟨dx0, sl0, ul0, ha0, _⟩ := ps.obj
    refine ⟨_, rfl, a, dx0, _, rfl, ha0, psf_no4, _, rfl, a, H0, _, _, _, rfl, ps, fun t H1 s1 ht => ?_⟩
    refine ⟨t, _, rfl, SqT.of ht, rfl, _, _, rfl, _, _, rfl, rfl, ?_⟩
    obtain ⟨dx, sl, ul, ha, hs, hu, hne, h1, h2⟩ := (ps.mono s1).obj
    have fin : ∀ (j : Nat) (z : V), [V.int 0, V.int v][j]? = some z → (∃ i : Int, z = .int i ∧ (i = 0 ∨ i = v)) → ∀ H', H' = H1 → _ := fun j z hz hi H' e => trivial
    refine ⟨_, rfl, a, CP, dx, _, _, rfl, ha, TP.cl, TP.nStates, psf_states, .inl ⟨rfl, _, SqL.of hs⟩, _, rfl, a, CP, dx, _, _, rfl, ha, TP.cl, TP.nStates, psf_states, _, rfl, sl, _, _, _, rfl, rfl, SqL.of hs, rfl, ?_⟩
    by_cases e : q = q'
    · refine ⟨sl, _, _, 0, .int q, rfl, rfl, SqL.of hs, rfl, rfl, rfl, by rw [e]; exact beq_self_eq_true _, fun m z' hm => absurd hm (Nat.not_lt_zero _), ?_⟩
      refine ⟨_, rfl, a, CP, dx, _, _, rfl, ha, TP.cl, TP.nStates, psf_states, _, rfl, sl, _, _, _, rfl, rfl, SqL.of hs, (rfl : atI [V.int q, V.int q'] 1 = some (.int q')), ?_⟩
      refine ⟨_, rfl, a, CP, dx, _, _, rfl, ha, TP.cl, TP.nSums, psf_sums, _, rfl, ul, _, _, _, rfl, rfl, SqL.of hu, (rfl : atI [V.int 0, V.int v] 1 = some (.int v)), ?_⟩
      refine ⟨_, rfl, _, rfl, a, CP, dx, _, _, rfl, ha, TP.cl, TP.nSums, psf_sums, _, rfl, ul, _, _, _, rfl, rfl, SqL.of hu, (rfl : atI [V.int 0, V.int v] (-1) = some (.int v)), ?_⟩
      refine ⟨_, rfl, a, CP, dx, _, _, rfl, ha, TP.cl, TP.nSums, psf_sums, _, rfl, ul, _, _, _, rfl, rfl, SqL.of hu, (rfl : atI [V.int 0, V.int v] ((0 : Nat) : Int) = some (.int 0)), _, _, rfl, rfl, _, _, rfl, rfl, cm0 (by omega) (by omega), _, _, rfl, rfl, sz2, fun t2 ht2 => ?_⟩
      dsimp only at ht2 ⊢
      rw [Int.zero_mul, Int.add_zero]
      exact k _ _ (s1.trans (Same.new ht2)) upd_same
    · refine ⟨sl, _, _, 1, .int q', rfl, rfl, SqL.of hs, rfl, rfl, rfl, beq_self_eq_true _, fun m z' hm hz => ?_, ?_⟩
      · have : m = 0 := by omega
        subst this
        cases hz
        exact beq_eq_false_iff_ne.mpr e
      refine ⟨_, rfl, a, CP, dx, _, _, rfl, ha, TP.cl, TP.nStates, psf_states, _, rfl, sl, _, _, _, rfl, rfl, SqL.of hs, (rfl : atI [V.int q, V.int q'] 1 = some (.int q')), ?_⟩
      refine ⟨_, rfl, a, CP, dx, _, _, rfl, ha, TP.cl, TP.nSums, psf_sums, _, rfl, ul, _, _, _, rfl, rfl, SqL.of hu, (rfl : atI [V.int 0, V.int v] 1 = some (.int v)), ?_⟩
      refine ⟨_, rfl, _, rfl, a, CP, dx, _, _, rfl, ha, TP.cl, TP.nSums, psf_sums, _, rfl, ul, _, _, _, rfl, rfl, SqL.of hu, (rfl : atI [V.int 0, V.int v] (-1) = some (.int v)), ?_⟩
      refine ⟨_, rfl, a, CP, dx, _, _, rfl, ha, TP.cl, TP.nSums, psf_sums, _, rfl, ul, _, _, _, rfl, rfl, SqL.of hu, (rfl : atI [V.int 0, V.int v] ((1 : Nat) : Int) = some (.int v)), _, _, rfl, rfl, _, _, rfl, rfl, cm0 (by omega) (by omega), _, _, rfl, rfl, sz2, fun t2 ht2 => ?_⟩
      dsimp only at ht2 ⊢
      rw [Int.zero_mul, Int.add_zero]
      exact k _ _ (s1.trans (Same.new ht2)) upd_same
def hit (row : List En) (q : Nat) (e : En) : Int := if nxt row q e = row.length then 1 else 0
def spOnce (w : World) (CK : Addr) : Sp := fun vs H Q _ => ∃ (v u : V) (row : List En) (q : Nat) (e : En), vs = [v, .int (q : Nat), u] ∧ WkAt w CK H v row ∧ q ≤ row.length ∧ EAt H u e ∧ ∀ t H', Same H H' → H' t = some (.tup [.int ((nxt row q e : Nat) : Int), .int (hit row q e)]) → Q (.ref t) H'
theorem sc_WalkOnce : FnScope ["self", "state", "unit", "later"] ["self", "state", "unit"] (defScope sWalkOnce) := ⟨rfl, rfl, rfl, by decide +kernel, rfl, by decide +kernel, by decide +kernel⟩
theorem ok_Once (D : DefM K CK "once" "Walk.once" sWalkOnce ["self", "state", "unit"] f fd) (B : Blt mg) (T : PCl K C) {fI : Addr} {fdI : FuncData} (TK : WkC K mg CK fI fdI) {fN : Addr} {fdN : FuncData}
    (DNextState : DefM K CK "next_state" "Walk.next_state" sWalkNextState ["self", "state", "entry"] fN fdN) (GNextState : FnOk P w K mg base CX0 1 fN fdN ["self", "state", "entry"] (spNextState w CK)) : FnOk P w K mg base CX0 2 f fd ["self", "state", "unit"] (spOnce w CK) := by
  refine D.fn.ok sc_WalkOnce (fun vs H Q E h => ?_) (fun cdv A outer s H vs Q E hr h => ?_)
  · obtain ⟨v, u, row, q, e, rfl, _⟩ := h; rfl
  · obtain ⟨v, u, row, q, e, rfl, hw, hq, he, k⟩ := h
    refine ⟨_, (pss_cons (ps_if (pt_val (pe_callB call_isi (by rfl) B.isi PyProof.Rows.boot_isinstance (pa_cons (pv 2) (pa_cons (pe_bltn (v := .ty "tuple") (by rfl) B.tuple PyProof.Rows.boot_tuple rfl) pa_nil)))) (pss_cons (ps_set (i := 3) sc_WalkOnce.nd rfl (.inl rfl) (pe_meth (pv 0) TK.cl DNextState.mt GNextState (hr.mono (by first | decide | omega)) DNextState.bd .nil pass0 (pa_cons (pv 1) (pa_cons (pv 2) pa_nil)))) (pss_one (ps_ret (pe_tup (pa_cons (pv 3) (pa_cons (pe_callTy call_int1 (by rfl) B.int PyProof.Rows.boot_int (pa_cons (pe_cmpR op_eq (pv 3) (pe_fld (pv 0) rfl) (nomark _)) pa_nil)) pa_nil)))))) pss_nil) pss_never), ?_⟩
    obtain ⟨t, ty, kit⟩ := (show UAt C H u (.e e) from he).ty T
    obtain ⟨a, dx, ml, kd, ms, rfl, ha, _⟩ := hw.obj
    refine ⟨_, rfl, _, _, _, _, _, rfl, ClsV.ty _, ty, kit, _, rfl, iteT ?_⟩
    refine ⟨_, rfl, a, dx, _, rfl, ha, wkf_no1, _, rfl, _, rfl, .ref a, u, row, q, e, rfl, hw, hq, he, ?_⟩
    refine ⟨_, rfl, _, rfl, _, rfl, a, CK, dx, _, _, rfl, ha, TK.cl, TK.nCounted, wkf_counted, rfl, .inr ⟨_, rfl, sz2, fun t2 ht2 => ?_⟩⟩
    have eh : (if decide (V.int ((nxt row q e : Nat) : Int) = V.int ((row.length : Nat) : Int)) = true then (1 : Int) else 0) = hit row q e := by
      unfold hit
      by_cases z : nxt row q e = row.length
      · rw [if_pos z, if_pos (decide_eq_true (by rw [z]))]
      · rw [if_neg z, if_neg (fun p => z (by have := V.int.inj (of_decide_eq_true p); omega))]
    refine k t2 _ (Same.new ht2) ?_
    rw [← eh]
    exact upd_same
end
end Wd
set_option Elab.async false
set_option linter.all false
set_option maxRecDepth 100000
set_option maxHeartbeats 4000000
set_option exponentiation.threshold 100000
namespace Wd
open PySem L2
/-- no products: all is entries, one by one -/
def Flat (us : Us En) : Prop := ∀ m, Vis 0 0 us m
theorem Flat.head {u : Un En} {t : Nat} {us : Us En} (h : Flat ((u, t) :: us)) (g : Gd ((u, t) :: us)) (ht : 1 ≤ t) (ho : u.isE = true ∨ 2 ≤ t) : ∃ e, u = .e e ∧ t = 1 := by
  cases u with
  | e x =>
    have h1 : t ≤ 1 := g.2.2.2.1 rfl
    exact ⟨x, rfl, by omega⟩
  | p q =>
    rcases ho with z | z
    · cases z
    · have := (h 1).1 (by decide)
      have h2 := this.2.1
      rw [Un.lv_two q z] at h2
      omega
theorem Flat.gone {e : En} {us : Us En} (h : Flat ((.e e, 1) :: us)) : Flat ((.e e, 0) :: us) := fun m => by
  refine ⟨fun hm => ⟨Nat.le_refl _, Nat.le_refl _, fun _ => Nat.le_refl _⟩, ?_⟩
  have := (h (m + 1)).2
  have e1 : m + 1 - 1 * (Un.e e).w = m := by show m + 1 - 1 * 1 = m; omega
  rw [e1] at this
  rw [Nat.zero_mul, Nat.sub_zero]
  exact this
section
variable {P : Program} {w : World} {K : PySem.W.Frag} {mg : Str → Option Value} {base : Heap} {f C CW CM CK CP : Addr} {fd : FuncData} {H : Hp}
def spPassages (w : World) (CK CP : Addr) : Sp := fun vs H Q _ => ∃ (v u : V) (row : List En) (q : Nat) (e : En), vs = [v, .int (q : Nat), u, .int 1] ∧ WkAt w CK H v row ∧ q ≤ row.length ∧ EAt H u e ∧
  ∀ p H', Same H H' → PsAt CP H H' p [.int (q : Nat), .int ((nxt row q e : Nat) : Int)] [.int 0, .int (hit row q e)] → Q (.ref p) H'
theorem sc_WalkPassages : FnScope ["self", "state", "unit", "times", "found", "later", "more"] ["self", "state", "unit", "times"] (defScope sWalkPassages) := ⟨rfl, rfl, rfl, by decide +kernel, rfl, by decide +kernel, by decide +kernel⟩
theorem ok_Passages (D : DefM K CK "passages" "Walk.passages" sWalkPassages ["self", "state", "unit", "times"] f fd) {fI fI2 : Addr} {fdI fdI2 : FuncData} (TK : WkC K mg CK fI fdI) (TP : PsC K mg CP fI2 fdI2) (GPsg : FnOk P w K mg base CX0 1 fI2 fdI2 ["self", "state"] (spPassagesInit CP))
    {fO fN fDn fRe : Addr} {fdO fdN fdDn fdRe : FuncData} (DOnce : DefM K CK "once" "Walk.once" sWalkOnce ["self", "state", "unit"] fO fdO) (GOnce : FnOk P w K mg base CX0 2 fO fdO ["self", "state", "unit"] (spOnce w CK))
    (DNote : DefM K CP "note" "Passages.note" sPassagesNote ["self", "state", "visits"] fN fdN) (GNote : FnOk P w K mg base CX0 1 fN fdN ["self", "state", "visits"] (spNote CP))
    (DDone : DefM K CP "done" "Passages.done" sPassagesDone ["self"] fDn fdDn) (GDone : FnOk P w K mg base CX0 1 fDn fdDn ["self"] (spDone CP))
    (DReturns : DefM K CP "returns" "Passages.returns" sPassagesReturns ["self"] fRe fdRe) (GReturns : FnOk P w K mg base CX0 1 fRe fdRe ["self"] (spReturns CP)) : FnOk P w K mg base CX0 3 f fd ["self", "state", "unit", "times"] (spPassages w CK CP) := by
  refine D.fn.ok sc_WalkPassages (fun vs H Q E h => ?_) (fun cdv A outer s H vs Q E hr h => ?_)
  · obtain ⟨v, u, row, q, e, rfl, _⟩ := h; rfl
  · obtain ⟨v, u, row, q, e, rfl, hw, hq, he, k⟩ := h
    refine ⟨_, (pss_cons (ps_set (i := 4) sc_WalkPassages.nd rfl (.inl rfl) (pe_make TP.mkr GPsg (hr.mono (by first | decide | omega)) rfl TP.gl TP.b .nil pass0 (pa_cons (pv 1) pa_nil))) (pss_cons (ps_while PassesOwn.never (PW.pt (pw_and (pt_cmpR op_lt (pe_meth0 (pv 4) TP.cl DDone.mt GDone (hr.mono (by first | decide | omega)) DDone.bd .nil pass0) (pv 3) (nomark _)) (pw_and1 (pt_not (pt_val (pe_meth0 (pv 4) TP.cl DReturns.mt GReturns (hr.mono (by first | decide | omega)) DReturns.bd .nil pass0)))))) (pss_cons (ps_asg (pe_meth (pv 0) TK.cl DOnce.mt GOnce (hr.mono (by first | decide | omega)) DOnce.bd .nil pass0 (pa_cons (pe_ix ix_list (pe_fld (pv 4) rfl) (pe_un un_neg pe_int) (fun _ _ => rfl)) (pa_cons (pv 2) pa_nil))) (pg_tup rfl (pgs_cons (pg_name (i := 5) sc_WalkPassages.nd rfl (.inl rfl)) (pgs_cons (pg_name (i := 6) sc_WalkPassages.nd rfl (.inl rfl)) pgs_nil)))) (pss_one (ps_expr (pe_meth (pv 4) TP.cl DNote.mt GNote (hr.mono (by first | decide | omega)) DNote.bd .nil pass0 (pa_cons (pv 5) (pa_cons (pv 6) pa_nil))))))) (pss_one (ps_ret (pv 4))))), ?_⟩
    refine ⟨_, rfl, fun p dx hp hd hne => ⟨p, dx, .int (q : Nat), rfl, upd_same, fun H1 sl ul h1 h2 hn hp1 hs1 hu1 sb => ⟨rfl, ?_⟩⟩⟩
    have s1 : Same H H1 := fun b o z => sb b o (fun y => by rw [y, hp] at z; cases z) (by rw [upd_ne (fun y => by rw [y, hp] at z; cases z), upd_ne (fun y => by rw [y, hd] at z; cases z)]; exact z)
    have g1 : H sl = none := by
      have a : sl ≠ p := fun y => by rw [y, upd_same] at h1; cases h1
      have b : sl ≠ dx := fun y => by rw [y, upd_ne hne, upd_same] at h1; cases h1
      rw [upd_ne a, upd_ne b] at h1; exact h1
    have g2 : H ul = none := by
      have a : ul ≠ p := fun y => by rw [y, upd_same] at h2; cases h2
      have b : ul ≠ dx := fun y => by rw [y, upd_ne hne, upd_same] at h2; cases h2
      rw [upd_ne a, upd_ne b] at h2; exact h2
    have ps1 : PsAt CP H H1 p [.int (q : Nat)] [.int 0] := ⟨⟨dx, sl, ul, hp1, hs1, hu1, hn, g1, g2⟩, s1⟩
    refine ⟨fun m σ H' => (m = 1 ∧ ∃ o5 o6, σ = [some v, some (.int (q : Nat)), some u, some (.int 1), some (.ref p), o5, o6] ∧ PsAt CP H H' p [.int (q : Nat)] [.int 0]) ∨
      (m = 0 ∧ ∃ o5 o6, σ = [some v, some (.int (q : Nat)), some u, some (.int 1), some (.ref p), o5, o6] ∧ PsAt CP H H' p [.int (q : Nat), .int ((nxt row q e : Nat) : Int)] [.int 0, .int (hit row q e)]), ⟨1, .inl ⟨rfl, _, _, rfl, ps1⟩⟩, ?_⟩
    rintro m σ H2 (⟨rfl, o5, o6, rfl, ps⟩ | ⟨rfl, o5, o6, rfl, ps⟩)
    · obtain ⟨dx2, sl2, ul2, ha2, _⟩ := ps.obj
      refine ⟨_, rfl, p, dx2, _, rfl, ha2, psf_no2, p, H, _, _, rfl, ps, (show 1 ≤ 1000 by decide), _, rfl, _, _, rfl, rfl, _, rfl, ?_⟩
      refine iteT ⟨_, rfl, p, dx2, _, rfl, ha2, psf_no3, p, H, _, _, rfl, ps, fun H3 s3 => ⟨_, rfl, iteM ⟨_, fun _ _ z => z, ?_⟩⟩⟩
      have ps3 := ps.mono s3
      have wk3 := hw.mono ps3.same
      have he3 := EAt.mono ps3.same he
      obtain ⟨dx3, sl3, ul3, ha3, hs3, hu3, _⟩ := ps3.obj
      obtain ⟨a, dxk, ml, kd, ms, rfl, hak, _⟩ := wk3.obj
      refine ⟨_, rfl, a, dxk, _, rfl, hak, wkf_no2, _, rfl, p, CP, dx3, _, _, rfl, ha3, TP.cl, TP.nStates, psf_states, _, rfl, sl3, _, _, _, rfl, rfl, SqL.of hs3, rfl, _, rfl, .ref a, u, row, q, e, rfl, wk3, hq, he3, fun t H4 s4 ht => ?_⟩
      refine ⟨t, _, rfl, SqT.of ht, rfl, _, _, rfl, _, _, rfl, rfl, ?_⟩
      have ps4 := ps3.mono s4
      refine ⟨_, rfl, p, dx3, _, rfl, s4 _ _ ha3, psf_no1, _, rfl, _, rfl, p, H, _, _, _, rfl, ps4, fun H5 ps5 => ?_⟩
      exact ⟨0, by decide, .inr ⟨rfl, _, _, rfl, ps5⟩⟩
    · obtain ⟨dx2, sl2, ul2, ha2, _⟩ := ps.obj
      refine ⟨_, rfl, p, dx2, _, rfl, ha2, psf_no2, p, H, _, _, rfl, ps, (show 2 ≤ 1000 by decide), _, rfl, _, _, rfl, rfl, _, rfl, ?_⟩
      refine iteF ?_
      exact ⟨_, rfl, k p H2 ps.same ps⟩
def spGoFrom (w : World) (C CK : Addr) : Sp := fun vs H Q _ => ∃ (v vu : V) (row : List En) (q many : Nat) (us : Us En), vs = [v, .int (q : Nat), vu, .int (many : Nat)] ∧ WkAt w CK H v row ∧ q ≤ row.length ∧ UsAt C H vu us ∧ Gd us ∧ Flat us ∧ many ≤ (den us).length ∧
  ∀ t H', Same H H' → H' t = some (.tup [.int ((runA row q ((den us).take many) : Nat) : Int), .int ((visA row q ((den us).take many) : Nat) : Int)]) → Q (.ref t) H'
theorem hit_le (row : List En) (q : Nat) (e : En) : 0 ≤ hit row q e ∧ hit row q e ≤ 1 := by
  unfold hit
  split <;> exact ⟨by decide, by decide⟩
theorem run_le {row : List En} : ∀ {q : Nat} (es : List En), q ≤ row.length → runA row q es ≤ row.length
  | q, [], h => h
  | q, e :: es, h => run_le (q := nxt row q e) es (mtc_le _ _)
theorem sc_WalkGoFrom : FnScope ["self", "state", "units", "many", "visits", "unit", "times", "rest", "whole", "more"] ["self", "state", "units", "many"] (defScope sWalkGoFrom) := ⟨rfl, rfl, rfl, by decide +kernel, rfl, by decide +kernel, by decide +kernel⟩
theorem ok_GoFrom (D : DefM K CK "go_from" "Walk.go_from" sWalkGoFrom ["self", "state", "units", "many"] f fd) (B : Blt mg) (T : PCl K C) {fI : Addr} {fdI : FuncData} (TK : WkC K mg CK fI fdI)
    {fF fW fPa fEn : Addr} {fdF fdW fdPa fdEn : FuncData} (DFirstUnit : DefF K mg "first_unit" sFirstUnit ["units"] fF fdF) (GFirstUnit : FnOk P w K mg base CX0 2 fF fdF ["units"] (spFirstUnit C))
    (DWidth : DefF K mg "width" sWidth ["unit"] fW fdW) (GWidth : FnOk P w K mg base CX0 1 fW fdW ["unit"] (spWidth C))
    (DPassages : DefM K CK "passages" "Walk.passages" sWalkPassages ["self", "state", "unit", "times"] fPa fdPa) (GPassages : FnOk P w K mg base CX0 3 fPa fdPa ["self", "state", "unit", "times"] (spPassages w CK CP))
    {fI2 : Addr} {fdI2 : FuncData} (TP : PsC K mg CP fI2 fdI2) (DEnd : DefM K CP "end" "Passages.end" sPassagesEnd ["self", "times"] fEn fdEn) (GEnd : FnOk P w K mg base CX0 3 fEn fdEn ["self", "times"] (spEnd CP)) : FnOk P w K mg base CX0 4 f fd ["self", "state", "units", "many"] (spGoFrom w C CK) := by
  refine D.fn.ok sc_WalkGoFrom (fun vs H Q E h => ?_) (fun cdv A outer s H vs Q E hr h => ?_)
  · obtain ⟨v, vu, row, q, many, us, rfl, _⟩ := h; rfl
  · obtain ⟨v, vu, row, q, many, us, rfl, hw, hq, hu, hg, hf, hm, k⟩ := h
    refine ⟨_, (pss_cons (ps_set (i := 4) sc_WalkGoFrom.nd rfl (.inl rfl) pe_int) (pss_cons (ps_while PassesOwn.never (pt_cmpR op_gt (pv 3) pe_int (nomark _)) (pss_cons (ps_asg (pe_call GFirstUnit (hr.mono (by first | decide | omega)) rfl DFirstUnit.gl DFirstUnit.fn.kp DFirstUnit.bd .nil pass0 (pa_cons (pv 2) pa_nil)) (pg_tup rfl (pgs_cons (pg_name (i := 5) sc_WalkGoFrom.nd rfl (.inl rfl)) (pgs_cons (pg_name (i := 6) sc_WalkGoFrom.nd rfl (.inl rfl)) (pgs_cons (pg_name (i := 7) sc_WalkGoFrom.nd rfl (.inl rfl)) pgs_nil))))) (pss_cons (ps_set (i := 8) sc_WalkGoFrom.nd rfl (.inl rfl) (pe_callB (call_min2 rfl) (by rfl) B.min PyProof.Rows.boot_min (pa_cons (pv 6) (pa_cons (pe_op op_fdivW (pv 3) (pe_call GWidth (hr.mono (by first | decide | omega)) rfl DWidth.gl DWidth.fn.kp DWidth.bd .nil pass0 (pa_cons (pv 5) pa_nil))) pa_nil)))) (pss_one (ps_if (pt_cmpR op_eq (pv 8) pe_int (nomark _)) (pss_one ps_never) (pss_cons (ps_asg (pe_meth (pe_meth (pv 0) TK.cl DPassages.mt GPassages (hr.mono (by first | decide | omega)) DPassages.bd .nil pass0 (pa_cons (pv 1) (pa_cons (pv 5) (pa_cons (pv 8) pa_nil)))) TP.cl DEnd.mt GEnd (hr.mono (by first | decide | omega)) DEnd.bd .nil pass0 (pa_cons (pv 8) pa_nil)) (pg_tup rfl (pgs_cons (pg_name (i := 1) sc_WalkGoFrom.nd rfl (.inl rfl)) (pgs_cons (pg_name (i := 9) sc_WalkGoFrom.nd rfl (.inl rfl)) pgs_nil)))) (pss_cons (ps_aug (i := 4) sc_WalkGoFrom.nd rfl (.inl rfl) (pv 9) ip_add) (pss_cons (ps_aug (i := 3) sc_WalkGoFrom.nd rfl (.inl rfl) (pe_op op_mulW (pv 8) (pe_call GWidth (hr.mono (by first | decide | omega)) rfl DWidth.gl DWidth.fn.kp DWidth.bd .nil pass0 (pa_cons (pv 5) pa_nil))) ip_sub) (pss_one (ps_set (i := 2) sc_WalkGoFrom.nd rfl (.inl rfl) (pe_tup (pa_cons (pv 5) (pa_cons (pe_op op_sub (pv 6) (pv 8)) (pa_cons (pv 7) pa_nil)))))))))))))) (pss_one (ps_ret (pe_tup (pa_cons (pv 1) (pa_cons (pv 4) pa_nil))))))), ?_⟩
    refine ⟨fun m σ H' => ∃ (j : Nat) (v' : V) (us' : Us En) (i : Int) (o5 o6 o7 o8 o9 : Option V), σ = [some v, some (.int ((runA row q ((den us).take j) : Nat) : Int)), some v', some (.int i), some (.int ((visA row q ((den us).take j) : Nat) : Int)), o5, o6, o7, o8, o9] ∧ i = ((many - j : Nat) : Int) ∧ j ≤ many ∧ m = many - j ∧ Same H H' ∧
      UsAt C H' v' us' ∧ den us' = (den us).drop j ∧ Gd us' ∧ Flat us', ⟨many, 0, vu, us, _, none, none, none, none, none, rfl, rfl, Nat.zero_le _, rfl, Same.refl H, hu, rfl, hg, hf⟩, ?_⟩
    rintro m σ H1 ⟨j, v', us', i, o5, o6, o7, o8, o9, rfl, rfl, hj, rfl, s1, hu1, hd1, hg1, hf1⟩
    refine ⟨_, rfl, _, _, rfl, rfl, _, rfl, ?_⟩
    refine ite2 (fun h => ?_) (fun h => ?_)
    · have hlt : j < many := by have := of_decide_eq_true h; omega
      refine ⟨_, fun _ _ z => z, ?_⟩
      refine ⟨_, rfl, v', us', rfl, hu1, fun v2 H2 us2 s2 hu2 kp hd th => ?_⟩
      have hd2 : den us2 = (den us).drop j := by rw [kp.1, hd1]
      have hg2 := kp.2.2 hg1
      have hf2 : Flat us2 := fun m => kp.2.1 _ _ _ (hf1 m)
      have l2 := congrArg List.length hd2
      rw [List.length_drop] at l2
      cases hu2 with
      | nil => exact absurd l2 (by show ¬ (0 = _); omega)
      | @cons c vx vr u t r hc hux hur =>
      have ht : 1 ≤ t ∧ (u.isE = true ∨ 2 ≤ t) := by
        rcases hd with z | ⟨_, _, _, z, a, b⟩
        · cases z
        · cases z; exact ⟨a, b⟩
      obtain ⟨e, rfl, rfl⟩ := hf2.head hg2 ht.1 ht.2
      have he : EAt H2 vx e := hux
      have hde : den ((.e e, 1) :: r : Us En) = e :: den r := by rw [den_cons, rpt_one]; rfl
      rw [hde] at hd2
      refine ⟨c, _, rfl, SqT.of hc, rfl, _, _, rfl, _, _, rfl, _, _, rfl, rfl, ?_⟩
      have s12 := s1.trans s2
      refine ⟨_, rfl, _, rfl, _, rfl, vx, .e e, rfl, hux, _, _, rfl, rfl, ?_⟩
      have hone : ((Un.e e : Un En).w : Nat) = 1 := rfl
      refine ⟨(show CDivW _ 1 from ⟨by decide, by decide +kernel⟩), _, _, rfl, ?_⟩
      have hmin : (if (((many - j : Nat) : Int) / (((Un.e e : Un En).w : Nat) : Int)) < (((1 : Nat) : Int)) then (((many - j : Nat) : Int) / (((Un.e e : Un En).w : Nat) : Int)) else (((1 : Nat) : Int))) = 1 := by
        rw [hone]
        have : ((many - j : Nat) : Int) / ((1 : Nat) : Int) = ((many - j : Nat) : Int) := Int.ediv_one _
        rw [this, if_neg (by omega)]; rfl
      dsimp only at hmin ⊢
      rw [hmin]
      refine ⟨_, rfl, rfl, _, rfl, ?_⟩
      refine iteF ?_
      have hqj : runA row q ((den us).take j) ≤ row.length := run_le _ hq
      have wk2 := hw.mono s12
      obtain ⟨a, dx, ml, kd, ms, rfl, ha, _⟩ := id wk2.obj
      refine ⟨_, rfl, a, dx, _, rfl, ha, wkf_no3, _, rfl, _, rfl, _, rfl, .ref a, vx, row, _, e, rfl, wk2, hqj, he, fun p H3 s3 ps => ?_⟩
      obtain ⟨dxp, sl, ul, hp, _⟩ := ps.obj
      have hl := hit_le row (runA row q ((den us).take j)) e
      refine ⟨p, dxp, _, rfl, hp, psf_no5, _, rfl, p, H2, _, _, _, rfl, ps, hl.1, hl.2, fun t2 H4 s4 ht2 => ?_⟩
      refine ⟨t2, _, rfl, SqT.of ht2, rfl, _, _, rfl, _, _, rfl, rfl, ?_⟩
      have s24 := s3.trans s4
      have hc4 := s24 _ _ hc
      have hu4 : UAt C H4 vx (.e e) := EAt.mono s24 he
      have hr4 := UsAt.mono s24 hur
      refine ⟨_, rfl, _, rfl, _, _, rfl, rfl, ?_⟩
      refine ⟨_, rfl, _, rfl, _, rfl, vx, .e e, rfl, hu4, _, _, rfl, rfl, (show CMulW 1 1 from wide_mul (a := 64) (b := 64) (by decide) (by decide) (by decide) (by decide) (by decide)), _, _, rfl, rfl, ?_⟩
      refine ⟨_, rfl, _, rfl, _, rfl, _, _, rfl, rfl, _, rfl, three_line, fun t5 ht5 => ?_⟩
      have s5 := Same.new (o := .tup [vx, .int (((1 : Nat) : Int) - 1), vr]) ht5
      have s25 := s24.trans s5
      have htk : (den us).take (j + 1) = (den us).take j ++ [e] := by
        rw [List.take_succ, ← List.head?_drop, ← hd2]; rfl
      have hrun : runA row q ((den us).take (j + 1)) = nxt row (runA row q ((den us).take j)) e := by rw [htk, runA_app]; rfl
      have hvis : ((visA row q ((den us).take (j + 1)) : Nat) : Int) = ((visA row q ((den us).take j) : Nat) : Int) + hit row (runA row q ((den us).take j)) e := by
        rw [htk, visA_app]
        show ((_ + ((if nxt row (runA row q ((den us).take j)) e = row.length then 1 else 0) + 0) : Nat) : Int) = _
        unfold hit
        split <;> omega
      refine ⟨many - (j + 1), by omega, j + 1, .ref t5, (.e e, 0) :: r, ((many - (j + 1) : Nat) : Int), some vx, some (.int ((1 : Nat) : Int)), some vr, some (.int 1), some (.int (hit row (runA row q ((den us).take j)) e)), ?_, rfl, by omega, rfl, s12.trans s25, .cons (t := 0) upd_same (EAt.mono s5 hu4) (UsAt.mono s5 hr4), ?_, ?_, ?_⟩
      · rw [hrun, hvis]
        rw [show ((many - (j + 1) : Nat) : Int) = ((many - j : Nat) : Int) - 1 * (((Un.e e : Un En).w : Nat) : Int) by rw [hone]; omega]
        rfl
      · rw [den_cons, rpt_zero, List.nil_append]
        have := congrArg List.tail hd2
        rw [List.tail_drop] at this
        exact this
      · exact Gd.less (j := 1) hg2
      · exact hf2.gone
    · have e : j = many := by
        have z : ¬ (((many - j : Nat) : Int) > 0) := fun z => h (decide_eq_true z)
        omega
      subst e
      refine ⟨_, rfl, _, rfl, sz2, fun t ht => ?_⟩
      exact k t _ (s1.trans (Same.new ht)) upd_same
end
end Wd
set_option Elab.async false
set_option linter.all false
set_option maxRecDepth 100000
set_option maxHeartbeats 4000000
set_option exponentiation.threshold 100000
namespace Wd
open PySem L2
section
variable {P : Program} {w : World} {K : PySem.W.Frag} {mg : Str → Option Value} {base : Heap} {f C CW CM CK CP : Addr} {fd : FuncData} {H : Hp}
theorem sc_CheckNumber : FnScope ["number", "least", "most"] ["number", "least", "most"] (defScope sCheckNumber) := ⟨rfl, rfl, rfl, by decide +kernel, rfl, by decide +kernel, by decide +kernel⟩
theorem ok_CheckNumber (D : DefF K mg "check_number" sCheckNumber ["number", "least", "most"] f fd) {fI : Addr} {fdI : FuncData} (DIsBetween : DefF K mg "is_between" sIsBetween ["thing", "least", "most"] fI fdI) (GIsBetween : FnOk P w K mg base CX0 2 fI fdI ["thing", "least", "most"] spIsBetween) :
    FnOk P w K mg base CX0 3 f fd ["number", "least", "most"] spCheckIndex := by
  refine D.fn.ok sc_CheckNumber (fun vs H Q E h => ?_) (fun cdv A outer s H vs Q E hr h => ?_)
  · obtain ⟨i, a, b, rfl, _⟩ := h; rfl
  · obtain ⟨i, a, b, rfl, h1, h2, k⟩ := h
    refine ⟨_, (pss_one (ps_if (pt_not (pt_val (pe_call GIsBetween (hr.mono (by first | decide | omega)) rfl DIsBetween.gl DIsBetween.fn.kp DIsBetween.bd .nil pass0 (pa_cons (pv 0) (pa_cons (pv 1) (pa_cons (pv 2) pa_nil)))))) (pss_one ps_never) pss_nil)), ?_⟩
    refine ⟨_, rfl, _, rfl, _, rfl, i, a, b, rfl, ?_⟩
    rw [decide_eq_true h1, decide_eq_true h2]
    exact ⟨_, rfl, iteN k⟩
def spCheckRow : Sp := fun vs H Q _ => ∃ (a : Addr) (row : List En), vs = [.ref a] ∧ LAt0 H a row ∧ 1 ≤ row.length ∧ row.length ≤ 8 ∧ (∀ e ∈ row, e.good = true) ∧ ∀ H', Same H H' → Q .non H'
theorem sc_CheckRow : FnScope ["row", "entry"] ["row"] (defScope sCheckRow) := ⟨rfl, rfl, rfl, by decide +kernel, rfl, by decide +kernel, by decide +kernel⟩
theorem ok_CheckRow (D : DefF K mg "check_row" sCheckRow ["row"] f fd) (B : Blt mg) {fE : Addr} {fdE : FuncData} (DIsEntry : DefF K mg "is_entry" sIsEntry ["thing"] fE fdE) (GIsEntry : FnOk P w K mg base CX0 2 fE fdE ["thing"] spIsEntry)
    {tR : Tok} (mRow : mg "MOST_ROW" = some (.int 8 tR)) : FnOk P w K mg base CX0 3 f fd ["row"] spCheckRow := by
  refine D.fn.ok sc_CheckRow (fun vs H Q E h => ?_) (fun cdv A outer s H vs Q E hr h => ?_)
  · obtain ⟨a, row, rfl, _⟩ := h; rfl
  · obtain ⟨a, row, rfl, ⟨xs, ha, px⟩, h1, h8, hg, k⟩ := h
    refine ⟨_, (pss_one (ps_if (PW.pt (pw_or (pt_not (pt_val (pe_callB call_isi (by rfl) B.isi PyProof.Rows.boot_isinstance (pa_cons (pv 0) (pa_cons (pe_bltn (v := .ty "list") (by rfl) B.list PyProof.Rows.boot_list rfl) pa_nil))))) (pw_or (pt_not (pt_chain op_le op_le pe_int (pe_callB call_len_seq (by rfl) B.len PySem.boot_len (pa_cons (pv 0) pa_nil)) (pe_glob (v := .int 8) rfl mRow ⟨_, rfl⟩))) (pw_or1 (pt_not (pt_val (pe_callB (cr_all rfl) (by rfl) B.all PyProof.Rows.boot_all (pa_cons (pe_lc (own := [("entry", 1)]) (g := gName 1) (tt := tYes) rfl sc_CheckRow.nd (pi_list (pv 0)) (blkOk_by (N := ["row", "entry"]) (sc := defScope sCheckRow) (by decide +kernel)) (fun _ _ _ _ _ => pg_name (i := 1) sc_CheckRow.nd rfl (Or.inl rfl)) (fun _ _ _ _ _ => pts_nil) (fun _ _ _ _ _ => (pe_call GIsEntry (hr.mono (by first | decide | omega)) rfl DIsEntry.gl DIsEntry.fn.kp DIsEntry.bd .nil pass0 (pa_cons (pv 1) pa_nil)))) pa_nil)))))))) (pss_one ps_never) pss_nil)), ?_⟩
    have szl : (1000000 : Nat) ≤ sizeLine := by rw [sizeLine_eq]; decide
    have lx := Paired.len px
    refine ⟨_, rfl, _, _, _, _, true, rfl, ClsV.ty _, .base (.lst ha), kit_ty (by decide +kernel), _, rfl, iteF ?_⟩
    refine ⟨_, rfl, a, xs, rfl, .inl (SqL.of ha), _, _, rfl, rfl, _, rfl, ?_⟩
    rw [decide_eq_true (show (1 : Int) ≤ ((xs.length : Nat) : Int) by omega)]
    refine iteT ⟨_, _, rfl, rfl, _, rfl, ?_⟩
    rw [decide_eq_true (show ((xs.length : Nat) : Int) ≤ 8 by omega)]
    refine iteF ?_
    refine ⟨_, rfl, a, rfl, ⟨xs, SqL.of ha⟩, fun Dd hDd => lc_list (xs := xs) (fun i H' => Same H H' ∧ H' Dd = some (.lst (List.replicate i (.bl true)))) ⟨Same.new hDd, upd_same⟩ (fun i H' _ h => SqL.of (h.1 _ _ ha)) ?_ ?_⟩
    · rintro i x H' hx ⟨s1, hD'⟩
      obtain ⟨e, he, hxe⟩ := Paired.at_ px hx
      have hlt : i < xs.length := (List.getElem?_eq_some_iff.mp hx).1
      refine ⟨rfl, ?_⟩
      unfold tYes
      refine iteT ⟨_, rfl, x, e, rfl, hxe.mono s1, hg e (List.mem_of_getElem? he), fun H2 s2 => ⟨_, s2 _ _ hD', by rw [List.length_replicate]; omega, ?_⟩⟩
      rw [← List.replicate_succ']
      exact ⟨fun b o z => by rw [upd_ne (fun q => by rw [q, hDd] at z; cases z)]; exact s2 _ _ (s1 _ _ z), upd_same⟩
    · rintro H1 ⟨s1, hD'⟩
      refine ⟨Dd, List.replicate xs.length true, rfl, SqL.of (by rw [List.map_replicate]; exact hD'), ?_⟩
      rw [show (List.replicate xs.length true).all id = true by rw [List.all_replicate]; simp]
      exact ⟨_, rfl, iteN (k _ s1)⟩
def spCountRow (C CW : Addr) : Sp := fun vs H Q _ => ∃ (v : V) (p : Pt En) (c m : Nat) (a : Addr) (row : List En), vs = [v, .ref a, .int (m : Nat)] ∧ WAt C CW H v p 0 c ∧ LAt0 H a row ∧ 1 ≤ row.length ∧ row.length ≤ 8 ∧ (∀ e ∈ row, e.good = true) ∧ m ≤ p.den.length ∧ 0 < p.den.length ∧
  ∀ H', Same H H' → Q (.int ((visA row 0 (p.den.take m) : Nat) : Int)) H'
theorem sc_CountRow : FnScope ["word", "row", "end"] ["word", "row", "end"] (defScope sCountRow) := ⟨rfl, rfl, rfl, by decide +kernel, rfl, by decide +kernel, by decide +kernel⟩
theorem ok_CountRow (D : DefF K mg "count_row" sCountRow ["word", "row", "end"] f fd) {fWI : Addr} {fdWI : FuncData} (TW : WCl K mg CW fWI fdWI) {fI : Addr} {fdI : FuncData} (TK : WkC K mg CK fI fdI)
    {fCR fCN fLe fRW fGo : Addr} {fdCR fdCN fdLe fdRW fdGo : FuncData} (DCheckRow : DefF K mg "check_row" sCheckRow ["row"] fCR fdCR) (GCheckRow : FnOk P w K mg base CX0 3 fCR fdCR ["row"] spCheckRow)
    (DCheckNumber : DefF K mg "check_number" sCheckNumber ["number", "least", "most"] fCN fdCN) (GCheckNumber : FnOk P w K mg base CX0 3 fCN fdCN ["number", "least", "most"] spCheckIndex)
    (DLength : DefM K CW "length" "Word.length" sWordLength ["self"] fLe fdLe) (GLength : FnOk P w K mg base CX0 1 fLe fdLe ["self"] (spWordLength C CW))
    (DRowWalk : DefF K mg "row_walk" sRowWalk ["row"] fRW fdRW) (GRowWalk : FnOk P w K mg base CX0 3 fRW fdRW ["row"] (spRowWalk w CK))
    (DGoFrom : DefM K CK "go_from" "Walk.go_from" sWalkGoFrom ["self", "state", "units", "many"] fGo fdGo) (GGoFrom : FnOk P w K mg base CX0 4 fGo fdGo ["self", "state", "units", "many"] (spGoFrom w C CK)) : FnOk P w K mg base CX0 5 f fd ["word", "row", "end"] (spCountRow C CW) := by
  refine D.fn.ok sc_CountRow (fun vs H Q E h => ?_) (fun cdv A outer s H vs Q E hr h => ?_)
  · obtain ⟨v, p, c, m, a, row, rfl, _⟩ := h; rfl
  · obtain ⟨v, p, c, m, a, row, rfl, ww, hl, h1, h8, hg, hm, hp0, k⟩ := h
    refine ⟨_, (pss_cons (ps_expr (pe_call GCheckRow (hr.mono (by first | decide | omega)) rfl DCheckRow.gl DCheckRow.fn.kp DCheckRow.bd .nil pass0 (pa_cons (pv 1) pa_nil))) (pss_cons (ps_expr (pe_call GCheckNumber (hr.mono (by first | decide | omega)) rfl DCheckNumber.gl DCheckNumber.fn.kp DCheckNumber.bd .nil pass0 (pa_cons (pv 2) (pa_cons pe_int (pa_cons (pe_meth0 (pv 0) TW.cl DLength.mt GLength (hr.mono (by first | decide | omega)) DLength.bd .nil pass0) pa_nil))))) (pss_one (ps_ret (pe_ix ix_tup (pe_meth (pe_call GRowWalk (hr.mono (by first | decide | omega)) rfl DRowWalk.gl DRowWalk.fn.kp DRowWalk.bd .nil pass0 (pa_cons (pv 1) pa_nil)) TK.cl DGoFrom.mt GGoFrom (hr.mono (by first | decide | omega)) DGoFrom.bd .nil pass0 (pa_cons pe_int (pa_cons (pe_tup (pa_cons (pe_fld (pv 0) rfl) (pa_cons pe_int (pa_cons pe_non pa_nil)))) (pa_cons (pv 2) pa_nil)))) pe_int (fun _ _ => rfl)))))), ?_⟩
    obtain ⟨⟨aw, dx, fs, vp, rfl, ha, hf, hp⟩, op, lp, kp, dp⟩ := id ww
    refine ⟨_, rfl, a, row, rfl, hl, h1, h8, hg, fun H1 s1 => ?_⟩
    refine ⟨_, rfl, _, rfl, aw, dx, fs, rfl, s1 _ _ ha, hf.mLength, .ref aw, p, 0, c, rfl, ww.mono s1, _, _, _, rfl, by omega, by omega, ?_⟩
    refine ⟨_, rfl, a, row, rfl, hl.mono s1, h8, fun vk H2 s2 wk => ?_⟩
    obtain ⟨ak, dxk, ml, kd, ms, rfl, hak, _⟩ := id wk.obj
    have s12 := s1.trans s2
    refine ⟨ak, dxk, _, rfl, hak, wkf_no4, _, rfl, aw, CW, dx, _, _, rfl, s12 _ _ ha, TW.cl, TW.nPart, hf.part, three_line, fun t ht => ⟨_, rfl, ?_⟩⟩
    have s3 := Same.new (o := .tup [vp, .int 1, .non]) ht
    have s13 := s12.trans s3
    have hden : den [((.p p, 1) : Un En × Nat)] = p.den := by rw [den_one]; rfl
    have hrk : p.rk = 0 := by omega
    refine ⟨.ref ak, .ref t, row, 0, m, [(.p p, 1)], rfl, wk.mono s3, Nat.zero_le _, .cons (t := 1) upd_same (hp.mono s13) .nil, gd_word op lp hp0, fun mm => by have := vis_one p mm; rw [hrk] at this; exact this, by rw [hden]; exact hm, fun t2 H4 s4 ht2 => ?_⟩
    rw [hden] at ht2
    exact ⟨t2, _, _, _, rfl, rfl, SqT.of ht2, rfl, k _ (s13.trans s4)⟩
end
end Wd
set_option Elab.async false
set_option linter.all false
set_option maxRecDepth 100000
set_option maxHeartbeats 4000000
set_option exponentiation.threshold 100000
namespace Wd
open PySem L2
theorem cm64 {i j : Int} (h0 : 0 ≤ i) (h1 : i < 18446744073709551616) (h2 : 0 ≤ j) (h3 : j < 18446744073709551616) : CMulW i j :=
  wide_mul (a := 64) (b := 64) (by have : (2 : Nat) ^ 64 = 18446744073709551616 := by decide
                                   omega) (by have : (2 : Nat) ^ 64 = 18446744073709551616 := by decide
                                              omega) (by decide) (by decide) (by decide)
theorem nat_int {i : Int} (h : 0 ≤ i) : ∃ n : Nat, i = (n : Nat) := ⟨i.toNat, by omega⟩
section
variable {P : Program} {w : World} {K : PySem.W.Frag} {mg : Str → Option Value} {base : Heap} {f C CW CM : Addr} {fd : FuncData} {H : Hp}
def spLawCell (K : PySem.W.Frag) : Sp := fun vs H Q _ => ∃ (a : Addr) (ns : List Int) (j : Nat), vs = [.ref a, .int (j : Nat)] ∧ SqL K H a (ns.map V.int) ∧ ∀ i : Int, Q (.int i) H
theorem sc_LawCell : FnScope ["script", "k"] ["script", "k"] (defScope sLawCell) := ⟨rfl, rfl, rfl, by decide +kernel, rfl, by decide +kernel, by decide +kernel⟩
theorem ok_LawCell (D : DefF K mg "_law_cell" sLawCell ["script", "k"] f fd) (B : Blt mg) : FnOk P w K mg base CX0 1 f fd ["script", "k"] (spLawCell K) := by
  refine D.fn.ok sc_LawCell (fun vs H Q E h => ?_) (fun cdv A outer s H vs Q E hr h => ?_)
  · obtain ⟨a, ns, j, rfl, _⟩ := h; rfl
  · obtain ⟨a, ns, j, rfl, hl, k⟩ := h
    refine ⟨_, (pss_cons (ps_if (pt_cmpR op_lt (pv 1) (pe_callB call_len_seq (by rfl) B.len PySem.boot_len (pa_cons (pv 0) pa_nil)) (nomark _)) (pss_one (ps_ret (pe_ix ix_list (pv 0) (pv 1) (fun _ _ => rfl)))) pss_nil) (pss_one (ps_ret (pe_op op_add (pv 1) pe_int)))), ?_⟩
    refine ⟨_, rfl, _, rfl, a, _, rfl, .inl hl, _, _, rfl, rfl, _, rfl, ?_⟩
    refine ite2 (fun h => ?_) (fun h => ?_)
    · have hj : j < ns.length := by
        have := of_decide_eq_true h
        rw [List.length_map] at this; omega
      exact ⟨_, rfl, _, rfl, a, _, _, _, rfl, rfl, hl, atI_cell hj, k _⟩
    · exact ⟨_, rfl, _, _, rfl, rfl, k _⟩
def spLawDigits : Sp := fun vs H Q _ => ∃ (cell : Int) (n : Nat), vs = [.int cell, .int (n : Nat)] ∧ n ≤ 200 ∧ ∀ (l : Addr) H' (ds : List Nat), Same H H' → H' l = some (.lst (ds.map fun d => V.int (d : Nat))) → ds.length = n → Q (.ref l) H'
theorem sc_LawDigits : FnScope ["cell", "many", "digits", "rest", "number", "k"] ["cell", "many"] (defScope sLawDigits) := ⟨rfl, rfl, rfl, by decide +kernel, rfl, by decide +kernel, by decide +kernel⟩
theorem ok_LawDigits (D : DefF K mg "_law_digits" sLawDigits ["cell", "many"] f fd) (B : Blt mg) : FnOk P w K mg base CX0 1 f fd ["cell", "many"] spLawDigits := by
  refine D.fn.ok sc_LawDigits (fun vs H Q E h => ?_) (fun cdv A outer s H vs Q E hr h => ?_)
  · obtain ⟨c, n, rfl, _⟩ := h; rfl
  · obtain ⟨cell, n, rfl, hn, k⟩ := h
    refine ⟨_, (pss_cons (ps_set (i := 2) sc_LawDigits.nd rfl (.inl rfl) (pe_lst pa_nil)) (pss_cons (ps_set (i := 3) sc_LawDigits.nd rfl (.inl rfl) pe_int) (pss_cons (ps_if (pt_cmpR op_ge (pv 0) (pe_op op_pow pe_int pe_int) (nomark _)) (pss_one (ps_set (i := 3) sc_LawDigits.nd rfl (.inl rfl) (pv 0))) pss_nil) (pss_cons (ps_set (i := 4) sc_LawDigits.nd rfl (.inl rfl) (pe_op op_mod (pe_callTy call_int1 (by rfl) B.int PyProof.Rows.boot_int (pa_cons (pv 0) pa_nil)) pe_int)) (pss_cons (ps_for PassesOwn.never rfl (pi_range1 rfl B.range (pa_cons (pv 1) pa_nil)) (pg_name (i := 5) sc_LawDigits.nd rfl (.inl rfl)) (pss_cons (ps_set (i := 4) sc_LawDigits.nd rfl (.inl rfl) (pe_op op_mod (pe_callTy call_int1 (by rfl) B.int PyProof.Rows.boot_int (pa_cons (pe_op op_add (pe_op op_add (pe_op op_mulW (pv 4) pe_int) (pe_op op_mulW pe_int (pv 5))) pe_int) pa_nil)) pe_int)) (pss_cons (ps_set (i := 4) sc_LawDigits.nd rfl (.inl rfl) (pe_op op_mod (pe_callTy call_int1 (by rfl) B.int PyProof.Rows.boot_int (pa_cons (pe_op op_mulW (pv 4) (pe_op op_add (pe_op op_fdivW (pv 4) pe_int) pe_int)) pa_nil)) pe_int)) (pss_one (ps_if (pt_cmpR op_gt (pv 3) pe_int (nomark _)) (pss_cons (ps_expr (pe_bm F.plainAttrs_list F.slot_list_append F.type_list_append mt_append (pv 2) (pa_cons (pe_op op_mod (pe_callTy call_int1 (by rfl) B.int PyProof.Rows.boot_int (pa_cons (pv 3) pa_nil)) pe_int) pa_nil))) (pss_one (ps_set (i := 3) sc_LawDigits.nd rfl (.inl rfl) (pe_op op_fdivW (pv 3) pe_int)))) (pss_one (ps_expr (pe_bm F.plainAttrs_list F.slot_list_append F.type_list_append mt_append (pv 2) (pa_cons (pe_op op_mod (pe_callTy call_int1 (by rfl) B.int PyProof.Rows.boot_int (pa_cons (pe_op op_fdivW (pv 4) pe_int) pa_nil)) pe_int) pa_nil))))))))) (pss_one (ps_ret (pv 2)))))))), ?_⟩
    refine ⟨Nat.zero_le _, fun l hl => ?_⟩
    have s0 := Same.new (o := .lst []) hl
    have sz6 : (200 : Nat) < sizeLine := by rw [sizeLine_eq]; decide
    refine ⟨_, rfl, _, _, rfl, rfl, ⟨by decide, by decide, by decide⟩, _, _, rfl, rfl, _, rfl, ?_⟩
    refine ite2 (fun h => ?_) (fun h => ?_)
    · have hc : (0 : Int) ≤ cell := by
        have := of_decide_eq_true h
        have e : (10 : Int) ^ (18 : Int).toNat = 1000000000000000000 := by decide
        omega
      refine ⟨_, rfl, ?_⟩
      refine ⟨_, rfl, .inl ⟨_, rfl, _, _, rfl, rfl, (show (0 : Int) < 2147483647 by decide), ?_⟩⟩
      refine ⟨_, rfl, _, rfl, by omega, by omega, ?_⟩
      refine for_range (fun i σ H' => ∃ (rest num : Int) (ds : List Nat) (o5 : Option V), σ = [some (.int cell), some (.int (n : Nat)), some (.ref l), some (.int rest), some (.int num), o5] ∧ 0 ≤ rest ∧ 0 ≤ num ∧ num < 2147483648 ∧ Same H H' ∧ H' l = some (.lst (ds.map fun d => V.int (d : Nat))) ∧ ds.length = i)
        ⟨cell, cell % 2147483647, [], none, rfl, hc, Int.emod_nonneg _ (by decide), Int.lt_trans (Int.emod_lt_of_pos _ (by decide)) (by decide), s0, upd_same, rfl⟩ ?_ ?_
      · rintro i σ H' hi ⟨rest, num, ds, o5, rfl, hr0, hn0, hn1, s1, hl', hlen⟩
        have hi' : i < n := by omega
        refine ⟨_, rfl, _, _, rfl, rfl, cm64 hn0 (by omega) (by decide) (by decide), _, rfl, _, _, rfl, rfl, cm64 (by decide) (by decide) (by omega) (by omega), _, _, rfl, rfl, _, _, rfl, rfl, .inl ⟨_, rfl, _, _, rfl, rfl, (show (0 : Int) < 2147483647 by decide), ?_⟩⟩
        dsimp only
        have a0 := Int.emod_nonneg (num * 48271 + 30103 * ((0 : Int) + (i : Nat)) + 11) (show (2147483647 : Int) ≠ 0 by decide)
        have a1 := Int.emod_lt_of_pos (num * 48271 + 30103 * ((0 : Int) + (i : Nat)) + 11) (show (0 : Int) < 2147483647 by decide)
        generalize (num * 48271 + 30103 * ((0 : Int) + (i : Nat)) + 11) % 2147483647 = n1 at a0 a1 ⊢
        have b0 : 0 ≤ n1 / 1009 := Int.ediv_nonneg a0 (by decide)
        have b1 : n1 / 1009 ≤ n1 := Int.ediv_le_self _ a0
        refine ⟨_, rfl, _, rfl, _, _, rfl, rfl, ⟨by decide, by decide +kernel⟩, _, _, rfl, rfl, _, _, rfl, rfl, cm64 a0 (by omega) (by omega) (by omega), .inl ⟨_, rfl, _, _, rfl, rfl, (show (0 : Int) < 2147483629 by decide), ?_⟩⟩
        dsimp only
        have c0 := Int.emod_nonneg (n1 * (n1 / 1009 + 69621)) (show (2147483629 : Int) ≠ 0 by decide)
        have c1 := Int.emod_lt_of_pos (n1 * (n1 / 1009 + 69621)) (show (0 : Int) < 2147483629 by decide)
        generalize (n1 * (n1 / 1009 + 69621)) % 2147483629 = n2 at c0 c1 ⊢
        refine ⟨_, rfl, _, _, rfl, rfl, _, rfl, ?_⟩
        have put : ∀ (d : Nat), Same H (upd H' l (.lst ((ds.map fun d => V.int (d : Nat)) ++ [V.int (d : Nat)]))) := fun d b o z => by
          rw [upd_ne (fun q => by rw [q, hl] at z; cases z)]; exact s1 _ _ z
        refine ite2 (fun h => ?_) (fun h => ?_)
        · obtain ⟨d, hd⟩ := nat_int (Int.emod_nonneg rest (show (1009 : Int) ≠ 0 by decide))
          refine ⟨_, rfl, .inl ⟨rfl, _, SqL.of hl'⟩, _, rfl, .inl ⟨_, rfl, _, _, rfl, rfl, (show (0 : Int) < 1009 by decide), l, _, _, rfl, rfl, hl', by rw [List.length_map]; omega, ?_⟩⟩
          dsimp only
          rw [hd]
          refine ⟨_, rfl, _, _, rfl, rfl, ⟨by decide, by decide +kernel⟩, rest / 1009, n2, ds ++ [d], _, rfl, Int.ediv_nonneg hr0 (by decide), c0, by omega, put d, by rw [List.map_append]; exact upd_same, by rw [List.length_append, hlen]; rfl⟩
        · obtain ⟨d, hd⟩ := nat_int (Int.emod_nonneg (n2 / 7) (show (1009 : Int) ≠ 0 by decide))
          refine ⟨_, rfl, .inl ⟨rfl, _, SqL.of hl'⟩, _, rfl, _, _, rfl, rfl, ⟨by decide, by decide +kernel⟩, .inl ⟨_, rfl, _, _, rfl, rfl, (show (0 : Int) < 1009 by decide), l, _, _, rfl, rfl, hl', by rw [List.length_map]; omega, ?_⟩⟩
          dsimp only
          rw [hd]
          exact ⟨rest, n2, ds ++ [d], _, rfl, hr0, c0, by omega, put d, by rw [List.map_append]; exact upd_same, by rw [List.length_append, hlen]; rfl⟩
      · rintro σ H' ⟨rest, num, ds, o5, rfl, hr0, hn0, hn1, s1, hl', hlen⟩
        exact ⟨_, rfl, k l H' ds s1 hl' (by omega)⟩
    · refine ?_
      refine ⟨_, rfl, .inl ⟨_, rfl, _, _, rfl, rfl, (show (0 : Int) < 2147483647 by decide), ?_⟩⟩
      refine ⟨_, rfl, _, rfl, by omega, by omega, ?_⟩
      refine for_range (fun i σ H' => ∃ (rest num : Int) (ds : List Nat) (o5 : Option V), σ = [some (.int cell), some (.int (n : Nat)), some (.ref l), some (.int rest), some (.int num), o5] ∧ 0 ≤ rest ∧ 0 ≤ num ∧ num < 2147483648 ∧ Same H H' ∧ H' l = some (.lst (ds.map fun d => V.int (d : Nat))) ∧ ds.length = i)
        ⟨0, cell % 2147483647, [], none, rfl, (by decide), Int.emod_nonneg _ (by decide), Int.lt_trans (Int.emod_lt_of_pos _ (by decide)) (by decide), s0, upd_same, rfl⟩ ?_ ?_
      · rintro i σ H' hi ⟨rest, num, ds, o5, rfl, hr0, hn0, hn1, s1, hl', hlen⟩
        have hi' : i < n := by omega
        refine ⟨_, rfl, _, _, rfl, rfl, cm64 hn0 (by omega) (by decide) (by decide), _, rfl, _, _, rfl, rfl, cm64 (by decide) (by decide) (by omega) (by omega), _, _, rfl, rfl, _, _, rfl, rfl, .inl ⟨_, rfl, _, _, rfl, rfl, (show (0 : Int) < 2147483647 by decide), ?_⟩⟩
        dsimp only
        have a0 := Int.emod_nonneg (num * 48271 + 30103 * ((0 : Int) + (i : Nat)) + 11) (show (2147483647 : Int) ≠ 0 by decide)
        have a1 := Int.emod_lt_of_pos (num * 48271 + 30103 * ((0 : Int) + (i : Nat)) + 11) (show (0 : Int) < 2147483647 by decide)
        generalize (num * 48271 + 30103 * ((0 : Int) + (i : Nat)) + 11) % 2147483647 = n1 at a0 a1 ⊢
        have b0 : 0 ≤ n1 / 1009 := Int.ediv_nonneg a0 (by decide)
        have b1 : n1 / 1009 ≤ n1 := Int.ediv_le_self _ a0
        refine ⟨_, rfl, _, rfl, _, _, rfl, rfl, ⟨by decide, by decide +kernel⟩, _, _, rfl, rfl, _, _, rfl, rfl, cm64 a0 (by omega) (by omega) (by omega), .inl ⟨_, rfl, _, _, rfl, rfl, (show (0 : Int) < 2147483629 by decide), ?_⟩⟩
        dsimp only
        have c0 := Int.emod_nonneg (n1 * (n1 / 1009 + 69621)) (show (2147483629 : Int) ≠ 0 by decide)
        have c1 := Int.emod_lt_of_pos (n1 * (n1 / 1009 + 69621)) (show (0 : Int) < 2147483629 by decide)
        generalize (n1 * (n1 / 1009 + 69621)) % 2147483629 = n2 at c0 c1 ⊢
        refine ⟨_, rfl, _, _, rfl, rfl, _, rfl, ?_⟩
        have put : ∀ (d : Nat), Same H (upd H' l (.lst ((ds.map fun d => V.int (d : Nat)) ++ [V.int (d : Nat)]))) := fun d b o z => by
          rw [upd_ne (fun q => by rw [q, hl] at z; cases z)]; exact s1 _ _ z
        refine ite2 (fun h => ?_) (fun h => ?_)
        · obtain ⟨d, hd⟩ := nat_int (Int.emod_nonneg rest (show (1009 : Int) ≠ 0 by decide))
          refine ⟨_, rfl, .inl ⟨rfl, _, SqL.of hl'⟩, _, rfl, .inl ⟨_, rfl, _, _, rfl, rfl, (show (0 : Int) < 1009 by decide), l, _, _, rfl, rfl, hl', by rw [List.length_map]; omega, ?_⟩⟩
          dsimp only
          rw [hd]
          refine ⟨_, rfl, _, _, rfl, rfl, ⟨by decide, by decide +kernel⟩, rest / 1009, n2, ds ++ [d], _, rfl, Int.ediv_nonneg hr0 (by decide), c0, by omega, put d, by rw [List.map_append]; exact upd_same, by rw [List.length_append, hlen]; rfl⟩
        · obtain ⟨d, hd⟩ := nat_int (Int.emod_nonneg (n2 / 7) (show (1009 : Int) ≠ 0 by decide))
          refine ⟨_, rfl, .inl ⟨rfl, _, SqL.of hl'⟩, _, rfl, _, _, rfl, rfl, ⟨by decide, by decide +kernel⟩, .inl ⟨_, rfl, _, _, rfl, rfl, (show (0 : Int) < 1009 by decide), l, _, _, rfl, rfl, hl', by rw [List.length_map]; omega, ?_⟩⟩
          dsimp only
          rw [hd]
          exact ⟨rest, n2, ds ++ [d], _, rfl, hr0, c0, by omega, put d, by rw [List.map_append]; exact upd_same, by rw [List.length_append, hlen]; rfl⟩
      · rintro σ H' ⟨rest, num, ds, o5, rfl, hr0, hn0, hn1, s1, hl', hlen⟩
        exact ⟨_, rfl, k l H' ds s1 hl' (by omega)⟩
end
end Wd
set_option Elab.async false
set_option linter.all false
set_option maxRecDepth 100000
set_option maxHeartbeats 4000000
set_option exponentiation.threshold 100000
namespace Wd
open PySem L2
def ent (d : Nat) : En := match d with
  | 0 => ("emit", some "a")
  | 1 => ("emit", some "b")
  | 2 => ("final", some "a")
  | _ => ("emit", none)
theorem ent_good (d : Nat) : (ent d).good = true :=
  match d with
  | 0 => by decide +kernel
  | 1 => by decide +kernel
  | 2 => by decide +kernel
  | _ + 3 => (show En.good _ = true from (by decide +kernel : En.good ("emit", none) = true))
theorem ent_ok (d : Nat) : (ent d).ok = true :=
  match d with
  | 0 => by decide +kernel
  | 1 => by decide +kernel
  | 2 => by decide +kernel
  | _ + 3 => (show En.ok _ = true from (by decide +kernel : En.ok ("emit", none) = true))
/-- an entry of the law's words: a good one, not the odd one -/
def zz : En := ("final", some "zz")
def Ok2 (e : En) : Prop := e.good = true ∧ e ≠ zz
theorem ent_ok2 (d : Nat) : Ok2 (ent d) := ⟨ent_good d, match d with
  | 0 => by decide +kernel
  | 1 => by decide +kernel
  | 2 => by decide +kernel
  | _ + 3 => (show (("emit", none) : En) ≠ zz by decide +kernel)⟩
section
variable {P : Program} {w : World} {K : PySem.W.Frag} {mg : Str → Option Value} {base : Heap} {f C CW CM : Addr} {fd : FuncData} {H : Hp}
def spLawEntry : Sp := fun vs H Q _ => ∃ (d : Nat), vs = [.int (d : Nat)] ∧ ∀ v H', Same H H' → EAt H' v (ent (d % 4)) → Q v H'
theorem sc_LawEntry : FnScope ["digit"] ["digit"] (defScope sLawEntry) := ⟨rfl, rfl, rfl, by decide +kernel, rfl, by decide +kernel, by decide +kernel⟩
theorem ok_LawEntry (D : DefF K mg "_law_entry" sLawEntry ["digit"] f fd) (B : Blt mg) : FnOk P w K mg base CX0 1 f fd ["digit"] spLawEntry := by
  refine D.fn.ok sc_LawEntry (fun vs H Q E h => ?_) (fun cdv A outer s H vs Q E hr h => ?_)
  · obtain ⟨d, rfl, _⟩ := h; rfl
  · obtain ⟨d, rfl, k⟩ := h
    refine ⟨_, (pss_one (ps_ret (pe_ix ix_list (pe_lst (pa_cons (pe_tup (pa_cons pe_str (pa_cons pe_str pa_nil))) (pa_cons (pe_tup (pa_cons pe_str (pa_cons pe_str pa_nil))) (pa_cons (pe_tup (pa_cons pe_str (pa_cons pe_str pa_nil))) (pa_cons (pe_tup (pa_cons pe_str (pa_cons pe_non pa_nil))) pa_nil))))) (pe_op op_mod (pe_callTy call_int1 (by rfl) B.int PyProof.Rows.boot_int (pa_cons (pv 0) pa_nil)) pe_int) (fun _ _ => rfl)))), ?_⟩
    have h2 : 2 ≤ sizeLine := Nat.le_trans (by decide) three_line
    have h4 : 4 ≤ sizeLine := by rw [sizeLine_eq]; decide
    refine ⟨h2, fun t0 h0 => ⟨h2, fun t1 h1 => ⟨h2, fun t2 h2' => ⟨h2, fun t3 h3 => ⟨h4, fun t4 h4' => ?_⟩⟩⟩⟩⟩
    have s0 := Same.new (o := .tup [.str "emit", .str "a"]) h0
    have s1 := Same.new (o := .tup [.str "emit", .str "b"]) h1
    have s2 := Same.new (o := .tup [.str "final", .str "a"]) h2'
    have s3 := Same.new (o := .tup [.str "emit", .non]) h3
    have s4 := Same.new (o := .lst [.ref t0, .ref t1, .ref t2, .ref t3]) h4'
    have sA := (((s0.trans s1).trans s2).trans s3).trans s4
    refine ⟨_, rfl, .inl ⟨_, rfl, _, _, rfl, rfl, (show (0 : Int) < 4 by decide), ?_⟩⟩
    have ed : ((d : Nat) : Int) % 4 = ((d % 4 : Nat) : Int) := by omega
    have e0 : EAt _ (.ref t0) (ent 0) := ⟨t0, rfl, (((s1.trans s2).trans s3).trans s4) _ _ upd_same, ent_ok 0⟩
    have e1 : EAt _ (.ref t1) (ent 1) := ⟨t1, rfl, ((s2.trans s3).trans s4) _ _ upd_same, ent_ok 1⟩
    have e2 : EAt _ (.ref t2) (ent 2) := ⟨t2, rfl, (s3.trans s4) _ _ upd_same, ent_ok 2⟩
    have e3 : EAt _ (.ref t3) (ent 3) := ⟨t3, rfl, s4 _ _ upd_same, ent_ok 3⟩
    have hd : d % 4 < 4 := Nat.mod_lt _ (by decide)
    dsimp only
    rw [ed]
    generalize d % 4 = m at *
    have hm : m = 0 ∨ m = 1 ∨ m = 2 ∨ m = 3 := by omega
    rcases hm with rfl | rfl | rfl | rfl
    · exact ⟨t4, _, _, _, rfl, rfl, SqL.of upd_same, rfl, k _ _ sA e0⟩
    · exact ⟨t4, _, _, _, rfl, rfl, SqL.of upd_same, rfl, k _ _ sA e1⟩
    · exact ⟨t4, _, _, _, rfl, rfl, SqL.of upd_same, rfl, k _ _ sA e2⟩
    · exact ⟨t4, _, _, _, rfl, rfl, SqL.of upd_same, rfl, k _ _ sA e3⟩
/-- a list of figures -/
def DAt (H : Hp) (a : Addr) (ds : List Nat) : Prop := H a = some (.lst (ds.map fun d => V.int (d : Nat)))
def spLawRow : Sp := fun vs H Q _ => ∃ (a : Addr) (ds : List Nat) (m : Nat), vs = [.ref a, .int (m : Nat)] ∧ DAt H a ds ∧ m ≤ 4 ∧ ∀ (l : Addr) H' xs es, Same H H' → H l = none → H' l = some (.lst xs) → Paired (EAt H') xs es → (∀ e ∈ es, Ok2 e) → es.length ≤ 4 → Q (.ref l) H'
theorem sc_LawRow : FnScope ["digits", "many", "digit"] ["digits", "many"] (defScope sLawRow) := ⟨rfl, rfl, rfl, by decide +kernel, rfl, by decide +kernel, by decide +kernel⟩
theorem ok_LawRow (D : DefF K mg "_law_row" sLawRow ["digits", "many"] f fd) (B : Blt mg) {fE : Addr} {fdE : FuncData} (DLawEntry : DefF K mg "_law_entry" sLawEntry ["digit"] fE fdE) (GLawEntry : FnOk P w K mg base CX0 1 fE fdE ["digit"] spLawEntry) :
    FnOk P w K mg base CX0 2 f fd ["digits", "many"] spLawRow := by
  refine D.fn.ok sc_LawRow (fun vs H Q E h => ?_) (fun cdv A outer s H vs Q E hr h => ?_)
  · obtain ⟨a, ds, m, rfl, _⟩ := h; rfl
  · obtain ⟨a, ds, m, rfl, hd, hm, k⟩ := h
    refine ⟨_, (pss_one (ps_ret (pe_lc (own := [("digit", 2)]) (g := gName 2) (tt := tYes) rfl sc_LawRow.nd (pi_list (pe_slice sl_list (pv 0) po_none (po_some (pv 1)))) (blkOk_by (N := ["digits", "many", "digit"]) (sc := defScope sLawRow) (by decide +kernel)) (fun _ _ _ _ _ => pg_name (i := 2) sc_LawRow.nd rfl (Or.inl rfl)) (fun _ _ _ _ _ => pts_nil) (fun _ _ _ _ _ => (pe_call GLawEntry (hr.mono (by first | decide | omega)) rfl DLawEntry.gl DLawEntry.fn.kp DLawEntry.bd .nil pass0 (pa_cons (pe_ix (show IxR _ (rIxL K) from ix_list) (pe_lst (pa_cons (pe_op op_mod (pe_callTy call_int1 (by rfl) B.int PyProof.Rows.boot_int (pa_cons (pv 2) pa_nil)) pe_int) (pa_cons (pe_op op_mod (pe_callTy call_int1 (by rfl) B.int PyProof.Rows.boot_int (pa_cons (pv 2) pa_nil)) pe_int) pa_nil))) (pe_callTy call_int1 (by rfl) B.int PyProof.Rows.boot_int (pa_cons (pe_cmpR op_gt (pv 2) pe_int (nomark _)) pa_nil)) (fun _ _ => rfl)) pa_nil)))))), ?_⟩
    refine ⟨_, rfl, _, rfl, _, rfl, a, _, rfl, SqL.of hd, fun t1 ht1 => ?_⟩
    have ec : cutV (ds.map fun d => V.int (d : Nat)) none (some ((m : Nat) : Int)) = ((ds.take m).map fun d => V.int (d : Nat)) := by
      have := cut_nat (ds.map fun d => V.int (d : Nat)) 0 m
      rw [Nat.sub_zero, List.drop_zero] at this
      rw [← List.map_take] at this
      exact this
    rw [ec]
    have s1 := Same.new (o := .lst ((ds.take m).map fun d => V.int (d : Nat))) ht1
    have hl1 : (ds.take m).length ≤ 4 := by rw [List.length_take]; omega
    generalize ds.take m = es at *
    refine ⟨t1, rfl, ⟨_, SqL.of upd_same⟩, fun D' hD => lc_list (xs := es.map fun d => V.int (d : Nat)) (fun i H' => Same (upd H t1 (.lst (es.map fun d => V.int (d : Nat)))) H' ∧ ∃ xs gs, H' D' = some (.lst xs) ∧ Paired (EAt H') xs gs ∧ (∀ e ∈ gs, Ok2 e) ∧ xs.length = i) ⟨Same.new hD, [], [], upd_same, .nil, fun _ h => (nomatch h), rfl⟩ (fun i H' _ h => SqL.of (h.1 _ _ upd_same)) ?_ ?_⟩
    · rintro i x H' hx ⟨s2, xs, gs, hD', hp, hg, hlen⟩
      obtain ⟨d, hd'⟩ : ∃ d : Nat, x = V.int (d : Nat) := by
        rw [List.getElem?_map] at hx
        cases e : es[i]? with
        | none => rw [e] at hx; cases hx
        | some u => rw [e] at hx; exact ⟨u, (Option.some.inj hx).symm⟩
      subst hd'
      have hi : i < es.length := by have := (List.getElem?_eq_some_iff.mp hx).1; rwa [List.length_map] at this
      refine ⟨rfl, ?_⟩
      unfold tYes
      have h2 : 2 ≤ sizeLine := Nat.le_trans (by decide) three_line
      have h4 : 4 < sizeLine := by rw [sizeLine_eq]; decide
      refine iteT ⟨_, rfl, .inl ⟨_, rfl, _, _, rfl, rfl, (show (0 : Int) < 2 by decide), ?_⟩⟩
      refine ⟨_, rfl, .inl ⟨_, rfl, _, _, rfl, rfl, (show (0 : Int) < 4 by decide), h2, fun t2 ht2 => ?_⟩⟩
      have e2 : ((d : Nat) : Int) % 2 = ((d % 2 : Nat) : Int) := by omega
      have e4 : ((d : Nat) : Int) % 4 = ((d % 4 : Nat) : Int) := by omega
      dsimp only at ht2 ⊢
      rw [e2, e4]
      have s3 := Same.new (o := .lst [.int ((d % 2 : Nat) : Int), .int ((d % 4 : Nat) : Int)]) ht2
      refine ⟨_, rfl, _, _, rfl, rfl, .inr ⟨_, rfl, ?_⟩⟩
      have fin : ∀ (g : Nat) (u : V) (H3 : Hp), Same (upd H' t2 (.lst [.int ((d % 2 : Nat) : Int), .int ((d % 4 : Nat) : Int)])) H3 → EAt H3 u (ent g) → ∃ acc, H3 D' = some (.lst acc) ∧ acc.length < sizeLine ∧ (Same (upd H t1 (.lst (es.map fun d => V.int (d : Nat)))) (upd H3 D' (.lst (acc ++ [u]))) ∧
          ∃ xs gs, (upd H3 D' (.lst (acc ++ [u]))) D' = some (.lst xs) ∧ Paired (EAt (upd H3 D' (.lst (acc ++ [u])))) xs gs ∧ (∀ e ∈ gs, Ok2 e) ∧ xs.length = i + 1) := fun g u H3 s4 he => by
        have hD3 := (s3.trans s4) _ _ hD'
        have kt : ∀ b ys, H3 b = some (.tup ys) → (upd H3 D' (.lst (xs ++ [u]))) b = some (.tup ys) := fun b ys e => by rw [upd_ne (fun z => by rw [z, hD3] at e; cases e)]; exact e
        refine ⟨xs, hD3, by omega, fun b o z => ?_, xs ++ [u], gs ++ [ent g], upd_same, ?_, fun e he => ?_, by rw [List.length_append, hlen]; rfl⟩
        · rw [upd_ne (fun q => by rw [q, hD] at z; cases z)]
          exact (s3.trans s4) _ _ (s2 _ _ z)
        · exact Paired.app (Paired.mono (fun _ _ h => EAt.but kt (EAt.mono (s3.trans s4) h)) hp) (.cons (EAt.but kt he) .nil)
        · rcases List.mem_append.mp he with he | he
          · exact hg e he
          · rw [List.mem_singleton.mp he]; exact ent_ok2 g
      cases decide ((700 : Int) < ((d : Nat) : Int)) with
      | false => exact ⟨t2, _, _, _, rfl, rfl, SqL.of upd_same, rfl, d % 2, rfl, fun u H3 s4 he => fin _ u H3 s4 he⟩
      | true => exact ⟨t2, _, _, _, rfl, rfl, SqL.of upd_same, rfl, d % 4, rfl, fun u H3 s4 he => fin _ u H3 s4 he⟩
    · rintro H' ⟨s2, xs, gs, hD', hp, hg, hlen⟩
      rw [List.length_map] at hlen
      have hpl := Paired.len hp
      refine k D' H' xs gs (s1.trans s2) (by
        have := hD
        rw [upd_ne (fun z => by rw [z, upd_same] at this; cases this)] at this
        exact this) hD' hp hg (by omega)
end
end Wd
set_option Elab.async false
set_option linter.all false
set_option maxRecDepth 100000
set_option maxHeartbeats 4000000
set_option exponentiation.threshold 100000
namespace Wd
open PySem L2
/-- an operator's method -/
structure DefO (K : PySem.W.Frag) (C : Addr) (x qual : Str) (st : Stmt) (ps : List Str) (f : Addr) (fd : FuncData) : Prop where
  fn : Fun K x qual st f fd
  bd : Binds K fd ps []
  ow : OwnM K C x f
structure WOps (K : PySem.W.Frag) (CW fGet : Addr) : Prop where
  sf : PySem.W.selfFirst K CW = true
  rmul : PySem.W.findIn K (.ref CW) "__rmul__" = some none
  im : PySem.W.findIn K (.type "int") "__mul__" = some (some (.builtin "int.__mul__"))
  irm : PySem.W.findIn K (.type "int") "__rmul__" = some (some (.builtin "int.__rmul__"))
  isub : PySem.W.subIn K (.type "int") (.ref CW) = some false
  ne : PySem.W.findIn K (.ref CW) "__ne__" = some (some (.builtin "object.__ne__"))
  nl : PySem.W.notFirst K CW (.type "list") = true
  gfn : PySem.W.fnIn K fGet = true
theorem Paired.rpt {A B : Type} {F : A → B → Prop} {l : List A} {r : List B} (n : Nat) (h : Paired F l r) : Paired F (List.replicate n l).flatten (rpt n r) := by
  induction n with
  | zero => exact .nil
  | succ n ih => rw [List.replicate_succ, List.flatten_cons, rpt_succ]; exact Paired.app h ih
theorem three_pow {n : Nat} (h : n ≤ 4) : 3 ^ n ≤ 81 := Nat.le_trans (Nat.pow_le_pow_right (by decide) h) (by decide)
section
variable {P : Program} {w : World} {K : PySem.W.Frag} {mg : Str → Option Value} {base : Heap} {f C CW CM : Addr} {fd : FuncData} {H : Hp}
/-- a word, and the list of what it tells -/
structure Both (C CW : Addr) (H : Hp) (v : V) (l : Addr) (es : List En) (m c : Nat) : Prop where
  word : ∃ p, WAt C CW H v p m c ∧ p.den = es
  list : ∃ xs, H l = some (.lst xs) ∧ Paired (EAt H) xs es
  good : ∀ e ∈ es, Ok2 e
def spLawBuilt (C CW : Addr) (n : Nat) : Sp := fun vs H Q _ => ∃ (a : Addr) (ds : List Nat), vs = [.ref a, .int (n : Nat)] ∧ DAt H a ds ∧ 7 * n + 6 ≤ ds.length ∧ n ≤ 4 ∧
  ∀ (t : Addr) H' v l es m c, Same H H' → H' t = some (.tup [v, .ref l]) → Both C CW H' v l es m c → m ≤ n → c ≤ 3 ^ n → es.length ≤ 4 * 3 ^ n → Q (.ref t) H'
theorem DAt.mono {H H' : Hp} (s : Same H H') {a : Addr} {ds : List Nat} (h : DAt H a ds) : DAt H' a ds := s _ _ h
theorem cut_ds (ds : List Nat) (k : Nat) (h : k ≤ ds.length) : cutV (ds.map fun d => V.int (d : Nat)) (some ((k : Nat) : Int)) none = (ds.drop k).map fun d => V.int (d : Nat) := by
  unfold cutV
  rw [HT.sIx_nat, HT.sIx_none, List.length_map, Nat.min_eq_left h, List.map_drop, List.take_of_length_le (by rw [List.length_drop, List.length_map]; exact Nat.le_refl _)]
def spB (C CW : Addr) : Nat → Sp
  | 0 => fun _ _ _ _ => False
  | n + 1 => spLawBuilt C CW n
theorem Both.mono {H H' : Hp} (s : Same H H') {v : V} {l : Addr} {es : List En} {m c : Nat} (h : Both C CW H v l es m c) : Both C CW H' v l es m c :=
  let ⟨⟨p, h1, h2⟩, ⟨xs, h3, h4⟩, h5⟩ := h
  ⟨⟨p, h1.mono s, h2⟩, ⟨xs, s _ _ h3, Paired.mono (fun _ _ => EAt.mono s) h4⟩, h5⟩
theorem sc_LawBuilt : FnScope ["digits", "deep", "way", "row", "one", "some", "times", "other", "more"] ["digits", "deep"] (defScope sLawBuilt) := ⟨rfl, rfl, rfl, by decide +kernel, rfl, by decide +kernel, by decide +kernel⟩
theorem built_step (DLawBuilt : DefF K mg "_law_built" sLawBuilt ["digits", "deep"] f fd) (n : Nat) (GLawBuilt : FnOk P w K mg base CX0 (n + 8) f fd ["digits", "deep"] (spB C CW n)) (B : Blt mg)
    {fR : Addr} {fdR : FuncData} (DLawRow : DefF K mg "_law_row" sLawRow ["digits", "many"] fR fdR) (GLawRow : FnOk P w K mg base CX0 2 fR fdR ["digits", "many"] spLawRow)
    {fWI : Addr} {fdWI : FuncData} (TW : WCl K mg CW fWI fdWI) (GWord : FnOk P w K mg base CX0 4 fWI fdWI ["self", "entries"] (spWordInit C CW CM K)) {fGet : Addr} (WO : WOps K CW fGet)
    {fA fM : Addr} {fdA fdM : FuncData} (OAdd : DefO K CW "__add__" "Word.__add__" sWordAdd ["self", "other"] fA fdA) (GAdd : FnOk P w K mg base CX0 6 fA fdA ["self", "other"] (spWordAdd C CW))
    (OMul : DefO K CW "__mul__" "Word.__mul__" sWordMul ["self", "times"] fM fdM) (GMul : FnOk P w K mg base CX0 6 fM fdM ["self", "times"] (spWordMul C CW)) :
    FnOk P w K mg base CX0 (n + 9) f fd ["digits", "deep"] (spLawBuilt C CW n) := by
  refine DLawBuilt.fn.ok sc_LawBuilt (fun vs H Q E h => ?_) (fun cdv A outer s H vs Q E hr h => ?_)
  · obtain ⟨a, ds, rfl, _⟩ := h; rfl
  · obtain ⟨a, ds, rfl, hd, hlen, hn4, k⟩ := h
    refine ⟨_, (pss_cons (ps_set (i := 2) sc_LawBuilt.nd rfl (.inl rfl) (pe_op op_mod (pe_callTy call_int1 (by rfl) B.int PyProof.Rows.boot_int (pa_cons (pe_ix ix_list (pv 0) pe_int (fun _ _ => rfl)) pa_nil)) pe_int)) (pss_cons (ps_if (PW.pt (pw_or (pt_cmpR op_eq (pv 1) pe_int (nomark _)) (pw_or1 (pt_cmpR op_eq (pv 2) pe_int (nomark _))))) (pss_cons (ps_set (i := 3) sc_LawBuilt.nd rfl (.inl rfl) (pe_call GLawRow (hr.mono (by first | decide | omega)) rfl DLawRow.gl DLawRow.fn.kp DLawRow.bd .nil pass0 (pa_cons (pe_slice sl_list (pv 0) (po_some pe_int) po_none) (pa_cons (pe_op op_mod (pe_callTy call_int1 (by rfl) B.int PyProof.Rows.boot_int (pa_cons (pe_op op_fdivW (pe_ix ix_list (pv 0) pe_int (fun _ _ => rfl)) pe_int) pa_nil)) pe_int) pa_nil)))) (pss_one (ps_ret (pe_tup (pa_cons (pe_make TW.mkr GWord (hr.mono (by first | decide | omega)) rfl TW.gl TW.b .nil pass0 (pa_cons (pv 3) pa_nil)) (pa_cons (pv 3) pa_nil)))))) pss_nil) (pss_cons (ps_asg (pe_call GLawBuilt (hr.mono (by first | decide | omega)) rfl DLawBuilt.gl DLawBuilt.fn.kp DLawBuilt.bd .nil pass0 (pa_cons (pe_slice sl_list (pv 0) (po_some pe_int) po_none) (pa_cons (pe_op op_sub (pv 1) pe_int) pa_nil))) (pg_tup rfl (pgs_cons (pg_name (i := 4) sc_LawBuilt.nd rfl (.inl rfl)) (pgs_cons (pg_name (i := 5) sc_LawBuilt.nd rfl (.inl rfl)) pgs_nil)))) (pss_cons (ps_if (pt_cmpR op_eq (pv 2) pe_int (nomark _)) (pss_cons (ps_set (i := 6) sc_LawBuilt.nd rfl (.inl rfl) (pe_op op_mod (pe_callTy call_int1 (by rfl) B.int PyProof.Rows.boot_int (pa_cons (pe_op op_fdivW (pe_ix ix_list (pv 0) pe_int (fun _ _ => rfl)) pe_int) pa_nil)) pe_int)) (pss_one (ps_ret (pe_tup (pa_cons (pe_op (op_mulOwn GMul (hr.mono (by first | decide | omega)) OMul.bd pass0 OMul.ow WO.sf WO.rmul WO.im WO.irm WO.isub) (pv 4) (pv 6)) (pa_cons (pe_op op_rep (pv 5) (pv 6)) pa_nil)))))) pss_nil) (pss_cons (ps_asg (pe_call GLawBuilt (hr.mono (by first | decide | omega)) rfl DLawBuilt.gl DLawBuilt.fn.kp DLawBuilt.bd .nil pass0 (pa_cons (pe_slice sl_list (pv 0) (po_some pe_int) po_none) (pa_cons (pe_op op_sub (pv 1) pe_int) pa_nil))) (pg_tup rfl (pgs_cons (pg_name (i := 7) sc_LawBuilt.nd rfl (.inl rfl)) (pgs_cons (pg_name (i := 8) sc_LawBuilt.nd rfl (.inl rfl)) pgs_nil)))) (pss_cons (ps_if (pt_cmpR op_eq (pv 2) pe_int (nomark _)) (pss_one (ps_ret (pe_tup (pa_cons (pe_op (op_addOwn GAdd (hr.mono (by first | decide | omega)) OAdd.bd pass0 OAdd.ow WO.sf) (pv 4) (pv 7)) (pa_cons (pe_op op_cat (pv 5) (pv 8)) pa_nil))))) pss_nil) (pss_one (ps_ret (pe_tup (pa_cons (pe_op (op_addOwn GAdd (hr.mono (by first | decide | omega)) OAdd.bd pass0 OAdd.ow WO.sf) (pe_op (op_addOwn GAdd (hr.mono (by first | decide | omega)) OAdd.bd pass0 OAdd.ow WO.sf) (pv 4) (pv 7)) (pv 4)) (pa_cons (pe_op op_cat (pe_op op_cat (pv 5) (pv 8)) (pv 5)) pa_nil))))))))))), ?_⟩
    obtain ⟨d0, dt, rfl⟩ : ∃ d0 dt, ds = d0 :: dt := by
      cases ds with
      | nil => exact absurd hlen (by show ¬ _ ≤ 0; omega)
      | cons x y => exact ⟨x, y, rfl⟩
    have p3 := three_pow hn4
    have p3p : 0 < 3 ^ n := Nat.pow_pos (by decide)
    have h2 : 2 ≤ sizeLine := Nat.le_trans (by decide) three_line
    have szl : (1000000 : Nat) ≤ sizeLine := by rw [sizeLine_eq]; decide
    refine ⟨_, rfl, a, _, 0, _, rfl, rfl, SqL.of hd, atI_nat (j := 0) rfl, .inl ⟨_, rfl, _, _, rfl, rfl, (show (0 : Int) < 4 by decide), ?_⟩⟩
    have e4 : ((d0 : Nat) : Int) % 4 = ((d0 % 4 : Nat) : Int) := by omega
    have ed4 : ((d0 : Nat) : Int) / 4 = ((d0 / 4 : Nat) : Int) := by omega
    dsimp only
    rw [e4]
    have hway : d0 % 4 < 4 := Nat.mod_lt _ (by decide)
    generalize d0 % 4 = way at hway ⊢
    have fin : True := trivial
    refine ⟨_, rfl, rfl, _, rfl, ?_⟩
    rw [dec_int0]
    by_cases hn : n = 0
    · rw [decide_eq_true hn]
      refine iteT (iteT ?_)
      refine ⟨_, rfl, _, rfl, a, _, rfl, SqL.of hd, fun t1 ht1 => ?_⟩
      have c1 := cut_ds (d0 :: dt) 1 (by show 1 ≤ dt.length + 1; omega)
      have s1 := Same.new (o := .lst (((d0 :: dt).drop 1).map fun d => V.int (d : Nat))) ht1
      have hd1 : (upd H t1 (.lst (cutV ((d0 :: dt).map fun d => V.int (d : Nat)) (some 1) none))) a = some (.lst ((d0 :: dt).map fun d => V.int (d : Nat))) := by rw [upd_ne (ne_of_none hd ht1)]; exact hd
      refine ⟨_, rfl, a, _, 0, _, rfl, rfl, SqL.of hd1, atI_nat (j := 0) rfl, _, _, rfl, rfl, ⟨by decide, by decide +kernel⟩, .inl ⟨_, rfl, _, _, rfl, rfl, (show (0 : Int) < 5 by decide), ?_⟩⟩
      have hm5 : d0 / 4 % 5 < 5 := Nat.mod_lt _ (by decide)
      refine ⟨t1, (d0 :: dt).drop 1, d0 / 4 % 5, (by
          show _ = [V.ref t1, V.int ((d0 / 4 % 5 : Nat) : Int)]
          rw [show ((d0 / 4 % 5 : Nat) : Int) = ((d0 : Nat) : Int) / 4 % 5 by omega]; rfl), (by show _ = _; rw [← c1]; exact upd_same), by omega, fun l2 H2 xs es s2 hl0 hl2 pp hg hle => ?_⟩
      have s12 : Same H H2 := fun b o z => s2 _ _ (by rw [upd_ne (ne_of_none z ht1)]; exact z)
      refine ⟨_, rfl, ?_⟩
      refine mk_wordL (C := C) ⟨l2, xs, rfl, hl2, pp⟩ (fun e he => (hg e he).1) (by omega) fun a3 H3 q s3 w3 dq => ⟨_, rfl, h2, fun t4 ht4 => ?_⟩
      have s4 := Same.new (o := .tup [.ref a3, .ref l2]) ht4
      have s34 := s3.trans s4
      refine k t4 _ (.ref a3) l2 es 0 1 (s12.trans s34) upd_same ⟨⟨q, w3.mono s4, dq⟩, ⟨xs, s34 _ _ hl2, Paired.mono (fun _ _ => EAt.mono s34) pp⟩, hg⟩ (Nat.zero_le _) (by omega) (by omega)
    · rw [decide_eq_false hn]
      refine iteF ⟨_, rfl, rfl, _, rfl, ?_⟩
      rw [dec_int0]
      by_cases hw0 : way = 0
      · rw [decide_eq_true hw0]
        refine iteT ?_
        refine ⟨_, rfl, _, rfl, a, _, rfl, SqL.of hd, fun t1 ht1 => ?_⟩
        have c1 := cut_ds (d0 :: dt) 1 (by show 1 ≤ dt.length + 1; omega)
        have s1 := Same.new (o := .lst (((d0 :: dt).drop 1).map fun d => V.int (d : Nat))) ht1
        have hd1 : (upd H t1 (.lst (cutV ((d0 :: dt).map fun d => V.int (d : Nat)) (some 1) none))) a = some (.lst ((d0 :: dt).map fun d => V.int (d : Nat))) := by rw [upd_ne (ne_of_none hd ht1)]; exact hd
        refine ⟨_, rfl, a, _, 0, _, rfl, rfl, SqL.of hd1, atI_nat (j := 0) rfl, _, _, rfl, rfl, ⟨by decide, by decide +kernel⟩, .inl ⟨_, rfl, _, _, rfl, rfl, (show (0 : Int) < 5 by decide), ?_⟩⟩
        have hm5 : d0 / 4 % 5 < 5 := Nat.mod_lt _ (by decide)
        refine ⟨t1, (d0 :: dt).drop 1, d0 / 4 % 5, (by
            show _ = [V.ref t1, V.int ((d0 / 4 % 5 : Nat) : Int)]
            rw [show ((d0 / 4 % 5 : Nat) : Int) = ((d0 : Nat) : Int) / 4 % 5 by omega]; rfl), (by show _ = _; rw [← c1]; exact upd_same), by omega, fun l2 H2 xs es s2 hl0 hl2 pp hg hle => ?_⟩
        have s12 : Same H H2 := fun b o z => s2 _ _ (by rw [upd_ne (ne_of_none z ht1)]; exact z)
        refine ⟨_, rfl, ?_⟩
        refine mk_wordL (C := C) ⟨l2, xs, rfl, hl2, pp⟩ (fun e he => (hg e he).1) (by omega) fun a3 H3 q s3 w3 dq => ⟨_, rfl, h2, fun t4 ht4 => ?_⟩
        have s4 := Same.new (o := .tup [.ref a3, .ref l2]) ht4
        have s34 := s3.trans s4
        refine k t4 _ (.ref a3) l2 es 0 1 (s12.trans s34) upd_same ⟨⟨q, w3.mono s4, dq⟩, ⟨xs, s34 _ _ hl2, Paired.mono (fun _ _ => EAt.mono s34) pp⟩, hg⟩ (Nat.zero_le _) (by omega) (by omega)
      · rw [decide_eq_false hw0]
        refine iteF ?_
        obtain ⟨n', rfl⟩ : ∃ n', n = n' + 1 := ⟨n - 1, by omega⟩
        have p31 : 3 ^ (n' + 1) = 3 ^ n' * 3 := Nat.pow_succ _ _
        have p3q : 0 < 3 ^ n' := Nat.pow_pos (by decide)
        have en : ((n' + 1 : Nat) : Int) - 1 = ((n' : Nat) : Int) := by omega
        have c1 := cut_ds (d0 :: dt) 1 (by show 1 ≤ dt.length + 1; omega)
        have c7 := cut_ds (d0 :: dt) 7 (by omega)
        refine ⟨_, rfl, _, rfl, a, _, rfl, SqL.of hd, fun t1 ht1 => ?_⟩
        have s1 := Same.new (o := .lst (((d0 :: dt).drop 1).map fun d => V.int (d : Nat))) ht1
        refine ⟨_, rfl, _, _, rfl, rfl, t1, (d0 :: dt).drop 1, (by rw [← en]; rfl), (by show _ = _; rw [← c1]; exact upd_same), by rw [List.length_drop]; omega, by omega, fun t2 H2 v2 l2 es2 m2 cc2 s2 ht2 b2 hm2 hc2 hl2 => ?_⟩
        have s12 : Same H H2 := fun b o z => s2 _ _ (by rw [upd_ne (ne_of_none z ht1)]; exact z)
        refine ⟨t2, _, rfl, SqT.of ht2, rfl, _, _, rfl, _, _, rfl, rfl, ?_⟩
        have hd2 := DAt.mono s12 hd
        obtain ⟨⟨p2, w2, dp2⟩, ⟨xs2, hx2, px2⟩, good2⟩ := id b2
        have lx2 := Paired.len px2
        refine ⟨_, rfl, rfl, _, rfl, ?_⟩
        by_cases hw1 : way = 1
        · rw [nat_eq0 (show ((way : Nat) : Int) = 1 by omega)]
          refine iteT ?_
          refine ⟨_, rfl, a, _, 0, _, rfl, rfl, SqL.of hd2, atI_nat (j := 0) rfl, _, _, rfl, rfl, ⟨by decide, by decide +kernel⟩, .inl ⟨_, rfl, _, _, rfl, rfl, (show (0 : Int) < 4 by decide), ?_⟩⟩
          dsimp only
          rw [ed4, show (((d0 / 4 : Nat) : Int)) % 4 = ((d0 / 4 % 4 : Nat) : Int) by omega]
          have ht4 : d0 / 4 % 4 < 4 := Nat.mod_lt _ (by decide)
          generalize d0 / 4 % 4 = tm at ht4 ⊢
          obtain ⟨a3, dx3, fs3, vp3, rfl, ha3, hf3, hp3⟩ := w2.obj
          have el : p2.den.length ≤ 4 * 3 ^ n' := by rw [dp2]; exact hl2
          have hmul : tm * p2.den.length ≤ 3 * (4 * 3 ^ n') := Nat.mul_le_mul (by omega) el
          refine ⟨_, rfl, _, rfl, a3, dx3, fs3, _, rfl, rfl, ha3, .ref a3, p2, m2, cc2, tm, rfl, w2, by omega, sml_WL (by omega), sml_WL (by omega), fun a5 H5 r5 s5 w5 dr5 => ⟨_, rfl, ?_⟩⟩
          refine ⟨_, rfl, _, rfl, l2, _, xs2, rfl, rfl, s5 _ _ hx2, by omega, by omega, by rw [Int.toNat_natCast, lx2, ← dp2, Nat.mul_comm]; omega, fun t6 ht6 => ?_⟩
          rw [Int.toNat_natCast]
          have s6 := Same.new (o := .lst (List.replicate tm xs2).flatten) ht6
          refine ⟨h2, fun t7 ht7 => ?_⟩
          have s7 := Same.new (o := .tup [.ref a5, .ref t6]) ht7
          have s67 := s6.trans s7
          have s57 := s5.trans s67
          refine k t7 _ (.ref a5) t6 (rpt tm es2) (m2 + 1) cc2 (s12.trans s57) upd_same ⟨⟨r5, w5.mono s67, by rw [dr5, dp2]⟩, ⟨_, s7 _ _ upd_same, Paired.rpt tm (Paired.mono (fun _ _ => EAt.mono s57) px2)⟩, fun e he => ?_⟩ (by omega) (by omega) ?_
          · exact good2 e (by
              by_cases z : 1 ≤ tm
              · exact (mem_rpt z).mp he
              · rw [show tm = 0 by omega, rpt_zero] at he; cases he)
          · rw [len_rpt, ← dp2]; omega
        · rw [nat_ne0 (show ((way : Nat) : Int) ≠ 1 by omega)]
          refine iteF ?_
          refine ⟨_, rfl, _, rfl, a, _, rfl, SqL.of hd2, fun t3 ht3 => ?_⟩
          refine ⟨_, rfl, _, _, rfl, rfl, t3, (d0 :: dt).drop 7, (by rw [← en]; rfl), (by show _ = _; rw [← c7]; exact upd_same), by rw [List.length_drop]; omega, by omega, fun t4 H4 v4 l4 es4 m4 cc4 s4 ht4 b4 hm4 hc4 hl4 => ?_⟩
          have s24 : Same H2 H4 := fun b o z => s4 _ _ (by rw [upd_ne (ne_of_none z ht3)]; exact z)
          refine ⟨t4, _, rfl, SqT.of ht4, rfl, _, _, rfl, _, _, rfl, rfl, ?_⟩
          obtain ⟨⟨p4, w4, dp4⟩, ⟨xs4, hx4, px4⟩, good4⟩ := id b4
          have lx4 := Paired.len px4
          have w2' := w2.mono s24
          have hx2' := s24 _ _ hx2
          have px2' : Paired (EAt H4) xs2 es2 := Paired.mono (fun _ _ => EAt.mono s24) px2
          obtain ⟨a3, dx3, fs3, vp3, rfl, ha3, hf3, hp3⟩ := w2'.obj
          obtain ⟨a5, dx5, fs5, vp5, rfl, ha5, hf5, hp5⟩ := w4.obj
          have el2 : p2.den.length ≤ 4 * 3 ^ n' := by rw [dp2]; exact hl2
          have el4 : p4.den.length ≤ 4 * 3 ^ n' := by rw [dp4]; exact hl4
          refine ⟨_, rfl, rfl, _, rfl, ?_⟩
          by_cases hw2 : way = 2
          · rw [nat_eq0 (show ((way : Nat) : Int) = 2 by omega)]
            refine iteT ?_
            refine ⟨_, rfl, _, rfl, a3, a5, dx3, dx5, fs3, fs5, rfl, rfl, ha3, ha5, .ref a3, .ref a5, p2, p4, m2, m4, cc2, cc4, rfl, w2', w4, by omega, sml_WL (by omega), fun a6 H6 r6 s6 w6 dr6 => ⟨_, rfl, ?_⟩⟩
            refine ⟨_, rfl, _, rfl, l2, l4, xs2, xs4, rfl, rfl, s6 _ _ hx2', s6 _ _ hx4, by rw [lx2, lx4, ← dp2, ← dp4]; omega, fun t8 ht8 => ?_⟩
            have s8 := Same.new (o := .lst (xs2 ++ xs4)) ht8
            refine ⟨h2, fun t9 ht9 => ?_⟩
            have s9 := Same.new (o := .tup [.ref a6, .ref t8]) ht9
            have s89 := s8.trans s9
            have s69 := s6.trans s89
            refine k t9 _ (.ref a6) t8 (es2 ++ es4) (max m2 m4) (cc2 + cc4) ((s12.trans s24).trans s69) upd_same ⟨⟨r6, w6.mono s89, by rw [dr6, dp2, dp4]⟩, ⟨_, s9 _ _ upd_same, Paired.mono (fun _ _ => EAt.mono s69) (Paired.app px2' px4)⟩, fun e he => ?_⟩ (by omega) (by omega) ?_
            · rcases List.mem_append.mp he with he | he
              · exact good2 e he
              · exact good4 e he
            · rw [List.length_append, ← dp2, ← dp4]; omega
          · rw [nat_ne0 (show ((way : Nat) : Int) ≠ 2 by omega)]
            refine iteF ?_
            refine ⟨_, rfl, _, rfl, a3, a5, dx3, dx5, fs3, fs5, rfl, rfl, ha3, ha5, .ref a3, .ref a5, p2, p4, m2, m4, cc2, cc4, rfl, w2', w4, by omega, sml_WL (by omega), fun a6 H6 r6 s6 w6 dr6 => ⟨_, rfl, ?_⟩⟩
            obtain ⟨_, dx6, fs6, vp6, e6, ha6, hf6, hp6⟩ := w6.obj
            cases e6
            have l6 : r6.den.length = p2.den.length + p4.den.length := by rw [dr6, List.length_append]
            refine ⟨_, rfl, a6, a3, dx6, dx3, fs6, fs3, rfl, rfl, ha6, s6 _ _ ha3, .ref a6, .ref a3, r6, p2, max m2 m4, m2, cc2 + cc4, cc2, rfl, w6, w2'.mono s6, by omega, sml_WL (by omega), fun a7 H7 r7 s7 w7 dr7 => ⟨_, rfl, ?_⟩⟩
            have s67 := s6.trans s7
            refine ⟨_, rfl, _, rfl, l2, l4, xs2, xs4, rfl, rfl, s67 _ _ hx2', s67 _ _ hx4, by rw [lx2, lx4, ← dp2, ← dp4]; omega, fun t8 ht8 => ?_⟩
            have s8 := Same.new (o := .lst (xs2 ++ xs4)) ht8
            refine ⟨_, rfl, t8, l2, xs2 ++ xs4, xs2, rfl, rfl, upd_same, s8 _ _ (s67 _ _ hx2'), by rw [List.length_append, lx2, lx4, ← dp2, ← dp4]; omega, fun t9 ht9 => ?_⟩
            have s9 := Same.new (o := .lst (xs2 ++ xs4 ++ xs2)) ht9
            refine ⟨h2, fun t10 ht10 => ?_⟩
            have s10 := Same.new (o := .tup [.ref a7, .ref t9]) ht10
            have sA := (s8.trans s9).trans s10
            have sB := s67.trans sA
            refine k t10 _ (.ref a7) t9 (es2 ++ es4 ++ es2) (max (max m2 m4) m2) (cc2 + cc4 + cc2) ((s12.trans s24).trans sB) upd_same ⟨⟨r7, w7.mono sA, by rw [dr7, dr6, dp2, dp4]⟩, ⟨_, s10 _ _ upd_same, Paired.mono (fun _ _ => EAt.mono sB) (Paired.app (Paired.app px2' px4) px2')⟩, fun e he => ?_⟩ (by omega) (by omega) ?_
            · rcases List.mem_append.mp he with he | he
              · rcases List.mem_append.mp he with he | he
                · exact good2 e he
                · exact good4 e he
              · exact good2 e he
            · rw [List.length_append, List.length_append, ← dp2, ← dp4]; omega
theorem ok_LawBuilt (DLawBuilt : DefF K mg "_law_built" sLawBuilt ["digits", "deep"] f fd) (B : Blt mg)
    {fR : Addr} {fdR : FuncData} (DLawRow : DefF K mg "_law_row" sLawRow ["digits", "many"] fR fdR) (GLawRow : FnOk P w K mg base CX0 2 fR fdR ["digits", "many"] spLawRow)
    {fWI : Addr} {fdWI : FuncData} (TW : WCl K mg CW fWI fdWI) (GWord : FnOk P w K mg base CX0 4 fWI fdWI ["self", "entries"] (spWordInit C CW CM K)) {fGet : Addr} (WO : WOps K CW fGet)
    {fA fM : Addr} {fdA fdM : FuncData} (OAdd : DefO K CW "__add__" "Word.__add__" sWordAdd ["self", "other"] fA fdA) (GAdd : FnOk P w K mg base CX0 6 fA fdA ["self", "other"] (spWordAdd C CW))
    (OMul : DefO K CW "__mul__" "Word.__mul__" sWordMul ["self", "times"] fM fdM) (GMul : FnOk P w K mg base CX0 6 fM fdM ["self", "times"] (spWordMul C CW)) : ∀ n, FnOk P w K mg base CX0 (n + 9) f fd ["digits", "deep"] (spLawBuilt C CW n)
  | 0 => built_step DLawBuilt 0 (DLawBuilt.fn.ok sc_LawBuilt (fun _ _ _ _ h => h.elim) (fun _ _ _ _ _ _ _ _ _ h => h.elim)) B DLawRow GLawRow TW GWord WO OAdd GAdd OMul GMul
  | n + 1 => built_step DLawBuilt (n + 1) (ok_LawBuilt DLawBuilt B DLawRow GLawRow TW GWord WO OAdd GAdd OMul GMul n) B DLawRow GLawRow TW GWord WO OAdd GAdd OMul GMul
end
end Wd
set_option Elab.async false
set_option linter.all false
set_option maxRecDepth 100000
set_option maxHeartbeats 4000000
set_option exponentiation.threshold 100000
namespace Wd
open PySem L2
section
variable {A : Type} [DecidableEq A]
theorem lcp_full {a b : List A} (h : b.length ≤ a.length) : lcp a b = b.length ↔ b = a.take b.length := by
  constructor
  · intro e
    have := lcp_take a b b.length (by omega)
    rw [List.take_of_length_le (l := b) (Nat.le_refl _)] at this
    exact this.symm
  · intro e
    have h1 := lcp_le' a b
    have h2 : b.length ≤ lcp a b := lcp_ge h (Nat.le_refl _) fun i hi => by
      conv => rhs; rw [e]
      rw [List.getElem?_take_of_lt hi]
    omega
end
theorem dep55 {a b : Nat} (ha : a ≤ 5) (hb : b ≤ 5) : dep a a b b ≤ 85 := by
  unfold dep
  have h1 : depF (a + b) ≤ depF 10 := depF_mono (by omega)
  have h2 : depF 10 = 75 := by decide
  omega
section
variable {P : Program} {w : World} {K : PySem.W.Frag} {mg : Str → Option Value} {base : Heap} {f C CW CM : Addr} {fd : FuncData} {H : Hp}
def spAgreeing (C CW : Addr) : Sp := fun vs H Q _ => ∃ v1 v2 p q n1 n2 c1 c2 x y, vs = [v1, .int (x : Nat), v2, .int (y : Nat)] ∧ WAt C CW H v1 p n1 c1 ∧ WAt C CW H v2 q n2 c2 ∧ x ≤ p.den.length ∧ y ≤ q.den.length ∧
  ∀ H', Same H H' → Q (.int ((lcp (p.den.drop x) (q.den.drop y) : Nat) : Int)) H'
theorem sc_Agreeing : FnScope ["one", "first", "other", "second", "most"] ["one", "first", "other", "second"] (defScope sAgreeing) := ⟨rfl, rfl, rfl, by decide +kernel, rfl, by decide +kernel, by decide +kernel⟩
theorem ok_Agreeing (D : DefF K mg "agreeing" sAgreeing ["one", "first", "other", "second"] f fd) (B : Blt mg) {fWI : Addr} {fdWI : FuncData} (TW : WCl K mg CW fWI fdWI)
    {fC fB fS fLe : Addr} {fdC fdB fdS fdLe : FuncData} (DCheckIndex : DefF K mg "check_index" sCheckIndex ["number", "least", "most"] fC fdC) (GCheckIndex : FnOk P w K mg base CX0 3 fC fdC ["number", "least", "most"] spCheckIndex)
    (DBehind : DefF K mg "behind" sBehind ["units", "many"] fB fdB) (GBehind : FnOk P w K mg base CX0 2 fB fdB ["units", "many"] (spBehind C))
    (DAgreement : DefF K mg "agreement" sAgreement ["one", "other", "most"] fS fdS) (GAgreement : FnOk P w K mg base CX0 177 fS fdS ["one", "other", "most"] (spAgr C 85))
    (DLength : DefM K CW "length" "Word.length" sWordLength ["self"] fLe fdLe) (GLength : FnOk P w K mg base CX0 1 fLe fdLe ["self"] (spWordLength C CW)) :
    FnOk P w K mg base CX0 178 f fd ["one", "first", "other", "second"] (spAgreeing C CW) := by
  refine D.fn.ok sc_Agreeing (fun vs H Q E h => ?_) (fun cdv A outer s H vs Q E hr h => ?_)
  · obtain ⟨v1, v2, p, q, n1, n2, c1, c2, x, y, rfl, _⟩ := h; rfl
  · obtain ⟨v1, v2, p, q, n1, n2, c1, c2, x, y, rfl, w1, w2, hx, hy, k⟩ := h
    refine ⟨_, (pss_cons (ps_expr (pe_call GCheckIndex (hr.mono (by first | decide | omega)) rfl DCheckIndex.gl DCheckIndex.fn.kp DCheckIndex.bd .nil pass0 (pa_cons (pv 1) (pa_cons pe_int (pa_cons (pe_meth0 (pv 0) TW.cl DLength.mt GLength (hr.mono (by first | decide | omega)) DLength.bd .nil pass0) pa_nil))))) (pss_cons (ps_expr (pe_call GCheckIndex (hr.mono (by first | decide | omega)) rfl DCheckIndex.gl DCheckIndex.fn.kp DCheckIndex.bd .nil pass0 (pa_cons (pv 3) (pa_cons pe_int (pa_cons (pe_meth0 (pv 2) TW.cl DLength.mt GLength (hr.mono (by first | decide | omega)) DLength.bd .nil pass0) pa_nil))))) (pss_cons (ps_set (i := 4) sc_Agreeing.nd rfl (.inl rfl) (pe_callB (call_min2 rfl) (by rfl) B.min PyProof.Rows.boot_min (pa_cons (pe_op op_sub (pe_meth0 (pv 0) TW.cl DLength.mt GLength (hr.mono (by first | decide | omega)) DLength.bd .nil pass0) (pv 1)) (pa_cons (pe_op op_sub (pe_meth0 (pv 2) TW.cl DLength.mt GLength (hr.mono (by first | decide | omega)) DLength.bd .nil pass0) (pv 3)) pa_nil)))) (pss_one (ps_ret (pe_call GAgreement (hr.mono (by first | decide | omega)) rfl DAgreement.gl DAgreement.fn.kp DAgreement.bd .nil pass0 (pa_cons (pe_call GBehind (hr.mono (by first | decide | omega)) rfl DBehind.gl DBehind.fn.kp DBehind.bd .nil pass0 (pa_cons (pe_tup (pa_cons (pe_fld (pv 0) rfl) (pa_cons pe_int (pa_cons pe_non pa_nil)))) (pa_cons (pv 1) pa_nil))) (pa_cons (pe_call GBehind (hr.mono (by first | decide | omega)) rfl DBehind.gl DBehind.fn.kp DBehind.bd .nil pass0 (pa_cons (pe_tup (pa_cons (pe_fld (pv 2) rfl) (pa_cons pe_int (pa_cons pe_non pa_nil)))) (pa_cons (pv 3) pa_nil))) (pa_cons (pv 4) pa_nil))))))))), ?_⟩
    obtain ⟨⟨a, dx, fs, vp, rfl, ha, hf, hp⟩, op, lp, kp, dp⟩ := id w1
    obtain ⟨⟨b, dy, gs, vq, rfl, hb, hg, hq⟩, oq, lq, kq, dq⟩ := id w2
    refine ⟨_, rfl, _, rfl, a, dx, fs, rfl, ha, hf.mLength, _, p, n1, c1, rfl, w1, _, _, _, rfl, by omega, by omega, ?_⟩
    refine ⟨_, rfl, _, rfl, b, dy, gs, rfl, hb, hg.mLength, _, q, n2, c2, rfl, w2, _, _, _, rfl, by omega, by omega, ?_⟩
    refine ⟨_, rfl, a, dx, fs, rfl, ha, hf.mLength, _, p, n1, c1, rfl, w1, _, rfl, _, _, rfl, rfl, _, rfl, b, dy, gs, rfl, hb, hg.mLength, _, q, n2, c2, rfl, w2, _, rfl, _, _, rfl, rfl, _, _, rfl, ?_⟩
    have em : (if ((q.den.length : Nat) : Int) - ((y : Nat) : Int) < ((p.den.length : Nat) : Int) - ((x : Nat) : Int) then ((q.den.length : Nat) : Int) - ((y : Nat) : Int) else ((p.den.length : Nat) : Int) - ((x : Nat) : Int)) = ((min (p.den.length - x) (q.den.length - y) : Nat) : Int) := by
      split <;> omega
    dsimp only
    rw [em]
    generalize hm : min (p.den.length - x) (q.den.length - y) = most
    refine ⟨_, rfl, a, CW, dx, _, _, rfl, ha, TW.cl, TW.nPart, hf.part, three_line, fun t1 ht1 => ⟨_, rfl, ?_⟩⟩
    have s1 := Same.new (o := .tup [vp, .int 1, .non]) ht1
    have lo1 : (den [((.p p, 1) : Un En × Nat)]).length = p.den.length := by rw [den_one]; rfl
    have lo2 : (den [((.p q, 1) : Un En × Nat)]).length = q.den.length := by rw [den_one]; rfl
    refine ⟨.ref t1, [(.p p, 1)], x, rfl, .cons (t := 1) upd_same (hp.mono s1) .nil, fun z => gd_word op lp (by omega), by omega, fun u2 H2 us2 s2 hu2 go2 => ?_⟩
    have s12 := s1.trans s2
    refine ⟨_, rfl, b, CW, dy, _, _, rfl, s12 _ _ hb, TW.cl, TW.nPart, hg.part, three_line, fun t3 ht3 => ⟨_, rfl, ?_⟩⟩
    have s3 := Same.new (o := .tup [vq, .int 1, .non]) ht3
    have s13 := s12.trans s3
    refine ⟨.ref t3, [(.p q, 1)], y, rfl, .cons (t := 1) upd_same (hq.mono s13) .nil, fun z => gd_word oq lq (by omega), by omega, fun u4 H4 us4 s4 hu4 go4 => ?_⟩
    have s14 := s13.trans s4
    refine ⟨_, rfl, u2, u4, us2, us4, most, p.rk, p.rk, q.rk, q.rk, rfl, hu2.mono (s3.trans s4), hu4, fun z => go2.2.2 (gd_word op lp (by omega)), fun z => go4.2.2 (gd_word oq lq (by omega)),
      go2.2.1 _ _ _ (vis_one p _), go4.2.1 _ _ _ (vis_one q _), dep55 (by omega) (by omega), fun H5 s5 => ?_⟩
    rw [go2.1, go4.1, den_one, den_one]
    have h1 := lcp_le (p.den.drop x) (q.den.drop y)
    have h2 := lcp_le' (p.den.drop x) (q.den.drop y)
    rw [List.length_drop] at h1 h2
    have e : min most (lcp ((Un.p p).den.drop x) ((Un.p q).den.drop y)) = lcp (p.den.drop x) (q.den.drop y) := by
      show min most (lcp (p.den.drop x) (q.den.drop y)) = _
      omega
    rw [e]
    exact k H5 (s14.trans s5)
def spFirstDifference (C CW : Addr) : Sp := fun vs H Q _ => ∃ v1 v2 p q n1 n2 c1 c2, vs = [v1, v2] ∧ WAt C CW H v1 p n1 c1 ∧ WAt C CW H v2 q n2 c2 ∧
  (∀ H', Same H H' → p.den = q.den → Q .non H') ∧ ∀ H', Same H H' → p.den ≠ q.den → Q (.int ((lcp p.den q.den : Nat) : Int)) H'
theorem sc_FirstDifference : FnScope ["one", "other", "many"] ["one", "other"] (defScope sFirstDifference) := ⟨rfl, rfl, rfl, by decide +kernel, rfl, by decide +kernel, by decide +kernel⟩
theorem ok_FirstDifference (D : DefF K mg "first_difference" sFirstDifference ["one", "other"] f fd) (B : Blt mg) {fWI : Addr} {fdWI : FuncData} (TW : WCl K mg CW fWI fdWI)
    {fA fLe : Addr} {fdA fdLe : FuncData} (DAgreeing : DefF K mg "agreeing" sAgreeing ["one", "first", "other", "second"] fA fdA) (GAgreeing : FnOk P w K mg base CX0 178 fA fdA ["one", "first", "other", "second"] (spAgreeing C CW))
    (DLength : DefM K CW "length" "Word.length" sWordLength ["self"] fLe fdLe) (GLength : FnOk P w K mg base CX0 1 fLe fdLe ["self"] (spWordLength C CW)) :
    FnOk P w K mg base CX0 179 f fd ["one", "other"] (spFirstDifference C CW) := by
  refine D.fn.ok sc_FirstDifference (fun vs H Q E h => ?_) (fun cdv A outer s H vs Q E hr h => ?_)
  · obtain ⟨v1, v2, p, q, n1, n2, c1, c2, rfl, _⟩ := h; rfl
  · obtain ⟨v1, v2, p, q, n1, n2, c1, c2, rfl, w1, w2, k1, k2⟩ := h
    refine ⟨_, (pss_cons (ps_set (i := 2) sc_FirstDifference.nd rfl (.inl rfl) (pe_call GAgreeing (hr.mono (by first | decide | omega)) rfl DAgreeing.gl DAgreeing.fn.kp DAgreeing.bd .nil pass0 (pa_cons (pv 0) (pa_cons pe_int (pa_cons (pv 1) (pa_cons pe_int pa_nil)))))) (pss_one (ps_ret (pe_ifExp (pt_chain op_eq op_eq (pv 2) (pe_meth0 (pv 0) TW.cl DLength.mt GLength (hr.mono (by first | decide | omega)) DLength.bd .nil pass0) (pe_meth0 (pv 1) TW.cl DLength.mt GLength (hr.mono (by first | decide | omega)) DLength.bd .nil pass0)) pe_non (pv 2))))), ?_⟩
    refine ⟨_, rfl, _, rfl, _, _, p, q, n1, n2, c1, c2, 0, 0, rfl, w1, w2, Nat.zero_le _, Nat.zero_le _, fun H1 s1 => ?_⟩
    rw [List.drop_zero, List.drop_zero]
    have hl1 := lcp_le p.den q.den
    have hl2 := lcp_le' p.den q.den
    obtain ⟨⟨a, dx, fs, vp, rfl, ha, hf, hp⟩, _⟩ := id w1
    obtain ⟨⟨b, dy, gs, vq, rfl, hb, hg, hq⟩, _⟩ := id w2
    refine ⟨_, rfl, _, rfl, a, dx, fs, rfl, s1 _ _ ha, hf.mLength, _, p, n1, c1, rfl, w1.mono s1, rfl, _, rfl, ?_⟩
    by_cases h1 : lcp p.den q.den = p.den.length
    · rw [nat_eq0 (show ((lcp p.den q.den : Nat) : Int) = ((p.den.length : Nat) : Int) by omega)]
      refine iteT ⟨_, rfl, b, dy, gs, rfl, s1 _ _ hb, hg.mLength, _, q, n2, c2, rfl, w2.mono s1, rfl, _, rfl, ?_⟩
      by_cases h2 : p.den.length = q.den.length
      · rw [nat_eq0 (show ((p.den.length : Nat) : Int) = ((q.den.length : Nat) : Int) by omega)]
        exact iteT (k1 H1 s1 (lcp_all h1 h2))
      · rw [nat_ne0 (show ((p.den.length : Nat) : Int) ≠ ((q.den.length : Nat) : Int) by omega)]
        refine iteF ?_
        exact ⟨_, rfl, k2 H1 s1 fun z => h2 (by rw [z])⟩
    · rw [nat_ne0 (show ((lcp p.den q.den : Nat) : Int) ≠ ((p.den.length : Nat) : Int) by omega)]
      refine iteF ⟨_, rfl, ?_⟩
      refine iteF ?_
      exact ⟨_, rfl, k2 H1 s1 fun z => h1 (by rw [← z, lcp_self])⟩
end
end Wd
set_option Elab.async false
set_option linter.all false
set_option maxRecDepth 100000
set_option maxHeartbeats 4000000
set_option exponentiation.threshold 100000
namespace Wd
open PySem L2
def rLenS (K : PySem.W.Frag) : List V → Hp → VK → Prop := fun xs H Q => ∃ p ys, xs = [V.ref p] ∧ (SqL K H p ys ∨ SqT K H p ys) ∧ Q (V.int ((ys.length : Nat) : Int)) H
section
variable {P : Program} {w : World} {K : PySem.W.Frag} {mg : Str → Option Value} {base : Heap} {f C CW CM CK CP : Addr} {fd : FuncData} {H : Hp}
def spStands : Sp := fun vs H Q _ => ∃ (a b : Addr) (row es : List En), vs = [.ref a, .ref b] ∧ LAt0 H a row ∧ LAt0 H b es ∧ row.length ≤ 1000 ∧ es.length ≤ 100000 ∧ ∀ l H' xs, Same H H' → H' l = some (.lst xs) → xs.length = (stands row es).length → Q (.ref l) H'
theorem sc_LawStands : FnScope ["row", "some", "k"] ["row", "some"] (defScope sLawStands) := ⟨rfl, rfl, rfl, by decide +kernel, rfl, by decide +kernel, by decide +kernel⟩
theorem ok_Stands (D : DefF K mg "_law_stands" sLawStands ["row", "some"] f fd) (B : Blt mg) : FnOk P w K mg base CX0 1 f fd ["row", "some"] spStands := by
  refine D.fn.ok sc_LawStands (fun vs H Q E h => ?_) (fun cdv A outer s H vs Q E hr h => ?_)
  · obtain ⟨a, b, row, es, rfl, _⟩ := h; rfl
  · obtain ⟨a, b, row, es, rfl, ⟨xs, ha, px⟩, ⟨ys, hb, py⟩, h1, h2, k⟩ := h
    refine ⟨_, (pss_one (ps_ret (pe_lc (own := [("k", 2)]) (g := gName 2)  rfl sc_LawStands.nd (pi_range1 rfl B.range (pa_cons (pe_op op_add (pe_op op_sub (pe_callB call_len_seq (by rfl) B.len PySem.boot_len (pa_cons (pv 1) pa_nil)) (pe_callB (show CallR _ _ (rLenS K) from call_len_seq) (by rfl) B.len PySem.boot_len (pa_cons (pv 0) pa_nil))) pe_int) pa_nil)) (blkOk_by (N := ["row", "some", "k"]) (sc := defScope sLawStands) (by decide +kernel)) (fun _ _ _ _ _ => pg_name (i := 2) sc_LawStands.nd rfl (Or.inl rfl)) (fun _ _ _ _ _ => (pts_one (pt_cmpR (show OpR _ _ (rEqD K) from op_eqD hr.units) (pe_slice (show SlR _ (rSlL K) from sl_list) (pv 1) (po_some (pv 2)) (po_some (pe_op op_add (pv 2) (pe_callB (show CallR _ _ (rLenS K) from call_len_seq) (by rfl) B.len PySem.boot_len (pa_cons (pv 0) pa_nil))))) (pv 0) (nomark _)))) (fun _ _ _ _ _ => (pv 2))))), ?_⟩
    have szl : (1000000 : Nat) ≤ sizeLine := by rw [sizeLine_eq]; decide
    have lx := Paired.len px
    have ly := Paired.len py
    have en : (((ys.length : Nat) : Int) - ((xs.length : Nat) : Int) + 1).toNat = es.length + 1 - row.length := by omega
    refine ⟨_, rfl, b, ys, rfl, .inl (SqL.of hb), _, rfl, a, xs, rfl, .inl (SqL.of ha), _, _, rfl, rfl, _, _, rfl, rfl, _, rfl, by omega, by omega, fun Dd hDd => lc_range (fun i H' => Same H H' ∧ ∃ zs, H' Dd = some (.lst zs) ∧ zs.length = ((List.range i).filter fun k => decide ((es.drop k).take row.length = row)).length) ⟨Same.new hDd, [], upd_same, rfl⟩ ?_ ?_⟩
    · rintro i H1 hi ⟨s1, zs, hz, lz⟩
      rw [en] at hi
      refine ⟨rfl, ?_⟩
      have ei : (0 : Int) + (i : Nat) = ((i : Nat) : Int) := Int.zero_add _
      have b1 := s1 _ _ hb
      have a1 := s1 _ _ ha
      refine ⟨_, rfl, _, rfl, _, rfl, _, rfl, _, rfl, a, xs, rfl, .inl (SqL.of a1), _, _, rfl, rfl, _, rfl, b, ys, rfl, SqL.of b1, fun t1 ht1 => ?_⟩
      have c1 : cutV ys (some ((0 : Int) + (i : Nat))) (some ((0 : Int) + (i : Nat) + ((xs.length : Nat) : Int))) = (ys.drop i).take xs.length := by
        rw [show (0 : Int) + (i : Nat) + ((xs.length : Nat) : Int) = ((i + xs.length : Nat) : Int) by omega, ei, cut_nat, Nat.add_sub_cancel_left]
      dsimp only
      rw [c1]
      have s2 := Same.new (o := .lst ((ys.drop i).take xs.length)) ht1
      have s12 := s1.trans s2
      have L1 : LAt K _ (.ref t1) ((es.drop i).take row.length) := ⟨t1, _, rfl, upd_same, by rw [← lx]; exact Paired.take _ (Paired.drop i (Paired.mono (fun _ _ => EAt.mono s12) py))⟩
      have L2 : LAt K (upd H1 t1 (.lst ((ys.drop i).take xs.length))) (.ref a) row := ⟨a, xs, rfl, s2 _ _ a1, Paired.mono (fun _ _ => EAt.mono s12) px⟩
      refine ⟨_, rfl, _, _, L1.dp, L2.dp, enDs_shaped L1.oks, enDs_shaped L2.oks, _, rfl, ?_⟩
      rw [enDs_eqv]
      have hz2 := s2 _ _ hz
      refine ite2 (fun hq => ?_) (fun hq => ?_)
      · have q := of_decide_eq_true hq
        refine ⟨_, rfl, zs, hz2, ?_, fun b o z => ?_, _, upd_same, ?_⟩
        · have : zs.length ≤ i := by
            rw [lz]
            exact Nat.le_trans (List.length_filter_le _ _) (by rw [List.length_range]; exact Nat.le_refl _)
          omega
        · rw [upd_ne (fun q => by rw [q, hDd] at z; cases z)]; exact s12 _ _ z
        · rw [List.length_append, lz, List.range_succ, List.filter_append, List.length_append, List.filter_cons, decide_eq_true q]; rfl
      · have q : ¬ (es.drop i).take row.length = row := fun z => hq (decide_eq_true z)
        refine ⟨s12, zs, hz2, ?_⟩
        rw [lz, List.range_succ, List.filter_append, List.length_append, List.filter_cons, decide_eq_false q]; rfl
    · rintro H1 ⟨s1, zs, hz, lz⟩
      refine k Dd H1 zs s1 hz ?_
      rw [lz, en]; rfl
end
end Wd
set_option Elab.async false
set_option linter.all false
set_option maxRecDepth 100000
set_option maxHeartbeats 4000000
set_option exponentiation.threshold 100000
namespace Wd
open PySem L2
theorem sorted2 {ns : List Int} {a b : Int} (h : ns.Perm [a, b]) (s : ns.Pairwise (· ≤ ·)) : ∃ x y, ns = [x, y] ∧ x ≤ y ∧ (x = a ∨ x = b) ∧ (y = a ∨ y = b) := by
  match ns, h.length_eq with
  | [x, y], _ =>
    refine ⟨x, y, rfl, by simpa using s, ?_, ?_⟩
    · have := h.mem_iff.mp (show x ∈ [x, y] by simp)
      simpa using this
    · have := h.mem_iff.mp (show y ∈ [x, y] by simp)
      simpa using this
theorem WAt.put {C CW : Addr} {H : Hp} {pl : Addr} {xs : List V} {o : HO} (h : H pl = some (.lst xs)) {v : V} {p : Pt En} {n c : Nat} (w : WAt C CW H v p n c) : WAt C CW (upd H pl o) v p n c := by
  obtain ⟨⟨a, dx, fs, vp, rfl, ha, hf, hp⟩, h2, h3, h4, h5⟩ := w
  exact ⟨⟨a, dx, fs, vp, rfl, by rw [upd_ne (fun z => by rw [z, h] at ha; cases ha)]; exact ha, hf, PX.kept (KeepT.putL h) hp⟩, h2, h3, h4, h5⟩
theorem sz1 : 1 ≤ sizeLine := Nat.le_trans (by decide) three_line
theorem sz3 : 3 ≤ sizeLine := three_line
section
variable {P : Program} {w : World} {K : PySem.W.Frag} {mg : Str → Option Value} {base : Heap} {f C CW CM CK CP : Addr} {fd : FuncData} {H : Hp}
def Told (C CW : Addr) (H : Hp) (es : List En) (x : V) : Prop := ∃ p m c, WAt C CW H x p m c ∧ p.den = es ∧ c ≤ 200
theorem Told.mono {C CW : Addr} {H H' : Hp} (s : Same H H') {es : List En} {x : V} (h : Told C CW H es x) : Told C CW H' es x := let ⟨p, m, c, h1, h2⟩ := h; ⟨p, m, c, h1.mono s, h2⟩
def spOtherwise (C CW : Addr) : Sp := fun vs H Q _ => ∃ (v : V) (l g : Addr) (es : List En) (m c : Nat) (ds : List Nat), vs = [v, .ref l, .ref g] ∧ Both C CW H v l es m c ∧ DAt H g ds ∧ 2 ≤ ds.length ∧ es.length ≤ 108 ∧ c ≤ 27 ∧ m ≤ 3 ∧
  ∀ r H' xs, Same H H' → H' r = some (.lst xs) → (∀ x ∈ xs, Told C CW H' es x) → Q (.ref r) H'
theorem sc_LawOtherwise : FnScope ["word", "some", "digits", "one", "two", "found", "single", "entry", "backward"] ["word", "some", "digits"] (defScope sLawOtherwise) := ⟨rfl, rfl, rfl, by decide +kernel, rfl, by decide +kernel, by decide +kernel⟩
theorem ok_Otherwise (D : DefF K mg "_law_otherwise" sLawOtherwise ["word", "some", "digits"] f fd) (B : Blt mg)
    {fWI : Addr} {fdWI : FuncData} (TW : WCl K mg CW fWI fdWI) (GWord : FnOk P w K mg base CX0 4 fWI fdWI ["self", "entries"] (spWordInit C CW CM K)) {fGet : Addr} (WO : WOps K CW fGet)
    {fAd fMu fCu : Addr} {fdAd fdMu fdCu : FuncData} (OAdd : DefO K CW "__add__" "Word.__add__" sWordAdd ["self", "other"] fAd fdAd) (GAdd : FnOk P w K mg base CX0 6 fAd fdAd ["self", "other"] (spWordAdd C CW))
    (OMul : DefO K CW "__mul__" "Word.__mul__" sWordMul ["self", "times"] fMu fdMu) (GMul : FnOk P w K mg base CX0 6 fMu fdMu ["self", "times"] (spWordMul C CW))
    (DCut : DefM K CW "cut" "Word.cut" sWordCut ["self", "first", "last"] fCu fdCu) (GCut : FnOk P w K mg base CX0 6 fCu fdCu ["self", "first", "last"] (spWordCut C CW)) :
    FnOk P w K mg base CX0 7 f fd ["word", "some", "digits"] (spOtherwise C CW) := by
  refine D.fn.ok sc_LawOtherwise (fun vs H Q E h => ?_) (fun cdv A outer s H vs Q E hr h => ?_)
  · obtain ⟨v, l, g, es, m, c, ds, rfl, _⟩ := h; rfl
  · obtain ⟨v, l, g, es, m, c, ds, rfl, hb, hd, hl2, hes, hc, hm, k⟩ := h
    refine ⟨_, (pss_cons (ps_asg (pe_callB cr_sorted (by rfl) B.sorted PyProof.Rows.boot_sorted (pa_cons (pe_lst (pa_cons (pe_op op_mod (pe_callTy call_int1 (by rfl) B.int PyProof.Rows.boot_int (pa_cons (pe_ix ix_list (pv 2) pe_int (fun _ _ => rfl)) pa_nil)) (pe_op op_add (pe_callB call_len_seq (by rfl) B.len PySem.boot_len (pa_cons (pv 1) pa_nil)) pe_int)) (pa_cons (pe_op op_mod (pe_callTy call_int1 (by rfl) B.int PyProof.Rows.boot_int (pa_cons (pe_ix ix_list (pv 2) pe_int (fun _ _ => rfl)) pa_nil)) (pe_op op_add (pe_callB call_len_seq (by rfl) B.len PySem.boot_len (pa_cons (pv 1) pa_nil)) pe_int)) pa_nil))) pa_nil)) (pg_lst rfl (pgs_cons (pg_name (i := 3) sc_LawOtherwise.nd rfl (.inl rfl)) (pgs_cons (pg_name (i := 4) sc_LawOtherwise.nd rfl (.inl rfl)) pgs_nil)))) (pss_cons (ps_set (i := 5) sc_LawOtherwise.nd rfl (.inl rfl) (pe_lst (pa_cons (pe_op (op_addOwn GAdd (hr.mono (by first | decide | omega)) OAdd.bd pass0 OAdd.ow WO.sf) (pe_meth (pv 0) TW.cl DCut.mt GCut (hr.mono (by first | decide | omega)) DCut.bd .nil pass0 (pa_cons pe_int (pa_cons (pv 3) pa_nil))) (pe_meth (pv 0) TW.cl DCut.mt GCut (hr.mono (by first | decide | omega)) DCut.bd .nil pass0 (pa_cons (pv 3) (pa_cons (pe_callB call_len_seq (by rfl) B.len PySem.boot_len (pa_cons (pv 1) pa_nil)) pa_nil)))) pa_nil))) (pss_cons (ps_expr (pe_bm F.plainAttrs_list F.slot_list_append F.type_list_append mt_append (pv 5) (pa_cons (pe_op (op_addOwn GAdd (hr.mono (by first | decide | omega)) OAdd.bd pass0 OAdd.ow WO.sf) (pe_meth (pv 0) TW.cl DCut.mt GCut (hr.mono (by first | decide | omega)) DCut.bd .nil pass0 (pa_cons pe_int (pa_cons (pv 3) pa_nil))) (pe_op (op_addOwn GAdd (hr.mono (by first | decide | omega)) OAdd.bd pass0 OAdd.ow WO.sf) (pe_meth (pv 0) TW.cl DCut.mt GCut (hr.mono (by first | decide | omega)) DCut.bd .nil pass0 (pa_cons (pv 3) (pa_cons (pv 4) pa_nil))) (pe_meth (pv 0) TW.cl DCut.mt GCut (hr.mono (by first | decide | omega)) DCut.bd .nil pass0 (pa_cons (pv 4) (pa_cons (pe_callB call_len_seq (by rfl) B.len PySem.boot_len (pa_cons (pv 1) pa_nil)) pa_nil))))) pa_nil))) (pss_cons (ps_set (i := 6) sc_LawOtherwise.nd rfl (.inl rfl) (pe_make TW.mkr GWord (hr.mono (by first | decide | omega)) rfl TW.gl TW.b .nil pass0 (pa_cons (pe_lst pa_nil) pa_nil))) (pss_cons (ps_for PassesOwn.never rfl (pi_list (pv 1)) (pg_name (i := 7) sc_LawOtherwise.nd rfl (.inl rfl)) (pss_one (ps_set (i := 6) sc_LawOtherwise.nd rfl (.inl rfl) (pe_op (op_addOwn GAdd (hr.mono (by first | decide | omega)) OAdd.bd pass0 OAdd.ow WO.sf) (pv 6) (pe_make TW.mkr GWord (hr.mono (by first | decide | omega)) rfl TW.gl TW.b .nil pass0 (pa_cons (pe_lst (pa_cons (pv 7) pa_nil)) pa_nil)))))) (pss_cons (ps_set (i := 8) sc_LawOtherwise.nd rfl (.inl rfl) (pe_make TW.mkr GWord (hr.mono (by first | decide | omega)) rfl TW.gl TW.b .nil pass0 (pa_cons (pe_lst pa_nil) pa_nil))) (pss_cons (ps_for PassesOwn.never rfl (pi_list (pe_revL (pv 1))) (pg_name (i := 7) sc_LawOtherwise.nd rfl (.inl rfl)) (pss_one (ps_set (i := 8) sc_LawOtherwise.nd rfl (.inl rfl) (pe_op (op_addOwn GAdd (hr.mono (by first | decide | omega)) OAdd.bd pass0 OAdd.ow WO.sf) (pe_make TW.mkr GWord (hr.mono (by first | decide | omega)) rfl TW.gl TW.b .nil pass0 (pa_cons (pe_lst (pa_cons (pv 7) pa_nil)) pa_nil)) (pv 8))))) (pss_one (ps_ret (pe_op op_cat (pv 5) (pe_lst (pa_cons (pv 6) (pa_cons (pv 8) (pa_cons (pe_op (op_addOwn GAdd (hr.mono (by first | decide | omega)) OAdd.bd pass0 OAdd.ow WO.sf) (pe_op (op_addOwn GAdd (hr.mono (by first | decide | omega)) OAdd.bd pass0 OAdd.ow WO.sf) (pe_make TW.mkr GWord (hr.mono (by first | decide | omega)) rfl TW.gl TW.b .nil pass0 (pa_cons (pe_lst pa_nil) pa_nil)) (pe_op (op_mulOwn GMul (hr.mono (by first | decide | omega)) OMul.bd pass0 OMul.ow WO.sf WO.rmul WO.im WO.irm WO.isub) (pv 0) pe_int)) (pe_op (op_mulOwn GMul (hr.mono (by first | decide | omega)) OMul.bd pass0 OMul.ow WO.sf WO.rmul WO.im WO.irm WO.isub) (pe_make TW.mkr GWord (hr.mono (by first | decide | omega)) rfl TW.gl TW.b .nil pass0 (pa_cons (pe_lst pa_nil) pa_nil)) pe_int)) pa_nil)))))))))))))), ?_⟩
    obtain ⟨⟨p, wp, dp⟩, ⟨xs, hl, px⟩, good⟩ := id hb
    obtain ⟨a, dx, fs, vp, rfl, ha, hf, hp⟩ := wp.obj
    have lx := Paired.len px
    have lp : p.den.length = es.length := by rw [dp]
    have gd : ∀ j, j < ds.length → ∃ d : Nat, (ds.map fun d => V.int (d : Nat))[j]? = some (V.int (d : Nat)) := fun j hj => ⟨ds[j], by rw [List.getElem?_map, List.getElem?_eq_getElem hj]; rfl⟩
    obtain ⟨d0, h0⟩ := gd 0 (by omega)
    obtain ⟨d1, h1⟩ := gd 1 (by omega)
    refine ⟨_, rfl, g, _, 0, _, rfl, rfl, SqL.of hd, atI_nat (j := 0) h0, .inl ⟨_, rfl, _, rfl, l, xs, rfl, .inl (SqL.of hl), _, _, rfl, rfl, _, _, rfl, rfl, (show (0 : Int) < ((xs.length : Nat) : Int) + 1 by omega), ?_⟩⟩
    refine ⟨_, rfl, g, _, 1, _, rfl, rfl, SqL.of hd, atI_nat (j := 1) h1, .inl ⟨_, rfl, _, rfl, l, xs, rfl, .inl (SqL.of hl), _, _, rfl, rfl, _, _, rfl, rfl, (show (0 : Int) < ((xs.length : Nat) : Int) + 1 by omega), sz2, fun t2 ht2 => ?_⟩⟩
    have s2 := Same.new (o := .lst [.int (((d0 : Nat) : Int) % (((xs.length : Nat) : Int) + 1)), .int (((d1 : Nat) : Int) % (((xs.length : Nat) : Int) + 1))]) ht2
    refine ⟨t2, [((d0 : Nat) : Int) % (((xs.length : Nat) : Int) + 1), ((d1 : Nat) : Int) % (((xs.length : Nat) : Int) + 1)], rfl, SqL.of upd_same, (show 2 < 64 by decide), fun ns' t3 hperm hsort ht3 => ?_⟩
    obtain ⟨x, y, rfl, hxy, hx, hy⟩ := sorted2 hperm hsort
    have bnd : ∀ d : Nat, 0 ≤ ((d : Nat) : Int) % (((xs.length : Nat) : Int) + 1) ∧ ((d : Nat) : Int) % (((xs.length : Nat) : Int) + 1) ≤ (xs.length : Nat) := fun d =>
      ⟨Int.emod_nonneg _ (by omega), by have := Int.emod_lt_of_pos ((d : Nat) : Int) (show (0 : Int) < ((xs.length : Nat) : Int) + 1 by omega); omega⟩
    have bx : 0 ≤ x ∧ x ≤ (xs.length : Nat) := by rcases hx with z | z <;> (rw [z]; exact bnd _)
    have bY : 0 ≤ y ∧ y ≤ (xs.length : Nat) := by rcases hy with z | z <;> (rw [z]; exact bnd _)
    obtain ⟨x, rfl⟩ := nat_int bx.1
    obtain ⟨y, rfl⟩ := nat_int bY.1
    clear hx hy hperm hsort
    have hxy : x ≤ y := by omega
    have hyl : y ≤ xs.length := by omega
    have s3 := s2.trans (Same.new (o := .lst (([((x : Nat) : Int), ((y : Nat) : Int)] : List Int).map V.int)) ht3)
    refine ⟨t3, _, rfl, SqL.of upd_same, rfl, _, _, rfl, _, _, rfl, rfl, ?_⟩
    dsimp -proj only
    generalize upd (upd H t2 (.lst [.int (((d0 : Nat) : Int) % (((xs.length : Nat) : Int) + 1)), .int (((d1 : Nat) : Int) % (((xs.length : Nat) : Int) + 1))])) t3 (.lst (([((x : Nat) : Int), ((y : Nat) : Int)] : List Int).map V.int)) = Hb at s3 ⊢
    have wb := wp.mono s3
    have hlb := s3 _ _ hl
    have pxb := Paired.mono (fun _ _ => EAt.mono s3) px
    clear ht2 ht3 s2
    -- found
    have wz1 := wb
    obtain ⟨_, dxz1, fsz1, vpz1, ez1, hz1, hfz1, hpz1⟩ := wz1.obj
    cases ez1
    refine ⟨_, rfl, a, dxz1, fsz1, rfl, hz1, hfz1.mCut, _, rfl, .ref a, p, m, c, 0, x, rfl, wz1, Nat.zero_le _, by rw [lp]; omega, fun az2 Hz2 qz2 sz2 wz2 dz2 => ?_⟩
    have lz3 : qz2.den.length = x - 0 := by rw [dz2, List.length_take, List.length_drop, lp]; omega
    have wz4 := (wb.mono sz2)
    obtain ⟨_, dxz4, fsz4, vpz4, ez4, hz4, hfz4, hpz4⟩ := wz4.obj
    cases ez4
    refine ⟨_, rfl, a, dxz4, fsz4, rfl, hz4, hfz4.mCut, _, rfl, _, rfl, l, xs, rfl, .inl (SqL.of (sz2 _ _ hlb)), .ref a, p, m, c, x, xs.length, rfl, wz4, by omega, by rw [lp]; omega, fun az5 Hz5 qz5 sz5 wz5 dz5 => ?_⟩
    have lz6 : qz5.den.length = xs.length - x := by rw [dz5, List.length_take, List.length_drop, lp]; omega
    have wz7 := (wz2.mono sz5)
    obtain ⟨_, dxz7, fsz7, vpz7, ez7, hz7, hfz7, hpz7⟩ := wz7.obj
    cases ez7
    have wz8 := wz5
    obtain ⟨_, dxz8, fsz8, vpz8, ez8, hz8, hfz8, hpz8⟩ := wz8.obj
    cases ez8
    refine ⟨az2, az5, dxz7, dxz8, fsz7, fsz8, rfl, rfl, hz7, hz8, .ref az2, .ref az5, qz2, qz5, m, m, c, c, rfl, wz7, wz8, by omega, sml_WL (by rw [lz3, lz6]; omega), fun az9 Hz9 qz9 sz9 wz9 dz9 => ⟨_, rfl, ?_⟩⟩
    have lz10 : qz9.den.length = x - 0 + (xs.length - x) := by rw [dz9, List.length_append, lz3, lz6]
    refine ⟨sz1, fun tz11 htz11 => ?_⟩
    have snz11 := Same.new (o := .lst [.ref az9]) htz11
    have f1 : qz9.den = p.den := by
      rw [dz9, dz2, dz5, List.drop_zero, Nat.sub_zero]
      rw [List.take_of_length_le (l := p.den.drop x) (by rw [List.length_drop]; omega), List.take_append_drop]
    -- append
    refine ⟨_, rfl, .inl ⟨rfl, _, SqL.of upd_same⟩, ?_⟩
    have wz12 := (wb.mono (sz2.trans (sz5.trans (sz9.trans snz11))))
    obtain ⟨_, dxz12, fsz12, vpz12, ez12, hz12, hfz12, hpz12⟩ := wz12.obj
    cases ez12
    refine ⟨_, rfl, a, dxz12, fsz12, rfl, hz12, hfz12.mCut, _, rfl, .ref a, p, m, c, 0, x, rfl, wz12, Nat.zero_le _, by rw [lp]; omega, fun az13 Hz13 qz13 sz13 wz13 dz13 => ?_⟩
    have lz14 : qz13.den.length = x - 0 := by rw [dz13, List.length_take, List.length_drop, lp]; omega
    have wz15 := (wb.mono (sz2.trans (sz5.trans (sz9.trans (snz11.trans sz13)))))
    obtain ⟨_, dxz15, fsz15, vpz15, ez15, hz15, hfz15, hpz15⟩ := wz15.obj
    cases ez15
    refine ⟨_, rfl, a, dxz15, fsz15, rfl, hz15, hfz15.mCut, _, rfl, _, rfl, .ref a, p, m, c, x, y, rfl, wz15, hxy, by rw [lp]; omega, fun az16 Hz16 qz16 sz16 wz16 dz16 => ?_⟩
    have lz17 : qz16.den.length = y - x := by rw [dz16, List.length_take, List.length_drop, lp]; omega
    have wz18 := (wb.mono (sz2.trans (sz5.trans (sz9.trans (snz11.trans (sz13.trans sz16))))))
    obtain ⟨_, dxz18, fsz18, vpz18, ez18, hz18, hfz18, hpz18⟩ := wz18.obj
    cases ez18
    refine ⟨_, rfl, a, dxz18, fsz18, rfl, hz18, hfz18.mCut, _, rfl, _, rfl, l, xs, rfl, .inl (SqL.of ((sz2.trans (sz5.trans (sz9.trans (snz11.trans (sz13.trans sz16))))) _ _ hlb)), .ref a, p, m, c, y, xs.length, rfl, wz18, by omega, by rw [lp]; omega, fun az19 Hz19 qz19 sz19 wz19 dz19 => ?_⟩
    have lz20 : qz19.den.length = xs.length - y := by rw [dz19, List.length_take, List.length_drop, lp]; omega
    have wz21 := (wz16.mono sz19)
    obtain ⟨_, dxz21, fsz21, vpz21, ez21, hz21, hfz21, hpz21⟩ := wz21.obj
    cases ez21
    have wz22 := wz19
    obtain ⟨_, dxz22, fsz22, vpz22, ez22, hz22, hfz22, hpz22⟩ := wz22.obj
    cases ez22
    refine ⟨az16, az19, dxz21, dxz22, fsz21, fsz22, rfl, rfl, hz21, hz22, .ref az16, .ref az19, qz16, qz19, m, m, c, c, rfl, wz21, wz22, by omega, sml_WL (by rw [lz17, lz20]; omega), fun az23 Hz23 qz23 sz23 wz23 dz23 => ⟨_, rfl, ?_⟩⟩
    have lz24 : qz23.den.length = y - x + (xs.length - y) := by rw [dz23, List.length_append, lz17, lz20]
    have wz25 := (wz13.mono (sz16.trans (sz19.trans sz23)))
    obtain ⟨_, dxz25, fsz25, vpz25, ez25, hz25, hfz25, hpz25⟩ := wz25.obj
    cases ez25
    have wz26 := wz23
    obtain ⟨_, dxz26, fsz26, vpz26, ez26, hz26, hfz26, hpz26⟩ := wz26.obj
    cases ez26
    refine ⟨az13, az23, dxz25, dxz26, fsz25, fsz26, rfl, rfl, hz25, hz26, .ref az13, .ref az23, qz13, qz23, m, max (m) (m), c, c + c, rfl, wz25, wz26, by omega, sml_WL (by rw [lz14, lz24]; omega), fun az27 Hz27 qz27 sz27 wz27 dz27 => ⟨_, rfl, ?_⟩⟩
    have lz28 : qz27.den.length = x - 0 + (y - x + (xs.length - y)) := by rw [dz27, List.length_append, lz14, lz24]
    have f2 : qz27.den = p.den := by
      rw [dz27, dz13, dz23, dz16, dz19, List.drop_zero, Nat.sub_zero]
      rw [List.take_of_length_le (l := p.den.drop y) (by rw [List.length_drop]; omega)]
      have : (p.den.drop x).take (y - x) ++ p.den.drop y = p.den.drop x := by
        conv => rhs; rw [← List.take_append_drop (y - x) (p.den.drop x)]
        rw [List.drop_drop, show x + (y - x) = y by omega]
      rw [this, List.take_append_drop]
    have hF := ((sz13.trans (sz16.trans (sz19.trans (sz23.trans sz27)))) _ _ (show (upd _ tz11 (.lst [.ref az9])) tz11 = some (.lst [.ref az9]) from upd_same))
    refine ⟨tz11, _, _, rfl, rfl, hF, (show 1 < sizeLine from Nat.lt_of_lt_of_le (by decide) three_line), ?_⟩
    have wF1 := ((wz9.mono (snz11.trans (sz13.trans (sz16.trans (sz19.trans (sz23.trans sz27))))))).put (o := .lst ([.ref az9] ++ [.ref az27])) hF
    have wF2 := wz27.put (o := .lst ([.ref az9] ++ [.ref az27])) hF
    have nF : Hb tz11 = none := by
      cases z : Hb tz11 with
      | none => rfl
      | some o => exact nomatch (htz11.symm.trans ((sz2.trans (sz5.trans sz9)) _ _ z))
    have sF : Same Hb (upd Hz27 tz11 (.lst ([.ref az9] ++ [.ref az27]))) := fun b o z => by
      rw [upd_ne (fun q => by rw [q, nF] at z; cases z)]; exact (sz2.trans (sz5.trans (sz9.trans (snz11.trans (sz13.trans (sz16.trans (sz19.trans (sz23.trans sz27)))))))) _ _ z
    have hF' := upd_same (H := Hz27) (a := tz11) (o := .lst ([.ref az9] ++ [.ref az27]))
    generalize upd Hz27 tz11 (.lst ([.ref az9] ++ [.ref az27])) = Hc at wF1 wF2 sF hF' ⊢
    have wc := wb.mono sF
    have hlc := sF _ _ hlb
    have pxc := Paired.mono (fun _ _ => EAt.mono sF) pxb
    have eg : ∀ e ∈ es, e.good = true := fun e he => (good e he).1
    -- single
    refine ⟨Nat.zero_le _, fun tz29 htz29 => ?_⟩
    have snz29 := Same.new (o := .lst []) htz29
    refine mk_wordL (C := C) (es := []) ⟨tz29, [], rfl, upd_same, .nil⟩ (fun e he => (nomatch he)) (by decide) fun az30 Hz30 qz30 sz30 wz30 dz30 => ?_
    refine ⟨_, rfl, l, rfl, ⟨_, SqL.of ((snz29.trans sz30) _ _ hlc)⟩, ?_⟩
    refine for_list (xs := xs) (fun i σ H' => ∃ (a6 : Addr) (q6 : Pt En) (o7 : Option V), σ = [some (.ref a), some (.ref l), some (.ref g), some (.int (x : Nat)), some (.int (y : Nat)), some (.ref tz11), some (.ref a6), o7, none] ∧ Same Hc H' ∧ WAt C CW H' (.ref a6) q6 0 (i + 1) ∧ q6.den = es.take i) ?_ (fun i σ H' _ ⟨_, _, _, _, hs, _⟩ => SqL.of (hs _ _ hlc)) ?_ ?_
    · exact ⟨az30, qz30, _, rfl, (snz29.trans sz30), wz30, by rw [dz30]; rfl⟩
    · rintro i x0 σ H1 hx0 ⟨a6, q6, o7, rfl, s1, w6, d6⟩
      have hi : i < xs.length := (List.getElem?_eq_some_iff.mp hx0).1
      obtain ⟨e, he, hee⟩ := Paired.at_ pxc hx0
      have l6 : q6.den.length = i := by rw [d6, List.length_take]; omega
      refine ⟨_, rfl, _, rfl, sz1, fun tz31 htz31 => ?_⟩
      have snz31 := Same.new (o := .lst [x0]) htz31
      refine mk_wordL (C := C) (es := [e]) ⟨tz31, [x0], rfl, upd_same, (.cons (hee.mono (s1.trans snz31)) .nil)⟩ (fun z hz => by rw [List.mem_singleton.mp hz]; exact eg e (List.mem_of_getElem? he)) (show 1 ≤ 1000000 by decide) fun az32 Hz32 qz32 sz32 wz32 dz32 => ?_
      have lz33 : qz32.den.length = 1 := by rw [dz32]; rfl
      have wz34 := (w6.mono (snz31.trans sz32))
      obtain ⟨_, dxz34, fsz34, vpz34, ez34, hz34, hfz34, hpz34⟩ := wz34.obj
      cases ez34
      have wz35 := wz32
      obtain ⟨_, dxz35, fsz35, vpz35, ez35, hz35, hfz35, hpz35⟩ := wz35.obj
      cases ez35
      refine ⟨a6, az32, dxz34, dxz35, fsz34, fsz35, rfl, rfl, hz34, hz35, .ref a6, .ref az32, q6, qz32, 0, 0, (i + 1), 1, rfl, wz34, wz35, by omega, sml_WL (by rw [l6, lz33]; omega), fun az36 Hz36 qz36 sz36 wz36 dz36 => ⟨_, rfl, ?_⟩⟩
      have lz37 : qz36.den.length = i + (1) := by rw [dz36, List.length_append, l6, lz33]
      exact ⟨az36, qz36, _, rfl, s1.trans (snz31.trans (sz32.trans sz36)), wz36, by rw [dz36, d6, dz32, List.take_succ, he]; rfl⟩
    rintro σ H2 ⟨aS, qS, o7, rfl, s4, wS, dS⟩
    have tk : es.take xs.length = es := by rw [lx]; exact List.take_of_length_le (Nat.le_refl _)
    rw [tk] at dS
    have hl4 := s4 _ _ hlc
    have px4 := Paired.mono (fun _ _ => EAt.mono s4) pxc
    have w4 := wc.mono s4
    have wG1 := wF1.mono s4
    have wG2 := wF2.mono s4
    have hF4 := s4 _ _ hF'
    -- backward
    refine ⟨Nat.zero_le _, fun tz38 htz38 => ?_⟩
    have snz38 := Same.new (o := .lst []) htz38
    refine mk_wordL (C := C) (es := []) ⟨tz38, [], rfl, upd_same, .nil⟩ (fun e he => (nomatch he)) (by decide) fun az39 Hz39 qz39 sz39 wz39 dz39 => ?_
    refine ⟨_, rfl, l, xs, rfl, SqL.of ((snz38.trans sz39) _ _ hl4), fun tz40 htz40 => ?_⟩
    have snz40 := Same.new (o := .lst xs.reverse) htz40
    refine ⟨tz40, rfl, ⟨_, SqL.of upd_same⟩, ?_⟩
    have hrv := upd_same (H := Hz39) (a := tz40) (o := .lst xs.reverse)
    have sR := (snz38.trans (sz39.trans snz40))
    have wR0 := (wz39.mono snz40)
    generalize upd Hz39 tz40 (.lst xs.reverse) = H5 at hrv sR wR0 ⊢
    have px5 := Paired.mono (fun _ _ => EAt.mono sR) px4
    refine for_list (xs := xs.reverse) (fun i σ H' => ∃ (a8 : Addr) (q8 : Pt En) (o7 : Option V), σ = [some (.ref a), some (.ref l), some (.ref g), some (.int (x : Nat)), some (.int (y : Nat)), some (.ref tz11), some (.ref aS), o7, some (.ref a8)] ∧ Same H5 H' ∧ WAt C CW H' (.ref a8) q8 0 (i + 1) ∧ q8.den = es.drop (es.length - i)) ?_ (fun i σ H' _ ⟨_, _, _, _, hs, _⟩ => SqL.of (hs _ _ hrv)) ?_ ?_
    · exact ⟨az39, qz39, _, rfl, Same.refl _, wR0, by rw [dz39, Nat.sub_zero, List.drop_length]⟩
    · rintro i x0 σ H1 hx0 ⟨a8, q8, o7, rfl, s1, w8, d8⟩
      have hi : i < xs.length := by have := (List.getElem?_eq_some_iff.mp hx0).1; rwa [List.length_reverse] at this
      rw [List.getElem?_reverse hi] at hx0
      obtain ⟨e, he, hee⟩ := Paired.at_ px5 hx0
      have l8 : q8.den.length = i := by rw [d8, List.length_drop]; omega
      refine ⟨_, rfl, sz1, fun tz41 htz41 => ?_⟩
      have snz41 := Same.new (o := .lst [x0]) htz41
      refine mk_wordL (C := C) (es := [e]) ⟨tz41, [x0], rfl, upd_same, (.cons (hee.mono (s1.trans snz41)) .nil)⟩ (fun z hz => by rw [List.mem_singleton.mp hz]; exact eg e (List.mem_of_getElem? he)) (show 1 ≤ 1000000 by decide) fun az42 Hz42 qz42 sz42 wz42 dz42 => ?_
      have lz43 : qz42.den.length = 1 := by rw [dz42]; rfl
      have wz44 := wz42
      obtain ⟨_, dxz44, fsz44, vpz44, ez44, hz44, hfz44, hpz44⟩ := wz44.obj
      cases ez44
      have wz45 := (w8.mono (snz41.trans sz42))
      obtain ⟨_, dxz45, fsz45, vpz45, ez45, hz45, hfz45, hpz45⟩ := wz45.obj
      cases ez45
      refine ⟨_, rfl, az42, a8, dxz44, dxz45, fsz44, fsz45, rfl, rfl, hz44, hz45, .ref az42, .ref a8, qz42, q8, 0, 0, 1, (i + 1), rfl, wz44, wz45, by omega, sml_WL (by rw [lz43, l8]; omega), fun az46 Hz46 qz46 sz46 wz46 dz46 => ⟨_, rfl, ?_⟩⟩
      have lz47 : qz46.den.length = 1 + (i) := by rw [dz46, List.length_append, lz43, l8]
      have ecc : 1 + (i + 1) = i + 1 + 1 := by omega
      have wG := wz46
      rw [ecc] at wG
      refine ⟨az46, qz46, _, rfl, s1.trans (snz41.trans (sz42.trans sz46)), wG, ?_⟩
      rw [dz46, d8, dz42]
      have en : es.length - i = (es.length - (i + 1)) + 1 := by omega
      rw [en, ← lx, show xs.length - (i + 1) = xs.length - 1 - i by omega] at *
      obtain ⟨hh1, hh2⟩ := List.getElem?_eq_some_iff.mp he
      rw [List.drop_eq_getElem_cons hh1, hh2]; rfl
    rintro σ H6 ⟨aB, qB, o7, rfl, s6, wB, dB⟩
    rw [List.length_reverse, lx, Nat.sub_self, List.drop_zero] at dB
    have s46 := sR.trans s6
    have w6 := w4.mono s46
    -- the list
    refine ⟨_, rfl, _, rfl, _, rfl, Nat.zero_le _, fun tz48 htz48 => ?_⟩
    have snz48 := Same.new (o := .lst []) htz48
    refine mk_wordL (C := C) (es := []) ⟨tz48, [], rfl, upd_same, .nil⟩ (fun e he => (nomatch he)) (by decide) fun az49 Hz49 qz49 sz49 wz49 dz49 => ?_
    have lz50 : qz49.den.length = 0 := by rw [dz49]; rfl
    have wz51 := (w6.mono (snz48.trans sz49))
    obtain ⟨_, dxz51, fsz51, vpz51, ez51, hz51, hfz51, hpz51⟩ := wz51.obj
    cases ez51
    refine ⟨_, rfl, a, dxz51, fsz51, _, rfl, rfl, hz51, .ref a, p, m, c, 1, rfl, wz51, by omega, sml_WL (by omega), sml_WL (by rw [lp]; omega), fun az52 Hz52 qz52 sz52 wz52 dz52 => ⟨_, rfl, ?_⟩⟩
    have lz53 : qz52.den.length = 1 * (es.length) := by rw [dz52, len_rpt, lp]
    have wz54 := (wz49.mono sz52)
    obtain ⟨_, dxz54, fsz54, vpz54, ez54, hz54, hfz54, hpz54⟩ := wz54.obj
    cases ez54
    have wz55 := wz52
    obtain ⟨_, dxz55, fsz55, vpz55, ez55, hz55, hfz55, hpz55⟩ := wz55.obj
    cases ez55
    refine ⟨az49, az52, dxz54, dxz55, fsz54, fsz55, rfl, rfl, hz54, hz55, .ref az49, .ref az52, qz49, qz52, 0, m + 1, 1, c, rfl, wz54, wz55, by omega, sml_WL (by rw [lz50, lz53]; omega), fun az56 Hz56 qz56 sz56 wz56 dz56 => ⟨_, rfl, ?_⟩⟩
    have lz57 : qz56.den.length = 0 + (1 * (es.length)) := by rw [dz56, List.length_append, lz50, lz53]
    refine ⟨Nat.zero_le _, fun tz58 htz58 => ?_⟩
    have snz58 := Same.new (o := .lst []) htz58
    refine mk_wordL (C := C) (es := []) ⟨tz58, [], rfl, upd_same, .nil⟩ (fun e he => (nomatch he)) (by decide) fun az59 Hz59 qz59 sz59 wz59 dz59 => ?_
    have lz60 : qz59.den.length = 0 := by rw [dz59]; rfl
    have wz61 := wz59
    obtain ⟨_, dxz61, fsz61, vpz61, ez61, hz61, hfz61, hpz61⟩ := wz61.obj
    cases ez61
    refine ⟨az59, dxz61, fsz61, _, rfl, rfl, hz61, .ref az59, qz59, 0, 1, 9, rfl, wz61, by omega, sml_WL (by omega), sml_WL (by rw [lz60]; omega), fun az62 Hz62 qz62 sz62 wz62 dz62 => ⟨_, rfl, ?_⟩⟩
    have lz63 : qz62.den.length = 9 * (0) := by rw [dz62, len_rpt, lz60]
    have wz64 := (wz56.mono (snz58.trans (sz59.trans sz62)))
    obtain ⟨_, dxz64, fsz64, vpz64, ez64, hz64, hfz64, hpz64⟩ := wz64.obj
    cases ez64
    have wz65 := wz62
    obtain ⟨_, dxz65, fsz65, vpz65, ez65, hz65, hfz65, hpz65⟩ := wz65.obj
    cases ez65
    refine ⟨az56, az62, dxz64, dxz65, fsz64, fsz65, rfl, rfl, hz64, hz65, .ref az56, .ref az62, qz56, qz62, max (0) (m + 1), 0 + 1, 1 + c, 1, rfl, wz64, wz65, by omega, sml_WL (by rw [lz57, lz63]; omega), fun az66 Hz66 qz66 sz66 wz66 dz66 => ⟨_, rfl, ?_⟩⟩
    have lz67 : qz66.den.length = 0 + (1 * (es.length)) + (9 * (0)) := by rw [dz66, List.length_append, lz57, lz63]
    refine ⟨sz3, fun tz68 htz68 => ?_⟩
    have snz68 := Same.new (o := .lst [.ref aS, .ref aB, .ref az66]) htz68
    have dZ : qz66.den = es := by
      rw [dz66, dz56, dz49, dz52, dz62, dz59, dp, rpt_one, rpt_nil]
      rw [List.nil_append, List.append_nil]
    have hFE := (s46.trans (snz48.trans (sz49.trans (sz52.trans (sz56.trans (snz58.trans (sz59.trans (sz62.trans (sz66.trans snz68))))))))) _ _ hF4
    have tF1 : Told C CW _ es (.ref az9) := ⟨_, _, _, wG1.mono (s46.trans (snz48.trans (sz49.trans (sz52.trans (sz56.trans (snz58.trans (sz59.trans (sz62.trans (sz66.trans snz68))))))))), by rw [f1, dp], by omega⟩
    have tF2 : Told C CW _ es (.ref az27) := ⟨_, _, _, wG2.mono (s46.trans (snz48.trans (sz49.trans (sz52.trans (sz56.trans (snz58.trans (sz59.trans (sz62.trans (sz66.trans snz68))))))))), by rw [f2, dp], by omega⟩
    have tS1 : Told C CW _ es (.ref aS) := ⟨_, _, _, wS.mono (s46.trans (snz48.trans (sz49.trans (sz52.trans (sz56.trans (snz58.trans (sz59.trans (sz62.trans (sz66.trans snz68))))))))), dS, by omega⟩
    have tB1 : Told C CW _ es (.ref aB) := ⟨_, _, _, wB.mono (snz48.trans (sz49.trans (sz52.trans (sz56.trans (snz58.trans (sz59.trans (sz62.trans (sz66.trans snz68)))))))), dB, by rw [List.length_reverse]; omega⟩
    have tZ1 : Told C CW _ es (.ref az66) := ⟨_, _, _, (wz66.mono snz68), dZ, by omega⟩
    refine ⟨tz11, tz68, _, _, rfl, rfl, hFE, upd_same, (show 2 + 3 ≤ sizeLine from Nat.le_trans (by decide) (show (1000000 : Nat) ≤ sizeLine by rw [sizeLine_eq]; decide)), fun tr htr => ?_⟩
    have sT := Same.new (o := .lst (([V.ref az9] ++ [V.ref az27]) ++ [V.ref aS, V.ref aB, V.ref az66])) htr
    refine k tr _ _ ((s3.trans sF).trans (s4.trans (s46.trans ((snz48.trans (sz49.trans (sz52.trans (sz56.trans (snz58.trans (sz59.trans (sz62.trans (sz66.trans snz68)))))))).trans sT)))) upd_same fun x hx => ?_
    rw [List.mem_append, List.mem_append, List.mem_singleton, List.mem_singleton, List.mem_cons, List.mem_cons, List.mem_singleton] at hx
    rcases hx with (rfl | rfl) | rfl | rfl | rfl
    · exact tF1.mono sT
    · exact tF2.mono sT
    · exact tS1.mono sT
    · exact tB1.mono sT
    · exact tZ1.mono sT
end
end Wd
set_option Elab.async false
set_option linter.all false
set_option maxRecDepth 100000
set_option maxHeartbeats 4000000
set_option exponentiation.threshold 100000
namespace Wd
open PySem L2
theorem seq_join {ta tb : TS} {D : Ends} {σ : St} {H : Hp} (J : St → Hp → Prop) (h : ∀ D' : Ends, (∀ σ' H', J σ' H' → D'.nx σ' H') → ta D' σ H) (h2 : ∀ σ' H', J σ' H' → tb D σ' H') : tSeq ta tb D σ H := h _ h2
theorem asg_join {i : Nat} {v : V} {ta tb : TS} {D : Ends} {σ : St} {H : Hp} (J : St → Hp → Prop) (h : ∀ D' : Ends, (∀ σ' H', J σ' H' → D'.nx σ' H') → ta D' (σ.set i (some v)) H) (h2 : ∀ σ' H', J σ' H' → tb D σ' H') : gName i v σ H (Ends.nx { D with nx := tSeq ta tb D }) := h _ h2
theorem next_join {ta tb : TS} {D : Ends} {σ : St} {H : Hp} (J : St → Hp → Prop) (h : ∀ D' : Ends, (∀ σ' H', J σ' H' → D'.nx σ' H') → ta D' σ H) (h2 : ∀ σ' H', J σ' H' → tb D σ' H') : tNext { D with nx := tSeq ta tb D } σ H := h _ h2
/-- the list some, so far -/
def Some6 (C CW t : Addr) (es : List En) (H0 H : Hp) (n : Nat) : Prop := Same H0 H ∧ ∃ xs, H t = some (.lst xs) ∧ xs.length ≤ n ∧ ∀ x ∈ xs, Told C CW H es x
theorem Some6.more {C CW t : Addr} {es : List En} {H0 H : Hp} {n : Nat} {xs : List V} {y : V} (hn : H0 t = none) (s : Same H0 H) (ht : H t = some (.lst xs)) (hl : xs.length ≤ n) (h : ∀ x ∈ xs, Told C CW H es x) (hy : Told C CW H es y) :
    Some6 C CW t es H0 (upd H t (.lst (xs ++ [y]))) (n + 1) := by
  refine ⟨fun b o z => ?_, xs ++ [y], upd_same, by rw [List.length_append]; exact Nat.add_le_add_right hl 1, fun x hx => ?_⟩
  · rw [upd_ne (fun q => by rw [q, hn] at z; cases z)]; exact s _ _ z
  · rw [List.mem_append, List.mem_singleton] at hx
    rcases hx with hx | rfl
    · obtain ⟨p, m, c, h1, h2, h3⟩ := h x hx
      exact ⟨p, m, c, h1.put ht, h2, h3⟩
    · obtain ⟨p, m, c, h1, h2, h3⟩ := hy
      exact ⟨p, m, c, h1.put ht, h2, h3⟩
theorem Some6.le {C CW t : Addr} {es : List En} {H0 H : Hp} {n m : Nat} (h : Some6 C CW t es H0 H n) (hm : n ≤ m) : Some6 C CW t es H0 H m := let ⟨s, xs, h1, h2, h3⟩ := h; ⟨s, xs, h1, Nat.le_trans h2 hm, h3⟩
theorem cm_small {i j : Nat} (h1 : i < 2 ^ 10) (h2 : j < 2 ^ 10) : CMulW ((i : Nat) : Int) ((j : Nat) : Int) :=
  wide_mul (a := 10) (b := 10) (by rw [Int.natAbs_natCast]; exact h1) (by rw [Int.natAbs_natCast]; exact h2) (by decide) (by decide) (by decide)
theorem rpt_rpt {A : Type} (a b : Nat) (xs : List A) : rpt b (rpt a xs) = rpt (a * b) xs := (rpt_mul a b xs).symm
section
variable {P : Program} {w : World} {K : PySem.W.Frag} {mg : Str → Option Value} {base : Heap} {f C CW CM CK CP : Addr} {fd : FuncData} {H : Hp}
def spPowers : Sp := fun vs H Q _ => ∃ (l g : Addr) (row : List En) (ds : List Nat), vs = [.ref l, .ref g] ∧ LAt0 H l row ∧ DAt H g ds ∧ 2 ≤ ds.length ∧ row.length ≤ 4 ∧ (∀ e ∈ row, e.good = true) ∧ ∀ H', Same H H' → Q (.bl true) H'
theorem sc_LawPowersRight : FnScope ["row", "digits", "base", "one", "two", "some", "word", "longer"] ["row", "digits"] (defScope sLawPowersRight) := ⟨rfl, rfl, rfl, by decide +kernel, rfl, by decide +kernel, by decide +kernel⟩
theorem ok_Powers (D : DefF K mg "_law_powers_right" sLawPowersRight ["row", "digits"] f fd) (B : Blt mg)
    {fWI : Addr} {fdWI : FuncData} (TW : WCl K mg CW fWI fdWI) (GWord : FnOk P w K mg base CX0 4 fWI fdWI ["self", "entries"] (spWordInit C CW CM K)) {fGet : Addr} (WO : WOps K CW fGet)
    {fAd fMu fEq : Addr} {fdAd fdMu fdEq : FuncData} (OAdd : DefO K CW "__add__" "Word.__add__" sWordAdd ["self", "other"] fAd fdAd) (GAdd : FnOk P w K mg base CX0 6 fAd fdAd ["self", "other"] (spWordAdd C CW))
    (OMul : DefO K CW "__mul__" "Word.__mul__" sWordMul ["self", "times"] fMu fdMu) (GMul : FnOk P w K mg base CX0 6 fMu fdMu ["self", "times"] (spWordMul C CW))
    (OEq : DefO K CW "__eq__" "Word.__eq__" sWordEq ["self", "other"] fEq fdEq) (GEq : FnOk P w K mg base CX0 178 fEq fdEq ["self", "other"] (spWordEq C CW)) :
    FnOk P w K mg base CX0 180 f fd ["row", "digits"] spPowers := by
  refine D.fn.ok sc_LawPowersRight (fun vs H Q E h => ?_) (fun cdv A outer s H vs Q E hr h => ?_)
  · obtain ⟨l, g, row, ds, rfl, _⟩ := h; rfl
  · obtain ⟨l, g, row, ds, rfl, ⟨xs, hl, px⟩, hd, hl2, h4, hg, k⟩ := h
    refine ⟨_, (pss_cons (ps_set (i := 2) sc_LawPowersRight.nd rfl (.inl rfl) (pe_make TW.mkr GWord (hr.mono (by first | decide | omega)) rfl TW.gl TW.b .nil pass0 (pa_cons (pv 0) pa_nil))) (pss_cons (ps_asg (pe_tup (pa_cons (pe_op op_mod (pe_callTy call_int1 (by rfl) B.int PyProof.Rows.boot_int (pa_cons (pe_ix ix_list (pv 1) pe_int (fun _ _ => rfl)) pa_nil)) pe_int) (pa_cons (pe_op op_mod (pe_callTy call_int1 (by rfl) B.int PyProof.Rows.boot_int (pa_cons (pe_ix ix_list (pv 1) pe_int (fun _ _ => rfl)) pa_nil)) pe_int) pa_nil))) (pg_tup rfl (pgs_cons (pg_name (i := 3) sc_LawPowersRight.nd rfl (.inr rfl)) (pgs_cons (pg_name (i := 4) sc_LawPowersRight.nd rfl (.inr rfl)) pgs_nil)))) (pss_cons (ps_set (i := 5) sc_LawPowersRight.nd rfl (.inl rfl) (pe_lst (pa_cons (pe_op (op_mulOwn GMul (hr.mono (by first | decide | omega)) OMul.bd pass0 OMul.ow WO.sf WO.rmul WO.im WO.irm WO.isub) (pe_op (op_mulOwn GMul (hr.mono (by first | decide | omega)) OMul.bd pass0 OMul.ow WO.sf WO.rmul WO.im WO.irm WO.isub) (pv 2) (pv 3)) (pv 4)) (pa_cons (pe_op (op_mulOwn GMul (hr.mono (by first | decide | omega)) OMul.bd pass0 OMul.ow WO.sf WO.rmul WO.im WO.irm WO.isub) (pe_op (op_mulOwn GMul (hr.mono (by first | decide | omega)) OMul.bd pass0 OMul.ow WO.sf WO.rmul WO.im WO.irm WO.isub) (pv 2) (pv 4)) (pv 3)) (pa_cons (pe_op (op_mulOwn GMul (hr.mono (by first | decide | omega)) OMul.bd pass0 OMul.ow WO.sf WO.rmul WO.im WO.irm WO.isub) (pe_op (op_mulOwn GMul (hr.mono (by first | decide | omega)) OMul.bd pass0 OMul.ow WO.sf WO.rmul WO.im WO.irm WO.isub) (pv 2) (pv 3)) (pv 4)) (pa_cons (pe_op (op_mulOwn GMul (hr.mono (by first | decide | omega)) OMul.bd pass0 OMul.ow WO.sf WO.rmul WO.im WO.irm WO.isub) (pv 2) (pe_op op_mulW (pv 3) (pv 4))) pa_nil)))))) (pss_cons (ps_if (pt_cmpR op_gt (pv 4) pe_int (nomark _)) (pss_one (ps_expr (pe_bm F.plainAttrs_list F.slot_list_append F.type_list_append mt_append (pv 5) (pa_cons (pe_op (op_addOwn GAdd (hr.mono (by first | decide | omega)) OAdd.bd pass0 OAdd.ow WO.sf) (pe_op (op_mulOwn GMul (hr.mono (by first | decide | omega)) OMul.bd pass0 OMul.ow WO.sf WO.rmul WO.im WO.irm WO.isub) (pv 2) (pv 3)) (pe_op (op_mulOwn GMul (hr.mono (by first | decide | omega)) OMul.bd pass0 OMul.ow WO.sf WO.rmul WO.im WO.irm WO.isub) (pv 2) (pe_op op_sub (pe_op op_mulW (pv 3) (pv 4)) (pv 3)))) pa_nil)))) pss_nil) (pss_cons (ps_if (pt_cmpR op_gt (pv 3) pe_int (nomark _)) (pss_one (ps_expr (pe_bm F.plainAttrs_list F.slot_list_append F.type_list_append mt_append (pv 5) (pa_cons (pe_op (op_addOwn GAdd (hr.mono (by first | decide | omega)) OAdd.bd pass0 OAdd.ow WO.sf) (pe_op (op_mulOwn GMul (hr.mono (by first | decide | omega)) OMul.bd pass0 OMul.ow WO.sf WO.rmul WO.im WO.irm WO.isub) (pe_op (op_addOwn GAdd (hr.mono (by first | decide | omega)) OAdd.bd pass0 OAdd.ow WO.sf) (pv 2) (pv 2)) (pv 4)) (pe_op (op_mulOwn GMul (hr.mono (by first | decide | omega)) OMul.bd pass0 OMul.ow WO.sf WO.rmul WO.im WO.irm WO.isub) (pv 2) (pe_op op_sub (pe_op op_mulW (pv 3) (pv 4)) (pe_op op_mulW pe_int (pv 4))))) pa_nil)))) pss_nil) (pss_cons (ps_if (pt_cmpR (op_neNil hr.units) (pe_lc (own := [("word", 6)]) (g := gName 6)  rfl sc_LawPowersRight.nd (pi_list (pv 5)) (blkOk_by (N := ["row", "digits", "base", "one", "two", "some", "word", "longer"]) (sc := defScope sLawPowersRight) (by decide +kernel)) (fun _ _ _ _ _ => pg_name (i := 6) sc_LawPowersRight.nd rfl (Or.inl rfl)) (fun _ _ _ _ _ => (pts_one (pt_cmpR (op_neOwn GEq (hr.mono (by first | decide | omega)) OEq.bd pass0 OEq.ow WO.ne TW.hm) (pv 6) (pe_make TW.mkr GWord (hr.mono (by first | decide | omega)) rfl TW.gl TW.b .nil pass0 (pa_cons (pe_op op_rep (pv 0) (pe_op op_mulW (pv 3) (pv 4))) pa_nil)) (nomark _)))) (fun _ _ _ _ _ => (pv 6))) (pe_lst pa_nil) (nomark _)) (pss_one (ps_ret pe_bl)) pss_nil) (pss_cons (ps_set (i := 7) sc_LawPowersRight.nd rfl (.inr rfl) (pe_op (op_mulOwn GMul (hr.mono (by first | decide | omega)) OMul.bd pass0 OMul.ow WO.sf WO.rmul WO.im WO.irm WO.isub) (pv 2) (pe_op op_add (pe_op op_mulW (pv 3) (pv 4)) pe_int))) (pss_one (ps_ret (pe_or (pe_cmpR (op_eqD hr.units) (pv 0) (pe_lst pa_nil) (nomark _)) (pe_one (pe_cmpR (op_eqD hr.units) (pe_lc (own := [("word", 6)]) (g := gName 6)  rfl sc_LawPowersRight.nd (pi_list (pv 5)) (blkOk_by (N := ["row", "digits", "base", "one", "two", "some", "word", "longer"]) (sc := defScope sLawPowersRight) (by decide +kernel)) (fun _ _ _ _ _ => pg_name (i := 6) sc_LawPowersRight.nd rfl (Or.inl rfl)) (fun _ _ _ _ _ => (pts_one (pt_cmpR (op_eqOwn GEq (hr.mono (by first | decide | omega)) OEq.bd pass0 OEq.ow) (pv 6) (pv 7) (nomark _)))) (fun _ _ _ _ _ => (pv 6))) (pe_lst pa_nil) (nomark _))))))))))))), ?_⟩
    have szl : (1000000 : Nat) ≤ sizeLine := by rw [sizeLine_eq]; decide
    have lx := Paired.len px
    have gd : ∀ j, j < ds.length → ∃ d : Nat, (ds.map fun d => V.int (d : Nat))[j]? = some (V.int (d : Nat)) := fun j hj => ⟨ds[j], by rw [List.getElem?_map, List.getElem?_eq_getElem hj]; rfl⟩
    obtain ⟨d0, h0⟩ := gd 0 (by omega)
    obtain ⟨d1, h1⟩ := gd 1 (by omega)
    refine ⟨_, rfl, ?_⟩
    refine mk_wordL (C := C) ⟨l, xs, rfl, hl, px⟩ hg (by omega) fun az1 Hz1 qz1 sz1 wz1 dz1 => ?_
    have hl1 := (sz1 _ _ hl)
    have hd1 := (sz1 _ _ hd)
    have px1 := (Paired.mono (fun _ _ => EAt.mono sz1) px)
    have s1 := sz1
    have wB := wz1
    have dB : qz1.den = row := dz1
    have lB : qz1.den.length = row.length := by rw [dB]
    generalize qz1 = qB at wB dB lB
    generalize az1 = aB at wB ⊢
    clear wz1 dz1
    refine ⟨_, rfl, g, _, 0, _, rfl, rfl, SqL.of hd1, atI_nat (j := 0) h0, .inl ⟨_, rfl, _, _, rfl, rfl, (show (0 : Int) < 5 by decide), ?_⟩⟩
    refine ⟨_, rfl, g, _, 1, _, rfl, rfl, SqL.of hd1, atI_nat (j := 1) h1, .inl ⟨_, rfl, _, _, rfl, rfl, (show (0 : Int) < 5 by decide), ?_⟩⟩
    refine ⟨sz2, fun t2 ht2 => ⟨t2, _, rfl, SqT.of upd_same, rfl, _, _, rfl, _, _, rfl, rfl, ?_⟩⟩
    dsimp -proj only
    have sn := Same.new (o := .tup [.int (((d0 : Nat) : Int) % 5), .int (((d1 : Nat) : Int) % 5)]) ht2
    have s2 := s1.trans sn
    obtain ⟨o1, i0, b0⟩ : ∃ o : Nat, ((d0 : Nat) : Int) % 5 = (o : Nat) ∧ o ≤ 4 := ⟨d0 % 5, by omega, by omega⟩
    obtain ⟨o2, i1, b1⟩ : ∃ o : Nat, ((d1 : Nat) : Int) % 5 = (o : Nat) ∧ o ≤ 4 := ⟨d1 % 5, by omega, by omega⟩
    generalize ((d0 : Nat) : Int) % 5 = z0 at *
    generalize ((d1 : Nat) : Int) % 5 = z1 at *
    subst i0 i1
    have hl2 := sn _ _ hl1
    have px2 := Paired.mono (fun _ _ => EAt.mono sn) px1
    have wb := wB.mono sn
    generalize upd Hz1 t2 (.tup [.int ((o1 : Nat) : Int), .int ((o2 : Nat) : Int)]) = Hb at s2 hl2 px2 wb ⊢
    clear ht2 sn hl1 hd1 px1 s1 wB
    have c0 : o1 * o2 ≤ 16 := Nat.mul_le_mul b0 b1
    have c0' : o2 * o1 ≤ 16 := Nat.mul_le_mul b1 b0
    have c1 : o1 * row.length ≤ 16 := Nat.mul_le_mul b0 h4
    have c2 : o2 * row.length ≤ 16 := Nat.mul_le_mul b1 h4
    have c3 : o2 * (o1 * row.length) ≤ 64 := Nat.mul_le_mul b1 c1
    have c4 : o1 * (o2 * row.length) ≤ 64 := Nat.mul_le_mul b0 c2
    have c5 : o1 * o2 * row.length ≤ 64 := Nat.mul_le_mul c0 h4
    have c6 : (o1 * o2 - o1) * row.length ≤ 64 := Nat.mul_le_mul (Nat.le_trans (Nat.sub_le _ _) c0) h4
    have c7 : (o1 * o2 - 2 * o2) * row.length ≤ 64 := Nat.mul_le_mul (Nat.le_trans (Nat.sub_le _ _) c0) h4
    have c8 : o2 * (row.length + row.length) ≤ 32 := Nat.mul_le_mul b1 (show row.length + row.length ≤ 8 by omega)
    have c9 : (o1 * o2 + 1) * row.length ≤ 68 := Nat.mul_le_mul (Nat.add_le_add_right c0 1) h4
    have im : ((o1 : Nat) : Int) * ((o2 : Nat) : Int) = ((o1 * o2 : Nat) : Int) := (Int.natCast_mul o1 o2).symm
    have cm : CMulW ((o1 : Nat) : Int) ((o2 : Nat) : Int) := cm_small (Nat.lt_of_le_of_lt b0 (by decide)) (Nat.lt_of_le_of_lt b1 (by decide))
    have wz2 := wb
    obtain ⟨_, dxz2, fsz2, vpz2, ez2, hz2, hfz2, hpz2⟩ := wz2.obj
    cases ez2
    refine ⟨_, rfl, _, rfl, aB, dxz2, fsz2, _, rfl, rfl, hz2, .ref aB, qB, 0, 1, o1, rfl, wz2, by omega, sml_WL (by omega), sml_WL (by rw [lB]; omega), fun az3 Hz3 qz3 sz3 wz3 dz3 => ⟨_, rfl, ?_⟩⟩
    have lz4 : qz3.den.length = o1 * (row.length) := by rw [dz3, len_rpt, lB]
    have wz5 := wz3
    obtain ⟨_, dxz5, fsz5, vpz5, ez5, hz5, hfz5, hpz5⟩ := wz5.obj
    cases ez5
    refine ⟨_, rfl, az3, dxz5, fsz5, _, rfl, rfl, hz5, .ref az3, qz3, 0 + 1, 1, o2, rfl, wz5, by omega, sml_WL (by omega), sml_WL (by rw [lz4]; omega), fun az6 Hz6 qz6 sz6 wz6 dz6 => ⟨_, rfl, ?_⟩⟩
    have lz7 : qz6.den.length = o2 * (o1 * (row.length)) := by rw [dz6, len_rpt, lz4]
    have wz8 := (wb.mono (sz3.trans sz6))
    obtain ⟨_, dxz8, fsz8, vpz8, ez8, hz8, hfz8, hpz8⟩ := wz8.obj
    cases ez8
    refine ⟨_, rfl, _, rfl, aB, dxz8, fsz8, _, rfl, rfl, hz8, .ref aB, qB, 0, 1, o2, rfl, wz8, by omega, sml_WL (by omega), sml_WL (by rw [lB]; omega), fun az9 Hz9 qz9 sz9 wz9 dz9 => ⟨_, rfl, ?_⟩⟩
    have lz10 : qz9.den.length = o2 * (row.length) := by rw [dz9, len_rpt, lB]
    have wz11 := wz9
    obtain ⟨_, dxz11, fsz11, vpz11, ez11, hz11, hfz11, hpz11⟩ := wz11.obj
    cases ez11
    refine ⟨_, rfl, az9, dxz11, fsz11, _, rfl, rfl, hz11, .ref az9, qz9, 0 + 1, 1, o1, rfl, wz11, by omega, sml_WL (by omega), sml_WL (by rw [lz10]; omega), fun az12 Hz12 qz12 sz12 wz12 dz12 => ⟨_, rfl, ?_⟩⟩
    have lz13 : qz12.den.length = o1 * (o2 * (row.length)) := by rw [dz12, len_rpt, lz10]
    have wz14 := (wb.mono (sz3.trans (sz6.trans (sz9.trans sz12))))
    obtain ⟨_, dxz14, fsz14, vpz14, ez14, hz14, hfz14, hpz14⟩ := wz14.obj
    cases ez14
    refine ⟨_, rfl, _, rfl, aB, dxz14, fsz14, _, rfl, rfl, hz14, .ref aB, qB, 0, 1, o1, rfl, wz14, by omega, sml_WL (by omega), sml_WL (by rw [lB]; omega), fun az15 Hz15 qz15 sz15 wz15 dz15 => ⟨_, rfl, ?_⟩⟩
    have lz16 : qz15.den.length = o1 * (row.length) := by rw [dz15, len_rpt, lB]
    have wz17 := wz15
    obtain ⟨_, dxz17, fsz17, vpz17, ez17, hz17, hfz17, hpz17⟩ := wz17.obj
    cases ez17
    refine ⟨_, rfl, az15, dxz17, fsz17, _, rfl, rfl, hz17, .ref az15, qz15, 0 + 1, 1, o2, rfl, wz17, by omega, sml_WL (by omega), sml_WL (by rw [lz16]; omega), fun az18 Hz18 qz18 sz18 wz18 dz18 => ⟨_, rfl, ?_⟩⟩
    have lz19 : qz18.den.length = o2 * (o1 * (row.length)) := by rw [dz18, len_rpt, lz16]
    have wz20 := (wb.mono (sz3.trans (sz6.trans (sz9.trans (sz12.trans (sz15.trans sz18))))))
    obtain ⟨_, dxz20, fsz20, vpz20, ez20, hz20, hfz20, hpz20⟩ := wz20.obj
    cases ez20
    refine ⟨_, rfl, _, rfl, _, rfl, _, _, rfl, rfl, cm, aB, dxz20, fsz20, _, rfl, rfl, hz20, .ref aB, qB, 0, 1, (o1 * o2), (congrArg (fun z => [V.ref aB, V.int z]) im), wz20, by omega, sml_WL (by omega), sml_WL (by rw [lB]; omega), fun az21 Hz21 qz21 sz21 wz21 dz21 => ⟨_, rfl, ?_⟩⟩
    have lz22 : qz21.den.length = (o1 * o2) * (row.length) := by rw [dz21, len_rpt, lB]
    have eA2 : qz6.den = rpt (o1 * o2) row := by rw [dz6, dz3, dB, rpt_rpt]
    have eA4 : qz12.den = rpt (o1 * o2) row := by rw [dz12, dz9, dB, rpt_rpt, Nat.mul_comm]
    have eA6 : qz18.den = rpt (o1 * o2) row := by rw [dz18, dz15, dB, rpt_rpt]
    have eA7 : qz21.den = rpt (o1 * o2) row := by rw [dz21, dB]
    refine ⟨(show 4 ≤ sizeLine from Nat.le_trans (by decide) szl), fun tz23 htz23 => ?_⟩
    have snz23 := Same.new (o := .lst [.ref az6, .ref az12, .ref az18, .ref az21]) htz23
    have n5 : Hb tz23 = none := by
      cases z : Hb tz23 with
      | none => rfl
      | some o => exact nomatch (htz23.symm.trans (((sz3.trans (sz6.trans (sz9.trans (sz12.trans (sz15.trans (sz18.trans sz21))))))) _ _ z))
    have S5 : Some6 C CW tz23 (rpt (o1 * o2) row) Hb _ 4 := ⟨(sz3.trans (sz6.trans (sz9.trans (sz12.trans (sz15.trans (sz18.trans (sz21.trans snz23))))))), _, upd_same, Nat.le_refl 4, fun x hx => by
      rw [List.mem_cons, List.mem_cons, List.mem_cons, List.mem_singleton] at hx
      rcases hx with rfl | rfl | rfl | rfl
      · exact ⟨_, _, _, (wz6.mono (sz9.trans (sz12.trans (sz15.trans (sz18.trans (sz21.trans snz23)))))), eA2, by omega⟩
      · exact ⟨_, _, _, (wz12.mono (sz15.trans (sz18.trans (sz21.trans snz23)))), eA4, by omega⟩
      · exact ⟨_, _, _, (wz18.mono (sz21.trans snz23)), eA6, by omega⟩
      · exact ⟨_, _, _, (wz21.mono snz23), eA7, by omega⟩⟩
    generalize upd Hz21 tz23 (.lst [.ref az6, .ref az12, .ref az18, .ref az21]) = Hc at S5 ⊢
    refine asg_join (fun σ' H' => σ' = [some (.ref l), some (.ref g), some (.ref aB), some (.int ((o1 : Nat) : Int)), some (.int ((o2 : Nat) : Int)), some (.ref tz23), none, none] ∧ Some6 C CW tz23 (rpt (o1 * o2) row) Hb H' 5) ?_ ?_
    · intro D' hD
      obtain ⟨s5, ys, hy, ly, ty⟩ := S5
      have wc := wb.mono s5
      refine ⟨_, rfl, _, _, rfl, rfl, _, rfl, ite2 (fun hz => ?_) (fun hz => hD _ _ ⟨rfl, s5, ys, hy, Nat.le_trans ly (by decide), ty⟩)⟩
      have ho2 : 1 ≤ o2 := by have := of_decide_eq_true hz; omega
      have hle : o1 ≤ o1 * o2 := Nat.le_mul_of_pos_right o1 ho2
      have im2 : ((o1 : Nat) : Int) * ((o2 : Nat) : Int) - ((o1 : Nat) : Int) = ((o1 * o2 - o1 : Nat) : Int) := by rw [im]; omega
      refine ⟨_, rfl, .inl ⟨rfl, _, SqL.of hy⟩, ?_⟩
      have wz24 := wc
      obtain ⟨_, dxz24, fsz24, vpz24, ez24, hz24, hfz24, hpz24⟩ := wz24.obj
      cases ez24
      refine ⟨_, rfl, _, rfl, aB, dxz24, fsz24, _, rfl, rfl, hz24, .ref aB, qB, 0, 1, o1, rfl, wz24, by omega, sml_WL (by omega), sml_WL (by rw [lB]; omega), fun az25 Hz25 qz25 sz25 wz25 dz25 => ⟨_, rfl, ?_⟩⟩
      have lz26 : qz25.den.length = o1 * (row.length) := by rw [dz25, len_rpt, lB]
      have wz27 := (wc.mono sz25)
      obtain ⟨_, dxz27, fsz27, vpz27, ez27, hz27, hfz27, hpz27⟩ := wz27.obj
      cases ez27
      refine ⟨_, rfl, _, rfl, _, rfl, _, _, rfl, rfl, cm, _, rfl, _, _, rfl, rfl, aB, dxz27, fsz27, _, rfl, rfl, hz27, .ref aB, qB, 0, 1, (o1 * o2 - o1), (congrArg (fun z => [V.ref aB, V.int z]) im2), wz27, by omega, sml_WL (by omega), sml_WL (by rw [lB]; omega), fun az28 Hz28 qz28 sz28 wz28 dz28 => ⟨_, rfl, ?_⟩⟩
      have lz29 : qz28.den.length = (o1 * o2 - o1) * (row.length) := by rw [dz28, len_rpt, lB]
      have wz30 := (wz25.mono sz28)
      obtain ⟨_, dxz30, fsz30, vpz30, ez30, hz30, hfz30, hpz30⟩ := wz30.obj
      cases ez30
      have wz31 := wz28
      obtain ⟨_, dxz31, fsz31, vpz31, ez31, hz31, hfz31, hpz31⟩ := wz31.obj
      cases ez31
      refine ⟨az25, az28, dxz30, dxz31, fsz30, fsz31, rfl, rfl, hz30, hz31, .ref az25, .ref az28, qz25, qz28, 0 + 1, 0 + 1, 1, 1, rfl, wz30, wz31, by omega, sml_WL (by rw [lz26, lz29]; omega), fun az32 Hz32 qz32 sz32 wz32 dz32 => ⟨_, rfl, ?_⟩⟩
      have lz33 : qz32.den.length = o1 * (row.length) + ((o1 * o2 - o1) * (row.length)) := by rw [dz32, List.length_append, lz26, lz29]
      have e3 : qz32.den = rpt (o1 * o2) row := by
        rw [dz32, dz25, dz28, dB, ← rpt_add, show o1 + (o1 * o2 - o1) = o1 * o2 by omega]
      have hy3 := ((sz25.trans (sz28.trans sz32)) _ _ hy)
      refine ⟨tz23, ys, _, rfl, rfl, hy3, Nat.lt_of_le_of_lt ly (Nat.lt_of_lt_of_le (by decide) szl), hD _ _ ⟨rfl, Some6.more n5 (s5.trans (sz25.trans (sz28.trans sz32))) hy3 ly (fun x hx => (ty x hx).mono (sz25.trans (sz28.trans sz32))) ⟨_, _, _, wz32, e3, by omega⟩⟩⟩
    clear S5
    rintro σ Hd ⟨rfl, S5⟩
    refine seq_join (fun σ' H' => σ' = [some (.ref l), some (.ref g), some (.ref aB), some (.int ((o1 : Nat) : Int)), some (.int ((o2 : Nat) : Int)), some (.ref tz23), none, none] ∧ Some6 C CW tz23 (rpt (o1 * o2) row) Hb H' 6) ?_ ?_
    · intro D' hD
      obtain ⟨s5, ys, hy, ly, ty⟩ := S5
      have wc := wb.mono s5
      refine ⟨_, rfl, _, _, rfl, rfl, _, rfl, ite2 (fun hz => ?_) (fun hz => hD _ _ ⟨rfl, s5, ys, hy, Nat.le_trans ly (by decide), ty⟩)⟩
      have ho1 : 2 ≤ o1 := by have := of_decide_eq_true hz; omega
      have hle : 2 * o2 ≤ o1 * o2 := Nat.mul_le_mul_right o2 ho1
      have im3 : (2 : Int) * ((o2 : Nat) : Int) = ((2 * o2 : Nat) : Int) := (Int.natCast_mul 2 o2).symm
      have im2 : ((o1 : Nat) : Int) * ((o2 : Nat) : Int) - (2 : Int) * ((o2 : Nat) : Int) = ((o1 * o2 - 2 * o2 : Nat) : Int) := by rw [im, im3]; omega
      have cm2 : CMulW (2 : Int) ((o2 : Nat) : Int) := cm_small (i := 2) (by decide) (Nat.lt_of_le_of_lt b1 (by decide))
      refine ⟨_, rfl, .inl ⟨rfl, _, SqL.of hy⟩, ?_⟩
      have wz34 := wc
      obtain ⟨_, dxz34, fsz34, vpz34, ez34, hz34, hfz34, hpz34⟩ := wz34.obj
      cases ez34
      have wz35 := wc
      obtain ⟨_, dxz35, fsz35, vpz35, ez35, hz35, hfz35, hpz35⟩ := wz35.obj
      cases ez35
      refine ⟨_, rfl, _, rfl, aB, aB, dxz34, dxz35, fsz34, fsz35, rfl, rfl, hz34, hz35, .ref aB, .ref aB, qB, qB, 0, 0, 1, 1, rfl, wz34, wz35, by omega, sml_WL (by rw [lB]; omega), fun az36 Hz36 qz36 sz36 wz36 dz36 => ⟨_, rfl, ?_⟩⟩
      have lz37 : qz36.den.length = row.length + (row.length) := by rw [dz36, List.length_append, lB]
      have wz38 := wz36
      obtain ⟨_, dxz38, fsz38, vpz38, ez38, hz38, hfz38, hpz38⟩ := wz38.obj
      cases ez38
      refine ⟨_, rfl, az36, dxz38, fsz38, _, rfl, rfl, hz38, .ref az36, qz36, max (0) (0), 1 + 1, o2, rfl, wz38, by omega, sml_WL (by omega), sml_WL (by rw [lz37]; omega), fun az39 Hz39 qz39 sz39 wz39 dz39 => ⟨_, rfl, ?_⟩⟩
      have lz40 : qz39.den.length = o2 * (row.length + (row.length)) := by rw [dz39, len_rpt, lz37]
      have wz41 := (wc.mono (sz36.trans sz39))
      obtain ⟨_, dxz41, fsz41, vpz41, ez41, hz41, hfz41, hpz41⟩ := wz41.obj
      cases ez41
      refine ⟨_, rfl, _, rfl, _, rfl, _, _, rfl, rfl, cm, _, rfl, _, _, rfl, rfl, cm2, _, _, rfl, rfl, aB, dxz41, fsz41, _, rfl, rfl, hz41, .ref aB, qB, 0, 1, (o1 * o2 - 2 * o2), (congrArg (fun z => [V.ref aB, V.int z]) im2), wz41, by omega, sml_WL (by omega), sml_WL (by rw [lB]; omega), fun az42 Hz42 qz42 sz42 wz42 dz42 => ⟨_, rfl, ?_⟩⟩
      have lz43 : qz42.den.length = (o1 * o2 - 2 * o2) * (row.length) := by rw [dz42, len_rpt, lB]
      have wz44 := (wz39.mono sz42)
      obtain ⟨_, dxz44, fsz44, vpz44, ez44, hz44, hfz44, hpz44⟩ := wz44.obj
      cases ez44
      have wz45 := wz42
      obtain ⟨_, dxz45, fsz45, vpz45, ez45, hz45, hfz45, hpz45⟩ := wz45.obj
      cases ez45
      refine ⟨az39, az42, dxz44, dxz45, fsz44, fsz45, rfl, rfl, hz44, hz45, .ref az39, .ref az42, qz39, qz42, max (0) (0) + 1, 0 + 1, 1 + 1, 1, rfl, wz44, wz45, by omega, sml_WL (by rw [lz40, lz43]; omega), fun az46 Hz46 qz46 sz46 wz46 dz46 => ⟨_, rfl, ?_⟩⟩
      have lz47 : qz46.den.length = o2 * (row.length + (row.length)) + ((o1 * o2 - 2 * o2) * (row.length)) := by rw [dz46, List.length_append, lz40, lz43]
      have e3 : qz46.den = rpt (o1 * o2) row := by
        have e22 : row ++ row = rpt 2 row := by rw [rpt_succ, rpt_one]
        rw [dz46, dz39, dz42, dz36, dB, e22, rpt_rpt, ← rpt_add, show 2 * o2 + (o1 * o2 - 2 * o2) = o1 * o2 by omega]
      have hy3 := ((sz36.trans (sz39.trans (sz42.trans sz46))) _ _ hy)
      refine ⟨tz23, ys, _, rfl, rfl, hy3, Nat.lt_of_le_of_lt ly (Nat.lt_of_lt_of_le (by decide) szl), hD _ _ ⟨rfl, Some6.more n5 (s5.trans (sz36.trans (sz39.trans (sz42.trans sz46)))) hy3 ly (fun x hx => (ty x hx).mono (sz36.trans (sz39.trans (sz42.trans sz46)))) ⟨_, _, _, wz46, e3, by omega⟩⟩⟩
    clear S5
    rintro σ He ⟨rfl, S5⟩
    obtain ⟨s5, ys, hy, ly, ty⟩ := S5
    have wc := wb.mono s5
    have hl3 := s5 _ _ hl2
    have px3 := Paired.mono (fun _ _ => EAt.mono s5) px2
    have s6 := s2.trans s5
    have erep : (((o1 : Nat) : Int) * ((o2 : Nat) : Int)).toNat = o1 * o2 := by rw [im]; rfl
    have gR : ∀ n, ∀ e ∈ rpt n row, e.good = true := fun n e he => by
      induction n with
      | zero => cases he
      | succ n ih => rw [rpt_succ, List.mem_append] at he; rcases he with he | he; exact hg e he; exact ih he
    refine ⟨_, rfl, tz23, rfl, ⟨_, SqL.of hy⟩, fun D3 hD3 => lc_list (xs := ys) (fun i H' => Same He H' ∧ H' D3 = some (.lst [])) ⟨Same.new hD3, upd_same⟩ (fun i H' _ h => SqL.of (h.1 _ _ hy)) ?_ ?_⟩
    · rintro i x H1 hx ⟨sx, hD⟩
      obtain ⟨q, m, c, wq, dq, _⟩ := (ty x (List.mem_of_getElem? hx)).mono sx
      obtain ⟨a, dx, fs, vp, rfl, ha, hf, hp⟩ := wq.obj
      refine ⟨rfl, _, rfl, _, rfl, _, rfl, _, rfl, _, _, rfl, rfl, cm, l, _, xs, rfl, rfl, sx _ _ hl3, ?_⟩
      rw [erep, im]
      refine ⟨by omega, by omega, by rw [lx, Nat.mul_comm]; omega, fun tr htr => ?_⟩
      have sr := Same.new (o := .lst (List.replicate (o1 * o2) xs).flatten) htr
      refine mk_wordL (C := C) ⟨tr, _, rfl, upd_same, Paired.rpt (o1 * o2) (Paired.mono (fun _ _ => EAt.mono (sx.trans sr)) px3)⟩ (gR _) (by rw [len_rpt]; omega) fun aw Hw qw sw ww dw => ?_
      obtain ⟨_, dxw, fsw, vpw, ew, haw, hfw, hpw⟩ := ww.obj
      cases ew
      have sxw := sr.trans sw
      refine ⟨a, aw, dx, dxw, fs, fsw, rfl, rfl, sxw _ _ ha, haw, .ref a, .ref aw, q, m, c, rfl, wq.mono sxw, .inl ⟨qw, 0, 1, ww, fun H2 s2 => ⟨_, rfl, _, rfl, _, rfl, ?_⟩⟩⟩
      rw [show decide (q.den = qw.den) = true from decide_eq_true (by rw [dw, dq])]
      exact iteF ⟨(sx.trans sxw).trans s2, (sxw.trans s2) _ _ hD⟩
    rintro Hf ⟨sf, hDf⟩
    refine ⟨Nat.zero_le _, fun z1 hz1 => ⟨D3, z1, _, rfl, rfl, by rw [upd_ne (ne_of_none hDf hz1)]; exact hDf, upd_same, _, rfl, ?_⟩⟩
    refine iteF ?_
    have sg := sf.trans (Same.new (o := .lst []) hz1)
    generalize upd Hf z1 (.lst []) = Hg at sg ⊢
    clear hDf hz1 sf
    have wg := wc.mono sg
    have im4 : ((o1 : Nat) : Int) * ((o2 : Nat) : Int) + 1 = ((o1 * o2 + 1 : Nat) : Int) := by rw [im]; rfl
    have wz48 := wg
    obtain ⟨_, dxz48, fsz48, vpz48, ez48, hz48, hfz48, hpz48⟩ := wz48.obj
    cases ez48
    refine ⟨_, rfl, _, rfl, _, rfl, _, _, rfl, rfl, cm, _, _, rfl, rfl, aB, dxz48, fsz48, _, rfl, rfl, hz48, .ref aB, qB, 0, 1, (o1 * o2 + 1), (congrArg (fun z => [V.ref aB, V.int z]) im4), wz48, by omega, sml_WL (by omega), sml_WL (by rw [lB]; omega), fun az49 Hz49 qz49 sz49 wz49 dz49 => ⟨_, rfl, ?_⟩⟩
    have lz50 : qz49.den.length = (o1 * o2 + 1) * (row.length) := by rw [dz49, len_rpt, lB]
    have ss := sg.trans sz49
    have hl5 := ss _ _ hl3
    have px5 := Paired.mono (fun _ _ => EAt.mono ss) px3
    have hyq := ss _ _ hy
    have wL := wz49
    have dL : qz49.den = rpt (o1 * o2 + 1) row := by rw [dz49, dB]
    generalize az49 = aL at wL ⊢
    generalize qz49 = qL at wL dL
    generalize Hz49 = Hh at ss hl5 px5 hyq wL ⊢
    have s8 := s6.trans ss
    refine ⟨_, rfl, Nat.zero_le _, fun z2 hz2 => ?_⟩
    have sz2' := Same.new (o := .lst []) hz2
    have L1 : LAt K (upd Hh z2 (.lst [])) (.ref l) row := ⟨l, xs, rfl, sz2' _ _ hl5, Paired.mono (fun _ _ => EAt.mono sz2') px5⟩
    have L2 : LAt K (upd Hh z2 (.lst [])) (.ref z2) [] := ⟨z2, [], rfl, upd_same, .nil⟩
    refine ⟨_, _, L1.dp, L2.dp, enDs_shaped L1.oks, enDs_shaped L2.oks, _, rfl, ?_⟩
    rw [enDs_eqv]
    refine ite2 (fun _ => k _ (s8.trans sz2')) (fun hne => ?_)
    have hne : row ≠ [] := fun z => hne (decide_eq_true z)
    have hpos : 1 ≤ row.length := Nat.pos_of_ne_zero fun z => hne (List.length_eq_zero_iff.mp z)
    have ss2 := ss.trans sz2'
    have hy5 := sz2' _ _ hyq
    have wL5 := wL.mono sz2'
    obtain ⟨_, dxw, fsw, vpw, ew, haw, hfw, hpw⟩ := wL5.obj
    cases ew
    generalize upd Hh z2 (.lst []) = Hi at ss2 hy5 wL5 haw ⊢
    have s9 := s6.trans ss2
    refine ⟨_, rfl, tz23, rfl, ⟨_, SqL.of hy5⟩, fun D3 hD3 => lc_list (xs := ys) (fun i H' => Same Hi H' ∧ H' D3 = some (.lst [])) ⟨Same.new hD3, upd_same⟩ (fun i H' _ h => SqL.of (h.1 _ _ hy5)) ?_ ?_⟩
    · rintro i x H1 hx ⟨sx, hD⟩
      obtain ⟨q, m, c, wq, dq, _⟩ := (ty x (List.mem_of_getElem? hx)).mono (ss2.trans sx)
      obtain ⟨a, dx, fs, vp, rfl, ha, hf, hp⟩ := wq.obj
      refine ⟨rfl, _, rfl, _, rfl, a, aL, dx, dxw, fs, fsw, rfl, rfl, ha, sx _ _ haw, .ref a, .ref aL, q, m, c, rfl, wq, .inl ⟨qL, _, _, wL5.mono sx, fun H2 s2 => ⟨_, rfl, _, rfl, ?_⟩⟩⟩
      rw [show decide (q.den = qL.den) = false from decide_eq_false fun z => by
        have := congrArg List.length z
        rw [dq, dL, len_rpt, len_rpt, Nat.add_mul] at this
        omega]
      exact iteF ⟨sx.trans s2, s2 _ _ hD⟩
    rintro Hf ⟨sf, hDf⟩
    refine ⟨Nat.zero_le _, fun z3 hz3 => ?_⟩
    have sz3' := Same.new (o := .lst []) hz3
    have L3 : LAt K (upd Hf z3 (.lst [])) (.ref D3) [] := ⟨D3, [], rfl, sz3' _ _ hDf, .nil⟩
    have L4 : LAt K (upd Hf z3 (.lst [])) (.ref z3) [] := ⟨z3, [], rfl, upd_same, .nil⟩
    refine ⟨_, _, L3.dp, L4.dp, enDs_shaped L3.oks, enDs_shaped L4.oks, ?_⟩
    rw [enDs_eqv]
    exact k _ (s9.trans (sf.trans sz3'))
end
end Wd
set_option Elab.async false
set_option linter.all false
set_option maxRecDepth 100000
set_option maxHeartbeats 4000000
set_option exponentiation.threshold 100000
namespace Wd
open PySem L2
theorem ne_same1 (e : En) : (!PyData.eqv (enD e) (enD e)) = false := by rw [enD_eqv]; simp
section
variable {P : Program} {w : World} {K : PySem.W.Frag} {mg : Str → Option Value} {base : Heap} {f C CW CM CK CP : Addr} {fd : FuncData} {H : Hp}
def spLong : Sp := fun vs H Q _ => ∃ (g : Addr) (ds : List Nat), vs = [.ref g] ∧ DAt H g ds ∧ 13 ≤ ds.length ∧ ∀ H', Same H H' → Q (.bl true) H'
theorem sc_LawLongRight : FnScope ["digits", "row", "k", "front", "back", "some"] ["digits"] (defScope sLawLongRight) := ⟨rfl, rfl, rfl, by decide +kernel, rfl, by decide +kernel, by decide +kernel⟩
theorem ok_Long (D : DefF K mg "_law_long_right" sLawLongRight ["digits"] f fd) (B : Blt mg)
    {fWI : Addr} {fdWI : FuncData} (TW : WCl K mg CW fWI fdWI) (GWord : FnOk P w K mg base CX0 4 fWI fdWI ["self", "entries"] (spWordInit C CW CM K)) {fGet : Addr} {fdGet : FuncData} (WO : WOps K CW fGet)
    (OGet : DefO K CW "__getitem__" "Word.__getitem__" sWordGetitem ["self", "number"] fGet fdGet) (GGet : FnOk P w K mg base CX0 5 fGet fdGet ["self", "number"] (spWordGetitem C CW))
    {fAd fEq fCu : Addr} {fdAd fdEq fdCu : FuncData} (OAdd : DefO K CW "__add__" "Word.__add__" sWordAdd ["self", "other"] fAd fdAd) (GAdd : FnOk P w K mg base CX0 6 fAd fdAd ["self", "other"] (spWordAdd C CW))
    (OEq : DefO K CW "__eq__" "Word.__eq__" sWordEq ["self", "other"] fEq fdEq) (GEq : FnOk P w K mg base CX0 178 fEq fdEq ["self", "other"] (spWordEq C CW))
    (DCut : DefM K CW "cut" "Word.cut" sWordCut ["self", "first", "last"] fCu fdCu) (GCut : FnOk P w K mg base CX0 6 fCu fdCu ["self", "first", "last"] (spWordCut C CW))
    {fE fF fC fS : Addr} {fdE fdF fdC fdS : FuncData} (DLawEntry : DefF K mg "_law_entry" sLawEntry ["digit"] fE fdE) (GLawEntry : FnOk P w K mg base CX0 1 fE fdE ["digit"] spLawEntry)
    (DFirstDifference : DefF K mg "first_difference" sFirstDifference ["one", "other"] fF fdF) (GFirstDifference : FnOk P w K mg base CX0 179 fF fdF ["one", "other"] (spFirstDifference C CW))
    (DCountRow : DefF K mg "count_row" sCountRow ["word", "row", "end"] fC fdC) (GCountRow : FnOk P w K mg base CX0 5 fC fdC ["word", "row", "end"] (spCountRow C CW))
    (DLawStands : DefF K mg "_law_stands" sLawStands ["row", "some"] fS fdS) (GLawStands : FnOk P w K mg base CX0 1 fS fdS ["row", "some"] spStands) :
    FnOk P w K mg base CX0 180 f fd ["digits"] spLong := by
  refine D.fn.ok sc_LawLongRight (fun vs H Q E h => ?_) (fun cdv A outer s H vs Q E hr h => ?_)
  · obtain ⟨g, ds, rfl, _⟩ := h; rfl
  · obtain ⟨g, ds, rfl, hd, hl2, k⟩ := h
    refine ⟨_, (pss_cons (ps_setLc (i := 1) (own := [("k", 2)]) (g := gName 2) (tt := tYes) rfl sc_LawLongRight.nd rfl rfl (sw_true rfl rfl rfl (by decide +kernel)) (pi_range1 rfl B.range (pa_cons pe_int pa_nil)) (blkOk_by (N := ["digits", "row", "k", "front", "back", "some"]) (sc := defScope sLawLongRight) (by decide +kernel)) (fun _ _ _ _ _ => pg_name (i := 2) sc_LawLongRight.nd rfl (Or.inl rfl)) (fun _ _ _ _ _ => pts_nil) (fun _ _ _ _ _ => (pe_call GLawEntry (hr.mono (by first | decide | omega)) rfl DLawEntry.gl DLawEntry.fn.kp DLawEntry.bd .nil pass0 (pa_cons (pe_op op_add (pe_op op_fdivW (pe_ix (show IxR _ (rIxL K) from ix_list) (pv 0) (pe_op op_mod (pe_callTy call_int1 (by rfl) B.int PyProof.Rows.boot_int (pa_cons (pv 2) pa_nil)) pe_int) (fun _ _ => rfl)) (pe_op op_add pe_int (pe_op op_mod (pe_callTy call_int1 (by rfl) B.int PyProof.Rows.boot_int (pa_cons (pv 2) pa_nil)) pe_int))) (pe_op op_fdivW (pv 2) pe_int)) pa_nil)))) (pss_cons (ps_par (i := 3) (j := 4) (by rfl) sc_LawLongRight.nd rfl rfl (by decide) rfl rfl (pa_cons (pe_make TW.mkr GWord (hr.mono (by first | decide | omega)) rfl TW.gl TW.b .nil pass0 (pa_cons (pe_lst pa_nil) pa_nil)) (pa_cons (pe_make TW.mkr GWord (hr.mono (by first | decide | omega)) rfl TW.gl TW.b .nil pass0 (pa_cons (pe_lst pa_nil) pa_nil)) pa_nil)) (by rfl)) (pss_cons (ps_for PassesOwn.never rfl (pi_range1 rfl B.range (pa_cons pe_int pa_nil)) (pg_name (i := 2) sc_LawLongRight.nd rfl (.inl rfl)) (pss_cons (ps_set (i := 3) sc_LawLongRight.nd rfl (.inl rfl) (pe_op (op_addOwn GAdd (hr.mono (by first | decide | omega)) OAdd.bd pass0 OAdd.ow WO.sf) (pv 3) (pe_make TW.mkr GWord (hr.mono (by first | decide | omega)) rfl TW.gl TW.b .nil pass0 (pa_cons (pe_slice sl_list (pv 1) (po_some (pe_op op_mulW pe_int (pv 2))) (po_some (pe_op op_add (pe_op op_mulW pe_int (pv 2)) pe_int))) pa_nil)))) (pss_one (ps_set (i := 4) sc_LawLongRight.nd rfl (.inl rfl) (pe_op (op_addOwn GAdd (hr.mono (by first | decide | omega)) OAdd.bd pass0 OAdd.ow WO.sf) (pe_make TW.mkr GWord (hr.mono (by first | decide | omega)) rfl TW.gl TW.b .nil pass0 (pa_cons (pe_slice sl_list (pv 1) (po_some (pe_op op_sub pe_int (pe_op op_mulW pe_int (pv 2)))) (po_some (pe_op op_sub pe_int (pe_op op_mulW pe_int (pv 2))))) pa_nil)) (pv 4)))))) (pss_cons (ps_if (PW.pt (pw_or (pt_cmpR (op_neOwn GEq (hr.mono (by first | decide | omega)) OEq.bd pass0 OEq.ow WO.ne TW.hm) (pv 3) (pv 4) (nomark _)) (pw_or (pt_cmpR (op_neOwn GEq (hr.mono (by first | decide | omega)) OEq.bd pass0 OEq.ow WO.ne TW.hm) (pv 4) (pe_make TW.mkr GWord (hr.mono (by first | decide | omega)) rfl TW.gl TW.b .nil pass0 (pa_cons (pv 1) pa_nil)) (nomark _)) (pw_or1 (pt_cmp (pc_notN (pe_call GFirstDifference (hr.mono (by first | decide | omega)) rfl DFirstDifference.gl DFirstDifference.fn.kp DFirstDifference.bd .nil pass0 (pa_cons (pe_op (op_addOwn GAdd (hr.mono (by first | decide | omega)) OAdd.bd pass0 OAdd.ow WO.sf) (pv 4) (pv 3)) (pa_cons (pe_op (op_addOwn GAdd (hr.mono (by first | decide | omega)) OAdd.bd pass0 OAdd.ow WO.sf) (pv 3) (pv 4)) pa_nil)))) rfl))))) (pss_one (ps_ret pe_bl)) pss_nil) (pss_cons (ps_if (PW.pt (pw_or (pt_cmpR (op_neD hr.units) (pe_ixOwn GGet (hr.mono (by first | decide | omega)) OGet.bd pass0 OGet.ow WO.gfn (pv 4) pe_int (fun _ _ => rfl)) (pe_ix ix_list (pv 1) pe_int (fun _ _ => rfl)) (nomark _)) (pw_or1 (pt_cmpR (op_neOwn GEq (hr.mono (by first | decide | omega)) OEq.bd pass0 OEq.ow WO.ne TW.hm) (pe_meth (pv 3) TW.cl DCut.mt GCut (hr.mono (by first | decide | omega)) DCut.bd .nil pass0 (pa_cons pe_int (pa_cons pe_int pa_nil))) (pe_meth (pv 4) TW.cl DCut.mt GCut (hr.mono (by first | decide | omega)) DCut.bd .nil pass0 (pa_cons pe_int (pa_cons pe_int pa_nil))) (nomark _))))) (pss_one (ps_ret pe_bl)) pss_nil) (pss_cons (ps_set (i := 5) sc_LawLongRight.nd rfl (.inl rfl) (pe_slice sl_list (pv 1) (po_some pe_int) (po_some pe_int))) (pss_one (ps_ret (pe_chain op_eq op_eq (pe_call GCountRow (hr.mono (by first | decide | omega)) rfl DCountRow.gl DCountRow.fn.kp DCountRow.bd .nil pass0 (pa_cons (pv 4) (pa_cons (pv 5) (pa_cons pe_int pa_nil)))) (pe_call GCountRow (hr.mono (by first | decide | omega)) rfl DCountRow.gl DCountRow.fn.kp DCountRow.bd .nil pass0 (pa_cons (pv 3) (pa_cons (pv 5) (pa_cons pe_int pa_nil)))) (pe_callB call_len_seq (by rfl) B.len PySem.boot_len (pa_cons (pe_call GLawStands (hr.mono (by first | decide | omega)) rfl DLawStands.gl DLawStands.fn.kp DLawStands.bd .nil pass0 (pa_cons (pv 5) (pa_cons (pv 1) pa_nil))) pa_nil))))))))))), ?_⟩
    have szl : (1000000 : Nat) ≤ sizeLine := by rw [sizeLine_eq]; decide
    have gd : ∀ j, j < ds.length → ∃ d : Nat, (ds.map fun d => V.int (d : Nat))[j]? = some (V.int (d : Nat)) := fun j hj => ⟨ds[j], by rw [List.getElem?_map, List.getElem?_eq_getElem hj]; rfl⟩
    refine ⟨_, rfl, by decide, by decide, fun Dd hDd => lc_range (fun i H' => Same H H' ∧ ∃ xs gs, H' Dd = some (.lst xs) ∧ Paired (EAt H') xs gs ∧ (∀ e ∈ gs, Ok2 e) ∧ xs.length = i) ⟨Same.new hDd, [], [], upd_same, .nil, fun _ h => (nomatch h), rfl⟩ ?_ ?_⟩
    · rintro i H1 hi ⟨s1, xs, gs, hD', hp, hg, hlen⟩
      have hi : i < 2000 := hi
      refine ⟨rfl, ?_⟩
      unfold tYes
      obtain ⟨d, hd'⟩ := gd (i % 13) (by omega)
      have eix : (0 + ((i : Nat) : Int)) % 13 = ((i % 13 : Nat) : Int) := by omega
      have e7 : (1 : Int) + (0 + ((i : Nat) : Int)) % 7 = ((1 + i % 7 : Nat) : Int) := by omega
      have e97 : (0 + ((i : Nat) : Int)) / 97 = ((i / 97 : Nat) : Int) := by omega
      refine iteT ⟨_, rfl, _, rfl, .inl ⟨_, rfl, _, _, rfl, rfl, (show (0 : Int) < 13 by decide), g, _, _, _, rfl, rfl, SqL.of (s1 _ _ hd), (by rw [eix]; exact atI_nat hd'), _, rfl, .inl ⟨_, rfl, _, _, rfl, rfl, (show (0 : Int) < 7 by decide), _, _, rfl, rfl, _, _, rfl, rfl, ?_⟩⟩⟩
      dsimp only
      rw [e7]
      refine ⟨cdiv_L (by omega) (sml_WL (by omega)), _, rfl, _, _, rfl, rfl, wide_div (b := 8) (by decide) (by decide) (by decide) (by decide), _, _, rfl, rfl, ?_⟩
      rw [e97]
      refine ⟨d / (1 + i % 7) + i / 97, rfl, fun v H3 s4 he => ?_⟩
      have hD3 := s4 _ _ hD'
      have kt : ∀ b ys, H3 b = some (.tup ys) → (upd H3 Dd (.lst (xs ++ [v]))) b = some (.tup ys) := fun b ys e => by rw [upd_ne (fun z => by rw [z, hD3] at e; cases e)]; exact e
      refine ⟨xs, hD3, by omega, fun b o z => ?_, xs ++ [v], gs ++ [ent ((d / (1 + i % 7) + i / 97) % 4)], upd_same, ?_, fun e he => ?_, by rw [List.length_append, hlen]; rfl⟩
      · rw [upd_ne (fun q => by rw [q, hDd] at z; cases z)]
        exact s4 _ _ (s1 _ _ z)
      · exact Paired.app (Paired.mono (fun _ _ h => EAt.but kt (EAt.mono s4 h)) hp) (.cons (EAt.but kt he) .nil)
      · rcases List.mem_append.mp he with he | he
        · exact hg e he
        · rw [List.mem_singleton.mp he]; exact ent_ok2 _
    rintro H1 ⟨s1, xs, row, hx, px, hg, hlen⟩
    have lx := Paired.len px
    have hg : ∀ e ∈ row, e.good = true := fun e he => (hg e he).1
    have hr2 : row.length = 2000 := by omega
    refine ⟨Nat.zero_le _, fun tz1 htz1 => ?_⟩
    have snz1 := Same.new (o := .lst []) htz1
    refine mk_wordL (C := C) (es := []) ⟨tz1, [], rfl, upd_same, .nil⟩ (fun e he => (nomatch he)) (by decide) fun az2 Hz2 qz2 sz2 wz2 dz2 => ?_
    refine ⟨Nat.zero_le _, fun tz3 htz3 => ?_⟩
    have snz3 := Same.new (o := .lst []) htz3
    refine mk_wordL (C := C) (es := []) ⟨tz3, [], rfl, upd_same, .nil⟩ (fun e he => (nomatch he)) (by decide) fun az4 Hz4 qz4 sz4 wz4 dz4 => ?_
    refine ⟨_, _, rfl, ?_⟩
    have s2 := (snz1.trans (sz2.trans (snz3.trans sz4)))
    have hx2 := ((snz1.trans (sz2.trans (snz3.trans sz4))) _ _ hx)
    have px2 := (Paired.mono (fun _ _ => EAt.mono (snz1.trans (sz2.trans (snz3.trans sz4)))) px)
    have w1 := (wz2.mono (snz3.trans sz4))
    have w2 := wz4
    refine ⟨_, rfl, by decide, by decide, ?_⟩
    refine for_range (fun i σ H' => ∃ (o2 : Option V) (aF aB : Addr) (qF qB : Pt En), σ = [some (.ref g), some (.ref Dd), o2, some (.ref aF), some (.ref aB), none] ∧ Same H1 H' ∧ WAt C CW H' (.ref aF) qF 0 (i + 1) ∧ WAt C CW H' (.ref aB) qB 0 (i + 1) ∧ qF.den = row.take (5 * i) ∧ qB.den = row.drop (2000 - 5 * i)) ?_ ?_ ?_
    · exact ⟨none, az2, az4, qz2, qz4, rfl, s2, w1, w2, by rw [dz2]; rfl, by rw [dz4, List.drop_of_length_le (by omega)]⟩
    · rintro i σ H2 hi ⟨o2, aF, aB, qF, qB, rfl, s3, wF, wB, dF, dB⟩
      have hi : i < 400 := hi
      have hx3 := s3 _ _ hx
      have px3 := Paired.mono (fun _ _ => EAt.mono s3) px
      have lF : qF.den.length = 5 * i := by rw [dF, List.length_take]; omega
      have lB : qB.den.length = 5 * i := by rw [dB, List.length_drop]; omega
      have cm : CMulW (5 : Int) (0 + ((i : Nat) : Int)) := by rw [Int.zero_add]; exact cm_small (i := 5) (by decide) (by omega)
      have c1 : cutV xs (some (5 * (0 + ((i : Nat) : Int)))) (some (5 * (0 + ((i : Nat) : Int)) + 5)) = (xs.drop (5 * i)).take 5 := by
        rw [show (5 : Int) * (0 + ((i : Nat) : Int)) = ((5 * i : Nat) : Int) by omega, show ((5 * i : Nat) : Int) + 5 = ((5 * i + 5 : Nat) : Int) by omega, cut_nat, Nat.add_sub_cancel_left]
      have c2 : cutV xs (some (1995 - 5 * (0 + ((i : Nat) : Int)))) (some (2000 - 5 * (0 + ((i : Nat) : Int)))) = (xs.drop (1995 - 5 * i)).take 5 := by
        rw [show (1995 : Int) - 5 * (0 + ((i : Nat) : Int)) = ((1995 - 5 * i : Nat) : Int) by omega, show (2000 : Int) - 5 * (0 + ((i : Nat) : Int)) = ((2000 - 5 * i : Nat) : Int) by omega, cut_nat, show 2000 - 5 * i - (1995 - 5 * i) = 5 by omega]
      have gT : ∀ n, ∀ e ∈ (row.drop n).take 5, e.good = true := fun n e he => hg e (List.mem_of_mem_drop (List.mem_of_mem_take he))
      refine ⟨_, rfl, _, rfl, _, rfl, _, _, rfl, rfl, cm, _, rfl, _, rfl, _, _, rfl, rfl, cm, _, _, rfl, rfl, _, rfl, Dd, xs, rfl, SqL.of hx3, ?_⟩
      rw [c1]
      refine fun tz5 htz5 => ?_
      have snz5 := Same.new (o := .lst ((xs.drop (5 * i)).take 5)) htz5
      refine mk_wordL (C := C) (es := (row.drop (5 * i)).take 5) ⟨tz5, _, rfl, upd_same, (Paired.take 5 (Paired.drop (5 * i) (Paired.mono (fun _ _ => EAt.mono snz5) px3)))⟩ (gT _) (by rw [List.length_take]; omega) fun az6 Hz6 qz6 sz6 wz6 dz6 => ?_
      have lz7 : qz6.den.length = 5 := by rw [dz6, List.length_take, List.length_drop]; omega
      have wz8 := (wF.mono (snz5.trans sz6))
      obtain ⟨_, dxz8, fsz8, vpz8, ez8, hz8, hfz8, hpz8⟩ := wz8.obj
      cases ez8
      have wz9 := wz6
      obtain ⟨_, dxz9, fsz9, vpz9, ez9, hz9, hfz9, hpz9⟩ := wz9.obj
      cases ez9
      refine ⟨aF, az6, dxz8, dxz9, fsz8, fsz9, rfl, rfl, hz8, hz9, .ref aF, .ref az6, qF, qz6, 0, 0, (i + 1), 1, rfl, wz8, wz9, by omega, sml_WL (by rw [lF, lz7]; omega), fun az10 Hz10 qz10 sz10 wz10 dz10 => ⟨_, rfl, ?_⟩⟩
      have lz11 : qz10.den.length = 5 * i + (5) := by rw [dz10, List.length_append, lF, lz7]
      have hx4 := ((snz5.trans (sz6.trans sz10)) _ _ hx3)
      have s4 := (snz5.trans (sz6.trans sz10))
      have wF5 := wz10
      have wB5 := (wB.mono (snz5.trans (sz6.trans sz10)))
      refine ⟨_, rfl, _, rfl, _, _, rfl, rfl, cm, _, _, rfl, rfl, _, rfl, _, rfl, _, _, rfl, rfl, cm, _, _, rfl, rfl, _, rfl, Dd, xs, rfl, SqL.of hx4, ?_⟩
      rw [c2]
      refine fun tz12 htz12 => ?_
      have snz12 := Same.new (o := .lst ((xs.drop (1995 - 5 * i)).take 5)) htz12
      refine mk_wordL (C := C) (es := (row.drop (1995 - 5 * i)).take 5) ⟨tz12, _, rfl, upd_same, (Paired.take 5 (Paired.drop (1995 - 5 * i) (Paired.mono (fun _ _ => EAt.mono (s4.trans snz12)) px3)))⟩ (gT _) (by rw [List.length_take]; omega) fun az13 Hz13 qz13 sz13 wz13 dz13 => ?_
      have lz14 : qz13.den.length = 5 := by rw [dz13, List.length_take, List.length_drop]; omega
      have wz15 := wz13
      obtain ⟨_, dxz15, fsz15, vpz15, ez15, hz15, hfz15, hpz15⟩ := wz15.obj
      cases ez15
      have wz16 := (wB5.mono (snz12.trans sz13))
      obtain ⟨_, dxz16, fsz16, vpz16, ez16, hz16, hfz16, hpz16⟩ := wz16.obj
      cases ez16
      refine ⟨_, rfl, az13, aB, dxz15, dxz16, fsz15, fsz16, rfl, rfl, hz15, hz16, .ref az13, .ref aB, qz13, qB, 0, 0, 1, (i + 1), rfl, wz15, wz16, by omega, sml_WL (by rw [lz14, lB]; omega), fun az17 Hz17 qz17 sz17 wz17 dz17 => ⟨_, rfl, ?_⟩⟩
      have lz18 : qz17.den.length = 5 + (5 * i) := by rw [dz17, List.length_append, lz14, lB]
      have wG := wz17
      rw [show 1 + (i + 1) = i + 1 + 1 by omega] at wG
      refine ⟨_, az10, az17, qz10, qz17, rfl, s3.trans (s4.trans (snz12.trans (sz13.trans sz17))), (wF5.mono (snz12.trans (sz13.trans sz17))), wG, ?_, ?_⟩
      · rw [dz10, dF, dz6, show 5 * (i + 1) = 5 * i + 5 by omega, List.take_add]
      · rw [dz17, dB, dz13, show 2000 - 5 * (i + 1) = 1995 - 5 * i by omega, show 2000 - 5 * i = 1995 - 5 * i + 5 by omega, ← List.drop_drop, List.take_append_drop]
    rintro σ H2 ⟨o2, aF, aB, qF, qB, rfl, s3, wF, wB, dF, dB⟩
    have dF : qF.den = row := by rw [dF]; exact List.take_of_length_le (by omega)
    have dB : qB.den = row := by rw [dB]; rfl
    have wF : WAt C CW H2 (.ref aF) qF 0 401 := wF
    have wB : WAt C CW H2 (.ref aB) qB 0 401 := wB
    have lF : qF.den.length = 2000 := by rw [dF]; exact hr2
    have lB : qB.den.length = 2000 := by rw [dB]; exact hr2
    have hx3 := s3 _ _ hx
    have px3 := Paired.mono (fun _ _ => EAt.mono s3) px
    clear s2 hx2 px2 w1 w2
    have wz19 := wF
    obtain ⟨_, dxz19, fsz19, vpz19, ez19, hz19, hfz19, hpz19⟩ := wz19.obj
    cases ez19
    have wz20 := wB
    obtain ⟨_, dxz20, fsz20, vpz20, ez20, hz20, hfz20, hpz20⟩ := wz20.obj
    cases ez20
    refine ⟨_, rfl, _, rfl, aF, aB, dxz19, dxz20, fsz19, fsz20, rfl, rfl, hz19, hz20, .ref aF, .ref aB, qF, _, _, rfl, wz19, .inl ⟨qB, _, _, wz20, fun Hz21 sz21 => ⟨_, rfl, _, rfl, _, rfl, ?_⟩⟩⟩
    rw [decide_eq_true (show qF.den = qB.den by rw [dF, dB])]
    refine iteF ?_
    refine ⟨_, rfl, _, rfl, ?_⟩
    refine mk_wordL (C := C) ⟨Dd, xs, rfl, (sz21 _ _ hx3), (Paired.mono (fun _ _ => EAt.mono sz21) px3)⟩ hg (by omega) fun az22 Hz22 qz22 sz22 wz22 dz22 => ?_
    have wz23 := (wB.mono (sz21.trans sz22))
    obtain ⟨_, dxz23, fsz23, vpz23, ez23, hz23, hfz23, hpz23⟩ := wz23.obj
    cases ez23
    have wz24 := wz22
    obtain ⟨_, dxz24, fsz24, vpz24, ez24, hz24, hfz24, hpz24⟩ := wz24.obj
    cases ez24
    refine ⟨aB, az22, dxz23, dxz24, fsz23, fsz24, rfl, rfl, hz23, hz24, .ref aB, .ref az22, qB, _, _, rfl, wz23, .inl ⟨qz22, _, _, wz24, fun Hz25 sz25 => ⟨_, rfl, _, rfl, _, rfl, ?_⟩⟩⟩
    rw [decide_eq_true (show qB.den = qz22.den by rw [dB, dz22])]
    refine iteF ?_
    have wz26 := (wB.mono (sz21.trans (sz22.trans sz25)))
    obtain ⟨_, dxz26, fsz26, vpz26, ez26, hz26, hfz26, hpz26⟩ := wz26.obj
    cases ez26
    have wz27 := (wF.mono (sz21.trans (sz22.trans sz25)))
    obtain ⟨_, dxz27, fsz27, vpz27, ez27, hz27, hfz27, hpz27⟩ := wz27.obj
    cases ez27
    refine ⟨_, rfl, _, rfl, aB, aF, dxz26, dxz27, fsz26, fsz27, rfl, rfl, hz26, hz27, .ref aB, .ref aF, qB, qF, 0, 0, 401, 401, rfl, wz26, wz27, by omega, sml_WL (by rw [lB, lF]; omega), fun az28 Hz28 qz28 sz28 wz28 dz28 => ⟨_, rfl, ?_⟩⟩
    have lz29 : qz28.den.length = 2000 + (2000) := by rw [dz28, List.length_append, lB, lF]
    have wz30 := (wF.mono (sz21.trans (sz22.trans (sz25.trans sz28))))
    obtain ⟨_, dxz30, fsz30, vpz30, ez30, hz30, hfz30, hpz30⟩ := wz30.obj
    cases ez30
    have wz31 := (wB.mono (sz21.trans (sz22.trans (sz25.trans sz28))))
    obtain ⟨_, dxz31, fsz31, vpz31, ez31, hz31, hfz31, hpz31⟩ := wz31.obj
    cases ez31
    refine ⟨_, rfl, _, rfl, aF, aB, dxz30, dxz31, fsz30, fsz31, rfl, rfl, hz30, hz31, .ref aF, .ref aB, qF, qB, 0, 0, 401, 401, rfl, wz30, wz31, by omega, sml_WL (by rw [lF, lB]; omega), fun az32 Hz32 qz32 sz32 wz32 dz32 => ⟨_, rfl, ?_⟩⟩
    have lz33 : qz32.den.length = 2000 + (2000) := by rw [dz32, List.length_append, lF, lB]
    have eX : qz28.den = qz32.den := by rw [dz28, dz32, dF, dB]
    refine ⟨.ref az28, .ref az32, qz28, qz32, _, _, _, _, rfl, (wz28.mono sz32), wz32, fun H5 s5 _ => ⟨_, rfl, ?_⟩, fun _ _ z => absurd eX z⟩
    rw [show (!decide (V.non = V.non)) = false by simp]
    refine iteF ?_
    have s15 := (sz21.trans (sz22.trans (sz25.trans (sz28.trans sz32)))).trans s5
    have hx5 := s15 _ _ hx3
    have px5 := Paired.mono (fun _ _ => EAt.mono s15) px3
    have wF5 := wF.mono s15
    have wB5 := wB.mono s15
    obtain ⟨x0, hx0⟩ : ∃ x0, xs[1313]? = some x0 := ⟨xs[1313]'(by omega), List.getElem?_eq_getElem _⟩
    obtain ⟨e0, he0, hee⟩ := Paired.at_ px5 hx0
    have wz34 := wB5
    obtain ⟨_, dxz34, fsz34, vpz34, ez34, hz34, hfz34, hpz34⟩ := wz34.obj
    cases ez34
    refine ⟨_, rfl, aB, dxz34, fsz34, rfl, hz34, .ref aB, qB, _, _, 1313, e0, rfl, wz34, by rw [dB]; exact he0, fun u H6 s6 hu => ?_⟩
    refine ⟨_, rfl, Dd, _, 1313, _, rfl, rfl, SqL.of (s6 _ _ hx5), atI_nat (j := 1313) hx0, _, _, hu.dp, (hee.mono s6).dp, enD_shaped hu.isOk, enD_shaped hee.isOk, _, rfl, ?_⟩
    rw [ne_same1]
    refine iteF ?_
    have wz35 := (wF5.mono s6)
    obtain ⟨_, dxz35, fsz35, vpz35, ez35, hz35, hfz35, hpz35⟩ := wz35.obj
    cases ez35
    refine ⟨_, rfl, aF, dxz35, fsz35, rfl, hz35, hfz35.mCut, .ref aF, qF, 0, 401, 700, 1900, rfl, wz35, (by decide), (by rw [lF]; decide), fun az36 Hz36 qz36 sz36 wz36 dz36 => ?_⟩
    have lz37 : qz36.den.length = 1900 - 700 := by rw [dz36, List.length_take, List.length_drop, lF]; omega
    have wz38 := (wB5.mono (s6.trans sz36))
    obtain ⟨_, dxz38, fsz38, vpz38, ez38, hz38, hfz38, hpz38⟩ := wz38.obj
    cases ez38
    refine ⟨_, rfl, aB, dxz38, fsz38, rfl, hz38, hfz38.mCut, .ref aB, qB, 0, 401, 700, 1900, rfl, wz38, (by decide), (by rw [lB]; decide), fun az39 Hz39 qz39 sz39 wz39 dz39 => ?_⟩
    have lz40 : qz39.den.length = 1900 - 700 := by rw [dz39, List.length_take, List.length_drop, lB]; omega
    have wz41 := (wz36.mono sz39)
    obtain ⟨_, dxz41, fsz41, vpz41, ez41, hz41, hfz41, hpz41⟩ := wz41.obj
    cases ez41
    have wz42 := wz39
    obtain ⟨_, dxz42, fsz42, vpz42, ez42, hz42, hfz42, hpz42⟩ := wz42.obj
    cases ez42
    refine ⟨az36, az39, dxz41, dxz42, fsz41, fsz42, rfl, rfl, hz41, hz42, .ref az36, .ref az39, qz36, _, _, rfl, wz41, .inl ⟨qz39, _, _, wz42, fun Hz43 sz43 => ⟨_, rfl, _, rfl, _, rfl, ?_⟩⟩⟩
    rw [decide_eq_true (show qz36.den = qz39.den by rw [dz36, dz39, dF, dB])]
    refine iteF ?_
    refine ⟨_, rfl, _, rfl, _, rfl, Dd, xs, rfl, SqL.of ((s6.trans (sz36.trans (sz39.trans sz43))) _ _ hx5), ?_⟩
    rw [show cutV xs (some 500) (some 502) = (xs.drop 500).take 2 from cut_nat xs 500 502]
    refine fun tz44 htz44 => ?_
    have snz44 := Same.new (o := .lst ((xs.drop 500).take 2)) htz44
    have s7 := (s6.trans (sz36.trans (sz39.trans (sz43.trans snz44))))
    have LS : LAt0 _ tz44 ((row.drop 500).take 2) := ⟨_, upd_same, Paired.take 2 (Paired.drop 500 (Paired.mono (fun _ _ => EAt.mono s7) px5))⟩
    have LR : LAt0 _ Dd row := ⟨xs, s7 _ _ hx5, Paired.mono (fun _ _ => EAt.mono s7) px5⟩
    have wF7 := wF5.mono s7
    have wB7 := wB5.mono s7
    have s8 : Same H1 _ := s3.trans (s15.trans s7)
    have s9 := s1.trans s8
    have lS : ((row.drop 500).take 2).length = 2 := by rw [List.length_take, List.length_drop]; omega
    have gS : ∀ e ∈ (row.drop 500).take 2, e.good = true := fun e he => hg e (List.mem_of_mem_drop (List.mem_of_mem_take he))
    have tk : row.take 2000 = row := List.take_of_length_le (by omega)
    refine ⟨_, rfl, _, rfl, .ref aB, qB, 401, 2000, tz44, _, rfl, wB7, LS, by omega, by omega, gS, by omega, by omega, fun H8 s81 => ?_⟩
    refine ⟨_, rfl, _, rfl, .ref aF, qF, 401, 2000, tz44, _, rfl, wF7.mono s81, LS.mono s81, by omega, by omega, gS, by omega, by omega, fun H9 s91 => ?_⟩
    refine ⟨rfl, _, rfl, ?_⟩
    rw [nat_eq0 (by rw [dF, dB])]
    have s82 := s81.trans s91
    refine iteT ⟨_, rfl, _, rfl, tz44, Dd, _, row, rfl, LS.mono s82, LR.mono s82, by omega, by omega, fun l H10 zs s10 hl ll => ⟨l, zs, rfl, .inl (SqL.of hl), rfl, ?_⟩⟩
    rw [nat_eq0 (by rw [dF, tk, visA_stands (by omega), ll])]
    exact k _ (s9.trans (s82.trans s10))
end
end Wd
set_option Elab.async false
set_option linter.all false
set_option maxRecDepth 100000
set_option maxHeartbeats 4000000
set_option exponentiation.threshold 100000
namespace Wd
open PySem L2
def bend {A : Type} (w : List A) (a : Nat) (z : A) : List A := w.take a ++ [z] ++ w.drop (a + 1)
section
variable {A : Type} [DecidableEq A]
theorem bend_len {w : List A} {a : Nat} {z : A} (h : a < w.length) : (bend w a z).length = w.length := by
  unfold bend
  rw [List.length_append, List.length_append, List.length_take, List.length_drop]; show min a w.length + 1 + _ = _; omega
theorem bend_at {w : List A} {a : Nat} {z : A} (h : a < w.length) : (bend w a z)[a]? = some z := by
  unfold bend
  rw [List.append_assoc, List.getElem?_append_right (by rw [List.length_take]; omega), List.length_take, show a - min a w.length = 0 by omega]; rfl
theorem bend_lcp {w : List A} {a : Nat} {z o : A} (h : a < w.length) (ho : w[a]? = some o) (hz : o ≠ z) : lcp (bend w a z) w = a := by
  have hl := bend_len (z := z) h
  refine lcp_stop (lcp_ge (by omega) (by omega) fun i hi => ?_) (by omega) h ?_
  · unfold bend
    rw [List.append_assoc, List.getElem?_append_left (by rw [List.length_take]; omega), List.getElem?_take_of_lt hi]
  · rw [ho, bend_at h]
    exact fun e => hz (Option.some.inj e).symm
theorem bend_not {w : List A} {a : Nat} {z o : A} (h : a < w.length) (ho : w[a]? = some o) (hz : o ≠ z) : bend w a z ≠ w := fun e => by
  have := bend_at (z := z) h
  rw [e, ho] at this
  exact hz (Option.some.inj this)
end
theorem mod_lt_nat (d : Nat) {n : Nat} (hn : 0 < n) : ∃ x : Nat, ((d : Nat) : Int) % ((n : Nat) : Int) = ((x : Nat) : Int) ∧ x < n :=
  ⟨d % n, (Int.natCast_emod d n).symm, Nat.mod_lt d hn⟩
section
variable {P : Program} {w : World} {K : PySem.W.Frag} {mg : Str → Option Value} {base : Heap} {f C CW CM CK CP : Addr} {fd : FuncData} {H : Hp}
def spLaw (K : PySem.W.Frag) : Sp := fun vs H Q _ => ∃ (a : Addr) (ns : List Int), vs = [.ref a] ∧ SqL K H a (ns.map V.int) ∧ ns.length ≤ 63 ∧ ∀ H', Q (.bl true) H'
theorem sc_Law : FnScope ["script", "k", "digits", "word", "some", "other", "at", "bent"] ["script"] (defScope sLaw) := ⟨rfl, rfl, rfl, by decide +kernel, rfl, by decide +kernel, by decide +kernel⟩
theorem ok_Law (D : DefF K mg "law" sLaw ["script"] f fd) (B : Blt mg)
    {fWI : Addr} {fdWI : FuncData} (TW : WCl K mg CW fWI fdWI) (GWord : FnOk P w K mg base CX0 4 fWI fdWI ["self", "entries"] (spWordInit C CW CM K)) {fGet : Addr} (WO : WOps K CW fGet)
    {fAd fEq fCu fEn : Addr} {fdAd fdEq fdCu fdEn : FuncData} (OAdd : DefO K CW "__add__" "Word.__add__" sWordAdd ["self", "other"] fAd fdAd) (GAdd : FnOk P w K mg base CX0 6 fAd fdAd ["self", "other"] (spWordAdd C CW))
    (OEq : DefO K CW "__eq__" "Word.__eq__" sWordEq ["self", "other"] fEq fdEq) (GEq : FnOk P w K mg base CX0 178 fEq fdEq ["self", "other"] (spWordEq C CW))
    (DCut : DefM K CW "cut" "Word.cut" sWordCut ["self", "first", "last"] fCu fdCu) (GCut : FnOk P w K mg base CX0 6 fCu fdCu ["self", "first", "last"] (spWordCut C CW))
    (DEntries : DefM K CW "entries" "Word.entries" sWordEntries ["self", "first", "last"] fEn fdEn) (GEntries : FnOk P w K mg base CX0 4 fEn fdEn ["self", "first", "last"] (spWordEntries C CW))
    {fC fD fB fF fR fO fP fL : Addr} {fdC fdD fdB fdF fdR fdO fdP fdL : FuncData} (DLawCell : DefF K mg "_law_cell" sLawCell ["script", "k"] fC fdC) (GLawCell : FnOk P w K mg base CX0 1 fC fdC ["script", "k"] (spLawCell K))
    (DLawDigits : DefF K mg "_law_digits" sLawDigits ["cell", "many"] fD fdD) (GLawDigits : FnOk P w K mg base CX0 1 fD fdD ["cell", "many"] spLawDigits)
    (DLawBuilt : DefF K mg "_law_built" sLawBuilt ["digits", "deep"] fB fdB) (GLawBuilt : FnOk P w K mg base CX0 12 fB fdB ["digits", "deep"] (spLawBuilt C CW 3))
    (DLawRow : DefF K mg "_law_row" sLawRow ["digits", "many"] fR fdR) (GLawRow : FnOk P w K mg base CX0 2 fR fdR ["digits", "many"] spLawRow)
    (DFirstDifference : DefF K mg "first_difference" sFirstDifference ["one", "other"] fF fdF) (GFirstDifference : FnOk P w K mg base CX0 179 fF fdF ["one", "other"] (spFirstDifference C CW))
    (DLawOtherwise : DefF K mg "_law_otherwise" sLawOtherwise ["word", "some", "digits"] fO fdO) (GLawOtherwise : FnOk P w K mg base CX0 7 fO fdO ["word", "some", "digits"] (spOtherwise C CW))
    (DLawPowersRight : DefF K mg "_law_powers_right" sLawPowersRight ["row", "digits"] fP fdP) (GLawPowersRight : FnOk P w K mg base CX0 180 fP fdP ["row", "digits"] spPowers)
    (DLawLongRight : DefF K mg "_law_long_right" sLawLongRight ["digits"] fL fdL) (GLawLongRight : FnOk P w K mg base CX0 180 fL fdL ["digits"] spLong) :
    FnOk P w K mg base CX0 183 f fd ["script"] (spLaw K) := by
  refine D.fn.ok sc_Law (fun vs H Q E h => ?_) (fun cdv A outer s H vs Q E hr h => ?_)
  · obtain ⟨a, ns, rfl, _⟩ := h; rfl
  · obtain ⟨aS, ns, rfl, hS, h63, k⟩ := h
    refine ⟨_, (pss_cons (ps_if (pt_not (pt_val (pe_call GLawLongRight (hr.mono (by first | decide | omega)) rfl DLawLongRight.gl DLawLongRight.fn.kp DLawLongRight.bd .nil pass0 (pa_cons (pe_call GLawDigits (hr.mono (by first | decide | omega)) rfl DLawDigits.gl DLawDigits.fn.kp DLawDigits.bd .nil pass0 (pa_cons (pe_call GLawCell (hr.mono (by first | decide | omega)) rfl DLawCell.gl DLawCell.fn.kp DLawCell.bd .nil pass0 (pa_cons (pv 0) (pa_cons pe_int pa_nil))) (pa_cons pe_int pa_nil))) pa_nil)))) (pss_one (ps_ret pe_bl)) pss_nil) (pss_cons (ps_for PassesOwn.never rfl (pi_range1 rfl B.range (pa_cons (pe_callB (call_min2 rfl) (by rfl) B.min PyProof.Rows.boot_min (pa_cons pe_int (pa_cons (pe_op op_add pe_int (pe_callB call_len_seq (by rfl) B.len PySem.boot_len (pa_cons (pv 0) pa_nil))) pa_nil))) pa_nil)) (pg_name (i := 1) sc_Law.nd rfl (.inl rfl)) (pss_cons (ps_set (i := 2) sc_Law.nd rfl (.inl rfl) (pe_call GLawDigits (hr.mono (by first | decide | omega)) rfl DLawDigits.gl DLawDigits.fn.kp DLawDigits.bd .nil pass0 (pa_cons (pe_call GLawCell (hr.mono (by first | decide | omega)) rfl DLawCell.gl DLawCell.fn.kp DLawCell.bd .nil pass0 (pa_cons (pv 0) (pa_cons (pv 1) pa_nil))) (pa_cons pe_int pa_nil)))) (pss_cons (ps_asg (pe_call GLawBuilt (hr.mono (by first | decide | omega)) rfl DLawBuilt.gl DLawBuilt.fn.kp DLawBuilt.bd .nil pass0 (pa_cons (pv 2) (pa_cons pe_int pa_nil))) (pg_tup rfl (pgs_cons (pg_name (i := 3) sc_Law.nd rfl (.inl rfl)) (pgs_cons (pg_name (i := 4) sc_Law.nd rfl (.inl rfl)) pgs_nil)))) (pss_cons (ps_for PassesOwn.never rfl (pi_list (pe_call GLawOtherwise (hr.mono (by first | decide | omega)) rfl DLawOtherwise.gl DLawOtherwise.fn.kp DLawOtherwise.bd .nil pass0 (pa_cons (pv 3) (pa_cons (pv 4) (pa_cons (pe_slice sl_list (pv 2) (po_some pe_int) po_none) pa_nil))))) (pg_name (i := 5) sc_Law.nd rfl (.inl rfl)) (pss_cons (ps_if (PW.pt (pw_or (pt_cmpR (op_neOwn GEq (hr.mono (by first | decide | omega)) OEq.bd pass0 OEq.ow WO.ne TW.hm) (pv 5) (pv 3) (nomark _)) (pw_or1 (pt_cmp (pc_notN (pe_call GFirstDifference (hr.mono (by first | decide | omega)) rfl DFirstDifference.gl DFirstDifference.fn.kp DFirstDifference.bd .nil pass0 (pa_cons (pv 3) (pa_cons (pv 5) pa_nil)))) rfl)))) (pss_one (ps_ret pe_bl)) pss_nil) (pss_one (ps_if (pt_cmpR (op_neD hr.units) (pe_meth (pv 5) TW.cl DEntries.mt GEntries (hr.mono (by first | decide | omega)) DEntries.bd .nil pass0 (pa_cons pe_int (pa_cons (pe_callB call_len_seq (by rfl) B.len PySem.boot_len (pa_cons (pv 4) pa_nil)) pa_nil))) (pv 4) (nomark _)) (pss_one (ps_ret pe_bl)) pss_nil)))) (pss_cons (ps_if (pt_not (pt_val (pe_call GLawPowersRight (hr.mono (by first | decide | omega)) rfl DLawPowersRight.gl DLawPowersRight.fn.kp DLawPowersRight.bd .nil pass0 (pa_cons (pe_call GLawRow (hr.mono (by first | decide | omega)) rfl DLawRow.gl DLawRow.fn.kp DLawRow.bd .nil pass0 (pa_cons (pe_slice sl_list (pv 2) (po_some pe_int) po_none) (pa_cons (pe_op op_mod (pe_callTy call_int1 (by rfl) B.int PyProof.Rows.boot_int (pa_cons (pe_ix ix_list (pv 2) pe_int (fun _ _ => rfl)) pa_nil)) pe_int) pa_nil))) (pa_cons (pe_slice sl_list (pv 2) (po_some pe_int) po_none) pa_nil))))) (pss_one (ps_ret pe_bl)) pss_nil) (pss_one (ps_if (pt_cmpR (op_neNil hr.units) (pv 4) (pe_lst pa_nil) (nomark _)) (pss_cons (ps_set (i := 6) sc_Law.nd rfl (.inl rfl) (pe_op op_mod (pe_callTy call_int1 (by rfl) B.int PyProof.Rows.boot_int (pa_cons (pe_ix ix_list (pv 2) pe_int (fun _ _ => rfl)) pa_nil)) (pe_callB call_len_seq (by rfl) B.len PySem.boot_len (pa_cons (pv 4) pa_nil)))) (pss_cons (ps_set (i := 7) sc_Law.nd rfl (.inl rfl) (pe_op (op_addOwn GAdd (hr.mono (by first | decide | omega)) OAdd.bd pass0 OAdd.ow WO.sf) (pe_op (op_addOwn GAdd (hr.mono (by first | decide | omega)) OAdd.bd pass0 OAdd.ow WO.sf) (pe_meth (pv 3) TW.cl DCut.mt GCut (hr.mono (by first | decide | omega)) DCut.bd .nil pass0 (pa_cons pe_int (pa_cons (pv 6) pa_nil))) (pe_make TW.mkr GWord (hr.mono (by first | decide | omega)) rfl TW.gl TW.b .nil pass0 (pa_cons (pe_lst (pa_cons (pe_tup (pa_cons pe_str (pa_cons pe_str pa_nil))) pa_nil)) pa_nil))) (pe_meth (pv 3) TW.cl DCut.mt GCut (hr.mono (by first | decide | omega)) DCut.bd .nil pass0 (pa_cons (pe_op op_add (pv 6) pe_int) (pa_cons (pe_callB call_len_seq (by rfl) B.len PySem.boot_len (pa_cons (pv 4) pa_nil)) pa_nil))))) (pss_one (ps_if (PW.pt (pw_or (pt_cmpR (op_eqOwn GEq (hr.mono (by first | decide | omega)) OEq.bd pass0 OEq.ow) (pv 7) (pv 3) (nomark _)) (pw_or (pt_cmpR op_ne (pe_call GFirstDifference (hr.mono (by first | decide | omega)) rfl DFirstDifference.gl DFirstDifference.fn.kp DFirstDifference.bd .nil pass0 (pa_cons (pv 7) (pa_cons (pv 3) pa_nil))) (pv 6) (nomark _)) (pw_or1 (pt_cmpR op_ne (pe_call GFirstDifference (hr.mono (by first | decide | omega)) rfl DFirstDifference.gl DFirstDifference.fn.kp DFirstDifference.bd .nil pass0 (pa_cons (pv 3) (pa_cons (pv 7) pa_nil))) (pv 6) (nomark _)))))) (pss_one (ps_ret pe_bl)) pss_nil)))) pss_nil))))))) (pss_one (ps_ret pe_bl)))), ?_⟩
    have lS : (ns.map V.int).length = ns.length := List.length_map _
    refine ⟨_, rfl, aS, ns, 0, rfl, hS, fun cell => ⟨cell, 13, rfl, by decide, fun dg H0 ds s0 hd0 hl0 => ⟨dg, ds, rfl, hd0, by omega, fun H00 s00 => ⟨_, rfl, iteN ?_⟩⟩⟩⟩
    have sa := s0.trans s00
    clear s0 s00 hd0 hl0
    have hSa := sa.seq hS
    refine ⟨_, rfl, aS, _, rfl, .inl hSa, _, _, rfl, rfl, _, _, rfl, _, rfl, by split <;> omega, by split <;> omega, ?_⟩
    refine for_range (fun i σ H' => ∃ (o1 o2 o3 o4 o5 o6 o7 : Option V), σ = [some (.ref aS), o1, o2, o3, o4, o5, o6, o7] ∧ Same H H') ⟨none, none, none, none, none, none, none, rfl, sa⟩ ?_ ?_
    · rintro i σ H1 hi ⟨o1, o2, o3, o4, o5, o6, o7, rfl, s1⟩
      have szl : (1000000 : Nat) ≤ sizeLine := by rw [sizeLine_eq]; decide
      have e0 : (0 : Int) + (i : Nat) = ((i : Nat) : Int) := Int.zero_add _
      refine ⟨_, rfl, _, rfl, aS, ns, i, (congrArg (fun z => [V.ref aS, V.int z]) e0), s1.seq hS, fun cell => ⟨cell, 70, rfl, by decide, fun dg H2 ds s2 hd2 hl2 => ?_⟩⟩
      have s12 := s1.trans s2
      refine ⟨_, rfl, dg, ds, rfl, hd2, by omega, by decide, fun t3 H3 v l es m c s3 ht3 hb hm hc hle => ?_⟩
      have s13 := s12.trans s3
      refine ⟨t3, _, rfl, SqT.of ht3, rfl, _, _, rfl, _, _, rfl, rfl, ?_⟩
      have hd3 : DAt H3 dg ds := s3 _ _ hd2
      have hes : es.length ≤ 108 := hle
      have hc27 : c ≤ 27 := hc
      have gd : ∀ j, j < 70 → ∃ d : Nat, (ds.map fun d => V.int (d : Nat))[j]? = some (V.int (d : Nat)) := fun j hj => ⟨ds[j]'(by omega), by rw [List.getElem?_map, List.getElem?_eq_getElem (by omega)]; rfl⟩
      obtain ⟨d50, h50⟩ := gd 50 (by decide)
      obtain ⟨d58, h58⟩ := gd 58 (by decide)
      have c40 := cut_ds ds 40 (by omega)
      have c50 := cut_ds ds 50 (by omega)
      have c56 := cut_ds ds 56 (by omega)
      obtain ⟨⟨p, wp, dp⟩, ⟨xs, hl, px⟩, good⟩ := id hb
      obtain ⟨a, dx, fs, vp, rfl, ha, hf, hp⟩ := wp.obj
      have lx := Paired.len px
      have lp : p.den.length = es.length := by rw [dp]
      have eg : ∀ e ∈ es, e.good = true := fun e he => (good e he).1
      refine ⟨_, rfl, _, rfl, _, rfl, _, rfl, dg, _, rfl, SqL.of hd3, fun t4 ht4 => ?_⟩
      have s4 := Same.new (o := .lst (cutV (ds.map fun d => V.int (d : Nat)) (some 40) none)) ht4
      have hc40 : DAt (upd H3 t4 (.lst (cutV (ds.map fun d => V.int (d : Nat)) (some 40) none))) t4 (ds.drop 40) := by show _ = _; rw [← c40]; exact upd_same
      refine ⟨.ref a, l, t4, es, m, c, ds.drop 40, rfl, hb.mono s4, hc40, by rw [List.length_drop]; omega, hes, hc27, hm, fun r H5 zs s5 hr5 tall => ?_⟩
      refine ⟨r, rfl, ⟨_, SqL.of hr5⟩, ?_⟩
      have s45 := s4.trans s5
      have hd5 := hd3.mono s45
      have hl5 := s45 _ _ hl
      have px5 := Paired.mono (fun _ _ => EAt.mono s45) px
      have w5 := wp.mono s45
      have s15 := s13.trans s45
      clear hc40 ht4 s4 s5 s45
      refine for_list (xs := zs) (fun j σ H' => ∃ (o5 : Option V), σ = [some (.ref aS), some (.int ((0 : Int) + (i : Nat))), some (.ref dg), some (.ref a), some (.ref l), o5, o6, o7] ∧ Same H5 H') ⟨_, rfl, Same.refl _⟩ (fun j σ H' _ ⟨_, _, hs⟩ => SqL.of (hs _ _ hr5)) ?_ ?_
      · rintro j x0 σ H6 hx0 ⟨o5, rfl, s6⟩
        obtain ⟨q, mq, cq, wq, dq, hcq⟩ := (tall x0 (List.mem_of_getElem? hx0)).mono s6
        obtain ⟨ao, dxo, fso, vpo, rfl, hao, hfo, hpo⟩ := wq.obj
        have w6 := w5.mono s6
        obtain ⟨_, dx6, fs6, vp6, e6, ha6, hf6, hp6⟩ := w6.obj
        cases e6
        have hl6 := s6 _ _ hl5
        have px6 := Paired.mono (fun _ _ => EAt.mono s6) px5
        refine ⟨_, rfl, _, rfl, ao, a, dxo, dx6, fso, fs6, rfl, rfl, hao, ha6, .ref ao, .ref a, q, _, _, rfl, wq, .inl ⟨p, _, _, w6, fun H7 s7 => ⟨_, rfl, _, rfl, _, rfl, ?_⟩⟩⟩
        rw [decide_eq_true (show q.den = p.den by rw [dq, dp])]
        refine iteF ?_
        refine ⟨_, rfl, _, rfl, .ref a, .ref ao, p, q, _, _, _, _, rfl, w6.mono s7, wq.mono s7, fun H8 s8 _ => ⟨_, rfl, ?_⟩, fun _ _ z => absurd (show p.den = q.den by rw [dq, dp]) z⟩
        rw [show (!decide (V.non = V.non)) = false by simp]
        refine iteF ?_
        have s78 := s7.trans s8
        refine ⟨_, rfl, ao, dxo, fso, rfl, s78 _ _ hao, hfo.mEntries, _, rfl, l, xs, rfl, .inl (SqL.of (s78 _ _ hl6)), .ref ao, q, _, _, 0, xs.length, rfl, wq.mono s78, Nat.zero_le _, by rw [dq]; omega, by omega, fun le H9 ys s9 _ hle pz => ?_⟩
        rw [List.drop_zero, Nat.sub_zero, dq, lx, List.take_of_length_le (Nat.le_refl _)] at pz
        have s79 := s78.trans s9
        have L1 : LAt K H9 (.ref le) es := ⟨le, ys, rfl, hle, pz⟩
        have L2 : LAt K H9 (.ref l) es := ⟨l, xs, rfl, s79 _ _ hl6, Paired.mono (fun _ _ => EAt.mono s79) px6⟩
        refine ⟨_, rfl, _, _, L1.dp, L2.dp, enDs_shaped L1.oks, enDs_shaped L2.oks, _, rfl, ?_⟩
        rw [enDs_eqv, show (!decide (es = es)) = false by simp]
        exact iteF ⟨_, rfl, s6.trans s79⟩
      rintro σ H6 ⟨o5, rfl, s6⟩
      have hd6 := hd5.mono s6
      have hl6 := s6 _ _ hl5
      have px6 := Paired.mono (fun _ _ => EAt.mono s6) px5
      have w6 := w5.mono s6
      have s16 := s15.trans s6
      clear hd5 hl5 px5 w5 s15 s6 tall hr5
      have i5 : ((d50 : Nat) : Int) % 5 = ((d50 % 5 : Nat) : Int) := by omega
      refine ⟨_, rfl, _, rfl, dg, _, rfl, SqL.of hd6, fun t5 ht5 => ?_⟩
      have v5 := Same.new (o := .lst (cutV (ds.map fun d => V.int (d : Nat)) (some 50) none)) ht5
      have hc50 : DAt (upd H6 t5 (.lst (cutV (ds.map fun d => V.int (d : Nat)) (some 50) none))) t5 (ds.drop 50) := by show _ = _; rw [← c50]; exact upd_same
      refine ⟨_, rfl, dg, _, 50, _, rfl, rfl, SqL.of (v5 _ _ hd6), atI_nat (j := 50) h50, .inl ⟨_, rfl, _, _, rfl, rfl, (show (0 : Int) < 5 by decide), ?_⟩⟩
      refine ⟨t5, ds.drop 50, d50 % 5, (congrArg (fun z => [V.ref t5, V.int z]) i5), hc50, by omega, fun lr H7 zr gr sr _ hlr pr og lg => ?_⟩
      have v57 := v5.trans sr
      refine ⟨_, rfl, _, rfl, dg, _, rfl, SqL.of (v57 _ _ hd6), fun t6 ht6 => ?_⟩
      have v6 := Same.new (o := .lst (cutV (ds.map fun d => V.int (d : Nat)) (some 56) none)) ht6
      have hc56 : DAt (upd H7 t6 (.lst (cutV (ds.map fun d => V.int (d : Nat)) (some 56) none))) t6 (ds.drop 56) := by show _ = _; rw [← c56]; exact upd_same
      refine ⟨lr, t6, gr, ds.drop 56, rfl, ⟨zr, v6 _ _ hlr, Paired.mono (fun _ _ => EAt.mono v6) pr⟩, hc56, by rw [List.length_drop]; omega, lg, fun e he => (og e he).1, fun H8 s8 => ⟨_, rfl, iteN ?_⟩⟩
      have v58 := v57.trans (v6.trans s8)
      refine ⟨_, rfl, Nat.zero_le _, fun z1 hz1 => ⟨l, z1, xs, rfl, rfl, by rw [upd_ne (ne_of_none (v58 _ _ hl6) hz1)]; exact v58 _ _ hl6, upd_same, _, rfl, ?_⟩⟩
      have v59 := v58.trans (Same.new (o := .lst []) hz1)
      generalize upd H8 z1 (.lst []) = H9 at v59 ⊢
      have s19 := s16.trans v59
      refine ite2 (fun hne => ?_) (fun _ => ⟨_, _, _, _, _, _, _, rfl, s19⟩)
      have hd9 := hd6.mono v59
      have hl9 := v59 _ _ hl6
      have px9 := Paired.mono (fun _ _ => EAt.mono v59) px6
      have w9 := w6.mono v59
      clear hd6 hl6 px6 w6 s16 v59 v58 v57 v6 v5
      have hpos : 0 < xs.length := by
        cases xs with
        | nil => cases hne
        | cons y ys => exact Nat.succ_pos _
      obtain ⟨x, ex, hx⟩ := mod_lt_nat d58 hpos
      refine ⟨_, rfl, dg, _, 58, _, rfl, rfl, SqL.of hd9, atI_nat (j := 58) h58, .inl ⟨_, rfl, _, rfl, l, xs, rfl, .inl (SqL.of hl9), _, _, rfl, rfl, (show (0 : Int) < ((xs.length : Nat) : Int) by omega), ?_⟩⟩
      dsimp -proj only
      rw [ex]
      have wz1 := w9
      obtain ⟨_, dxz1, fsz1, vpz1, ez1, hz1, hfz1, hpz1⟩ := wz1.obj
      cases ez1
      refine ⟨_, rfl, a, dxz1, fsz1, rfl, hz1, hfz1.mCut, _, rfl, .ref a, p, m, c, 0, x, rfl, wz1, Nat.zero_le _, by rw [lp]; omega, fun az2 Hz2 qz2 sz2 wz2 dz2 => ?_⟩
      have lz3 : qz2.den.length = x - 0 := by rw [dz2, List.length_take, List.length_drop, lp]; omega
      refine ⟨(show 2 ≤ sizeLine from Nat.le_trans (by decide) szl), fun tz4 htz4 => ?_⟩
      have snz4 := Same.new (o := .tup [.str "final", .str "zz"]) htz4
      refine ⟨(show 1 ≤ sizeLine from Nat.le_trans (by decide) szl), fun tz5 htz5 => ?_⟩
      have snz5 := Same.new (o := .lst [.ref tz4]) htz5
      have hzz : EAt (upd _ _ _) (.ref tz4) zz := ⟨_, rfl, snz5 _ _ upd_same, by decide +kernel⟩
      refine mk_wordL (C := C) (es := [zz]) ⟨tz5, _, rfl, upd_same, (.cons hzz .nil)⟩ (fun e he => by rw [List.mem_singleton.mp he]; decide +kernel) (show 1 ≤ 1000000 by decide) fun az6 Hz6 qz6 sz6 wz6 dz6 => ?_
      have lz7 : qz6.den.length = 1 := by rw [dz6]; rfl
      have wz8 := (wz2.mono (snz4.trans (snz5.trans sz6)))
      obtain ⟨_, dxz8, fsz8, vpz8, ez8, hz8, hfz8, hpz8⟩ := wz8.obj
      cases ez8
      have wz9 := wz6
      obtain ⟨_, dxz9, fsz9, vpz9, ez9, hz9, hfz9, hpz9⟩ := wz9.obj
      cases ez9
      refine ⟨az2, az6, dxz8, dxz9, fsz8, fsz9, rfl, rfl, hz8, hz9, .ref az2, .ref az6, qz2, qz6, m, 0, c, 1, rfl, wz8, wz9, by omega, sml_WL (by rw [lz3, lz7]; omega), fun az10 Hz10 qz10 sz10 wz10 dz10 => ⟨_, rfl, ?_⟩⟩
      have lz11 : qz10.den.length = x - 0 + (1) := by rw [dz10, List.length_append, lz3, lz7]
      have wz12 := (w9.mono (sz2.trans (snz4.trans (snz5.trans (sz6.trans sz10)))))
      obtain ⟨_, dxz12, fsz12, vpz12, ez12, hz12, hfz12, hpz12⟩ := wz12.obj
      cases ez12
      refine ⟨_, rfl, a, dxz12, fsz12, rfl, hz12, hfz12.mCut, _, rfl, _, _, rfl, rfl, _, rfl, l, xs, rfl, .inl (SqL.of ((sz2.trans (snz4.trans (snz5.trans (sz6.trans sz10)))) _ _ hl9)), .ref a, p, m, c, (x + 1), xs.length, rfl, wz12, by omega, by rw [lp]; omega, fun az13 Hz13 qz13 sz13 wz13 dz13 => ?_⟩
      have lz14 : qz13.den.length = xs.length - (x + 1) := by rw [dz13, List.length_take, List.length_drop, lp]; omega
      have wz15 := (wz10.mono sz13)
      obtain ⟨_, dxz15, fsz15, vpz15, ez15, hz15, hfz15, hpz15⟩ := wz15.obj
      cases ez15
      have wz16 := wz13
      obtain ⟨_, dxz16, fsz16, vpz16, ez16, hz16, hfz16, hpz16⟩ := wz16.obj
      cases ez16
      refine ⟨az10, az13, dxz15, dxz16, fsz15, fsz16, rfl, rfl, hz15, hz16, .ref az10, .ref az13, qz10, qz13, max (m) (0), m, c + 1, c, rfl, wz15, wz16, by omega, sml_WL (by rw [lz11, lz14]; omega), fun az17 Hz17 qz17 sz17 wz17 dz17 => ⟨_, rfl, ?_⟩⟩
      have lz18 : qz17.den.length = x - 0 + (1) + (xs.length - (x + 1)) := by rw [dz17, List.length_append, lz11, lz14]
      have hx' : x < es.length := by omega
      have eB : qz17.den = bend es x zz := by
        unfold bend
        rw [dz17, dz10, dz13, dz2, dz6, dp, List.drop_zero, Nat.sub_zero]
        rw [List.take_of_length_le (l := es.drop (x + 1)) (by rw [List.length_drop]; omega)]
      obtain ⟨o, ho⟩ : ∃ o, es[x]? = some o := ⟨es[x], List.getElem?_eq_getElem hx'⟩
      have hoz : o ≠ zz := (good o (List.mem_of_getElem? ho)).2
      have nB : qz17.den ≠ p.den := by rw [eB, dp]; exact bend_not hx' ho hoz
      have cB : lcp qz17.den p.den = x := by rw [eB, dp]; exact bend_lcp hx' ho hoz
      have wz19 := wz17
      obtain ⟨_, dxz19, fsz19, vpz19, ez19, hz19, hfz19, hpz19⟩ := wz19.obj
      cases ez19
      have wz20 := (w9.mono (sz2.trans (snz4.trans (snz5.trans (sz6.trans (sz10.trans (sz13.trans sz17)))))))
      obtain ⟨_, dxz20, fsz20, vpz20, ez20, hz20, hfz20, hpz20⟩ := wz20.obj
      cases ez20
      have s20 := s19.trans (sz2.trans (snz4.trans (snz5.trans (sz6.trans (sz10.trans (sz13.trans sz17))))))
      refine ⟨_, rfl, _, rfl, az17, a, dxz19, dxz20, fsz19, fsz20, rfl, rfl, hz19, hz20, .ref az17, .ref a, qz17, _, _, rfl, wz19, .inl ⟨p, _, _, wz20, fun HA sA => ⟨_, rfl, _, rfl, ?_⟩⟩⟩
      rw [decide_eq_false nB]
      refine iteF ?_
      refine ⟨_, rfl, _, rfl, .ref az17, .ref a, qz17, p, _, _, _, _, rfl, wz19.mono sA, wz20.mono sA, fun _ _ z => absurd z nB, fun HB sB _ => ⟨_, rfl, rfl, _, rfl, ?_⟩⟩
      rw [cB, show (!decide (V.int ((x : Nat) : Int) = V.int ((x : Nat) : Int))) = false by simp]
      refine iteF ?_
      have sAB := sA.trans sB
      refine ⟨_, rfl, _, rfl, .ref a, .ref az17, p, qz17, _, _, _, _, rfl, wz20.mono sAB, wz19.mono sAB, fun _ _ z => absurd z.symm nB, fun HC sC _ => ⟨_, rfl, rfl, _, rfl, ?_⟩⟩
      rw [lcp_comm p.den, cB, show (!decide (V.int ((x : Nat) : Int) = V.int ((x : Nat) : Int))) = false by simp]
      exact iteF ⟨_, _, _, _, _, _, _, rfl, s20.trans (sAB.trans sC)⟩
    · rintro σ H' ⟨o1, o2, o3, o4, o5, o6, o7, rfl, s1⟩
      exact k H'
end
end Wd
set_option Elab.async false
set_option linter.all false
set_option maxRecDepth 100000
set_option maxHeartbeats 4000000
namespace Wd
open PySem L2 PySem.Spec PyProof.Rows
theorem all_mk {l : PySem.W.OpenLaw} {w : World} {K : PySem.W.Frag} {h : Heap} {mg : Str → Option Value} {fa C CM CW CK CP aK f1 f2 f3 f4 f5 f6 f7 f8 f9 f10 f11 f12 f13 f14 f15 f16 f17 f18 f19 f20 f21 f22 f23 f24 f25 f26 f27 f28 f29 f30 f31 f32 f33 f34 f35 f36 f37 f38 f39 f40 f41 f42 f43 f44 f45 f46 f47 f48 f49 f50 f51 f52 f53 f54 f55 f56 : Addr} (X : K.In h) (G : h.Ns mainGlobals mg) (hfa : mg "law" = some (.ref fa))
    {odK od1 an1 od2 an2 od3 an3 od4 an4 od5 an5 od6 an6 od7 an7 od8 an8 od9 an9 od10 an10 od11 an11 od12 an12 od13 an13 od14 an14 od15 an15 od16 an16 od17 an17 od18 an18 od19 an19 od20 an20 od21 an21 od22 an22 od23 an23 od24 an24 od25 an25 od26 an26 od27 an27 od28 an28 od29 an29 od30 an30 od31 an31 od32 an32 od33 an33 od34 an34 od35 an35 od36 an36 od37 an37 od38 an38 od39 an39 od40 an40 od41 an41 od42 an42 od43 an43 od44 an44 od45 an45 od46 an46 od47 an47 od48 an48 od49 an49 od50 an50 od51 an51 od52 an52 od53 an53 od54 an54 od55 an55 od56 an56 : Option Addr} {slK sl1 sl2 sl3 sl4 sl5 sl6 sl7 sl8 sl9 sl10 sl11 sl12 sl13 sl14 sl15 sl16 sl17 sl18 sl19 sl20 sl21 sl22 sl23 sl24 sl25 sl26 sl27 sl28 sl29 sl30 sl31 sl32 sl33 sl34 sl35 sl36 sl37 sl38 sl39 sl40 sl41 sl42 sl43 sl44 sl45 sl46 sl47 sl48 sl49 sl50 sl51 sl52 sl53 sl54 sl55 sl56 : Array (Option Value)} {oc1 kV1 dc1 pm1 cd1 ct1 oc2 kV2 dc2 pm2 cd2 ct2 oc3 kV3 dc3 pm3 cd3 ct3 oc4 kV4 dc4 pm4 cd4 ct4 oc5 kV5 dc5 pm5 cd5 ct5 oc6 kV6 dc6 pm6 cd6 ct6 oc7 kV7 dc7 pm7 cd7 ct7 oc8 kV8 dc8 pm8 cd8 ct8 oc9 kV9 dc9 pm9 cd9 ct9 oc10 kV10 dc10 pm10 cd10 ct10 oc11 kV11 dc11 pm11 cd11 ct11 oc12 kV12 dc12 pm12 cd12 ct12 oc13 kV13 dc13 pm13 cd13 ct13 oc14 kV14 dc14 pm14 cd14 ct14 oc15 kV15 dc15 pm15 cd15 ct15 oc16 kV16 dc16 pm16 cd16 ct16 oc17 kV17 dc17 pm17 cd17 ct17 oc18 kV18 dc18 pm18 cd18 ct18 oc19 kV19 dc19 pm19 cd19 ct19 oc20 kV20 dc20 pm20 cd20 ct20 oc21 kV21 dc21 pm21 cd21 ct21 oc22 kV22 dc22 pm22 cd22 ct22 oc23 kV23 dc23 pm23 cd23 ct23 oc24 kV24 dc24 pm24 cd24 ct24 oc25 kV25 dc25 pm25 cd25 ct25 oc26 kV26 dc26 pm26 cd26 ct26 oc27 kV27 dc27 pm27 cd27 ct27 oc28 kV28 dc28 pm28 cd28 ct28 oc29 kV29 dc29 pm29 cd29 ct29 oc30 kV30 dc30 pm30 cd30 ct30 oc31 kV31 dc31 pm31 cd31 ct31 oc32 kV32 dc32 pm32 cd32 ct32 oc33 kV33 dc33 pm33 cd33 ct33 oc34 kV34 dc34 pm34 cd34 ct34 oc35 kV35 dc35 pm35 cd35 ct35 oc36 kV36 dc36 pm36 cd36 ct36 oc37 kV37 dc37 pm37 cd37 ct37 oc38 kV38 dc38 pm38 cd38 ct38 oc39 kV39 dc39 pm39 cd39 ct39 oc40 kV40 dc40 pm40 cd40 ct40 oc41 kV41 dc41 pm41 cd41 ct41 oc42 kV42 dc42 pm42 cd42 ct42 oc43 kV43 dc43 pm43 cd43 ct43 oc44 kV44 dc44 pm44 cd44 ct44 oc45 kV45 dc45 pm45 cd45 ct45 oc46 kV46 dc46 pm46 cd46 ct46 oc47 kV47 dc47 pm47 cd47 ct47 oc48 kV48 dc48 pm48 cd48 ct48 oc49 kV49 dc49 pm49 cd49 ct49 oc50 kV50 dc50 pm50 cd50 ct50 oc51 kV51 dc51 pm51 cd51 ct51 oc52 kV52 dc52 pm52 cd52 ct52 oc53 kV53 dc53 pm53 cd53 ct53 oc54 kV54 dc54 pm54 cd54 ct54 oc55 kV55 dc55 pm55 cd55 ct55 oc56 kV56 dc56 pm56 cd56 ct56 : Value}
    {T36 T37 : Addr} {oT36 oT37 : Value} {oTd36 oTd37 : Option Addr} {nK nT36 nT37 : Nat} {slT36 slT37 : Array (Option Value)} {tk60 tk6 tkT tkP tk8 tkR tkL tkE tkF tk37 : Tok}
    (aC : PySem.W.nsIn K mainGlobals "Part" = some (some (.ref C)))
    (aCM : PySem.W.nsIn K mainGlobals "Made" = some (some (.ref CM)))
    (aCW : PySem.W.nsIn K mainGlobals "Word" = some (some (.ref CW)))
    (aCK : PySem.W.nsIn K mainGlobals "Walk" = some (some (.ref CK)))
    (aCP : PySem.W.nsIn K mainGlobals "Passages" = some (some (.ref CP)))
    (a1 : PySem.W.nsIn K mainGlobals "is_integer" = some (some (.ref f1)))
    (l1 : K.lookup f1 = some ⟨oc1, od1, .func (PySem.W.fnOf "is_integer" "is_integer" (defArgs sIsInteger) (defBody sIsInteger) (defScope sIsInteger) .none kV1 dc1 pm1 an1 cd1 ct1), sl1⟩)
    (c1 : PySem.W.codeIn K cd1 "is_integer" = true)
    (k1 : PySem.W.keepIn K (.ref f1) = true)
    (a2 : PySem.W.nsIn K mainGlobals "is_between" = some (some (.ref f2)))
    (l2 : K.lookup f2 = some ⟨oc2, od2, .func (PySem.W.fnOf "is_between" "is_between" (defArgs sIsBetween) (defBody sIsBetween) (defScope sIsBetween) .none kV2 dc2 pm2 an2 cd2 ct2), sl2⟩)
    (c2 : PySem.W.codeIn K cd2 "is_between" = true)
    (k2 : PySem.W.keepIn K (.ref f2) = true)
    (a3 : PySem.W.nsIn K mainGlobals "is_name" = some (some (.ref f3)))
    (l3 : K.lookup f3 = some ⟨oc3, od3, .func (PySem.W.fnOf "is_name" "is_name" (defArgs sIsName) (defBody sIsName) (defScope sIsName) .none kV3 dc3 pm3 an3 cd3 ct3), sl3⟩)
    (c3 : PySem.W.codeIn K cd3 "is_name" = true)
    (k3 : PySem.W.keepIn K (.ref f3) = true)
    (a4 : PySem.W.nsIn K mainGlobals "is_entry" = some (some (.ref f4)))
    (l4 : K.lookup f4 = some ⟨oc4, od4, .func (PySem.W.fnOf "is_entry" "is_entry" (defArgs sIsEntry) (defBody sIsEntry) (defScope sIsEntry) .none kV4 dc4 pm4 an4 cd4 ct4), sl4⟩)
    (c4 : PySem.W.codeIn K cd4 "is_entry" = true)
    (k4 : PySem.W.keepIn K (.ref f4) = true)
    (a5 : PySem.W.nsIn K mainGlobals "joined" = some (some (.ref f5)))
    (l5 : K.lookup f5 = some ⟨oc5, od5, .func (PySem.W.fnOf "joined" "joined" (defArgs sJoined) (defBody sJoined) (defScope sJoined) .none kV5 dc5 pm5 an5 cd5 ct5), sl5⟩)
    (c5 : PySem.W.codeIn K cd5 "joined" = true)
    (k5 : PySem.W.keepIn K (.ref f5) = true)
    (a6 : PySem.W.nsIn K mainGlobals "repeated" = some (some (.ref f6)))
    (l6 : K.lookup f6 = some ⟨oc6, od6, .func (PySem.W.fnOf "repeated" "repeated" (defArgs sRepeated) (defBody sRepeated) (defScope sRepeated) .none kV6 dc6 pm6 an6 cd6 ct6), sl6⟩)
    (c6 : PySem.W.codeIn K cd6 "repeated" = true)
    (k6 : PySem.W.keepIn K (.ref f6) = true)
    (a7 : PySem.W.nsIn K mainGlobals "width" = some (some (.ref f7)))
    (l7 : K.lookup f7 = some ⟨oc7, od7, .func (PySem.W.fnOf "width" "width" (defArgs sWidth) (defBody sWidth) (defScope sWidth) .none kV7 dc7 pm7 an7 cd7 ct7), sl7⟩)
    (c7 : PySem.W.codeIn K cd7 "width" = true)
    (k7 : PySem.W.keepIn K (.ref f7) = true)
    (a8 : PySem.W.nsIn K mainGlobals "opened" = some (some (.ref f8)))
    (l8 : K.lookup f8 = some ⟨oc8, od8, .func (PySem.W.fnOf "opened" "opened" (defArgs sOpened) (defBody sOpened) (defScope sOpened) .none kV8 dc8 pm8 an8 cd8 ct8), sl8⟩)
    (c8 : PySem.W.codeIn K cd8 "opened" = true)
    (k8 : PySem.W.keepIn K (.ref f8) = true)
    (a9 : PySem.W.nsIn K mainGlobals "first_unit" = some (some (.ref f9)))
    (l9 : K.lookup f9 = some ⟨oc9, od9, .func (PySem.W.fnOf "first_unit" "first_unit" (defArgs sFirstUnit) (defBody sFirstUnit) (defScope sFirstUnit) .none kV9 dc9 pm9 an9 cd9 ct9), sl9⟩)
    (c9 : PySem.W.codeIn K cd9 "first_unit" = true)
    (k9 : PySem.W.keepIn K (.ref f9) = true)
    (a10 : PySem.W.nsIn K mainGlobals "behind" = some (some (.ref f10)))
    (l10 : K.lookup f10 = some ⟨oc10, od10, .func (PySem.W.fnOf "behind" "behind" (defArgs sBehind) (defBody sBehind) (defScope sBehind) .none kV10 dc10 pm10 an10 cd10 ct10), sl10⟩)
    (c10 : PySem.W.codeIn K cd10 "behind" = true)
    (k10 : PySem.W.keepIn K (.ref f10) = true)
    (a11 : PySem.W.nsIn K mainGlobals "rotated" = some (some (.ref f11)))
    (l11 : K.lookup f11 = some ⟨oc11, od11, .func (PySem.W.fnOf "rotated" "rotated" (defArgs sRotated) (defBody sRotated) (defScope sRotated) .none kV11 dc11 pm11 an11 cd11 ct11), sl11⟩)
    (c11 : PySem.W.codeIn K cd11 "rotated" = true)
    (k11 : PySem.W.keepIn K (.ref f11) = true)
    (a12 : PySem.W.nsIn K mainGlobals "gone_by" = some (some (.ref f12)))
    (l12 : K.lookup f12 = some ⟨oc12, od12, .func (PySem.W.fnOf "gone_by" "gone_by" (defArgs sGoneBy) (defBody sGoneBy) (defScope sGoneBy) .none kV12 dc12 pm12 an12 cd12 ct12), sl12⟩)
    (c12 : PySem.W.codeIn K cd12 "gone_by" = true)
    (k12 : PySem.W.keepIn K (.ref f12) = true)
    (a13 : PySem.W.nsIn K mainGlobals "alike_for" = some (some (.ref f13)))
    (l13 : K.lookup f13 = some ⟨oc13, od13, .func (PySem.W.fnOf "alike_for" "alike_for" (defArgs sAlikeFor) (defBody sAlikeFor) (defScope sAlikeFor) .none kV13 dc13 pm13 an13 cd13 ct13), sl13⟩)
    (c13 : PySem.W.codeIn K cd13 "alike_for" = true)
    (k13 : PySem.W.keepIn K (.ref f13) = true)
    (a14 : PySem.W.nsIn K mainGlobals "alike_ahead" = some (some (.ref f14)))
    (l14 : K.lookup f14 = some ⟨oc14, od14, .func (PySem.W.fnOf "alike_ahead" "alike_ahead" (defArgs sAlikeAhead) (defBody sAlikeAhead) (defScope sAlikeAhead) .none kV14 dc14 pm14 an14 cd14 ct14), sl14⟩)
    (c14 : PySem.W.codeIn K cd14 "alike_ahead" = true)
    (k14 : PySem.W.keepIn K (.ref f14) = true)
    (a15 : PySem.W.nsIn K mainGlobals "run_ahead" = some (some (.ref f15)))
    (l15 : K.lookup f15 = some ⟨oc15, od15, .func (PySem.W.fnOf "run_ahead" "run_ahead" (defArgs sRunAhead) (defBody sRunAhead) (defScope sRunAhead) .none kV15 dc15 pm15 an15 cd15 ct15), sl15⟩)
    (c15 : PySem.W.codeIn K cd15 "run_ahead" = true)
    (k15 : PySem.W.keepIn K (.ref f15) = true)
    (a16 : PySem.W.nsIn K mainGlobals "agreement" = some (some (.ref f16)))
    (l16 : K.lookup f16 = some ⟨oc16, od16, .func (PySem.W.fnOf "agreement" "agreement" (defArgs sAgreement) (defBody sAgreement) (defScope sAgreement) .none kV16 dc16 pm16 an16 cd16 ct16), sl16⟩)
    (c16 : PySem.W.codeIn K cd16 "agreement" = true)
    (k16 : PySem.W.keepIn K (.ref f16) = true)
    (a17 : PySem.W.nsIn K mainGlobals "part_of" = some (some (.ref f17)))
    (l17 : K.lookup f17 = some ⟨oc17, od17, .func (PySem.W.fnOf "part_of" "part_of" (defArgs sPartOf) (defBody sPartOf) (defScope sPartOf) .none kV17 dc17 pm17 an17 cd17 ct17), sl17⟩)
    (c17 : PySem.W.codeIn K cd17 "part_of" = true)
    (k17 : PySem.W.keepIn K (.ref f17) = true)
    (a18 : PySem.W.nsIn K mainGlobals "check_index" = some (some (.ref f18)))
    (l18 : K.lookup f18 = some ⟨oc18, od18, .func (PySem.W.fnOf "check_index" "check_index" (defArgs sCheckIndex) (defBody sCheckIndex) (defScope sCheckIndex) .none kV18 dc18 pm18 an18 cd18 ct18), sl18⟩)
    (c18 : PySem.W.codeIn K cd18 "check_index" = true)
    (k18 : PySem.W.keepIn K (.ref f18) = true)
    (a19 : PySem.W.nsIn K mainGlobals "_law_cell" = some (some (.ref f19)))
    (l19 : K.lookup f19 = some ⟨oc19, od19, .func (PySem.W.fnOf "_law_cell" "_law_cell" (defArgs sLawCell) (defBody sLawCell) (defScope sLawCell) .none kV19 dc19 pm19 an19 cd19 ct19), sl19⟩)
    (c19 : PySem.W.codeIn K cd19 "_law_cell" = true)
    (k19 : PySem.W.keepIn K (.ref f19) = true)
    (a20 : PySem.W.nsIn K mainGlobals "_law_digits" = some (some (.ref f20)))
    (l20 : K.lookup f20 = some ⟨oc20, od20, .func (PySem.W.fnOf "_law_digits" "_law_digits" (defArgs sLawDigits) (defBody sLawDigits) (defScope sLawDigits) .none kV20 dc20 pm20 an20 cd20 ct20), sl20⟩)
    (c20 : PySem.W.codeIn K cd20 "_law_digits" = true)
    (k20 : PySem.W.keepIn K (.ref f20) = true)
    (a21 : PySem.W.nsIn K mainGlobals "_law_entry" = some (some (.ref f21)))
    (l21 : K.lookup f21 = some ⟨oc21, od21, .func (PySem.W.fnOf "_law_entry" "_law_entry" (defArgs sLawEntry) (defBody sLawEntry) (defScope sLawEntry) .none kV21 dc21 pm21 an21 cd21 ct21), sl21⟩)
    (c21 : PySem.W.codeIn K cd21 "_law_entry" = true)
    (k21 : PySem.W.keepIn K (.ref f21) = true)
    (a22 : PySem.W.nsIn K mainGlobals "_law_row" = some (some (.ref f22)))
    (l22 : K.lookup f22 = some ⟨oc22, od22, .func (PySem.W.fnOf "_law_row" "_law_row" (defArgs sLawRow) (defBody sLawRow) (defScope sLawRow) .none kV22 dc22 pm22 an22 cd22 ct22), sl22⟩)
    (c22 : PySem.W.codeIn K cd22 "_law_row" = true)
    (k22 : PySem.W.keepIn K (.ref f22) = true)
    (a23 : PySem.W.nsIn K mainGlobals "_law_built" = some (some (.ref f23)))
    (l23 : K.lookup f23 = some ⟨oc23, od23, .func (PySem.W.fnOf "_law_built" "_law_built" (defArgs sLawBuilt) (defBody sLawBuilt) (defScope sLawBuilt) .none kV23 dc23 pm23 an23 cd23 ct23), sl23⟩)
    (c23 : PySem.W.codeIn K cd23 "_law_built" = true)
    (k23 : PySem.W.keepIn K (.ref f23) = true)
    (a24 : PySem.W.nsIn K mainGlobals "agreeing" = some (some (.ref f24)))
    (l24 : K.lookup f24 = some ⟨oc24, od24, .func (PySem.W.fnOf "agreeing" "agreeing" (defArgs sAgreeing) (defBody sAgreeing) (defScope sAgreeing) .none kV24 dc24 pm24 an24 cd24 ct24), sl24⟩)
    (c24 : PySem.W.codeIn K cd24 "agreeing" = true)
    (k24 : PySem.W.keepIn K (.ref f24) = true)
    (a25 : PySem.W.nsIn K mainGlobals "first_difference" = some (some (.ref f25)))
    (l25 : K.lookup f25 = some ⟨oc25, od25, .func (PySem.W.fnOf "first_difference" "first_difference" (defArgs sFirstDifference) (defBody sFirstDifference) (defScope sFirstDifference) .none kV25 dc25 pm25 an25 cd25 ct25), sl25⟩)
    (c25 : PySem.W.codeIn K cd25 "first_difference" = true)
    (k25 : PySem.W.keepIn K (.ref f25) = true)
    (a26 : PySem.W.nsIn K mainGlobals "check_number" = some (some (.ref f26)))
    (l26 : K.lookup f26 = some ⟨oc26, od26, .func (PySem.W.fnOf "check_number" "check_number" (defArgs sCheckNumber) (defBody sCheckNumber) (defScope sCheckNumber) .none kV26 dc26 pm26 an26 cd26 ct26), sl26⟩)
    (c26 : PySem.W.codeIn K cd26 "check_number" = true)
    (k26 : PySem.W.keepIn K (.ref f26) = true)
    (a27 : PySem.W.nsIn K mainGlobals "check_row" = some (some (.ref f27)))
    (l27 : K.lookup f27 = some ⟨oc27, od27, .func (PySem.W.fnOf "check_row" "check_row" (defArgs sCheckRow) (defBody sCheckRow) (defScope sCheckRow) .none kV27 dc27 pm27 an27 cd27 ct27), sl27⟩)
    (c27 : PySem.W.codeIn K cd27 "check_row" = true)
    (k27 : PySem.W.keepIn K (.ref f27) = true)
    (a28 : PySem.W.nsIn K mainGlobals "matched" = some (some (.ref f28)))
    (l28 : K.lookup f28 = some ⟨oc28, od28, .func (PySem.W.fnOf "matched" "matched" (defArgs sMatched) (defBody sMatched) (defScope sMatched) .none kV28 dc28 pm28 an28 cd28 ct28), sl28⟩)
    (c28 : PySem.W.codeIn K cd28 "matched" = true)
    (k28 : PySem.W.keepIn K (.ref f28) = true)
    (a29 : PySem.W.nsIn K mainGlobals "row_walk" = some (some (.ref f29)))
    (l29 : K.lookup f29 = some ⟨oc29, od29, .func (PySem.W.fnOf "row_walk" "row_walk" (defArgs sRowWalk) (defBody sRowWalk) (defScope sRowWalk) .none kV29 dc29 pm29 an29 cd29 ct29), sl29⟩)
    (c29 : PySem.W.codeIn K cd29 "row_walk" = true)
    (k29 : PySem.W.keepIn K (.ref f29) = true)
    (a30 : PySem.W.nsIn K mainGlobals "count_row" = some (some (.ref f30)))
    (l30 : K.lookup f30 = some ⟨oc30, od30, .func (PySem.W.fnOf "count_row" "count_row" (defArgs sCountRow) (defBody sCountRow) (defScope sCountRow) .none kV30 dc30 pm30 an30 cd30 ct30), sl30⟩)
    (c30 : PySem.W.codeIn K cd30 "count_row" = true)
    (k30 : PySem.W.keepIn K (.ref f30) = true)
    (a31 : PySem.W.nsIn K mainGlobals "_law_stands" = some (some (.ref f31)))
    (l31 : K.lookup f31 = some ⟨oc31, od31, .func (PySem.W.fnOf "_law_stands" "_law_stands" (defArgs sLawStands) (defBody sLawStands) (defScope sLawStands) .none kV31 dc31 pm31 an31 cd31 ct31), sl31⟩)
    (c31 : PySem.W.codeIn K cd31 "_law_stands" = true)
    (k31 : PySem.W.keepIn K (.ref f31) = true)
    (a32 : PySem.W.nsIn K mainGlobals "_law_otherwise" = some (some (.ref f32)))
    (l32 : K.lookup f32 = some ⟨oc32, od32, .func (PySem.W.fnOf "_law_otherwise" "_law_otherwise" (defArgs sLawOtherwise) (defBody sLawOtherwise) (defScope sLawOtherwise) .none kV32 dc32 pm32 an32 cd32 ct32), sl32⟩)
    (c32 : PySem.W.codeIn K cd32 "_law_otherwise" = true)
    (k32 : PySem.W.keepIn K (.ref f32) = true)
    (a33 : PySem.W.nsIn K mainGlobals "_law_powers_right" = some (some (.ref f33)))
    (l33 : K.lookup f33 = some ⟨oc33, od33, .func (PySem.W.fnOf "_law_powers_right" "_law_powers_right" (defArgs sLawPowersRight) (defBody sLawPowersRight) (defScope sLawPowersRight) .none kV33 dc33 pm33 an33 cd33 ct33), sl33⟩)
    (c33 : PySem.W.codeIn K cd33 "_law_powers_right" = true)
    (k33 : PySem.W.keepIn K (.ref f33) = true)
    (a34 : PySem.W.nsIn K mainGlobals "_law_long_right" = some (some (.ref f34)))
    (l34 : K.lookup f34 = some ⟨oc34, od34, .func (PySem.W.fnOf "_law_long_right" "_law_long_right" (defArgs sLawLongRight) (defBody sLawLongRight) (defScope sLawLongRight) .none kV34 dc34 pm34 an34 cd34 ct34), sl34⟩)
    (c34 : PySem.W.codeIn K cd34 "_law_long_right" = true)
    (k34 : PySem.W.keepIn K (.ref f34) = true)
    (a35 : PySem.W.nsIn K mainGlobals "law" = some (some (.ref f35)))
    (l35 : K.lookup f35 = some ⟨oc35, od35, .func (PySem.W.fnOf "law" "law" (defArgs sLaw) (defBody sLaw) (defScope sLaw) .none kV35 dc35 pm35 an35 cd35 ct35), sl35⟩)
    (c35 : PySem.W.codeIn K cd35 "law" = true)
    (k35 : PySem.W.keepIn K (.ref f35) = true)
    (a36 : PySem.W.findIn K (.ref C) "__init__" = some (some (.ref f36)))
    (i36 : PySem.W.isFn K (.ref f36) = true)
    (l36 : K.lookup f36 = some ⟨oc36, od36, .func (PySem.W.fnOf "__init__" "Part.__init__" (defArgs sPartInit) (defBody sPartInit) (defScope sPartInit) (.ref T36) kV36 dc36 pm36 an36 cd36 ct36), sl36⟩)
    (t36 : K.lookup T36 = some ⟨oT36, oTd36, .seq #[.none] nT36, slT36⟩)
    (c36 : PySem.W.codeIn K cd36 "Part.__init__" = true)
    (k36 : PySem.W.keepIn K (.ref f36) = true)
    (a37 : PySem.W.findIn K (.ref CM) "__init__" = some (some (.ref f37)))
    (i37 : PySem.W.isFn K (.ref f37) = true)
    (l37 : K.lookup f37 = some ⟨oc37, od37, .func (PySem.W.fnOf "__init__" "Made.__init__" (defArgs sMadeInit) (defBody sMadeInit) (defScope sMadeInit) (.ref T37) kV37 dc37 pm37 an37 cd37 ct37), sl37⟩)
    (t37 : K.lookup T37 = some ⟨oT37, oTd37, .seq #[.int 1 tk37] nT37, slT37⟩)
    (c37 : PySem.W.codeIn K cd37 "Made.__init__" = true)
    (k37 : PySem.W.keepIn K (.ref f37) = true)
    (a38 : PySem.W.findIn K (.ref CW) "__init__" = some (some (.ref f38)))
    (i38 : PySem.W.isFn K (.ref f38) = true)
    (l38 : K.lookup f38 = some ⟨oc38, od38, .func (PySem.W.fnOf "__init__" "Word.__init__" (defArgs sWordInit) (defBody sWordInit) (defScope sWordInit) .none kV38 dc38 pm38 an38 cd38 ct38), sl38⟩)
    (c38 : PySem.W.codeIn K cd38 "Word.__init__" = true)
    (k38 : PySem.W.keepIn K (.ref f38) = true)
    (a39 : PySem.W.findIn K (.ref CW) "__eq__" = some (some (.ref f39)))
    (i39 : PySem.W.isFn K (.ref f39) = true)
    (l39 : K.lookup f39 = some ⟨oc39, od39, .func (PySem.W.fnOf "__eq__" "Word.__eq__" (defArgs sWordEq) (defBody sWordEq) (defScope sWordEq) .none kV39 dc39 pm39 an39 cd39 ct39), sl39⟩)
    (c39 : PySem.W.codeIn K cd39 "Word.__eq__" = true)
    (k39 : PySem.W.keepIn K (.ref f39) = true)
    (a40 : PySem.W.findIn K (.ref CW) "__add__" = some (some (.ref f40)))
    (i40 : PySem.W.isFn K (.ref f40) = true)
    (l40 : K.lookup f40 = some ⟨oc40, od40, .func (PySem.W.fnOf "__add__" "Word.__add__" (defArgs sWordAdd) (defBody sWordAdd) (defScope sWordAdd) .none kV40 dc40 pm40 an40 cd40 ct40), sl40⟩)
    (c40 : PySem.W.codeIn K cd40 "Word.__add__" = true)
    (k40 : PySem.W.keepIn K (.ref f40) = true)
    (a41 : PySem.W.findIn K (.ref CW) "__mul__" = some (some (.ref f41)))
    (i41 : PySem.W.isFn K (.ref f41) = true)
    (l41 : K.lookup f41 = some ⟨oc41, od41, .func (PySem.W.fnOf "__mul__" "Word.__mul__" (defArgs sWordMul) (defBody sWordMul) (defScope sWordMul) .none kV41 dc41 pm41 an41 cd41 ct41), sl41⟩)
    (c41 : PySem.W.codeIn K cd41 "Word.__mul__" = true)
    (k41 : PySem.W.keepIn K (.ref f41) = true)
    (a42 : PySem.W.findIn K (.ref CW) "__getitem__" = some (some (.ref f42)))
    (i42 : PySem.W.isFn K (.ref f42) = true)
    (l42 : K.lookup f42 = some ⟨oc42, od42, .func (PySem.W.fnOf "__getitem__" "Word.__getitem__" (defArgs sWordGetitem) (defBody sWordGetitem) (defScope sWordGetitem) .none kV42 dc42 pm42 an42 cd42 ct42), sl42⟩)
    (c42 : PySem.W.codeIn K cd42 "Word.__getitem__" = true)
    (k42 : PySem.W.keepIn K (.ref f42) = true)
    (a43 : PySem.W.findIn K (.ref CW) "length" = some (some (.ref f43)))
    (i43 : PySem.W.isFn K (.ref f43) = true)
    (l43 : K.lookup f43 = some ⟨oc43, od43, .func (PySem.W.fnOf "length" "Word.length" (defArgs sWordLength) (defBody sWordLength) (defScope sWordLength) .none kV43 dc43 pm43 an43 cd43 ct43), sl43⟩)
    (c43 : PySem.W.codeIn K cd43 "Word.length" = true)
    (k43 : PySem.W.keepIn K (.ref f43) = true)
    (a44 : PySem.W.findIn K (.ref CW) "cut" = some (some (.ref f44)))
    (i44 : PySem.W.isFn K (.ref f44) = true)
    (l44 : K.lookup f44 = some ⟨oc44, od44, .func (PySem.W.fnOf "cut" "Word.cut" (defArgs sWordCut) (defBody sWordCut) (defScope sWordCut) .none kV44 dc44 pm44 an44 cd44 ct44), sl44⟩)
    (c44 : PySem.W.codeIn K cd44 "Word.cut" = true)
    (k44 : PySem.W.keepIn K (.ref f44) = true)
    (a45 : PySem.W.findIn K (.ref CW) "entries" = some (some (.ref f45)))
    (i45 : PySem.W.isFn K (.ref f45) = true)
    (l45 : K.lookup f45 = some ⟨oc45, od45, .func (PySem.W.fnOf "entries" "Word.entries" (defArgs sWordEntries) (defBody sWordEntries) (defScope sWordEntries) .none kV45 dc45 pm45 an45 cd45 ct45), sl45⟩)
    (c45 : PySem.W.codeIn K cd45 "Word.entries" = true)
    (k45 : PySem.W.keepIn K (.ref f45) = true)
    (a46 : PySem.W.findIn K (.ref CK) "__init__" = some (some (.ref f46)))
    (i46 : PySem.W.isFn K (.ref f46) = true)
    (l46 : K.lookup f46 = some ⟨oc46, od46, .func (PySem.W.fnOf "__init__" "Walk.__init__" (defArgs sWalkInit) (defBody sWalkInit) (defScope sWalkInit) .none kV46 dc46 pm46 an46 cd46 ct46), sl46⟩)
    (c46 : PySem.W.codeIn K cd46 "Walk.__init__" = true)
    (k46 : PySem.W.keepIn K (.ref f46) = true)
    (a47 : PySem.W.findIn K (.ref CK) "next_state" = some (some (.ref f47)))
    (i47 : PySem.W.isFn K (.ref f47) = true)
    (l47 : K.lookup f47 = some ⟨oc47, od47, .func (PySem.W.fnOf "next_state" "Walk.next_state" (defArgs sWalkNextState) (defBody sWalkNextState) (defScope sWalkNextState) .none kV47 dc47 pm47 an47 cd47 ct47), sl47⟩)
    (c47 : PySem.W.codeIn K cd47 "Walk.next_state" = true)
    (k47 : PySem.W.keepIn K (.ref f47) = true)
    (a48 : PySem.W.findIn K (.ref CK) "go_from" = some (some (.ref f48)))
    (i48 : PySem.W.isFn K (.ref f48) = true)
    (l48 : K.lookup f48 = some ⟨oc48, od48, .func (PySem.W.fnOf "go_from" "Walk.go_from" (defArgs sWalkGoFrom) (defBody sWalkGoFrom) (defScope sWalkGoFrom) .none kV48 dc48 pm48 an48 cd48 ct48), sl48⟩)
    (c48 : PySem.W.codeIn K cd48 "Walk.go_from" = true)
    (k48 : PySem.W.keepIn K (.ref f48) = true)
    (a49 : PySem.W.findIn K (.ref CK) "once" = some (some (.ref f49)))
    (i49 : PySem.W.isFn K (.ref f49) = true)
    (l49 : K.lookup f49 = some ⟨oc49, od49, .func (PySem.W.fnOf "once" "Walk.once" (defArgs sWalkOnce) (defBody sWalkOnce) (defScope sWalkOnce) .none kV49 dc49 pm49 an49 cd49 ct49), sl49⟩)
    (c49 : PySem.W.codeIn K cd49 "Walk.once" = true)
    (k49 : PySem.W.keepIn K (.ref f49) = true)
    (a50 : PySem.W.findIn K (.ref CK) "passages" = some (some (.ref f50)))
    (i50 : PySem.W.isFn K (.ref f50) = true)
    (l50 : K.lookup f50 = some ⟨oc50, od50, .func (PySem.W.fnOf "passages" "Walk.passages" (defArgs sWalkPassages) (defBody sWalkPassages) (defScope sWalkPassages) .none kV50 dc50 pm50 an50 cd50 ct50), sl50⟩)
    (c50 : PySem.W.codeIn K cd50 "Walk.passages" = true)
    (k50 : PySem.W.keepIn K (.ref f50) = true)
    (a51 : PySem.W.findIn K (.ref CP) "__init__" = some (some (.ref f51)))
    (i51 : PySem.W.isFn K (.ref f51) = true)
    (l51 : K.lookup f51 = some ⟨oc51, od51, .func (PySem.W.fnOf "__init__" "Passages.__init__" (defArgs sPassagesInit) (defBody sPassagesInit) (defScope sPassagesInit) .none kV51 dc51 pm51 an51 cd51 ct51), sl51⟩)
    (c51 : PySem.W.codeIn K cd51 "Passages.__init__" = true)
    (k51 : PySem.W.keepIn K (.ref f51) = true)
    (a52 : PySem.W.findIn K (.ref CP) "note" = some (some (.ref f52)))
    (i52 : PySem.W.isFn K (.ref f52) = true)
    (l52 : K.lookup f52 = some ⟨oc52, od52, .func (PySem.W.fnOf "note" "Passages.note" (defArgs sPassagesNote) (defBody sPassagesNote) (defScope sPassagesNote) .none kV52 dc52 pm52 an52 cd52 ct52), sl52⟩)
    (c52 : PySem.W.codeIn K cd52 "Passages.note" = true)
    (k52 : PySem.W.keepIn K (.ref f52) = true)
    (a53 : PySem.W.findIn K (.ref CP) "done" = some (some (.ref f53)))
    (i53 : PySem.W.isFn K (.ref f53) = true)
    (l53 : K.lookup f53 = some ⟨oc53, od53, .func (PySem.W.fnOf "done" "Passages.done" (defArgs sPassagesDone) (defBody sPassagesDone) (defScope sPassagesDone) .none kV53 dc53 pm53 an53 cd53 ct53), sl53⟩)
    (c53 : PySem.W.codeIn K cd53 "Passages.done" = true)
    (k53 : PySem.W.keepIn K (.ref f53) = true)
    (a54 : PySem.W.findIn K (.ref CP) "returns" = some (some (.ref f54)))
    (i54 : PySem.W.isFn K (.ref f54) = true)
    (l54 : K.lookup f54 = some ⟨oc54, od54, .func (PySem.W.fnOf "returns" "Passages.returns" (defArgs sPassagesReturns) (defBody sPassagesReturns) (defScope sPassagesReturns) .none kV54 dc54 pm54 an54 cd54 ct54), sl54⟩)
    (c54 : PySem.W.codeIn K cd54 "Passages.returns" = true)
    (k54 : PySem.W.keepIn K (.ref f54) = true)
    (a55 : PySem.W.findIn K (.ref CP) "folded" = some (some (.ref f55)))
    (i55 : PySem.W.isFn K (.ref f55) = true)
    (l55 : K.lookup f55 = some ⟨oc55, od55, .func (PySem.W.fnOf "folded" "Passages.folded" (defArgs sPassagesFolded) (defBody sPassagesFolded) (defScope sPassagesFolded) .none kV55 dc55 pm55 an55 cd55 ct55), sl55⟩)
    (c55 : PySem.W.codeIn K cd55 "Passages.folded" = true)
    (k55 : PySem.W.keepIn K (.ref f55) = true)
    (a56 : PySem.W.findIn K (.ref CP) "end" = some (some (.ref f56)))
    (i56 : PySem.W.isFn K (.ref f56) = true)
    (l56 : K.lookup f56 = some ⟨oc56, od56, .func (PySem.W.fnOf "end" "Passages.end" (defArgs sPassagesEnd) (defBody sPassagesEnd) (defScope sPassagesEnd) .none kV56 dc56 pm56 an56 cd56 ct56), sl56⟩)
    (c56 : PySem.W.codeIn K cd56 "Passages.end" = true)
    (k56 : PySem.W.keepIn K (.ref f56) = true)
    (pgC : PySem.W.plainGet K C Str.empty = true)
    (hdC : PySem.W.hasDictIn K C = true)
    (poC : PySem.W.plainOver K C = true)
    (saC : PySem.W.findIn K (.ref C) "__setattr__" = some (some (.builtin "object.__setattr__")))
    (mkC : PySem.W.makesIn K C = true)
    (kcC : PySem.W.keepIn K (.ref C) = true)
    (haC : PySem.W.findIn K (.ref C) "__class__" = some (some (.builtin "object.__class__")))
    (hmC : PySem.W.mroIn K C (.type "object") = some true)
    (pgCM : PySem.W.plainGet K CM Str.empty = true)
    (hdCM : PySem.W.hasDictIn K CM = true)
    (poCM : PySem.W.plainOver K CM = true)
    (saCM : PySem.W.findIn K (.ref CM) "__setattr__" = some (some (.builtin "object.__setattr__")))
    (mkCM : PySem.W.makesIn K CM = true)
    (kcCM : PySem.W.keepIn K (.ref CM) = true)
    (haCM : PySem.W.findIn K (.ref CM) "__class__" = some (some (.builtin "object.__class__")))
    (hmCM : PySem.W.mroIn K CM (.type "object") = some true)
    (pgCW : PySem.W.plainGet K CW Str.empty = true)
    (hdCW : PySem.W.hasDictIn K CW = true)
    (poCW : PySem.W.plainOver K CW = true)
    (saCW : PySem.W.findIn K (.ref CW) "__setattr__" = some (some (.builtin "object.__setattr__")))
    (mkCW : PySem.W.makesIn K CW = true)
    (kcCW : PySem.W.keepIn K (.ref CW) = true)
    (haCW : PySem.W.findIn K (.ref CW) "__class__" = some (some (.builtin "object.__class__")))
    (hmCW : PySem.W.mroIn K CW (.type "object") = some true)
    (pgCK : PySem.W.plainGet K CK Str.empty = true)
    (hdCK : PySem.W.hasDictIn K CK = true)
    (poCK : PySem.W.plainOver K CK = true)
    (saCK : PySem.W.findIn K (.ref CK) "__setattr__" = some (some (.builtin "object.__setattr__")))
    (mkCK : PySem.W.makesIn K CK = true)
    (kcCK : PySem.W.keepIn K (.ref CK) = true)
    (haCK : PySem.W.findIn K (.ref CK) "__class__" = some (some (.builtin "object.__class__")))
    (hmCK : PySem.W.mroIn K CK (.type "object") = some true)
    (pgCP : PySem.W.plainGet K CP Str.empty = true)
    (hdCP : PySem.W.hasDictIn K CP = true)
    (poCP : PySem.W.plainOver K CP = true)
    (saCP : PySem.W.findIn K (.ref CP) "__setattr__" = some (some (.builtin "object.__setattr__")))
    (mkCP : PySem.W.makesIn K CP = true)
    (kcCP : PySem.W.keepIn K (.ref CP) = true)
    (haCP : PySem.W.findIn K (.ref CP) "__class__" = some (some (.builtin "object.__class__")))
    (hmCP : PySem.W.mroIn K CP (.type "object") = some true)
    (hn : PySem.W.specialIn K (.builtin "object.__class__") "__get__" = some (some (.builtin "getset_descriptor.__get__")))
    (ht : PySem.W.takesIn K (.builtin "object.__class__") = some true)
    (nt : PySem.W.kitOne K (.ref C) (.type "tuple") = some false)
    (nLen : PySem.W.findIn K (.ref C) "length" = some none)
    (nC_letters : PySem.W.findIn K (.ref C) "letters" = some none)
    (nC_left : PySem.W.findIn K (.ref C) "left" = some none)
    (nC_right : PySem.W.findIn K (.ref C) "right" = some none)
    (nC_times : PySem.W.findIn K (.ref C) "times" = some none)
    (nC_turned_from : PySem.W.findIn K (.ref C) "turned_from" = some none)
    (nC_wide : PySem.W.findIn K (.ref C) "wide" = some none)
    (nCM_part : PySem.W.findIn K (.ref CM) "part" = some none)
    (nCM_nesting : PySem.W.findIn K (.ref CM) "nesting" = some none)
    (nCM_pieces : PySem.W.findIn K (.ref CM) "pieces" = some none)
    (nCW_part : PySem.W.findIn K (.ref CW) "part" = some none)
    (nCW_nesting : PySem.W.findIn K (.ref CW) "nesting" = some none)
    (nCW_pieces : PySem.W.findIn K (.ref CW) "pieces" = some none)
    (nCK_moves : PySem.W.findIn K (.ref CK) "moves" = some none)
    (nCK_counted : PySem.W.findIn K (.ref CK) "counted" = some none)
    (nCK_known : PySem.W.findIn K (.ref CK) "known" = some none)
    (nCP_states : PySem.W.findIn K (.ref CP) "states" = some none)
    (nCP_sums : PySem.W.findIn K (.ref CP) "sums" = some none)
    (selfCM : PySem.W.kitOne K (.ref CM) (.ref CM) = some true)
    (noListCM : PySem.W.kitOne K (.type "list") (.ref CM) = some false)
    (selfCW : PySem.W.kitOne K (.ref CW) (.ref CW) = some true)
    (noListCW : PySem.W.kitOne K (.type "list") (.ref CW) = some false)
    (sf : PySem.W.selfFirst K CW = true)
    (rmul : PySem.W.findIn K (.ref CW) "__rmul__" = some none)
    (im : PySem.W.findIn K (.type "int") "__mul__" = some (some (.builtin "int.__mul__")))
    (irm : PySem.W.findIn K (.type "int") "__rmul__" = some (some (.builtin "int.__rmul__")))
    (isub : PySem.W.subIn K (.type "int") (.ref CW) = some false)
    (ne : PySem.W.findIn K (.ref CW) "__ne__" = some (some (.builtin "object.__ne__")))
    (nl : PySem.W.notFirst K CW (.type "list") = true)
    (gfn : PySem.W.fnIn K f42 = true)
    (z_isinstance : PySem.W.nsIn K mainGlobals "isinstance" = some none)
    (z_len : PySem.W.nsIn K mainGlobals "len" = some none)
    (z_min : PySem.W.nsIn K mainGlobals "min" = some none)
    (z_max : PySem.W.nsIn K mainGlobals "max" = some none)
    (z_all : PySem.W.nsIn K mainGlobals "all" = some none)
    (z_int : PySem.W.nsIn K mainGlobals "int" = some none)
    (z_bool : PySem.W.nsIn K mainGlobals "bool" = some none)
    (z_str : PySem.W.nsIn K mainGlobals "str" = some none)
    (z_tuple : PySem.W.nsIn K mainGlobals "tuple" = some none)
    (z_list : PySem.W.nsIn K mainGlobals "list" = some none)
    (z_range : PySem.W.nsIn K mainGlobals "range" = some none)
    (z_sorted : PySem.W.nsIn K mainGlobals "sorted" = some none)
    (g_MOST_IN_ROW : PySem.W.nsIn K mainGlobals "MOST_IN_ROW" = some (some (.int 60 tk60)))
    (g_MOST_DEPTH : PySem.W.nsIn K mainGlobals "MOST_DEPTH" = some (some (.int 6 tk6)))
    (g_MOST_TOLD : PySem.W.nsIn K mainGlobals "MOST_TOLD" = some (some (.int 1000 tkT)))
    (g_MOST_PIECES : PySem.W.nsIn K mainGlobals "MOST_PIECES" = some (some (.int 1000 tkP)))
    (g_MOST_LETTERS : PySem.W.nsIn K mainGlobals "MOST_LETTERS" = some (some (.int 8 tk8)))
    (g_MOST_ROW : PySem.W.nsIn K mainGlobals "MOST_ROW" = some (some (.int 8 tkR)))
    (g_LETTERS : PySem.W.nsIn K mainGlobals "LETTERS" = some (some (.str LETTERS tkL)))
    (g_KINDS : PySem.W.nsIn K mainGlobals "KINDS" = some (some (.ref aK)))
    (kK : K.lookup aK = some ⟨.type "tuple", odK, .seq #[.str "emit" tkE, .str "final" tkF] nK, slK⟩) :
    ∃ fd : FuncData, (∀ (s : Shared) (v : Value), BindsTo s fd ⟨[v], []⟩ [("script", v)]) ∧ ∀ base : Heap, K.In base → base.Ns mainGlobals mg → FnOk l.prog w K mg base CX0 183 fa fd ["script"] (spLaw K) := by
  have e := hfa.symm.trans (PySem.W.mg_of X G a35)
  have e := Value.ref.inj (Option.some.inj e)
  subst e
  have B : Blt mg := ⟨PySem.W.mg_none_of X G z_isinstance, PySem.W.mg_none_of X G z_len, PySem.W.mg_none_of X G z_min, PySem.W.mg_none_of X G z_max, PySem.W.mg_none_of X G z_all, PySem.W.mg_none_of X G z_int, PySem.W.mg_none_of X G z_bool, PySem.W.mg_none_of X G z_str, PySem.W.mg_none_of X G z_tuple, PySem.W.mg_none_of X G z_list, PySem.W.mg_none_of X G z_range, PySem.W.mg_none_of X G z_sorted⟩
  have F1 := fun_mk (st := sIsInteger) l1 c1 k1
  have D1 : DefF K mg "is_integer" sIsInteger ["thing"] f1 _ := ⟨F1, F1.binds (ps := ["thing"]) fun _ _ _ _ _ _ us hl => match us, hl with | [_], _ => rfl, PySem.W.mg_of X G a1⟩
  have F2 := fun_mk (st := sIsBetween) l2 c2 k2
  have D2 : DefF K mg "is_between" sIsBetween ["thing", "least", "most"] f2 _ := ⟨F2, F2.binds (ps := ["thing", "least", "most"]) fun _ _ _ _ _ _ us hl => match us, hl with | [_, _, _], _ => rfl, PySem.W.mg_of X G a2⟩
  have F3 := fun_mk (st := sIsName) l3 c3 k3
  have D3 : DefF K mg "is_name" sIsName ["thing"] f3 _ := ⟨F3, F3.binds (ps := ["thing"]) fun _ _ _ _ _ _ us hl => match us, hl with | [_], _ => rfl, PySem.W.mg_of X G a3⟩
  have F4 := fun_mk (st := sIsEntry) l4 c4 k4
  have D4 : DefF K mg "is_entry" sIsEntry ["thing"] f4 _ := ⟨F4, F4.binds (ps := ["thing"]) fun _ _ _ _ _ _ us hl => match us, hl with | [_], _ => rfl, PySem.W.mg_of X G a4⟩
  have F5 := fun_mk (st := sJoined) l5 c5 k5
  have D5 : DefF K mg "joined" sJoined ["one", "other"] f5 _ := ⟨F5, F5.binds (ps := ["one", "other"]) fun _ _ _ _ _ _ us hl => match us, hl with | [_, _], _ => rfl, PySem.W.mg_of X G a5⟩
  have F6 := fun_mk (st := sRepeated) l6 c6 k6
  have D6 : DefF K mg "repeated" sRepeated ["part", "times"] f6 _ := ⟨F6, F6.binds (ps := ["part", "times"]) fun _ _ _ _ _ _ us hl => match us, hl with | [_, _], _ => rfl, PySem.W.mg_of X G a6⟩
  have F7 := fun_mk (st := sWidth) l7 c7 k7
  have D7 : DefF K mg "width" sWidth ["unit"] f7 _ := ⟨F7, F7.binds (ps := ["unit"]) fun _ _ _ _ _ _ us hl => match us, hl with | [_], _ => rfl, PySem.W.mg_of X G a7⟩
  have F8 := fun_mk (st := sOpened) l8 c8 k8
  have D8 : DefF K mg "opened" sOpened ["part", "rest"] f8 _ := ⟨F8, F8.binds (ps := ["part", "rest"]) fun _ _ _ _ _ _ us hl => match us, hl with | [_, _], _ => rfl, PySem.W.mg_of X G a8⟩
  have F9 := fun_mk (st := sFirstUnit) l9 c9 k9
  have D9 : DefF K mg "first_unit" sFirstUnit ["units"] f9 _ := ⟨F9, F9.binds (ps := ["units"]) fun _ _ _ _ _ _ us hl => match us, hl with | [_], _ => rfl, PySem.W.mg_of X G a9⟩
  have F10 := fun_mk (st := sBehind) l10 c10 k10
  have D10 : DefF K mg "behind" sBehind ["units", "many"] f10 _ := ⟨F10, F10.binds (ps := ["units", "many"]) fun _ _ _ _ _ _ us hl => match us, hl with | [_, _], _ => rfl, PySem.W.mg_of X G a10⟩
  have F11 := fun_mk (st := sRotated) l11 c11 k11
  have D11 : DefF K mg "rotated" sRotated ["part", "many"] f11 _ := ⟨F11, F11.binds (ps := ["part", "many"]) fun _ _ _ _ _ _ us hl => match us, hl with | [_, _], _ => rfl, PySem.W.mg_of X G a11⟩
  have F12 := fun_mk (st := sGoneBy) l12 c12 k12
  have D12 : DefF K mg "gone_by" sGoneBy ["units", "many"] f12 _ := ⟨F12, F12.binds (ps := ["units", "many"]) fun _ _ _ _ _ _ us hl => match us, hl with | [_, _], _ => rfl, PySem.W.mg_of X G a12⟩
  have F13 := fun_mk (st := sAlikeFor) l13 c13 k13
  have D13 : DefF K mg "alike_for" sAlikeFor ["unit", "other"] f13 _ := ⟨F13, F13.binds (ps := ["unit", "other"]) fun _ _ _ _ _ _ us hl => match us, hl with | [_, _], _ => rfl, PySem.W.mg_of X G a13⟩
  have F14 := fun_mk (st := sAlikeAhead) l14 c14 k14
  have D14 : DefF K mg "alike_ahead" sAlikeAhead ["one", "other", "most"] f14 _ := ⟨F14, F14.binds (ps := ["one", "other", "most"]) fun _ _ _ _ _ _ us hl => match us, hl with | [_, _, _], _ => rfl, PySem.W.mg_of X G a14⟩
  have F15 := fun_mk (st := sRunAhead) l15 c15 k15
  have D15 : DefF K mg "run_ahead" sRunAhead ["units", "most"] f15 _ := ⟨F15, F15.binds (ps := ["units", "most"]) fun _ _ _ _ _ _ us hl => match us, hl with | [_, _], _ => rfl, PySem.W.mg_of X G a15⟩
  have F16 := fun_mk (st := sAgreement) l16 c16 k16
  have D16 : DefF K mg "agreement" sAgreement ["one", "other", "most"] f16 _ := ⟨F16, F16.binds (ps := ["one", "other", "most"]) fun _ _ _ _ _ _ us hl => match us, hl with | [_, _, _], _ => rfl, PySem.W.mg_of X G a16⟩
  have F17 := fun_mk (st := sPartOf) l17 c17 k17
  have D17 : DefF K mg "part_of" sPartOf ["units", "many"] f17 _ := ⟨F17, F17.binds (ps := ["units", "many"]) fun _ _ _ _ _ _ us hl => match us, hl with | [_, _], _ => rfl, PySem.W.mg_of X G a17⟩
  have F18 := fun_mk (st := sCheckIndex) l18 c18 k18
  have D18 : DefF K mg "check_index" sCheckIndex ["number", "least", "most"] f18 _ := ⟨F18, F18.binds (ps := ["number", "least", "most"]) fun _ _ _ _ _ _ us hl => match us, hl with | [_, _, _], _ => rfl, PySem.W.mg_of X G a18⟩
  have F19 := fun_mk (st := sLawCell) l19 c19 k19
  have D19 : DefF K mg "_law_cell" sLawCell ["script", "k"] f19 _ := ⟨F19, F19.binds (ps := ["script", "k"]) fun _ _ _ _ _ _ us hl => match us, hl with | [_, _], _ => rfl, PySem.W.mg_of X G a19⟩
  have F20 := fun_mk (st := sLawDigits) l20 c20 k20
  have D20 : DefF K mg "_law_digits" sLawDigits ["cell", "many"] f20 _ := ⟨F20, F20.binds (ps := ["cell", "many"]) fun _ _ _ _ _ _ us hl => match us, hl with | [_, _], _ => rfl, PySem.W.mg_of X G a20⟩
  have F21 := fun_mk (st := sLawEntry) l21 c21 k21
  have D21 : DefF K mg "_law_entry" sLawEntry ["digit"] f21 _ := ⟨F21, F21.binds (ps := ["digit"]) fun _ _ _ _ _ _ us hl => match us, hl with | [_], _ => rfl, PySem.W.mg_of X G a21⟩
  have F22 := fun_mk (st := sLawRow) l22 c22 k22
  have D22 : DefF K mg "_law_row" sLawRow ["digits", "many"] f22 _ := ⟨F22, F22.binds (ps := ["digits", "many"]) fun _ _ _ _ _ _ us hl => match us, hl with | [_, _], _ => rfl, PySem.W.mg_of X G a22⟩
  have F23 := fun_mk (st := sLawBuilt) l23 c23 k23
  have D23 : DefF K mg "_law_built" sLawBuilt ["digits", "deep"] f23 _ := ⟨F23, F23.binds (ps := ["digits", "deep"]) fun _ _ _ _ _ _ us hl => match us, hl with | [_, _], _ => rfl, PySem.W.mg_of X G a23⟩
  have F24 := fun_mk (st := sAgreeing) l24 c24 k24
  have D24 : DefF K mg "agreeing" sAgreeing ["one", "first", "other", "second"] f24 _ := ⟨F24, F24.binds (ps := ["one", "first", "other", "second"]) fun _ _ _ _ _ _ us hl => match us, hl with | [_, _, _, _], _ => rfl, PySem.W.mg_of X G a24⟩
  have F25 := fun_mk (st := sFirstDifference) l25 c25 k25
  have D25 : DefF K mg "first_difference" sFirstDifference ["one", "other"] f25 _ := ⟨F25, F25.binds (ps := ["one", "other"]) fun _ _ _ _ _ _ us hl => match us, hl with | [_, _], _ => rfl, PySem.W.mg_of X G a25⟩
  have F26 := fun_mk (st := sCheckNumber) l26 c26 k26
  have D26 : DefF K mg "check_number" sCheckNumber ["number", "least", "most"] f26 _ := ⟨F26, F26.binds (ps := ["number", "least", "most"]) fun _ _ _ _ _ _ us hl => match us, hl with | [_, _, _], _ => rfl, PySem.W.mg_of X G a26⟩
  have F27 := fun_mk (st := sCheckRow) l27 c27 k27
  have D27 : DefF K mg "check_row" sCheckRow ["row"] f27 _ := ⟨F27, F27.binds (ps := ["row"]) fun _ _ _ _ _ _ us hl => match us, hl with | [_], _ => rfl, PySem.W.mg_of X G a27⟩
  have F28 := fun_mk (st := sMatched) l28 c28 k28
  have D28 : DefF K mg "matched" sMatched ["row", "seen"] f28 _ := ⟨F28, F28.binds (ps := ["row", "seen"]) fun _ _ _ _ _ _ us hl => match us, hl with | [_, _], _ => rfl, PySem.W.mg_of X G a28⟩
  have F29 := fun_mk (st := sRowWalk) l29 c29 k29
  have D29 : DefF K mg "row_walk" sRowWalk ["row"] f29 _ := ⟨F29, F29.binds (ps := ["row"]) fun _ _ _ _ _ _ us hl => match us, hl with | [_], _ => rfl, PySem.W.mg_of X G a29⟩
  have F30 := fun_mk (st := sCountRow) l30 c30 k30
  have D30 : DefF K mg "count_row" sCountRow ["word", "row", "end"] f30 _ := ⟨F30, F30.binds (ps := ["word", "row", "end"]) fun _ _ _ _ _ _ us hl => match us, hl with | [_, _, _], _ => rfl, PySem.W.mg_of X G a30⟩
  have F31 := fun_mk (st := sLawStands) l31 c31 k31
  have D31 : DefF K mg "_law_stands" sLawStands ["row", "some"] f31 _ := ⟨F31, F31.binds (ps := ["row", "some"]) fun _ _ _ _ _ _ us hl => match us, hl with | [_, _], _ => rfl, PySem.W.mg_of X G a31⟩
  have F32 := fun_mk (st := sLawOtherwise) l32 c32 k32
  have D32 : DefF K mg "_law_otherwise" sLawOtherwise ["word", "some", "digits"] f32 _ := ⟨F32, F32.binds (ps := ["word", "some", "digits"]) fun _ _ _ _ _ _ us hl => match us, hl with | [_, _, _], _ => rfl, PySem.W.mg_of X G a32⟩
  have F33 := fun_mk (st := sLawPowersRight) l33 c33 k33
  have D33 : DefF K mg "_law_powers_right" sLawPowersRight ["row", "digits"] f33 _ := ⟨F33, F33.binds (ps := ["row", "digits"]) fun _ _ _ _ _ _ us hl => match us, hl with | [_, _], _ => rfl, PySem.W.mg_of X G a33⟩
  have F34 := fun_mk (st := sLawLongRight) l34 c34 k34
  have D34 : DefF K mg "_law_long_right" sLawLongRight ["digits"] f34 _ := ⟨F34, F34.binds (ps := ["digits"]) fun _ _ _ _ _ _ us hl => match us, hl with | [_], _ => rfl, PySem.W.mg_of X G a34⟩
  have F35 := fun_mk (st := sLaw) l35 c35 k35
  have D35 : DefF K mg "law" sLaw ["script"] fa _ := ⟨F35, F35.binds (ps := ["script"]) fun _ _ _ _ _ _ us hl => match us, hl with | [_], _ => rfl, PySem.W.mg_of X G a35⟩
  have F36 : FunD K "__init__" "Part.__init__" (defArgs sPartInit) (defBody sPartInit) (defScope sPartInit) [.non] [] f36 _ := ⟨⟨_, _, _, _, _, _, _, _, _, _, rfl, l36, c36, .inr ⟨(by simp), T36, _, [.none], _, rfl, t36, rfl, .cons rfl .nil⟩, .inl rfl⟩, k36⟩
  obtain ⟨dsF36, vF36, bF36⟩ := F36.binds1 (ps := ["self", "row", "left", "right", "times", "turned_from"]) 6 1 (by simp) rfl fun _ _ _ _ _ _ _ us its hu hi => match us, hu, its, hi with | [_, _, _, _, _, _], _, [_], _ => ⟨_, rfl, rfl⟩
  cases vF36
  obtain ⟨dsL36, vL36, bL36⟩ := F36.binds1 (ps := ["self", "row", "left", "right", "times", "turned_from"]) 5 0 (by simp) rfl fun _ _ _ _ _ _ _ us its hu hi => match us, hu, its, hi with | [_, _, _, _, _], _, [_], _ => ⟨_, rfl, rfl⟩
  have F37 : FunD K "__init__" "Made.__init__" (defArgs sMadeInit) (defBody sMadeInit) (defScope sMadeInit) [.int 1] [] f37 _ := ⟨⟨_, _, _, _, _, _, _, _, _, _, rfl, l37, c37, .inr ⟨(by simp), T37, _, [.int 1 tk37], _, rfl, t37, rfl, .cons ⟨_, rfl⟩ .nil⟩, .inl rfl⟩, k37⟩
  obtain ⟨dsF37, vF37, bF37⟩ := F37.binds1 (ps := ["self", "part", "depth", "pieces"]) 4 1 (by simp) rfl fun _ _ _ _ _ _ _ us its hu hi => match us, hu, its, hi with | [_, _, _, _], _, [_], _ => ⟨_, rfl, rfl⟩
  cases vF37
  have F38 := fun_mk (st := sWordInit) l38 c38 k38
  have F39 := fun_mk (st := sWordEq) l39 c39 k39
  have O39 : DefO K CW "__eq__" "Word.__eq__" sWordEq ["self", "other"] f39 _ := ⟨F39, F39.binds (ps := ["self", "other"]) fun _ _ _ _ _ _ us hl => match us, hl with | [_, _], _ => rfl, ⟨a39, i39⟩⟩
  have F40 := fun_mk (st := sWordAdd) l40 c40 k40
  have O40 : DefO K CW "__add__" "Word.__add__" sWordAdd ["self", "other"] f40 _ := ⟨F40, F40.binds (ps := ["self", "other"]) fun _ _ _ _ _ _ us hl => match us, hl with | [_, _], _ => rfl, ⟨a40, i40⟩⟩
  have F41 := fun_mk (st := sWordMul) l41 c41 k41
  have O41 : DefO K CW "__mul__" "Word.__mul__" sWordMul ["self", "times"] f41 _ := ⟨F41, F41.binds (ps := ["self", "times"]) fun _ _ _ _ _ _ us hl => match us, hl with | [_, _], _ => rfl, ⟨a41, i41⟩⟩
  have F42 := fun_mk (st := sWordGetitem) l42 c42 k42
  have O42 : DefO K CW "__getitem__" "Word.__getitem__" sWordGetitem ["self", "number"] f42 _ := ⟨F42, F42.binds (ps := ["self", "number"]) fun _ _ _ _ _ _ us hl => match us, hl with | [_, _], _ => rfl, ⟨a42, i42⟩⟩
  have F43 := fun_mk (st := sWordLength) l43 c43 k43
  have D43 : DefM K CW "length" "Word.length" sWordLength ["self"] f43 _ := ⟨F43, F43.binds (ps := ["self"]) fun _ _ _ _ _ _ us hl => match us, hl with | [_], _ => rfl, ⟨a43, i43, k43⟩⟩
  have F44 := fun_mk (st := sWordCut) l44 c44 k44
  have D44 : DefM K CW "cut" "Word.cut" sWordCut ["self", "first", "last"] f44 _ := ⟨F44, F44.binds (ps := ["self", "first", "last"]) fun _ _ _ _ _ _ us hl => match us, hl with | [_, _, _], _ => rfl, ⟨a44, i44, k44⟩⟩
  have F45 := fun_mk (st := sWordEntries) l45 c45 k45
  have D45 : DefM K CW "entries" "Word.entries" sWordEntries ["self", "first", "last"] f45 _ := ⟨F45, F45.binds (ps := ["self", "first", "last"]) fun _ _ _ _ _ _ us hl => match us, hl with | [_, _, _], _ => rfl, ⟨a45, i45, k45⟩⟩
  have F46 := fun_mk (st := sWalkInit) l46 c46 k46
  have F47 := fun_mk (st := sWalkNextState) l47 c47 k47
  have D47 : DefM K CK "next_state" "Walk.next_state" sWalkNextState ["self", "state", "entry"] f47 _ := ⟨F47, F47.binds (ps := ["self", "state", "entry"]) fun _ _ _ _ _ _ us hl => match us, hl with | [_, _, _], _ => rfl, ⟨a47, i47, k47⟩⟩
  have F48 := fun_mk (st := sWalkGoFrom) l48 c48 k48
  have D48 : DefM K CK "go_from" "Walk.go_from" sWalkGoFrom ["self", "state", "units", "many"] f48 _ := ⟨F48, F48.binds (ps := ["self", "state", "units", "many"]) fun _ _ _ _ _ _ us hl => match us, hl with | [_, _, _, _], _ => rfl, ⟨a48, i48, k48⟩⟩
  have F49 := fun_mk (st := sWalkOnce) l49 c49 k49
  have D49 : DefM K CK "once" "Walk.once" sWalkOnce ["self", "state", "unit"] f49 _ := ⟨F49, F49.binds (ps := ["self", "state", "unit"]) fun _ _ _ _ _ _ us hl => match us, hl with | [_, _, _], _ => rfl, ⟨a49, i49, k49⟩⟩
  have F50 := fun_mk (st := sWalkPassages) l50 c50 k50
  have D50 : DefM K CK "passages" "Walk.passages" sWalkPassages ["self", "state", "unit", "times"] f50 _ := ⟨F50, F50.binds (ps := ["self", "state", "unit", "times"]) fun _ _ _ _ _ _ us hl => match us, hl with | [_, _, _, _], _ => rfl, ⟨a50, i50, k50⟩⟩
  have F51 := fun_mk (st := sPassagesInit) l51 c51 k51
  have F52 := fun_mk (st := sPassagesNote) l52 c52 k52
  have D52 : DefM K CP "note" "Passages.note" sPassagesNote ["self", "state", "visits"] f52 _ := ⟨F52, F52.binds (ps := ["self", "state", "visits"]) fun _ _ _ _ _ _ us hl => match us, hl with | [_, _, _], _ => rfl, ⟨a52, i52, k52⟩⟩
  have F53 := fun_mk (st := sPassagesDone) l53 c53 k53
  have D53 : DefM K CP "done" "Passages.done" sPassagesDone ["self"] f53 _ := ⟨F53, F53.binds (ps := ["self"]) fun _ _ _ _ _ _ us hl => match us, hl with | [_], _ => rfl, ⟨a53, i53, k53⟩⟩
  have F54 := fun_mk (st := sPassagesReturns) l54 c54 k54
  have D54 : DefM K CP "returns" "Passages.returns" sPassagesReturns ["self"] f54 _ := ⟨F54, F54.binds (ps := ["self"]) fun _ _ _ _ _ _ us hl => match us, hl with | [_], _ => rfl, ⟨a54, i54, k54⟩⟩
  have F55 := fun_mk (st := sPassagesFolded) l55 c55 k55
  have D55 : DefM K CP "folded" "Passages.folded" sPassagesFolded ["self", "times"] f55 _ := ⟨F55, F55.binds (ps := ["self", "times"]) fun _ _ _ _ _ _ us hl => match us, hl with | [_, _], _ => rfl, ⟨a55, i55, k55⟩⟩
  have F56 := fun_mk (st := sPassagesEnd) l56 c56 k56
  have D56 : DefM K CP "end" "Passages.end" sPassagesEnd ["self", "times"] f56 _ := ⟨F56, F56.binds (ps := ["self", "times"]) fun _ _ _ _ _ _ us hl => match us, hl with | [_, _], _ => rfl, ⟨a56, i56, k56⟩⟩
  have T : PCl K C := ⟨⟨pgC, hdC, poC, saC⟩, nC_letters, nC_left, nC_right, nC_times, nC_turned_from, nC_wide, haC, hn, ht, hmC, nt⟩
  have M : PMk K mg C f36 _ dsL36 := ⟨F36, bL36, vL36, bF36, ⟨mkC, a36, i36, kcC⟩, PySem.W.mg_of X G aC⟩
  have TM : MCl K mg CM f37 _ := ⟨⟨pgCM, hdCM, poCM, saCM⟩, nCM_part, nCM_nesting, nCM_pieces, haCM, hn, ht, hmCM, selfCM, noListCM, F37, bF37, ⟨mkCM, a37, i37, kcCM⟩, PySem.W.mg_of X G aCM⟩
  have TW : WCl K mg CW f38 _ := ⟨⟨pgCW, hdCW, poCW, saCW⟩, nCW_part, nCW_nesting, nCW_pieces, haCW, hn, ht, hmCW, selfCW, noListCW, F38, F38.binds (ps := ["self", "entries"]) fun _ _ _ _ _ _ us hl => match us, hl with | [_, _], _ => rfl, ⟨mkCW, a38, i38, kcCW⟩, PySem.W.mg_of X G aCW⟩
  have TK : WkC K mg CK f46 _ := ⟨⟨pgCK, hdCK, poCK, saCK⟩, nCK_moves, nCK_counted, nCK_known, F46, F46.binds (ps := ["self", "moves", "counted"]) fun _ _ _ _ _ _ us hl => match us, hl with | [_, _, _], _ => rfl, ⟨mkCK, a46, i46, kcCK⟩, PySem.W.mg_of X G aCK⟩
  have TP : PsC K mg CP f51 _ := ⟨⟨pgCP, hdCP, poCP, saCP⟩, nCP_states, nCP_sums, F51, F51.binds (ps := ["self", "state"]) fun _ _ _ _ _ _ us hl => match us, hl with | [_, _], _ => rfl, ⟨mkCP, a51, i51, kcCP⟩, PySem.W.mg_of X G aCP⟩
  have WO : WOps K CW f42 := ⟨sf, rmul, im, irm, isub, ne, nl, gfn⟩
  have hCW : CW ≠ C := fun z => by rw [z] at a43; have := a43.symm.trans nLen; cases this
  have m60 := PySem.W.mg_of X G g_MOST_IN_ROW
  have m6 := PySem.W.mg_of X G g_MOST_DEPTH
  have mTold := PySem.W.mg_of X G g_MOST_TOLD
  have mPcs := PySem.W.mg_of X G g_MOST_PIECES
  have mRow := PySem.W.mg_of X G g_MOST_ROW
  have m8 := PySem.W.mg_of X G g_MOST_LETTERS
  have mLet := PySem.W.mg_of X G g_LETTERS
  have mKin := PySem.W.mg_of X G g_KINDS
  have kKin : KTup K aK [.str "emit", .str "final"] := ⟨_, _, _, kK, rfl, rfl, (show 2 ≤ sizeLine from Nat.le_trans (by decide) three_line), .cons ⟨_, rfl⟩ (.cons ⟨_, rfl⟩ .nil)⟩
  refine ⟨PySem.W.fnOf "law" "law" (defArgs sLaw) (defBody sLaw) (defScope sLaw) .none kV35 dc35 pm35 an35 cd35 ct35, fun s v => .of_eq rfl, fun base _ _ => ?_⟩
  have GII := ok_IsInteger (P := l.prog) (w := w) (base := base) D1 B
  have GIB := ok_IsBetween (P := l.prog) (w := w) (base := base) D2 D1 GII
  have GW := ok_Width (P := l.prog) (w := w) (base := base) (C := C) D7 B T
  have GI := ok_PartInit (P := l.prog) (w := w) (base := base) M B T
  have GJ := ok_Joined (P := l.prog) (w := w) (base := base) D5 B T M GI m60
  have GR := ok_Repeated (P := l.prog) (w := w) (base := base) D6 B T M GI
  have GO := ok_Opened (P := l.prog) (w := w) (base := base) D8 T
  have GF := ok_FirstUnit (P := l.prog) (w := w) (base := base) D9 B T D8 GO
  have GB := ok_Behind (P := l.prog) (w := w) (base := base) D10 D8 GO D7 GW
  have GP := ok_PartOf (P := l.prog) (w := w) (base := base) D17 B T M GI D8 GO D7 GW D5 GJ D6 GR
  have GRo := ok_Rotated (P := l.prog) (w := w) (base := base) D11 B T M GI D10 GB D17 GP D5 GJ
  have GG := ok_GoneBy (P := l.prog) (w := w) (base := base) D12 B T D8 GO D7 GW D10 GB D17 GP D11 GRo
  have GRa := ok_RunAhead (P := l.prog) (w := w) (base := base) D15 B T D9 GF
  have GAg := ok_agr (P := l.prog) (w := w) (base := base) B T D9 GF D7 GW D15 GRa D12 GG D8 GO D14 D13 D16 85
  have GN := ok_IsName (P := l.prog) (w := w) (base := base) D3 B mLet m8
  have GE := ok_IsEntry (P := l.prog) (w := w) (base := base) D4 B mKin kKin D3 GN
  have GM := ok_MadeInit (P := l.prog) (w := w) (base := base) TM
  have GWI := ok_WordInit (P := l.prog) (w := w) (base := base) TW TM B T M GI hCW m60 D5 GJ D4 GE
  have GCI := ok_CheckIndex (P := l.prog) (w := w) (base := base) D18 D2 GIB
  have GLe := ok_WordLength (P := l.prog) (w := w) (base := base) D43 T TW
  have GAd := ok_WordAdd (P := l.prog) (w := w) (base := base) O40.fn B TW TM GM GWI D5 GJ mPcs
  have GMu := ok_WordMul (P := l.prog) (w := w) (base := base) O41.fn B TW TM GM GWI D6 GR D2 GIB m6
  have GLC := ok_LawCell (P := l.prog) (w := w) (base := base) D19 B
  have GLD := ok_LawDigits (P := l.prog) (w := w) (base := base) D20 B
  have GLE := ok_LawEntry (P := l.prog) (w := w) (base := base) D21 B
  have GLR := ok_LawRow (P := l.prog) (w := w) (base := base) D22 B D21 GLE
  have GAn := ok_Agreeing (P := l.prog) (w := w) (base := base) D24 B TW D18 GCI D10 GB D16 GAg D43 GLe
  have GFD := ok_FirstDifference (P := l.prog) (w := w) (base := base) D25 B TW D24 GAn D43 GLe
  have GEq := ok_WordEq (P := l.prog) (w := w) (base := base) O39.fn B T TW D16 GAg
  have GEn := ok_WordEntries (P := l.prog) (w := w) (base := base) D45 B T TW D18 GCI D10 GB D9 GF D8 GO mTold
  have GGe := ok_WordGetitem (P := l.prog) (w := w) (base := base) O42.fn T TW D18 GCI D45 GEn
  have GCu := ok_WordCut (P := l.prog) (w := w) (base := base) D44 T TW TM GM GWI D18 GCI D10 GB D17 GP
  have GMa := ok_Matched (P := l.prog) (w := w) (base := base) D28 B
  have GWK := ok_WalkInit (P := l.prog) (w := w) (base := base) TK
  have GNS := ok_NextState (P := l.prog) (w := w) (base := base) D47 TK
  have GRW := ok_RowWalk (P := l.prog) (w := w) (base := base) D29 B TK GWK D28 GMa
  have GPI := ok_PassagesInit (P := l.prog) (w := w) (base := base) TP
  have GNo := ok_Note (P := l.prog) (w := w) (base := base) D52 TP
  have GDo := ok_Done (P := l.prog) (w := w) (base := base) D53 B TP
  have GRe := ok_Returns (P := l.prog) (w := w) (base := base) D54 TP
  have GFo := ok_Folded (P := l.prog) (w := w) (base := base) D55 B TP D53 GDo
  have GNd := ok_End (P := l.prog) (w := w) (base := base) D56 TP D55 GFo
  have GOn := ok_Once (P := l.prog) (w := w) (base := base) D49 B T TK D47 GNS
  have GPa := ok_Passages (P := l.prog) (w := w) (base := base) D50 TK TP GPI D49 GOn D52 GNo D53 GDo D54 GRe
  have GGo := ok_GoFrom (P := l.prog) (w := w) (base := base) D48 B T TK D9 GF D7 GW D50 GPa TP D56 GNd
  have GCN := ok_CheckNumber (P := l.prog) (w := w) (base := base) D26 D2 GIB
  have GCR := ok_CheckRow (P := l.prog) (w := w) (base := base) D27 B D4 GE mRow
  have GCo := ok_CountRow (P := l.prog) (w := w) (base := base) D30 TW TK D27 GCR D26 GCN D43 GLe D29 GRW D48 GGo
  have GLB := ok_LawBuilt (P := l.prog) (w := w) (base := base) D23 B D22 GLR TW GWI WO O40 GAd O41 GMu 3
  have GLS := ok_Stands (P := l.prog) (w := w) (base := base) D31 B
  have GLO := ok_Otherwise (P := l.prog) (w := w) (base := base) D32 B TW GWI WO O40 GAd O41 GMu D44 GCu
  have GLP := ok_Powers (P := l.prog) (w := w) (base := base) D33 B TW GWI WO O40 GAd O41 GMu O39 GEq
  have GLL := ok_Long (P := l.prog) (w := w) (base := base) D34 B TW GWI WO O42 GGe O40 GAd O39 GEq D44 GCu D21 GLE D25 GFD D30 GCo D31 GLS
  exact ok_Law (P := l.prog) (w := w) (base := base) D35 B TW GWI WO O40 GAd O39 GEq D44 GCu D45 GEn D19 GLC D20 GLD D23 GLB D22 GLR D25 GFD D32 GLO D33 GLP D34 GLL
theorem walk {l : PySem.W.OpenLaw} {q : Program} {loose : List Str} {XP : (Str → Option Value) → Heap → Prop} {YP : World → Heap → Prop} {d : DefRec} {K : Params → PySem.W.Frag} (hn : l.most = some 63) (hdf : d.params.defaults = [])
    (hY : ∀ (w : World) (h : Heap), YP w h → (K w.params).In h)
    (F : ∀ (w : World) (mg : Str → Option Value) (fa : Addr) (h : Heap), (K w.params).In h → h.Ns mainGlobals mg → mg d.name = some (.ref fa) →
      ∃ fd : FuncData, (∀ (s : Shared) (u : Value), BindsTo s fd ⟨[u], []⟩ [("script", u)]) ∧ ∀ base : Heap, (K w.params).In base → base.Ns mainGlobals mg → FnOk l.prog w (K w.params) mg base CX0 183 fa fd ["script"] (spLaw (K w.params))) :
    PySem.W.WalkO q loose XP YP l.row.toRowW d [] (fun f vs => PySem.call f vs) :=
  L2.walk_of (n := 63) (k := 183) (x := "script") (CX := fun _ => CX0) (sp := fun w => spLaw (K w.params)) hn (by decide) hdf ⟨rfl, by decide, by decide⟩ hY F (fun _ _ a ns hl _ hS => ⟨a, ns, rfl, hS, hl, fun _ => rfl⟩) fun _ _ _ _ _ z => z
end Wd

open PySem PySem.W PyProof.Rows in
set_option maxRecDepth 100000 in
set_option maxHeartbeats 0 in
theorem PySem.Challenge.cw_heapturns_k33_whole_words_made_otherwise_holds : PySem.Challenge.rw_heapturns_k33_whole_words_made_otherwise.Holds := by
  w_on; o_law; k_head; (case hw => w_witness2)
  k_fill
  refine Wd.walk (l := PySem.Challenge.rw_heapturns_k33_whole_words_made_otherwise) rfl rfl (fun w h Y => PySem.W.kIn_of Y) ?F
  case F =>
    intro w mg fa h KX G hmg
    refine' Wd.all_mk KX G hmg ?aC ?aCM ?aCW ?aCK ?aCP ?a1 ?l1 ?c1 ?k1 ?a2 ?l2 ?c2 ?k2 ?a3 ?l3 ?c3 ?k3 ?a4 ?l4 ?c4 ?k4 ?a5 ?l5 ?c5 ?k5 ?a6 ?l6 ?c6 ?k6 ?a7 ?l7 ?c7 ?k7 ?a8 ?l8 ?c8 ?k8 ?a9 ?l9 ?c9 ?k9 ?a10 ?l10 ?c10 ?k10 ?a11 ?l11 ?c11 ?k11 ?a12 ?l12 ?c12 ?k12 ?a13 ?l13 ?c13 ?k13 ?a14 ?l14 ?c14 ?k14 ?a15 ?l15 ?c15 ?k15 ?a16 ?l16 ?c16 ?k16 ?a17 ?l17 ?c17 ?k17 ?a18 ?l18 ?c18 ?k18 ?a19 ?l19 ?c19 ?k19 ?a20 ?l20 ?c20 ?k20 ?a21 ?l21 ?c21 ?k21 ?a22 ?l22 ?c22 ?k22 ?a23 ?l23 ?c23 ?k23 ?a24 ?l24 ?c24 ?k24 ?a25 ?l25 ?c25 ?k25 ?a26 ?l26 ?c26 ?k26 ?a27 ?l27 ?c27 ?k27 ?a28 ?l28 ?c28 ?k28 ?a29 ?l29 ?c29 ?k29 ?a30 ?l30 ?c30 ?k30 ?a31 ?l31 ?c31 ?k31 ?a32 ?l32 ?c32 ?k32 ?a33 ?l33 ?c33 ?k33 ?a34 ?l34 ?c34 ?k34 ?a35 ?l35 ?c35 ?k35 ?a36 ?i36 ?l36 ?t36 ?c36 ?k36 ?a37 ?i37 ?l37 ?t37 ?c37 ?k37 ?a38 ?i38 ?l38 ?c38 ?k38 ?a39 ?i39 ?l39 ?c39 ?k39 ?a40 ?i40 ?l40 ?c40 ?k40 ?a41 ?i41 ?l41 ?c41 ?k41 ?a42 ?i42 ?l42 ?c42 ?k42 ?a43 ?i43 ?l43 ?c43 ?k43 ?a44 ?i44 ?l44 ?c44 ?k44 ?a45 ?i45 ?l45 ?c45 ?k45 ?a46 ?i46 ?l46 ?c46 ?k46 ?a47 ?i47 ?l47 ?c47 ?k47 ?a48 ?i48 ?l48 ?c48 ?k48 ?a49 ?i49 ?l49 ?c49 ?k49 ?a50 ?i50 ?l50 ?c50 ?k50 ?a51 ?i51 ?l51 ?c51 ?k51 ?a52 ?i52 ?l52 ?c52 ?k52 ?a53 ?i53 ?l53 ?c53 ?k53 ?a54 ?i54 ?l54 ?c54 ?k54 ?a55 ?i55 ?l55 ?c55 ?k55 ?a56 ?i56 ?l56 ?c56 ?k56 ?pgC ?hdC ?poC ?saC ?mkC ?kcC ?haC ?hmC ?pgCM ?hdCM ?poCM ?saCM ?mkCM ?kcCM ?haCM ?hmCM ?pgCW ?hdCW ?poCW ?saCW ?mkCW ?kcCW ?haCW ?hmCW ?pgCK ?hdCK ?poCK ?saCK ?mkCK ?kcCK ?haCK ?hmCK ?pgCP ?hdCP ?poCP ?saCP ?mkCP ?kcCP ?haCP ?hmCP ?hn ?ht ?nt ?nLen ?nC_letters ?nC_left ?nC_right ?nC_times ?nC_turned_from ?nC_wide ?nCM_part ?nCM_nesting ?nCM_pieces ?nCW_part ?nCW_nesting ?nCW_pieces ?nCK_moves ?nCK_counted ?nCK_known ?nCP_states ?nCP_sums ?selfCM ?noListCM ?selfCW ?noListCW ?sf ?rmul ?im ?irm ?isub ?ne ?nl ?gfn ?z_isinstance ?z_len ?z_min ?z_max ?z_all ?z_int ?z_bool ?z_str ?z_tuple ?z_list ?z_range ?z_sorted ?g_MOST_IN_ROW ?g_MOST_DEPTH ?g_MOST_TOLD ?g_MOST_PIECES ?g_MOST_LETTERS ?g_MOST_ROW ?g_LETTERS ?g_KINDS ?kK
    (case aC => k_is)
    (case aCM => k_is)
    (case aCW => k_is)
    (case aCK => k_is)
    (case aCP => k_is)
    (case a1 => k_is)
    (case l1 => k_is)
    (case c1 => k_is)
    (case k1 => k_is)
    (case a2 => k_is)
    (case l2 => k_is)
    (case c2 => k_is)
    (case k2 => k_is)
    (case a3 => k_is)
    (case l3 => k_is)
    (case c3 => k_is)
    (case k3 => k_is)
    (case a4 => k_is)
    (case l4 => k_is)
    (case c4 => k_is)
    (case k4 => k_is)
    (case a5 => k_is)
    (case l5 => k_is)
    (case c5 => k_is)
    (case k5 => k_is)
    (case a6 => k_is)
    (case l6 => k_is)
    (case c6 => k_is)
    (case k6 => k_is)
    (case a7 => k_is)
    (case l7 => k_is)
    (case c7 => k_is)
    (case k7 => k_is)
    (case a8 => k_is)
    (case l8 => k_is)
    (case c8 => k_is)
    (case k8 => k_is)
    (case a9 => k_is)
    (case l9 => k_is)
    (case c9 => k_is)
    (case k9 => k_is)
    (case a10 => k_is)
    (case l10 => k_is)
    (case c10 => k_is)
    (case k10 => k_is)
    (case a11 => k_is)
    (case l11 => k_is)
    (case c11 => k_is)
    (case k11 => k_is)
    (case a12 => k_is)
    (case l12 => k_is)
    (case c12 => k_is)
    (case k12 => k_is)
    (case a13 => k_is)
    (case l13 => k_is)
    (case c13 => k_is)
    (case k13 => k_is)
    (case a14 => k_is)
    (case l14 => k_is)
    (case c14 => k_is)
    (case k14 => k_is)
    (case a15 => k_is)
    (case l15 => k_is)
    (case c15 => k_is)
    (case k15 => k_is)
    (case a16 => k_is)
    (case l16 => k_is)
    (case c16 => k_is)
    (case k16 => k_is)
    (case a17 => k_is)
    (case l17 => k_is)
    (case c17 => k_is)
    (case k17 => k_is)
    (case a18 => k_is)
    (case l18 => k_is)
    (case c18 => k_is)
    (case k18 => k_is)
    (case a19 => k_is)
    (case l19 => k_is)
    (case c19 => k_is)
    (case k19 => k_is)
    (case a20 => k_is)
    (case l20 => k_is)
    (case c20 => k_is)
    (case k20 => k_is)
    (case a21 => k_is)
    (case l21 => k_is)
    (case c21 => k_is)
    (case k21 => k_is)
    (case a22 => k_is)
    (case l22 => k_is)
    (case c22 => k_is)
    (case k22 => k_is)
    (case a23 => k_is)
    (case l23 => k_is)
    (case c23 => k_is)
    (case k23 => k_is)
    (case a24 => k_is)
    (case l24 => k_is)
    (case c24 => k_is)
    (case k24 => k_is)
    (case a25 => k_is)
    (case l25 => k_is)
    (case c25 => k_is)
    (case k25 => k_is)
    (case a26 => k_is)
    (case l26 => k_is)
    (case c26 => k_is)
    (case k26 => k_is)
    (case a27 => k_is)
    (case l27 => k_is)
    (case c27 => k_is)
    (case k27 => k_is)
    (case a28 => k_is)
    (case l28 => k_is)
    (case c28 => k_is)
    (case k28 => k_is)
    (case a29 => k_is)
    (case l29 => k_is)
    (case c29 => k_is)
    (case k29 => k_is)
    (case a30 => k_is)
    (case l30 => k_is)
    (case c30 => k_is)
    (case k30 => k_is)
    (case a31 => k_is)
    (case l31 => k_is)
    (case c31 => k_is)
    (case k31 => k_is)
    (case a32 => k_is)
    (case l32 => k_is)
    (case c32 => k_is)
    (case k32 => k_is)
    (case a33 => k_is)
    (case l33 => k_is)
    (case c33 => k_is)
    (case k33 => k_is)
    (case a34 => k_is)
    (case l34 => k_is)
    (case c34 => k_is)
    (case k34 => k_is)
    (case a35 => k_is)
    (case l35 => k_is)
    (case c35 => k_is)
    (case k35 => k_is)
    (case a36 => k_is)
    (case i36 => k_is)
    (case l36 => k_is)
    (case t36 => k_is)
    (case c36 => k_is)
    (case k36 => k_is)
    (case a37 => k_is)
    (case i37 => k_is)
    (case l37 => k_is)
    (case t37 => k_is)
    (case c37 => k_is)
    (case k37 => k_is)
    (case a38 => k_is)
    (case i38 => k_is)
    (case l38 => k_is)
    (case c38 => k_is)
    (case k38 => k_is)
    (case a39 => k_is)
    (case i39 => k_is)
    (case l39 => k_is)
    (case c39 => k_is)
    (case k39 => k_is)
    (case a40 => k_is)
    (case i40 => k_is)
    (case l40 => k_is)
    (case c40 => k_is)
    (case k40 => k_is)
    (case a41 => k_is)
    (case i41 => k_is)
    (case l41 => k_is)
    (case c41 => k_is)
    (case k41 => k_is)
    (case a42 => k_is)
    (case i42 => k_is)
    (case l42 => k_is)
    (case c42 => k_is)
    (case k42 => k_is)
    (case a43 => k_is)
    (case i43 => k_is)
    (case l43 => k_is)
    (case c43 => k_is)
    (case k43 => k_is)
    (case a44 => k_is)
    (case i44 => k_is)
    (case l44 => k_is)
    (case c44 => k_is)
    (case k44 => k_is)
    (case a45 => k_is)
    (case i45 => k_is)
    (case l45 => k_is)
    (case c45 => k_is)
    (case k45 => k_is)
    (case a46 => k_is)
    (case i46 => k_is)
    (case l46 => k_is)
    (case c46 => k_is)
    (case k46 => k_is)
    (case a47 => k_is)
    (case i47 => k_is)
    (case l47 => k_is)
    (case c47 => k_is)
    (case k47 => k_is)
    (case a48 => k_is)
    (case i48 => k_is)
    (case l48 => k_is)
    (case c48 => k_is)
    (case k48 => k_is)
    (case a49 => k_is)
    (case i49 => k_is)
    (case l49 => k_is)
    (case c49 => k_is)
    (case k49 => k_is)
    (case a50 => k_is)
    (case i50 => k_is)
    (case l50 => k_is)
    (case c50 => k_is)
    (case k50 => k_is)
    (case a51 => k_is)
    (case i51 => k_is)
    (case l51 => k_is)
    (case c51 => k_is)
    (case k51 => k_is)
    (case a52 => k_is)
    (case i52 => k_is)
    (case l52 => k_is)
    (case c52 => k_is)
    (case k52 => k_is)
    (case a53 => k_is)
    (case i53 => k_is)
    (case l53 => k_is)
    (case c53 => k_is)
    (case k53 => k_is)
    (case a54 => k_is)
    (case i54 => k_is)
    (case l54 => k_is)
    (case c54 => k_is)
    (case k54 => k_is)
    (case a55 => k_is)
    (case i55 => k_is)
    (case l55 => k_is)
    (case c55 => k_is)
    (case k55 => k_is)
    (case a56 => k_is)
    (case i56 => k_is)
    (case l56 => k_is)
    (case c56 => k_is)
    (case k56 => k_is)
    (case pgC => k_is)
    (case hdC => k_is)
    (case poC => k_is)
    (case saC => k_is)
    (case mkC => k_is)
    (case kcC => k_is)
    (case haC => k_is)
    (case hmC => k_is)
    (case pgCM => k_is)
    (case hdCM => k_is)
    (case poCM => k_is)
    (case saCM => k_is)
    (case mkCM => k_is)
    (case kcCM => k_is)
    (case haCM => k_is)
    (case hmCM => k_is)
    (case pgCW => k_is)
    (case hdCW => k_is)
    (case poCW => k_is)
    (case saCW => k_is)
    (case mkCW => k_is)
    (case kcCW => k_is)
    (case haCW => k_is)
    (case hmCW => k_is)
    (case pgCK => k_is)
    (case hdCK => k_is)
    (case poCK => k_is)
    (case saCK => k_is)
    (case mkCK => k_is)
    (case kcCK => k_is)
    (case haCK => k_is)
    (case hmCK => k_is)
    (case pgCP => k_is)
    (case hdCP => k_is)
    (case poCP => k_is)
    (case saCP => k_is)
    (case mkCP => k_is)
    (case kcCP => k_is)
    (case haCP => k_is)
    (case hmCP => k_is)
    (case hn => k_is)
    (case ht => k_is)
    (case nt => kit_is)
    (case nLen => k_is)
    (case nC_letters => k_is)
    (case nC_left => k_is)
    (case nC_right => k_is)
    (case nC_times => k_is)
    (case nC_turned_from => k_is)
    (case nC_wide => k_is)
    (case nCM_part => k_is)
    (case nCM_nesting => k_is)
    (case nCM_pieces => k_is)
    (case nCW_part => k_is)
    (case nCW_nesting => k_is)
    (case nCW_pieces => k_is)
    (case nCK_moves => k_is)
    (case nCK_counted => k_is)
    (case nCK_known => k_is)
    (case nCP_states => k_is)
    (case nCP_sums => k_is)
    (case selfCM => kit_is)
    (case noListCM => kit_is)
    (case selfCW => kit_is)
    (case noListCW => kit_is)
    (case sf => k_is)
    (case rmul => k_is)
    (case im => k_is)
    (case irm => k_is)
    (case isub => k_is)
    (case ne => k_is)
    (case nl => k_is)
    (case gfn => k_is)
    (case z_isinstance => k_is)
    (case z_len => k_is)
    (case z_min => k_is)
    (case z_max => k_is)
    (case z_all => k_is)
    (case z_int => k_is)
    (case z_bool => k_is)
    (case z_str => k_is)
    (case z_tuple => k_is)
    (case z_list => k_is)
    (case z_range => k_is)
    (case z_sorted => k_is)
    (case g_MOST_IN_ROW => k_is)
    (case g_MOST_DEPTH => k_is)
    (case g_MOST_TOLD => k_is)
    (case g_MOST_PIECES => k_is)
    (case g_MOST_LETTERS => k_is)
    (case g_MOST_ROW => k_is)
    (case g_LETTERS => k_is)
    (case g_KINDS => k_is)
    (case kK => k_is)
#print axioms PySem.Challenge.cw_heapturns_k33_whole_words_made_otherwise_holds
