import PyProof.Rows.All
import Wide.All
import OpenK.AllK
import Wide.FinOn
import HandS.ForMost
import HandS.Exc
import HandS.TryOnly
import HandS.ExcOwn
import HandS.WordsExc
import HandS.Walk
import HandS.Evl
import HandS.Zip
import HandS.Gcd
import HandS.Wide
import HandS.IsInst
import HandS.FStr
import HandS.StrMore
import HandS.Flow
import HandS.Replace
import HandS.ReplaceLit
import PyProof.EqAt
import PyProof.EqKinds
import PyProof.TupleCall
import PySem.Challenge.RW_likecuts_k02_whole_fractions_beside_whol
import HandS.ReplaceList
set_option Elab.async false
set_option linter.all false
set_option maxRecDepth 100000
set_option maxHeartbeats 4200000
/-! Plain mathematics of fractions: lowest terms, sums over one common bottom, least, greatest. No program in sight. -/
namespace Lk
/-- lowest terms, the bottom above 0 -/
def Red (f : Int × Int) : Prop := 0 < f.2 ∧ Nat.gcd f.1.natAbs f.2.natAbs = 1
/-- the common divisor of top and bottom -/
def gg (t b : Int) : Int := ((Nat.gcd t.natAbs b.natAbs : Nat) : Int)
/-- t / b in lowest terms, as the program reckons it -/
def nf (t b : Int) : Int × Int := if b < 0 then (t.fdiv (-(gg t b)), b.fdiv (-(gg t b))) else (t.fdiv (gg t b), b.fdiv (gg t b))
theorem gg_pos {t b : Int} (hb : b ≠ 0) : 0 < gg t b := by
  unfold gg
  have : 0 < Nat.gcd t.natAbs b.natAbs := Nat.gcd_pos_of_pos_right _ (by omega)
  omega
theorem gg_le {t b : Int} (hb : b ≠ 0) : gg t b ≤ (b.natAbs : Int) := by
  unfold gg
  have : Nat.gcd t.natAbs b.natAbs ≤ b.natAbs := Nat.gcd_le_right _ (by omega)
  omega
theorem gg_split {t b : Int} (hb : b ≠ 0) : ∃ u c : Int, t = gg t b * u ∧ b = gg t b * c ∧ Nat.gcd u.natAbs c.natAbs = 1 := by
  have hg := gg_pos (t := t) hb
  have h1 : gg t b ∣ t := Int.ofNat_dvd_left.mpr (Nat.gcd_dvd_left _ _)
  have h2 : gg t b ∣ b := Int.ofNat_dvd_left.mpr (Nat.gcd_dvd_right _ _)
  obtain ⟨u, hu⟩ := h1
  obtain ⟨c, hc⟩ := h2
  refine ⟨u, c, hu, hc, ?_⟩
  have hn : (gg t b).natAbs = Nat.gcd t.natAbs b.natAbs := by unfold gg; omega
  have e : Nat.gcd t.natAbs b.natAbs = (gg t b).natAbs * Nat.gcd u.natAbs c.natAbs := by
    rw [← Nat.gcd_mul_left, ← Int.natAbs_mul, ← Int.natAbs_mul, ← hu, ← hc]
  rw [hn] at e
  have hp : 0 < Nat.gcd t.natAbs b.natAbs := by omega
  exact Nat.eq_of_mul_eq_mul_left hp (by rw [Nat.mul_one]; exact e.symm)
theorem fdiv_mul {g u : Int} (hg : g ≠ 0) : (g * u).fdiv g = u := by
  rw [Int.fdiv_eq_ediv_of_dvd (Int.dvd_mul_right g u), Int.mul_ediv_cancel_left _ hg]
theorem nf_spec {t b : Int} (hb : b ≠ 0) : Red (nf t b) ∧ (nf t b).1 * b = t * (nf t b).2 := by
  have hg := gg_pos (t := t) hb
  obtain ⟨u, c, hu, hc, h1⟩ := gg_split (t := t) hb
  unfold nf Red
  generalize gg t b = g at *
  have hg0 : g ≠ 0 := by omega
  by_cases hn : b < 0
  · rw [if_pos hn]
    have e1 : t.fdiv (-g) = -u := by rw [hu, show g * u = -g * -u by rw [Int.neg_mul_neg], fdiv_mul (by omega)]
    have e2 : b.fdiv (-g) = -c := by rw [hc, show g * c = -g * -c by rw [Int.neg_mul_neg], fdiv_mul (by omega)]
    dsimp only
    rw [e1, e2]
    refine ⟨⟨?_, by rw [Int.natAbs_neg, Int.natAbs_neg]; exact h1⟩, ?_⟩
    · have : c < 0 := by
        rcases Int.lt_trichotomy c 0 with h | h | h
        · exact h
        · subst h; omega
        · have := Int.mul_pos hg h; omega
      omega
    · subst hu hc; grind
  · rw [if_neg hn]
    have e1 : t.fdiv g = u := by rw [hu, fdiv_mul hg0]
    have e2 : b.fdiv g = c := by rw [hc, fdiv_mul hg0]
    dsimp only
    rw [e1, e2]
    refine ⟨⟨?_, h1⟩, ?_⟩
    · rcases Int.lt_trichotomy c 0 with h | h | h
      · have := Int.mul_neg_of_pos_of_neg hg h; omega
      · subst h; omega
      · exact h
    · subst hu hc; grind
theorem nf_red {t b : Int} (hb : b ≠ 0) : Red (nf t b) := (nf_spec hb).1
theorem nf_cross {t b : Int} (hb : b ≠ 0) : (nf t b).1 * b = t * (nf t b).2 := (nf_spec hb).2
/-- lowest terms are told by the quotient -/
theorem red_eq {f h : Int × Int} (rf : Red f) (rh : Red h) (e : f.1 * h.2 = h.1 * f.2) : f = h := by
  obtain ⟨a, b⟩ := f
  obtain ⟨c, d⟩ := h
  obtain ⟨hb, h1⟩ := rf
  obtain ⟨hd, h2⟩ := rh
  dsimp only at *
  have e' : a.natAbs * d.natAbs = c.natAbs * b.natAbs := by rw [← Int.natAbs_mul, ← Int.natAbs_mul, e]
  have d1 : b.natAbs ∣ d.natAbs := by
    have : Nat.Coprime b.natAbs a.natAbs := by rw [Nat.coprime_comm]; exact h1
    exact this.dvd_of_dvd_mul_left (by rw [e']; exact Nat.dvd_mul_left _ _)
  have d2 : d.natAbs ∣ b.natAbs := by
    have : Nat.Coprime d.natAbs c.natAbs := by rw [Nat.coprime_comm]; exact h2
    exact this.dvd_of_dvd_mul_left (by rw [← e']; exact Nat.dvd_mul_left _ _)
  have eb : b = d := by have := Nat.dvd_antisymm d1 d2; omega
  subst eb
  have : a = c := Int.eq_of_mul_eq_mul_right (by omega) e
  rw [this]
theorem nf_eq {t b u c : Int} (hb : b ≠ 0) (hc : c ≠ 0) (e : t * c = u * b) : nf t b = nf u c := by
  refine red_eq (nf_red hb) (nf_red hc) ?_
  have h1 := nf_cross (t := t) hb
  have h2 := nf_cross (t := u) hc
  generalize (nf t b).1 = p at *
  generalize (nf t b).2 = q at *
  generalize (nf u c).1 = r at *
  generalize (nf u c).2 = s at *
  refine Int.eq_of_mul_eq_mul_right (a := b * c) (by intro z; rcases Int.mul_eq_zero.mp z with z | z <;> contradiction) ?_
  grind
theorem nf_of_red {t b : Int} {f : Int × Int} (hb : b ≠ 0) (rf : Red f) (e : f.1 * b = t * f.2) : nf t b = f := by
  refine red_eq (nf_red hb) rf ?_
  have h1 := nf_cross (t := t) hb
  refine Int.eq_of_mul_eq_mul_right (a := b) hb ?_
  grind
theorem nf_self {f : Int × Int} (rf : Red f) : nf f.1 f.2 = f := nf_of_red (by have := rf.1; omega) rf rfl
theorem red_ne {f : Int × Int} (rf : Red f) : f.2 ≠ 0 := by have := rf.1; omega
/-- the law's own lowest terms, by Euclid and a floor -/
def lo (t b : Int) : Int × Int := if b < 0 then ((0 - t) / gg (0 - t) (0 - b), (0 - b) / gg (0 - t) (0 - b)) else (t / gg t b, b / gg t b)
theorem lo_nf {t b : Int} (hb : b ≠ 0) : lo t b = nf t b := by
  have pos : ∀ {t b : Int}, 0 < b → (t / gg t b, b / gg t b) = nf t b := fun {t b} hb => by
    unfold nf
    rw [if_neg (by omega)]
    have hg := gg_pos (t := t) (b := b) (by omega)
    rw [Int.fdiv_eq_ediv_of_nonneg _ (by omega), Int.fdiv_eq_ediv_of_nonneg _ (by omega)]
  unfold lo
  by_cases h : b < 0
  · rw [if_pos h, pos (by omega)]
    exact nf_eq (by omega) hb (by grind)
  · rw [if_neg h]
    exact pos (by omega)
/-! ### what the program's functions give -/
def plusM (x y : Int × Int) : Int × Int := nf (x.1 * y.2 + y.1 * x.2) (x.2 * y.2)
def minusM (x y : Int × Int) : Int × Int := nf (x.1 * y.2 - y.1 * x.2) (x.2 * y.2)
def timesM (x y : Int × Int) : Int × Int := nf (x.1 * y.1) (x.2 * y.2)
def overM (x y : Int × Int) : Int × Int := nf (x.1 * y.2) (x.2 * y.1)
def orderM (x y : Int × Int) : Int := if x.1 * y.2 = y.1 * x.2 then 0 else if x.1 * y.2 > y.1 * x.2 then 1 else -1
def totalM (fs : List (Int × Int)) : Int × Int := fs.foldl plusM (0, 1)
def leastM (f : Int × Int) (fs : List (Int × Int)) : Int × Int := fs.foldl (fun m o => if orderM o m < 0 then o else m) f
def greatM (f : Int × Int) (fs : List (Int × Int)) : Int × Int := fs.foldl (fun m o => if orderM o m > 0 then o else m) f
theorem mul_ne {b c : Int} (hb : b ≠ 0) (hc : c ≠ 0) : b * c ≠ 0 := fun z => by rcases Int.mul_eq_zero.mp z with z | z <;> contradiction
theorem plusM_red {x y : Int × Int} (hx : x.2 ≠ 0) (hy : y.2 ≠ 0) : Red (plusM x y) := nf_red (mul_ne hx hy)
/-- the bottoms' product, the tops over it -/
def baseM (fs : List (Int × Int)) : Int := fs.foldl (fun b o => b * o.2) 1
def topsM (base : Int) (fs : List (Int × Int)) : List Int := fs.map fun o => o.1 * (base / o.2)
theorem base_fold : ∀ (fs : List (Int × Int)) (b : Int), fs.foldl (fun b o => b * o.2) b = b * baseM fs
  | [], b => by unfold baseM; simp
  | o :: fs, b => by
    have h1 := base_fold fs (b * o.2)
    have h2 := base_fold fs (1 * o.2)
    unfold baseM
    rw [List.foldl_cons, List.foldl_cons, h1, h2]
    grind
theorem base_cons (o : Int × Int) (fs : List (Int × Int)) : baseM (o :: fs) = o.2 * baseM fs := by
  show fs.foldl (fun b o => b * o.2) (1 * o.2) = _
  rw [base_fold, Int.one_mul]
theorem base_pos : ∀ {fs : List (Int × Int)}, (∀ f ∈ fs, 0 < f.2) → 0 < baseM fs
  | [], _ => by unfold baseM; decide
  | o :: fs, h => by
    rw [base_cons]
    exact Int.mul_pos (h o (List.mem_cons_self ..)) (base_pos fun f hf => h f (List.mem_cons_of_mem _ hf))
theorem base_dvd : ∀ {fs : List (Int × Int)} {f : Int × Int}, f ∈ fs → f.2 ∣ baseM fs
  | o :: fs, f, h => by
    rw [base_cons]
    rcases List.mem_cons.mp h with e | later
    · rw [e]; exact Int.dvd_mul_right _ _
    · exact Int.dvd_trans (base_dvd later) (Int.dvd_mul_left _ _)
/-- the sum by and by: told over the product -/
theorem sum_tops {B : Int} : ∀ (fs : List (Int × Int)) (x : Int × Int) , 0 < B → (∀ f ∈ fs, 0 < f.2 ∧ f.2 ∣ B) → Red x →
    Red (fs.foldl plusM x) ∧ (fs.foldl plusM x).1 * (x.2 * B) = (x.1 * B + (topsM B fs).sum * x.2) * (fs.foldl plusM x).2
  | [], x, hB, _, rx => by
    refine ⟨rx, ?_⟩
    show x.1 * (x.2 * B) = (x.1 * B + ([] : List Int).sum * x.2) * x.2
    rw [List.sum_nil]
    grind
  | o :: fs, x, hB, h, rx => by
    have ho := h o (List.mem_cons_self ..)
    have hne : x.2 * o.2 ≠ 0 := mul_ne (red_ne rx) (by omega)
    have ih := sum_tops fs (plusM x o) hB (fun f hf => h f (List.mem_cons_of_mem _ hf)) (nf_red hne)
    refine ⟨ih.1, ?_⟩
    have e := ih.2
    have c := nf_cross (t := x.1 * o.2 + o.1 * x.2) hne
    obtain ⟨q, hq⟩ := ho.2
    have hdiv : B / o.2 = q := by rw [hq, Int.mul_ediv_cancel_left _ (by omega)]
    show (fs.foldl plusM (plusM x o)).1 * (x.2 * B) = (x.1 * B + (o.1 * (B / o.2) :: topsM B fs).sum * x.2) * (fs.foldl plusM (plusM x o)).2
    rw [List.sum_cons, hdiv]
    have c' : (plusM x o).1 * (x.2 * o.2) = (x.1 * o.2 + o.1 * x.2) * (plusM x o).2 := c
    have hp2 : (plusM x o).2 ≠ 0 := red_ne (nf_red hne)
    generalize (fs.foldl plusM (plusM x o)).1 = P at *
    generalize (fs.foldl plusM (plusM x o)).2 = R at *
    generalize (plusM x o).1 = p at *
    generalize (plusM x o).2 = r at *
    generalize (topsM B fs).sum = S at *
    have hx2 := red_ne rx
    refine Int.eq_of_mul_eq_mul_right (a := r * o.2) (mul_ne hp2 (by omega)) ?_
    subst hq
    grind
theorem total_is {fs : List (Int × Int)} (h : ∀ f ∈ fs, 0 < f.2) : totalM fs = nf (topsM (baseM fs) fs).sum (baseM fs) := by
  have hB := base_pos h
  obtain ⟨r, e⟩ := sum_tops (B := baseM fs) fs (0, 1) hB (fun f hf => ⟨h f hf, base_dvd hf⟩) ⟨by decide, by decide⟩
  refine (nf_of_red (by omega) r ?_).symm
  dsimp only at e
  unfold totalM at *
  grind
theorem total_red {fs : List (Int × Int)} (h : ∀ f ∈ fs, 0 < f.2) : Red (totalM fs) := by
  rw [total_is h]
  exact nf_red (by have := base_pos h; omega)
theorem total_one {f : Int × Int} (rf : Red f) : totalM [f] = f := by
  show plusM (0, 1) f = f
  refine nf_of_red (mul_ne (by decide) (red_ne rf)) rf ?_
  dsimp only
  grind
theorem order_neg {x y : Int × Int} : orderM x y < 0 ↔ x.1 * y.2 < y.1 * x.2 := by
  unfold orderM
  split
  · omega
  · split <;> omega
theorem order_pos {x y : Int × Int} : orderM x y > 0 ↔ x.1 * y.2 > y.1 * x.2 := by
  unfold orderM
  split
  · omega
  · split <;> omega
/-- tops over a common bottom go by the quotients -/
theorem top_lt {B : Int} {x y : Int × Int} (hB : 0 < B) (hx : 0 < x.2 ∧ x.2 ∣ B) (hy : 0 < y.2 ∧ y.2 ∣ B) : x.1 * (B / x.2) < y.1 * (B / y.2) ↔ x.1 * y.2 < y.1 * x.2 := by
  obtain ⟨hx0, p, hp⟩ := hx
  obtain ⟨hy0, q, hq⟩ := hy
  have e1 : B / x.2 = p := by rw [hp, Int.mul_ediv_cancel_left _ (by omega)]
  have e2 : B / y.2 = q := by rw [hq, Int.mul_ediv_cancel_left _ (by omega)]
  rw [e1, e2]
  have hpos : 0 < x.2 * y.2 := Int.mul_pos hx0 hy0
  have k1 : x.1 * p * (x.2 * y.2) = x.1 * y.2 * B := by rw [hp]; grind
  have k2 : y.1 * q * (x.2 * y.2) = y.1 * x.2 * B := by rw [hq]; grind
  constructor
  · intro h
    have := Int.mul_lt_mul_of_pos_right h hpos
    rw [k1, k2] at this
    exact Int.lt_of_mul_lt_mul_right this (by omega)
  · intro h
    have := Int.mul_lt_mul_of_pos_right h hB
    rw [← k1, ← k2] at this
    exact Int.lt_of_mul_lt_mul_right this (by omega)
/-- one of them, none below it -/
theorem least_spec {B : Int} (hB : 0 < B) : ∀ (fs : List (Int × Int)) (m : Int × Int), (0 < m.2 ∧ m.2 ∣ B) → (∀ f ∈ fs, 0 < f.2 ∧ f.2 ∣ B) →
    (leastM m fs = m ∨ leastM m fs ∈ fs) ∧ (leastM m fs).1 * (B / (leastM m fs).2) ≤ m.1 * (B / m.2) ∧ ∀ f ∈ fs, (leastM m fs).1 * (B / (leastM m fs).2) ≤ f.1 * (B / f.2)
  | [], m, _, _ => ⟨.inl rfl, Int.le_refl _, fun _ h => nomatch h⟩
  | o :: fs, m, hm, h => by
    have ho := h o (List.mem_cons_self ..)
    have hr := fun f hf => h f (List.mem_cons_of_mem o hf)
    have t := top_lt hB ho hm
    by_cases c : orderM o m < 0
    · have e : leastM m (o :: fs) = leastM o fs := by
        show List.foldl _ (if orderM o m < 0 then o else m) fs = _
        rw [if_pos c]; rfl
      have lt := t.mpr (order_neg.mp c)
      obtain ⟨i1, i2, i3⟩ := least_spec hB fs o ho hr
      rw [e]
      refine ⟨.inr ?_, by omega, fun f hf => ?_⟩
      · rcases i1 with i1 | i1
        · rw [i1]; exact List.mem_cons_self ..
        · exact List.mem_cons_of_mem _ i1
      · rcases List.mem_cons.mp hf with q | q
        · rw [q]; exact i2
        · exact i3 f q
    · have e : leastM m (o :: fs) = leastM m fs := by
        show List.foldl _ (if orderM o m < 0 then o else m) fs = _
        rw [if_neg c]; rfl
      have ge : ¬ o.1 * (B / o.2) < m.1 * (B / m.2) := fun z => c (order_neg.mpr (t.mp z))
      obtain ⟨i1, i2, i3⟩ := least_spec hB fs m hm hr
      rw [e]
      refine ⟨?_, i2, fun f hf => ?_⟩
      · rcases i1 with i1 | i1
        · exact .inl i1
        · exact .inr (List.mem_cons_of_mem _ i1)
      · rcases List.mem_cons.mp hf with q | q
        · rw [q]; omega
        · exact i3 f q
theorem great_spec {B : Int} (hB : 0 < B) : ∀ (fs : List (Int × Int)) (m : Int × Int), (0 < m.2 ∧ m.2 ∣ B) → (∀ f ∈ fs, 0 < f.2 ∧ f.2 ∣ B) →
    (greatM m fs = m ∨ greatM m fs ∈ fs) ∧ m.1 * (B / m.2) ≤ (greatM m fs).1 * (B / (greatM m fs).2) ∧ ∀ f ∈ fs, f.1 * (B / f.2) ≤ (greatM m fs).1 * (B / (greatM m fs).2)
  | [], m, _, _ => ⟨.inl rfl, Int.le_refl _, fun _ h => nomatch h⟩
  | o :: fs, m, hm, h => by
    have ho := h o (List.mem_cons_self ..)
    have hr := fun f hf => h f (List.mem_cons_of_mem o hf)
    have t := top_lt hB hm ho
    by_cases c : orderM o m > 0
    · have e : greatM m (o :: fs) = greatM o fs := by
        show List.foldl _ (if orderM o m > 0 then o else m) fs = _
        rw [if_pos c]; rfl
      have lt := t.mpr (order_pos.mp c)
      obtain ⟨i1, i2, i3⟩ := great_spec hB fs o ho hr
      rw [e]
      refine ⟨.inr ?_, by omega, fun f hf => ?_⟩
      · rcases i1 with i1 | i1
        · rw [i1]; exact List.mem_cons_self ..
        · exact List.mem_cons_of_mem _ i1
      · rcases List.mem_cons.mp hf with q | q
        · rw [q]; exact i2
        · exact i3 f q
    · have e : greatM m (o :: fs) = greatM m fs := by
        show List.foldl _ (if orderM o m > 0 then o else m) fs = _
        rw [if_neg c]; rfl
      have ge : ¬ m.1 * (B / m.2) < o.1 * (B / o.2) := fun z => c (order_pos.mpr (t.mp z))
      obtain ⟨i1, i2, i3⟩ := great_spec hB fs m hm hr
      rw [e]
      refine ⟨?_, i2, fun f hf => ?_⟩
      · rcases i1 with i1 | i1
        · exact .inl i1
        · exact .inr (List.mem_cons_of_mem _ i1)
      · rcases List.mem_cons.mp hf with q | q
        · rw [q]; omega
        · exact i3 f q
theorem over_base {B : Int} {f : Int × Int} (hB : 0 < B) (rf : Red f) (d : f.2 ∣ B) : nf (f.1 * (B / f.2)) B = f := by
  refine nf_of_red (by omega) rf ?_
  obtain ⟨q, hq⟩ := d
  have e : B / f.2 = q := by rw [hq, Int.mul_ediv_cancel_left _ (red_ne rf)]
  rw [e]
  generalize f.2 = c at *
  subst hq
  grind
/-- least and greatest against min and max of the tops -/
theorem least_is {f : Int × Int} {fs : List (Int × Int)} (h : ∀ o ∈ f :: fs, Red o) {m : Int} (hm : m ∈ topsM (baseM (f :: fs)) (f :: fs)) (hle : ∀ y ∈ topsM (baseM (f :: fs)) (f :: fs), m ≤ y) : nf m (baseM (f :: fs)) = leastM f (f :: fs) := by
  have hB := base_pos fun o ho => (h o ho).1
  have hall : ∀ o ∈ f :: fs, 0 < o.2 ∧ o.2 ∣ baseM (f :: fs) := fun o ho => ⟨(h o ho).1, base_dvd ho⟩
  obtain ⟨i1, i2, i3⟩ := least_spec hB (f :: fs) f (hall f (List.mem_cons_self ..)) hall
  have mem : leastM f (f :: fs) ∈ f :: fs := by
    rcases i1 with i1 | i1
    · rw [i1]; exact List.mem_cons_self ..
    · exact i1
  obtain ⟨o, ho, eo⟩ := List.mem_map.mp hm
  have k1 := i3 o ho
  have k2 := hle _ (List.mem_map.mpr ⟨_, mem, rfl⟩)
  rw [← eo] at k2
  have e : m = (leastM f (f :: fs)).1 * (baseM (f :: fs) / (leastM f (f :: fs)).2) := by
    rw [← eo]
    exact Int.le_antisymm k2 k1
  rw [e]
  exact over_base hB (h _ mem) (hall _ mem).2
theorem great_is {f : Int × Int} {fs : List (Int × Int)} (h : ∀ o ∈ f :: fs, Red o) {m : Int} (hm : m ∈ topsM (baseM (f :: fs)) (f :: fs)) (hle : ∀ y ∈ topsM (baseM (f :: fs)) (f :: fs), y ≤ m) : nf m (baseM (f :: fs)) = greatM f (f :: fs) := by
  have hB := base_pos fun o ho => (h o ho).1
  have hall : ∀ o ∈ f :: fs, 0 < o.2 ∧ o.2 ∣ baseM (f :: fs) := fun o ho => ⟨(h o ho).1, base_dvd ho⟩
  obtain ⟨i1, i2, i3⟩ := great_spec hB (f :: fs) f (hall f (List.mem_cons_self ..)) hall
  have mem : greatM f (f :: fs) ∈ f :: fs := by
    rcases i1 with i1 | i1
    · rw [i1]; exact List.mem_cons_self ..
    · exact i1
  obtain ⟨o, ho, eo⟩ := List.mem_map.mp hm
  have k1 := i3 o ho
  have k2 := hle _ (List.mem_map.mpr ⟨_, mem, rfl⟩)
  rw [← eo] at k2
  have e : m = (greatM f (f :: fs)).1 * (baseM (f :: fs) / (greatM f (f :: fs)).2) := by
    rw [← eo]
    exact Int.le_antisymm k1 k2
  rw [e]
  exact over_base hB (h _ mem) (hall _ mem).2
/-- order against the tops' own order -/
theorem order_is {B : Int} {x y : Int × Int} (hB : 0 < B) (hx : 0 < x.2 ∧ x.2 ∣ B) (hy : 0 < y.2 ∧ y.2 ∣ B) :
    orderM x y = (if y.1 * (B / y.2) < x.1 * (B / x.2) then 1 else 0) - (if x.1 * (B / x.2) < y.1 * (B / y.2) then 1 else 0) := by
  have t1 := top_lt hB hx hy
  have t2 := top_lt hB hy hx
  unfold orderM
  split
  · rw [if_neg (fun z => by have := t2.mp z; omega), if_neg (fun z => by have := t1.mp z; omega)]; rfl
  · split
    · rw [if_pos (t2.mpr (by omega)), if_neg (fun z => by have := t1.mp z; omega)]; rfl
    · rw [if_neg (fun z => by have := t2.mp z; omega), if_pos (t1.mpr (by omega))]; rfl
/-- a quotient undone -/
theorem undone {x y : Int × Int} (rx : Red x) (ry : Red y) (h : y.1 ≠ 0) : timesM (overM x y) y = x := by
  have hne : x.2 * y.1 ≠ 0 := mul_ne (red_ne rx) h
  have c := nf_cross (t := x.1 * y.2) hne
  have r := nf_red (t := x.1 * y.2) hne
  refine nf_of_red (mul_ne (red_ne r) (red_ne ry)) rx ?_
  show x.1 * ((nf (x.1 * y.2) (x.2 * y.1)).2 * y.2) = ((nf (x.1 * y.2) (x.2 * y.1)).1 * y.1) * x.2
  grind
theorem minus_is {x y : Int × Int} (hx : x.2 ≠ 0) (hy : y.2 ≠ 0) : nf (x.1 * y.2 + (0 - y.1) * x.2) (x.2 * y.2) = minusM x y :=
  nf_eq (mul_ne hx hy) (mul_ne hx hy) (by grind)
theorem six {x : Int × Int} (rx : Red x) : nf (x.1 * 6) (x.2 * -6) = (0 - x.1, x.2) := by
  refine nf_of_red (mul_ne (red_ne rx) (by decide)) ⟨rx.1, ?_⟩ ?_
  · show Nat.gcd (0 - x.1).natAbs x.2.natAbs = 1
    rw [Int.zero_sub, Int.natAbs_neg]
    exact rx.2
  · dsimp only
    grind
theorem zero_over {b : Int} (hb : 0 < b) : nf 0 (0 - b) = (0, 1) :=
  nf_of_red (f := (0, 1)) (by omega) ⟨by decide, by decide⟩ (by dsimp only; omega)
/-- twice a fraction's top and bottom is none -/
theorem twice_not {x : Int × Int} (rx : Red x) : Nat.gcd (x.1 * 2).natAbs (x.2 * 2).natAbs ≠ 1 := by
  rw [Int.natAbs_mul, Int.natAbs_mul, Nat.gcd_mul_right, rx.2]
  decide
theorem floor_ok {x : Int × Int} (h : 0 < x.2) : x.1.fdiv x.2 * x.2 ≤ x.1 ∧ x.1 < (x.1.fdiv x.2 + 1) * x.2 := by
  rw [Int.fdiv_eq_ediv_of_nonneg _ (by omega)]
  have h1 := Int.ediv_mul_le x.1 (b := x.2) (by omega)
  have h2 := Int.lt_ediv_add_one_mul_self x.1 h
  exact ⟨h1, h2⟩
/-! ### Euclid's loop; the drawn fraction's loop -/
theorem gg_step {a b : Int} (ha : 0 ≤ a) (hb : 0 < b) : gg b (a % b) = gg a b := by
  unfold gg
  have e : (a % b).natAbs = a.natAbs % b.natAbs := by
    have := Int.natAbs_emod a (b := b) (by omega)
    rw [this, if_pos (.inl ha)]
  rw [e, Nat.gcd_comm, ← Nat.gcd_rec, Nat.gcd_comm]
theorem gg_zero {a : Int} (ha : 0 ≤ a) : gg a 0 = a := by
  unfold gg
  rw [show (0 : Int).natAbs = 0 from rfl, Nat.gcd_zero_right]
  omega
/-- the greatest of 1 .. i that divides both -/
def comm (t b : Int) : Nat → Int
  | 0 => 1
  | i + 1 => if t % ((i : Int) + 1) = 0 ∧ b % ((i : Int) + 1) = 0 then (i : Int) + 1 else comm t b i
theorem comm_pos (t b : Int) : ∀ i, 0 < comm t b i
  | 0 => by unfold comm; decide
  | i + 1 => by
    unfold comm
    have := comm_pos t b i
    split <;> omega
theorem comm_dvd (t b : Int) : ∀ i, comm t b i ∣ t ∧ comm t b i ∣ b
  | 0 => ⟨Int.one_dvd _, Int.one_dvd _⟩
  | i + 1 => by
    unfold comm
    split
    · rename_i h
      exact ⟨Int.dvd_of_emod_eq_zero h.1, Int.dvd_of_emod_eq_zero h.2⟩
    · exact comm_dvd t b i
theorem comm_most (t b : Int) : ∀ (i : Nat) (k : Int), 0 < k → k ≤ i → k ∣ t → k ∣ b → k ≤ comm t b i
  | 0, k, h0, h1, _, _ => by have : (0 : Nat) = (0 : Int) := rfl; omega
  | i + 1, k, h0, h1, ht, hb => by
    unfold comm
    by_cases e : k = (i : Int) + 1
    · subst e
      rw [if_pos ⟨Int.emod_eq_zero_of_dvd ht, Int.emod_eq_zero_of_dvd hb⟩]
      exact Int.le_refl _
    · have ih := comm_most t b i k h0 (by omega) ht hb
      split <;> omega
theorem comm_le (t b : Int) : ∀ i : Nat, comm t b i ≤ i ∨ comm t b i = 1
  | 0 => .inr rfl
  | i + 1 => by
    unfold comm
    have := comm_le t b i
    split <;> omega
theorem comm_gg {t b : Int} (hb : 0 < b) : comm t b b.toNat = gg t b := by
  have h1 : gg t b ∣ t := Int.ofNat_dvd_left.mpr (Nat.gcd_dvd_left _ _)
  have h2 : gg t b ∣ b := Int.ofNat_dvd_left.mpr (Nat.gcd_dvd_right _ _)
  have hle := gg_le (t := t) (b := b) (by omega)
  have k := comm_most t b b.toNat (gg t b) (gg_pos (by omega)) (by omega) h1 h2
  have c := comm_dvd t b b.toNat
  have p := comm_pos t b b.toNat
  have d : (comm t b b.toNat).natAbs ∣ Nat.gcd t.natAbs b.natAbs := Nat.dvd_gcd (Int.natAbs_dvd_natAbs.mpr c.1) (Int.natAbs_dvd_natAbs.mpr c.2)
  have l := Nat.le_of_dvd (Nat.gcd_pos_of_pos_right _ (by omega)) d
  unfold gg at *
  omega
/-- what is drawn -/
theorem part_red {t b : Int} (hb : 0 < b) : (t / comm t b b.toNat, b / comm t b b.toNat) = nf t b := by
  rw [comm_gg hb]
  have hg := gg_pos (t := t) (b := b) (by omega)
  unfold nf
  rw [if_neg (by omega), Int.fdiv_eq_ediv_of_nonneg _ (by omega), Int.fdiv_eq_ediv_of_nonneg _ (by omega)]
theorem part_small {t b : Int} (hb : 0 < b) (ht : -400 ≤ t ∧ t ≤ 400) (h30 : b ≤ 30) : -400 ≤ (nf t b).1 ∧ (nf t b).1 ≤ 400 ∧ (nf t b).2 ≤ 30 := by
  obtain ⟨u, c, hu, hc, _⟩ := gg_split (t := t) (b := b) (by omega)
  have hg := gg_pos (t := t) (b := b) (by omega)
  have r := nf_red (t := t) (b := b) (by omega)
  unfold nf at *
  rw [if_neg (by omega)] at *
  generalize gg t b = g at *
  have e1 : t.fdiv g = u := by rw [hu, fdiv_mul (by omega)]
  have e2 : b.fdiv g = c := by rw [hc, fdiv_mul (by omega)]
  dsimp only at *
  rw [e1, e2]
  have a1 : u.natAbs ≤ t.natAbs := by
    rw [hu, Int.natAbs_mul]
    exact Nat.le_mul_of_pos_left _ (by omega)
  have a2 : c.natAbs ≤ b.natAbs := by
    rw [hc, Int.natAbs_mul]
    exact Nat.le_mul_of_pos_left _ (by omega)
  omega
end Lk
/-! Readings over data: what an expression gives is told as PyData, whatever the addresses; the heap may grow. -/
namespace Lk
open PySem PySem.Spec PyProof.Rows L2
/-! ### data in a heap that grows -/
mutual
theorem dp_same {K : PySem.W.Frag} {H H' : Hp} (e : Same H H') : ∀ {v : V} {d : PyData}, Dp K H v d → Dp K H' v d
  | _, _, .non => .non
  | _, _, .bl b => .bl b
  | _, _, .int i => .int i
  | _, _, .str x => .str x
  | _, _, .lst h a => .lst (e.seq h) (dpa_same e a)
  | _, _, .tup h a => .tup (Evl.ex_t e h) (dpa_same e a)
theorem dpa_same {K : PySem.W.Frag} {H H' : Hp} (e : Same H H') : ∀ {vs : List V} {ds : List PyData}, DpAll K H vs ds → DpAll K H' vs ds
  | _, _, .nil => .nil
  | _, _, .cons h t => .cons (dp_same e h) (dpa_same e t)
end
/-- the tuples stand -/
def Im (H H' : Hp) : Prop := ∀ a xs, Rd H a (.tup xs) → Rd H' a (.tup xs)
theorem Im.refl (H : Hp) : Im H H := fun _ _ h => h
theorem Im.trans {H H1 H2 : Hp} (a : Im H H1) (b : Im H1 H2) : Im H H2 := fun x o h => b x o (a x o h)
theorem Im.of {H H' : Hp} (e : Same H H') : Im H H' := fun a xs h => Evl.ex_rd e h
theorem Im.put {H : Hp} {p : Addr} {xs ys : List V} (h : H p = some (.lst xs)) : Im H (upd H p (.lst ys)) := fun a zs r => by
  rcases r with r | ⟨o, r⟩
  · exact .inl (by rw [upd_ne (ne_of r h (by intro z; cases z))]; exact r)
  · exact .inr ⟨o, by rw [upd_ne (ne_of r h (by intro z; cases z))]; exact r⟩
theorem sqt_im {K : PySem.W.Frag} {H H' : Hp} {a : Addr} {xs : List V} (e : Im H H') (h : SqT K H a xs) : SqT K H' a xs := by
  rcases h with h | h
  · exact .inl (e _ _ h)
  · exact .inr h
theorem dpa_len {K : PySem.W.Frag} {H : Hp} : ∀ {vs : List V} {ds : List PyData}, DpAll K H vs ds → vs.length = ds.length
  | _, _, .nil => rfl
  | _, _, .cons _ t => by rw [List.length_cons, List.length_cons, dpa_len t]
theorem dpa_get {K : PySem.W.Frag} {H : Hp} : ∀ {vs : List V} {ds : List PyData} {i : Nat} {d : PyData}, DpAll K H vs ds → ds[i]? = some d → ∃ v, vs[i]? = some v ∧ Dp K H v d
  | _, _, _, _, .nil, h => by simp at h
  | _, _, 0, _, .cons h _, e => by
    have first := e
    simp only [List.getElem?_cons_zero, Option.some.injEq] at first
    subst first
    exact ⟨_, rfl, h⟩
  | _, _, i + 1, _, .cons _ t, e => by
    rw [List.getElem?_cons_succ] at e
    rw [List.getElem?_cons_succ]
    exact dpa_get t e
theorem dpa_get' {K : PySem.W.Frag} {H : Hp} : ∀ {vs : List V} {ds : List PyData} {i : Nat} {v : V}, DpAll K H vs ds → vs[i]? = some v → ∃ d, ds[i]? = some d ∧ Dp K H v d
  | _, _, _, _, .nil, h => by simp at h
  | _, _, 0, _, .cons h _, e => by
    have first := e
    simp only [List.getElem?_cons_zero, Option.some.injEq] at first
    subst first
    exact ⟨_, rfl, h⟩
  | _, _, i + 1, _, .cons _ t, e => by
    rw [List.getElem?_cons_succ] at e
    rw [List.getElem?_cons_succ]
    exact dpa_get' t e
theorem dpa_app {K : PySem.W.Frag} {H : Hp} : ∀ {vs ws : List V} {ds es : List PyData}, DpAll K H vs ds → DpAll K H ws es → DpAll K H (vs ++ ws) (ds ++ es)
  | _, _, _, _, .nil, h => h
  | _, _, _, _, .cons h t, k => .cons h (dpa_app t k)
theorem dpa_take {K : PySem.W.Frag} {H : Hp} : ∀ (n : Nat) {vs : List V} {ds : List PyData}, DpAll K H vs ds → DpAll K H (vs.take n) (ds.take n)
  | 0, _, _, _ => .nil
  | _ + 1, _, _, .nil => .nil
  | n + 1, _, _, .cons h t => .cons h (dpa_take n t)
theorem dpa_one {K : PySem.W.Frag} {H : Hp} {v : V} {d : PyData} (h : Dp K H v d) : DpAll K H [v] [d] := .cons h .nil
theorem dpa_ints {K : PySem.W.Frag} {H : Hp} : ∀ (ns : List Int), DpAll K H (ns.map V.int) (ns.map PyData.int)
  | [] => .nil
  | n :: ns => .cons (.int n) (dpa_ints ns)
theorem dpa_ints' {K : PySem.W.Frag} {H : Hp} : ∀ {ns : List Int} {vs : List V}, DpAll K H vs (ns.map PyData.int) → vs = ns.map V.int
  | [], _, .nil => rfl
  | _ :: ns, _, .cons (.int _) t => by rw [List.map_cons, ← dpa_ints' t]
theorem dpa_strs' {K : PySem.W.Frag} {H : Hp} : ∀ {ns : List Str} {vs : List V}, DpAll K H vs (ns.map PyData.str) → vs = ns.map V.str
  | [], _, .nil => rfl
  | _ :: ns, _, .cons (.str _) t => by rw [List.map_cons, ← dpa_strs' t]
/-- a fraction -/
def fr (f : Int × Int) : PyData := .tuple [.int f.1, .int f.2]
theorem dp_fr {K : PySem.W.Frag} {H : Hp} {x : V} {f : Int × Int} (h : Dp K H x (fr f)) : ∃ a, x = .ref a ∧ SqT K H a [.int f.1, .int f.2] := by
  cases h with
  | @tup a xs _ h q =>
    cases q with
    | cons q1 q2 =>
      cases q2 with
      | cons q3 q4 =>
        cases q1
        cases q3
        cases q4
        exact ⟨a, rfl, h⟩
theorem fr_dp {K : PySem.W.Frag} {H : Hp} {a : Addr} {f : Int × Int} (h : SqT K H a [.int f.1, .int f.2]) : Dp K H (.ref a) (fr f) := .tup h (.cons (.int _) (.cons (.int _) .nil))
/-- no list within -/
inductive NoL : PyData → Prop
  | non : NoL .none
  | bl (b : Bool) : NoL (.bool b)
  | int (i : Int) : NoL (.int i)
  | str (x : Str) : NoL (.str x)
  | fr (f : Int × Int) : NoL (fr f)
theorem dp_im {K : PySem.W.Frag} {H H' : Hp} {v : V} {d : PyData} (e : Im H H') (h : Dp K H v d) (n : NoL d) : Dp K H' v d := by
  cases n with
  | non => cases h; exact .non
  | bl b => cases h; exact .bl b
  | int i => cases h; exact .int i
  | str x => cases h; exact .str x
  | fr f =>
    obtain ⟨a, rfl, q⟩ := dp_fr h
    exact fr_dp (sqt_im e q)
theorem dpa_im {K : PySem.W.Frag} {H H' : Hp} (e : Im H H') : ∀ {vs : List V} {ds : List PyData}, DpAll K H vs ds → (∀ d ∈ ds, NoL d) → DpAll K H' vs ds
  | _, _, .nil, _ => .nil
  | _, _, .cons h t, n => .cons (dp_im e h (n _ (List.mem_cons_self ..))) (dpa_im e t fun d hd => n d (List.mem_cons_of_mem _ hd))
theorem dpa_frs {K : PySem.W.Frag} {H H' : Hp} (e : Im H H') {vs : List V} {fs : List (Int × Int)} (h : DpAll K H vs (fs.map fr)) : DpAll K H' vs (fs.map fr) :=
  dpa_im e h fun d hd => by
    obtain ⟨f, _, e⟩ := List.mem_map.mp hd
    rw [← e]
    exact .fr f

/-! ### what an expression gives -/
def EvD (K : PySem.W.Frag) (te : TE) (σ : L2.St) (H : Hp) (d : PyData) : Prop := ∀ H1, Same H H1 → ∀ Q : VK, (∀ v H2, Same H1 H2 → Dp K H2 v d → Q v H2) → te σ H1 Q
def EvB (tt : TT) (σ : L2.St) (H : Hp) (b : Bool) : Prop := ∀ H1, Same H H1 → ∀ Q : Bool → Hp → Prop, (∀ H2, Same H1 H2 → Q b H2) → tt σ H1 Q
def EvAs (K : PySem.W.Frag) (ta : TA) (σ : L2.St) (H : Hp) (ds : List PyData) : Prop := ∀ H1, Same H H1 → ∀ Q : List V → Hp → Prop, (∀ vs H2, Same H1 H2 → DpAll K H2 vs ds → Q vs H2) → ta σ H1 Q
section
variable {K : PySem.W.Frag} {σ : L2.St} {H H' : Hp} {ta tb te tx : TE} {t u : TT} {d e : PyData}
theorem EvD.mono (e : Same H H') (h : EvD K te σ H d) : EvD K te σ H' d := fun H1 a Q q => h H1 (e.trans a) Q q
theorem EvB.mono {b : Bool} (e : Same H H') (h : EvB t σ H b) : EvB t σ H' b := fun H1 a Q q => h H1 (e.trans a) Q q
theorem EvAs.mono {ta : TA} {ds : List PyData} (e : Same H H') (h : EvAs K ta σ H ds) : EvAs K ta σ H' ds := fun H1 a Q q => h H1 (e.trans a) Q q
theorem EvD.is (h : EvD K te σ H d) (q : d = e) : EvD K te σ H e := by rw [← q]; exact h
theorem EvB.is {a b : Bool} (h : EvB t σ H a) (q : a = b) : EvB t σ H b := by rw [← q]; exact h
theorem ed_var {i : Nat} {v : V} (h : σ[i]? = some (some v)) (hd : Dp K H v d) : EvD K (tVar i) σ H d := fun H1 e _ q => ⟨v, h, q v H1 (Same.refl H1) (dp_same e hd)⟩
theorem ed_int {i : Int} : EvD K (tC (.int i)) σ H (.int i) := fun H1 _ _ q => q _ H1 (Same.refl H1) (.int i)
theorem ed_str {x : Str} : EvD K (tC (.str x)) σ H (.str x) := fun H1 _ _ q => q _ H1 (Same.refl H1) (.str x)
theorem ed_bl {b : Bool} : EvD K (tC (.bl b)) σ H (.bool b) := fun H1 _ _ q => q _ H1 (Same.refl H1) (.bl b)
theorem ed_c {v : V} (h : Dp K H v d) : EvD K (tC v) σ H d := fun H1 e _ q => q _ H1 (Same.refl H1) (dp_same e h)
theorem ea_nil : EvAs K tNil σ H [] := fun H1 _ _ q => q _ H1 (Same.refl H1) .nil
theorem ea_cons {tr : TA} {ds : List PyData} (h : EvD K te σ H d) (hr : EvAs K tr σ H ds) : EvAs K (tCons te tr) σ H (d :: ds) := fun H1 e Q q =>
  h H1 e _ fun v H2 e2 p => hr H2 (e.trans e2) _ fun vs H3 e3 ps => q _ H3 (e2.trans e3) (.cons (dp_same e3 p) ps)
theorem ed_tup {tr : TA} {ds : List PyData} (h : EvAs K tr σ H ds) (hl : ds.length ≤ 1000) : EvD K (tTup tr) σ H (.tuple ds) := fun H1 e Q q =>
  h H1 e _ fun vs H2 e2 ps => ⟨Nat.le_of_lt (small1000 (by rw [dpa_len ps]; exact hl)), fun p hp => q _ _ (e2.trans (Evl.Ex.new hp)) (.tup (.inl (.inl upd_same)) (dpa_same (Evl.Ex.new hp) ps))⟩
theorem ed_lst {tr : TA} {ds : List PyData} (h : EvAs K tr σ H ds) (hl : ds.length ≤ 1000) : EvD K (tLst tr) σ H (.list ds) := fun H1 e Q q =>
  h H1 e _ fun vs H2 e2 ps => ⟨Nat.le_of_lt (small1000 (by rw [dpa_len ps]; exact hl)), fun p hp => q _ _ (e2.trans (Evl.Ex.new hp)) (.lst (.inl (.inl upd_same)) (dpa_same (Evl.Ex.new hp) ps))⟩
/-- a list display, its place told: new -/
theorem el_lst {tr : TA} {ds : List PyData} (h : EvAs K tr σ H ds) (hl : ds.length ≤ 1000) : ∀ H1, Same H H1 → ∀ Q : VK, (∀ p vs H2, Same H1 H2 → H2 p = none → DpAll K H2 vs ds → Q (.ref p) (upd H2 p (.lst vs))) → tLst tr σ H1 Q := fun H1 e Q q =>
  h H1 e _ fun vs H2 e2 ps => ⟨Nat.le_of_lt (small1000 (by rw [dpa_len ps]; exact hl)), fun p hp => q p vs H2 e2 hp ps⟩
/-- ints in -/
theorem ed_opI {C : Int → Int → Prop} {g : Int → Int → V} {i j : Int} (ha : EvD K ta σ H (.int i)) (hb : EvD K tb σ H (.int j)) (hc : C i j) (hd : ∀ H, Dp K H (g i j) d) : EvD K (tOp (rI C g) ta tb) σ H d := fun H1 e Q q =>
  ha H1 e _ fun v H2 e2 p => hb H2 (e.trans e2) _ fun w H3 e3 p' => by
    cases p
    cases p'
    exact ⟨i, j, rfl, rfl, hc, q _ H3 (e2.trans e3) (hd H3)⟩
theorem ed_opI0 {g : Int → Int → V} {i j : Int} (ha : EvD K ta σ H (.int i)) (hb : EvD K tb σ H (.int j)) (hd : ∀ H, Dp K H (g i j) d) : EvD K (tOp (rI0 g) ta tb) σ H d := fun H1 e Q q =>
  ha H1 e _ fun v H2 e2 p => hb H2 (e.trans e2) _ fun w H3 e3 p' => by
    cases p
    cases p'
    exact ⟨i, j, rfl, rfl, q _ H3 (e2.trans e3) (hd H3)⟩
theorem ed_un {g : Int → V} {i : Int} (ha : EvD K ta σ H (.int i)) (hd : ∀ H, Dp K H (g i) d) : EvD K (tUn (rU g) ta) σ H d := fun H1 e Q q =>
  ha H1 e _ fun v H2 e2 p => by
    cases p
    exact ⟨i, rfl, q _ H2 e2 (hd H2)⟩
theorem ed_add {i j : Int} (ha : EvD K ta σ H (.int i)) (hb : EvD K tb σ H (.int j)) : EvD K (tOp (rI0 fun i j => .int (i + j)) ta tb) σ H (.int (i + j)) := ed_opI0 ha hb fun _ => .int _
theorem ed_sub {i j : Int} (ha : EvD K ta σ H (.int i)) (hb : EvD K tb σ H (.int j)) : EvD K (tOp (rI0 fun i j => .int (i - j)) ta tb) σ H (.int (i - j)) := ed_opI0 ha hb fun _ => .int _
theorem ed_mul {i j : Int} (ha : EvD K ta σ H (.int i)) (hb : EvD K tb σ H (.int j)) (hc : CMul i j) : EvD K (tOp (rI CMul fun i j => .int (i * j)) ta tb) σ H (.int (i * j)) := ed_opI ha hb hc fun _ => .int _
theorem ed_mod {i j : Int} (ha : EvD K ta σ H (.int i)) (hb : EvD K tb σ H (.int j)) (hc : 0 < j) : EvD K (tOp (rI (fun _ j => 0 < j) fun i j => .int (i % j)) ta tb) σ H (.int (i % j)) := ed_opI (C := fun _ j => 0 < j) ha hb hc fun _ => .int _
theorem ed_neg {i : Int} (ha : EvD K ta σ H (.int i)) : EvD K (tUn (rU fun i => .int (-i)) ta) σ H (.int (-i)) := ed_un ha fun _ => .int _
/-- scalars compared -/
inductive Sc : PyData → V → Prop
  | non : Sc .none .non
  | bl (b : Bool) : Sc (.bool b) (.bl b)
  | int (i : Int) : Sc (.int i) (.int i)
  | str (x : Str) : Sc (.str x) (.str x)
theorem Sc.eq {x y : V} (h : Sc d x) (p : Dp K H y d) : y = x := by
  cases h <;> cases p <;> rfl
theorem ed_eq {x y : V} {b : Bool} (ha : EvD K ta σ H d) (hb : EvD K tb σ H e) (sx : Sc d x) (sy : Sc e y) (hs : scal x y = true) (q : decide (x = y) = b) : EvD K (tOp rEq ta tb) σ H (.bool b) := fun H1 e' Q k =>
  ha H1 e' _ fun v H2 e2 p => hb H2 (e'.trans e2) _ fun w H3 e3 p' => by
    rw [sx.eq p, sy.eq p']
    refine ⟨hs, ?_⟩
    rw [q]
    exact k _ H3 (e2.trans e3) (.bl b)
theorem ed_ne {x y : V} {b : Bool} (ha : EvD K ta σ H d) (hb : EvD K tb σ H e) (sx : Sc d x) (sy : Sc e y) (hs : scal x y = true) (q : (!decide (x = y)) = b) : EvD K (tOp rNe ta tb) σ H (.bool b) := fun H1 e' Q k =>
  ha H1 e' _ fun v H2 e2 p => hb H2 (e'.trans e2) _ fun w H3 e3 p' => by
    rw [sx.eq p, sy.eq p']
    refine ⟨hs, ?_⟩
    rw [q]
    exact k _ H3 (e2.trans e3) (.bl b)
theorem ed_eqI {i j : Int} (ha : EvD K ta σ H (.int i)) (hb : EvD K tb σ H (.int j)) : EvD K (tOp rEq ta tb) σ H (.bool (decide (i = j))) := ed_eq ha hb (.int i) (.int j) rfl (by
  by_cases h : i = j
  · rw [decide_eq_true h, h]; exact decide_eq_true rfl
  · rw [decide_eq_false h]; exact decide_eq_false fun z => h (V.int.inj z))
theorem ed_neI {i j : Int} (ha : EvD K ta σ H (.int i)) (hb : EvD K tb σ H (.int j)) : EvD K (tOp rNe ta tb) σ H (.bool (!decide (i = j))) := ed_ne ha hb (.int i) (.int j) rfl (by
  by_cases h : i = j
  · rw [decide_eq_true h, h]; exact congrArg not (decide_eq_true rfl)
  · rw [decide_eq_false h]; exact congrArg not (decide_eq_false fun z => h (V.int.inj z)))
/-- an item at a written place -/
theorem ed_ix {ds : List PyData} {k : Int} (n : Nat) (ha : EvD K ta σ H (.tuple ds)) (hb : EvD K tb σ H (.int k)) (hk : k = (n : Int)) (h : ds[n]? = some d) : EvD K (tOp (rIxT K) ta tb) σ H d := fun H1 e Q q =>
  ha H1 e _ fun v H2 e2 p => hb H2 (e.trans e2) _ fun w H3 e3 p' => by
    cases p' with
    | int =>
      cases dp_same e3 p with
      | @tup a xs _ hs hall =>
        obtain ⟨x, hx, hd⟩ := dpa_get hall h
        exact ⟨a, xs, k, x, rfl, rfl, hs, at_of hk hx, q x H3 (e2.trans e3) hd⟩
theorem ed_ixL {ds : List PyData} {k : Int} (n : Nat) (ha : EvD K ta σ H (.list ds)) (hb : EvD K tb σ H (.int k)) (hk : k = (n : Int)) (h : ds[n]? = some d) : EvD K (tOp (rIxL K) ta tb) σ H d := fun H1 e Q q =>
  ha H1 e _ fun v H2 e2 p => hb H2 (e.trans e2) _ fun w H3 e3 p' => by
    cases p' with
    | int =>
      cases dp_same e3 p with
      | @lst a xs _ hs hall =>
        obtain ⟨x, hx, hd⟩ := dpa_get hall h
        exact ⟨a, xs, k, x, rfl, rfl, hs, at_of hk hx, q x H3 (e2.trans e3) hd⟩
theorem ed_top {f : Int × Int} (ha : EvD K ta σ H (fr f)) : EvD K (tOp (rIxT K) ta (tC (.int 0))) σ H (.int f.1) := ed_ix 0 ha ed_int rfl rfl
theorem ed_bot {f : Int × Int} (ha : EvD K ta σ H (fr f)) : EvD K (tOp (rIxT K) ta (tC (.int 1))) σ H (.int f.2) := ed_ix 1 ha ed_int rfl rfl
theorem ed_len {ds : List PyData} (ha : EvD K ta σ H (.list ds)) : EvD K (tCB (fun xs H Q => ∃ p ys, xs = [.ref p] ∧ (SqL K H p ys ∨ SqT K H p ys) ∧ Q (.int ys.length) H) (tCons ta tNil)) σ H (.int ds.length) := fun H1 e Q q =>
  ha H1 e _ fun v H2 e2 p => by
    cases p with
    | @lst a xs _ hs hall => exact ⟨a, xs, rfl, .inl hs, by rw [dpa_len hall]; exact q _ H2 e2 (.int _)⟩
theorem ed_lenT {ds : List PyData} (ha : EvD K ta σ H (.tuple ds)) : EvD K (tCB (fun xs H Q => ∃ p ys, xs = [.ref p] ∧ (SqL K H p ys ∨ SqT K H p ys) ∧ Q (.int ys.length) H) (tCons ta tNil)) σ H (.int ds.length) := fun H1 e Q q =>
  ha H1 e _ fun v H2 e2 p => by
    cases p with
    | @tup a xs _ hs hall => exact ⟨a, xs, rfl, .inr hs, by rw [dpa_len hall]; exact q _ H2 e2 (.int _)⟩
/-- tests -/
theorem eb_test {b : Bool} (h : EvD K te σ H (.bool b)) : EvB (tTest te) σ H b := fun H1 e _ q => h H1 e _ fun v H2 e2 p => by
  cases p
  exact ⟨b, rfl, q H2 e2⟩
theorem eb_B {b : Bool} (h : EvD K te σ H (.bool b)) : EvB (tB te) σ H b := fun H1 e _ q => h H1 e _ fun v H2 e2 p => by
  cases p
  exact ⟨b, rfl, q H2 e2⟩
theorem eb_and {a b : Bool} (h1 : EvB t σ H a) (h2 : a = true → EvB u σ H b) : EvB (tAnd t u) σ H (a && b) := fun H1 e Q q => h1 H1 e _ fun H2 e2 => by
  cases a with
  | true =>
    show u σ H2 Q
    have both := e.trans e2
    exact h2 rfl H2 both Q fun H3 more => q H3 (e2.trans more)
  | false =>
    show Q false H2
    exact q H2 e2
theorem eb_or {a b : Bool} (h1 : EvB t σ H a) (h2 : a = false → EvB u σ H b) : EvB (tOr t u) σ H (a || b) := fun H1 e Q q => h1 H1 e _ fun H2 e2 => by
  cases a with
  | true =>
    show Q true H2
    exact q H2 e2
  | false =>
    show u σ H2 Q
    have both := e.trans e2
    exact h2 rfl H2 both Q fun H3 more => q H3 (e2.trans more)
theorem eb_not {a : Bool} (h1 : EvB t σ H a) : EvB (tNot t) σ H (!a) := fun H1 e _ q => h1 H1 e _ fun H2 e2 => q H2 e2
theorem ed_andV {a b : Bool} (h1 : EvD K ta σ H (.bool a)) (h2 : a = true → EvD K tb σ H (.bool b)) : EvD K (tAndV ta tb) σ H (.bool (a && b)) := fun H1 e Q q => h1 H1 e _ fun v H2 e2 p => by
  cases p
  refine ⟨a, rfl, ?_⟩
  cases a with
  | true =>
    show tb σ H2 Q
    exact h2 rfl H2 (e.trans e2) Q fun w H3 e3 p' => q w H3 (e2.trans e3) p'
  | false =>
    show Q (.bl false) H2
    exact q _ H2 e2 (.bl false)
theorem ed_notV {a : Bool} (h1 : EvD K ta σ H (.bool a)) : EvD K (tNotV ta) σ H (.bool (!a)) := fun H1 e _ q => h1 H1 e _ fun v H2 e2 p => by
  cases p
  exact ⟨a, rfl, q _ H2 e2 (.bl _)⟩
theorem ed_if {b : Bool} (h : EvB t σ H b) (h1 : b = true → EvD K ta σ H d) (h2 : b = false → EvD K tb σ H d) : EvD K (tIf t ta tb) σ H d := fun H1 e Q q => h H1 e _ fun H2 e2 => by
  cases b with
  | true =>
    show ta σ H2 Q
    exact h1 rfl H2 (e.trans e2) Q fun w H3 e3 p => q w H3 (e2.trans e3) p
  | false =>
    show tb σ H2 Q
    exact h2 rfl H2 (e.trans e2) Q fun w H3 e3 p => q w H3 (e2.trans e3) p

/-! ### promises: data in, data out -/
def spF (K : PySem.W.Frag) (F : List PyData → PyData → Prop) : Sp := fun vs H Q _ => ∃ ds d, DpAll K H vs ds ∧ F ds d ∧ ∀ v H', Same H H' → Dp K H' v d → Q v H'
theorem ed_call {F : List PyData → PyData → Prop} {E : XK} {tr : TA} {ds : List PyData} (h : EvAs K tr σ H ds) (hF : F ds d) : EvD K (tCall (spF K F) [] E tr) σ H d := fun H1 e Q q =>
  h H1 e _ fun vs H2 e2 ps => ⟨ds, d, by rw [List.append_nil]; exact ps, hF, fun v H3 e3 p => q v H3 (e2.trans e3) p⟩
/-! ### statements -/
variable {D : Ends} {tz tu tw : TS} {i : Nat}
theorem q_asg (h : EvD K te σ H d) (k : ∀ v H1, Same H H1 → Dp K H1 v d → tz D (σ.set i (some v)) H1) : tSeq (tAsg te (gName i)) tz D σ H := h H (Same.refl H) _ k
theorem s_asg (h : EvD K te σ H d) (k : ∀ v H1, Same H H1 → Dp K H1 v d → D.nx (σ.set i (some v)) H1) : tAsg te (gName i) D σ H := h H (Same.refl H) _ k
theorem s_ret (h : EvD K te σ H d) (k : ∀ v H1, Same H H1 → Dp K H1 v d → D.rt v H1) : tRet te D σ H := h H (Same.refl H) _ k
theorem q_par {j : Nat} {tr : TA} (h : EvAs K tr σ H [d, e]) (k : ∀ v w H1, Same H H1 → Dp K H1 v d → Dp K H1 w e → tz D ((σ.set i (some v)).set j (some w)) H1) : tSeq (tPar i j tr) tz D σ H := h H (Same.refl H) _ fun vs H1 e1 ps => by
  cases ps with
  | cons p1 ps =>
    cases ps with
    | cons p2 ps =>
      cases ps
      exact ⟨_, _, rfl, k _ _ H1 e1 p1 p2⟩
theorem s_par {j : Nat} {tr : TA} (h : EvAs K tr σ H [d, e]) (k : ∀ v w H1, Same H H1 → Dp K H1 v d → Dp K H1 w e → D.nx ((σ.set i (some v)).set j (some w)) H1) : tPar i j tr D σ H := h H (Same.refl H) _ fun vs H1 e1 ps => by
  cases ps with
  | cons p1 ps =>
    cases ps with
    | cons p2 ps =>
      cases ps
      exact ⟨_, _, rfl, k _ _ H1 e1 p1 p2⟩
theorem s_if {b : Bool} (h : EvB t σ H b) (h1 : b = true → ∀ H1, Same H H1 → tu D σ H1) (h2 : b = false → ∀ H1, Same H H1 → tw D σ H1) : tIfS t tu tw D σ H := h H (Same.refl H) _ fun H1 e => by
  cases b with
  | true =>
    show tu D σ H1
    exact h1 rfl H1 e
  | false =>
    show tw D σ H1
    exact h2 rfl H1 e
theorem q_when {b : Bool} (h : EvB t σ H b) (h1 : b = true → ∀ H1, Same H H1 → tu { D with nx := tz D } σ H1) (h2 : b = false → ∀ H1, Same H H1 → tz D σ H1) : tSeq (tIfS t tu tNext) tz D σ H := s_if (D := { D with nx := tz D }) h h1 h2
theorem q_if {b : Bool} (h : EvB t σ H b) (h1 : b = true → ∀ H1, Same H H1 → tu { D with nx := tz D } σ H1) (h2 : b = false → ∀ H1, Same H H1 → tw { D with nx := tz D } σ H1) : tSeq (tIfS t tu tw) tz D σ H := s_if (D := { D with nx := tz D }) h h1 h2
end
section
variable {X : Cx}
/-- // by any divisor that is not 0, below 2 ^ 9000 -/
def CDivA (_ j : Int) : Prop := j ≠ 0 ∧ j.natAbs.log2 < 9000
theorem op_fdivA : OpR X (binaryOp .FloorDiv) (rI CDivA fun i j => .int (i.fdiv j)) := opI fun _ _ _ _ _ _ _ hc q => floordiv_int hc.1 q (.inl (PyProof.noPylong_of_log2 hc.2))
/-- True - False -/
theorem op_subB : OpR X (binaryOp .Sub) (fun x y H Q => ∃ i j, x = .bl i ∧ y = .bl j ∧ Q (.int (b2i i - b2i j)) H) := by
  intro pins s σ H x y v u Q I left right h
  obtain ⟨i, j, rfl, rfl, rest⟩ := h
  cases left
  cases right
  exact PyProof.Rows.sub_bool ⟨.int _, H, I.tok _, ⟨_, rfl⟩, rest⟩
end
theorem ed_fdiv {K : PySem.W.Frag} {σ : L2.St} {H : Hp} {ta tb : TE} {i j : Int} (ha : EvD K ta σ H (.int i)) (hb : EvD K tb σ H (.int j)) (hc : CDivA i j) : EvD K (tOp (rI CDivA fun i j => .int (i.fdiv j)) ta tb) σ H (.int (i.fdiv j)) := ed_opI ha hb hc fun _ => .int _
end Lk
/-! BadLine, the program's own error with a line: skel/42_own_error_by_import turned to it. -/
namespace PySem
namespace BadX
open PySem.W PySem.Calls PyProof.Rows PySem.HandSPX
/-! ### the text of __init__ -/
def iA (p1 p2 : Pos) : Arguments := { posonlyargs := [], args := [{ arg := "self", annotation := none, pos := p1 }, { arg := "line", annotation := none, pos := p2 }], vararg := none, kwonlyargs := [], kw_defaults := [], kwarg := none, defaults := [] }
def iB (q1 q2 q3 q4 : Pos) : List Stmt := [.Assign [.Attribute (.Name "self" q1) "line" q2] (.Name "line" q3) q4]
def iS : Scope := { kind := .function, names := [(PySem.Str.ofString "self", .local), (PySem.Str.ofString "line", .local)], isGenerator := false, isCoroutine := false, more := [] }
/-- what the written part says of Low, at C, and of its __init__, at fI -/
structure LowTxt (K : Frag) (mg : Str → Option Value) (C fI : Addr) : Prop where
  gC : mg "BadLine" = some (.ref C)
  cls : ∃ nm q N bs bm sn sub ab col dd k0 k1 k2 k3 k5, K.lookup C = some (excClassObj nm q C N bs bm true sn sub ab col dd k0 k1 k2 k3 k5 "ValueError.__new__") ∧ refsVE bm = true
  sa : findIn K (.ref C) "__setattr__" = some (some (.builtin "object.__setattr__"))
  ga : findIn K (.ref C) "__getattribute__" = some (some (.builtin "BaseException.__getattribute__"))
  gg : findIn K (.ref C) "__getattr__" = some none
  noN : findIn K (.ref C) "line" = some none
  iC : findIn K (.ref C) "__init__" = some (some (.ref fI))
  tC : typeIn K (.ref fI) = some (.type "function")
  kC : keepIn K (.ref C) = true
  exC : subIn K (.ref C) (.type "BaseException") = some true
  tyC : typeIn K (.ref C) = some (.type "type")
  hdC : hasDictIn K C = true
  te : exmOne K (.ref C) (.ref C) = some true
  fn : ∃ (oc : Value) (od : Option Addr) (doc pm : Value) (an : Option Addr) (cdv ct : Value) (osl : Array (Option Value)) (p1 p2 q1 q2 q3 q4 : Pos),
    K.lookup fI = some ⟨oc, od, .func (fnOf "__init__" "BadLine.__init__" (iA p1 p2) (iB q1 q2 q3 q4) iS .none .none doc pm an cdv ct), osl⟩ ∧ codeIn K cdv "BadLine.__init__" = true
theorem one_size (v : Value) : [v].length ≤ sizeLine := by
  rw [sizeLine_eq]
  exact (by decide : 1 ≤ 16777216)
theorem kept_but {K : Frag} {h h' : Heap} {x : Addr} (X : K.In h) (hx : K.lookup x = none) (k : ∀ b o, b ≠ x → h.get? b = some o → h'.get? b = some o) : K.In h' := fun a o e =>
  k a o (fun z => by rw [z, hx] at e; cases e) (X a o e)
theorem ldC {M : Model} {s : Shared} {name : Str} {scope : Scope} {L a : Addr} {cd : Value} {m : Str → Option Value} {x : Str} {pos : Pos} {v : Value} {Q : Value → Shared → Prop} {A : Around} {E : Value → Shared → Prop} (hn : s.heap.Ns L m) (hv : m x = some v) (h : Q v s)
    (hk : scope.kind = .function := by rfl) (hl : (envOfC name scope L a cd).kindOf x = some .local := by rfl) (hd : (x == ("__debug__" : Str)) = false := by decide) :
    wpAny M A (eval (.Name x pos) (envOfC name scope L a cd)) Q E s := wpAny_Name (wpAny_loadName_local hk hl hn hv h) hd
/-- what __init__ leaves of a fresh exception at x -/
structure InitEnd (h h' : Heap) (x C dx t1 : Addr) (v : Value) : Prop where
  keep : ∀ b o, b ≠ x → h.get? b = some o → h'.get? b = some o
  obj : h'.get? x = some { cls := .ref C, dict := some dx, data := .fields #[.ref t1, .none, .none, .none, .bool false, .none] }
  dbig : h.objs.size ≤ dx
  dne : dx ≠ x
  ns : h'.Ns1 dx (fun y => if y = "line" then some v else none)
/-- a made Low -/
structure OwnMade (h h' : Heap) (e C d : Addr) (v : Value) : Prop where
  keep : ∀ b o, h.get? b = some o → h'.get? b = some o
  new : h.objs.size ≤ e
  obj : ∃ oe vs, h'.get? e = some oe ∧ oe.cls = .ref C ∧ oe.dict = some d ∧ oe.data = .fields vs ∧ vs[1]? = some .none
  dbig : h.objs.size ≤ d
  dne : d ≠ e
  ns : h'.Ns1 d (fun y => if y = "line" then some v else none)
section
variable {prog : Program} {w : World} {A : Around} {E : Value → Shared → Prop} {R : Result → Shared → Prop} {s : Shared} {K : Frag} {mg : Str → Option Value} {C fI : Addr}
theorem low_init (T : LowTxt K mg C fI) {x t0 : Addr} {v : Value} (X : K.In s.heap) (hlim : s.heap.NoLimit) (hx : s.heap.get? x = some (excO C t0)) (hnx : K.lookup x = none) (hroom : A.depth < recursionLimit)
    (hq : ∀ h' tk dx, InitEnd s.heap h' x C dx t0 v → R (.ok (.ret .none)) { s with heap := h', toks := tk }) :
    codeAny (model prog w) A (.call (.ref fI) ⟨[.ref x, v], []⟩) R s := by
  obtain ⟨oc, od, doc, pm, an, cdv, ct, osl, p1, p2, q1, q2, q3, q4, ho, hcd⟩ := T.fn
  obtain ⟨nm, q, N, bs, bm, sn, sub, ab, col, dd, k0, k1, k2, k3, k5, hC, hbm⟩ := T.cls
  have hcl : clsIn K C = some { name := nm, bases := bs, mro := .ref C :: bm, ns := N, qualname := q, hasDict := true, slotNames := sn, subclasses := sub, abstract := ab, collection := col, hasDel := false } := by unfold clsIn; rw [hC] <;> rfl
  refine Att.call_fn (binds := [("self", .ref x), ("line", v)]) X hlim ho hcd hroom (BindsTo.of_eq (by first | rfl | with_unfolding_all rfl)) (by first | rfl | decide | with_unfolding_all rfl) (fun s₁ IC => ?_) rfl rfl rfl
  obtain ⟨h₁, tk₁, rfl⟩ := IC.toInCall.same
  have k : ∀ b o, s.heap.get? b = some o → h₁.get? b = some o := IC.toInCall.keep
  have hn := IC.toInCall.ns
  have hxL : s.heap.objs.size ≠ x := Nat.ne_of_gt (Heap.lt_size hx)
  have X₁ : K.In h₁ := X.keeps k
  have hx₁ := k _ _ hx
  -- self.by = by
  show wpAny _ _ (execs _ _) _ _ _
  refine wpAny_execs_cons (plainObj_wpAny_Assign_Attribute ?_)
  refine ldC (v := v) hn (by first | rfl | with_unfolding_all rfl | kernel_rfl) (ldC (v := .ref x) hn (by first | rfl | with_unfolding_all rfl | kernel_rfl) ?_)
  refine set_plain X₁ (ox := excO C t0) (od := none) ⟨hx₁, rfl, rfl, trivial⟩ T.sa ?_
  refine exc_osa X₁ hx₁ hcl (show refsVE (.ref C :: bm) = true from hbm) rfl T.noN (fun h₃ tk₃ dx k₃ dn dne hx₃ hn₃ => ?_)
  show wpAny _ _ (execs _ _) _ _ _
  have z : s.heap.objs.size < h₁.objs.size := hn.lt
  exact wpAny_execs_nil (hq h₃ tk₃ dx ⟨fun b o hb e => k₃ b o hb (k b o e), hx₃, Nat.le_of_lt (Nat.lt_of_lt_of_le z dn), dne, hn₃⟩)
theorem low_made (T : LowTxt K mg C fI) {v : Value} (X : K.In s.heap) (hlim : s.heap.NoLimit) (hroom : A.depth + 1 < recursionLimit)
    (hq : ∀ h' tk e d, OwnMade s.heap h' e C d v → R (.ok (.ret (.ref e))) { s with heap := h', toks := tk }) :
    codeAny (model prog w) A (.call (.ref C) ⟨[v], []⟩) R s := by
  obtain ⟨nm, q, N, bs, bm, sn, sub, ab, col, dd, k0, k1, k2, k3, k5, hC, hbm⟩ := T.cls
  obtain ⟨hp, g, dr, tk, os⟩ := s
  have k : ∀ b o, hp.get? b = some o → ((hp.push (kdv_tup [v])).push (excO C hp.objs.size)).get? b = some o := fun b o e => Heap.get?_push_of_some _ (Heap.get?_push_of_some _ e)
  have hget : ((hp.push (kdv_tup [v])).push (excO C hp.objs.size)).get? (hp.objs.size + 1) = some (excO C hp.objs.size) := by heap_get
  have hnx : K.lookup (hp.objs.size + 1) = none := by
    cases e : K.lookup (hp.objs.size + 1) with
    | none => rfl
    | some o =>
      have z : hp.get? (hp.objs.size + 1) = some o := X _ _ e
      exact absurd (Nat.lt_of_succ_lt (Heap.lt_size z)) (Nat.lt_irrefl _)
  refine call_own F.excBase_ValueError (fun X => refsVE_contains X bm hbm) (X _ _ hC) (looks_findIn X T.iC) (fun self => bind_fn X self T.tC) (one_size v) ?_
  refine low_init (s := ⟨(hp.push (kdv_tup [v])).push (excO C hp.objs.size), g, dr, tk, os⟩) T (X.keeps k) (hlim.keeps k) hget hnx ?_ fun h' tk' dx ⟨k', hx, dn, dne, hns⟩ => ?_
  · show A.depth + 1 < recursionLimit
    exact hroom
  · have old : ∀ b o, hp.get? b = some o → h'.get? b = some o := fun b o e => k' b o (Nat.ne_of_lt (Nat.lt_succ_of_lt (Heap.lt_size e))) (k b o e)
    have z : hp.objs.size + 1 + 1 ≤ dx := by
      first
        | (simpa only [Heap.size_push] using dn)
        | exact dn
        | (have q := dn; rw [Heap.size_push, Heap.size_push] at q; exact q)
    exact ⟨rfl, hq h' tk' (hp.objs.size + 1) dx ⟨old, Nat.le_succ _, ⟨_, _, hx, rfl, rfl, rfl, rfl⟩, Nat.le_trans (Nat.le_trans (Nat.le_succ _) (Nat.le_succ _)) z, dne, hns⟩⟩
end
end BadX
end PySem
namespace L2
open PySem PySem.Spec PyProof.Rows
theorem relO_low {v : V} {v' : Value} (r : RelV v v') (f : Str) : RelO (List.lookup f [(("line" : Str), v)]) (if f = "line" then some v' else none) := by
  by_cases hw : f = "line"
  · subst hw
    rw [if_pos rfl]
    have q : List.lookup ("line" : Str) [(("line" : Str), v)] = some v := by simp [List.lookup]
    rw [q]
    exact r
  · rw [if_neg hw]
    have qw : (f == ("line" : Str)) = false := by simpa using hw
    have q2 : List.lookup f [(("line" : Str), v)] = none := by simp [List.lookup, qw]
    rw [q2]
    trivial
section
variable {X : Cx} {C fI : Addr}
/-- Low(e) -/
def tMkLow (C : Addr) (ta : TA) : St → Hp → XK → Prop := fun σ H Q => ta σ H fun vs H1 => ∃ v, vs = [v] ∧ ∀ d, H1 d = none → Q (.ref C) (some d) (upd H1 d (.xd [(("line" : Str), v)]))
theorem pmk_low {a : Expr} {ta : TA} {p pos : Pos} {k : Nat} (T : PySem.BadX.LowTxt X.K X.mg C fI) (hr : Room k X.A) (ha : PA X [a] ta) (hg : Gl X "BadLine" := by rfl)
    (he : starEach (a :: []) X.env = (false, eval a X.env) :: starEach [] X.env := by rfl) (hpl : (backTo pos (starEach [] X.env)).any (·.1) = false := by rfl) :
    PMk X (.Call (.Name "BadLine" p) [a] [] pos) (tMkLow C ta) := by
  intro pins s σ H Q I h
  refine wpAny_Call_Name_kw (ld_glob I hg T.gC ?_)
  refine PySem.W.callWith_K (h₀ := X.base) I.ok.mod.kin T.kC (thn (ha.run pos pins s σ H _ I h) fun us s1 hh => ?_) he hpl
  obtain ⟨vs, H1, I1, r1, v, ev, q1⟩ := hh
  subst ev
  refine ⟨I1.kIn, ?_⟩
  cases r1 with
  | cons rv rn =>
    rename_i v' us'
    cases rn
    show wpAny _ _ (call (.ref C) [v']) _ _ _
    have hlim := I1.nolimit
    obtain ⟨hp, g, dr, tk, os⟩ := s1
    refine wpAny_call (PySem.BadX.low_made T I1.kIn hlim (by have := hr.dp; omega) fun h' tk' e d M => ?_)
    show MkP X pins σ Q (.ref e) ⟨h', g, dr, tk', os⟩
    obtain ⟨oe, fv, hoe, hc, hd, hdat, h1⟩ := M.obj
    have hns := M.ns
    obtain ⟨G', g1, g2⟩ := restrict h' fun b => decide (b ≠ e)
    have gk : ∀ b, b ≠ e → G'.get? b = h'.get? b := fun b hb => g1 b (decide_eq_true hb)
    have ge : G'.get? e = none := g2 e (by simp)
    have old : ∀ b o, hp.get? b = some o → G'.get? b = some o := fun b o q => (gk b (Nat.ne_of_lt (Nat.lt_of_lt_of_le (Heap.lt_size q) M.new))).trans (M.keep b o q)
    have ob : ObjOk X.prog X.w (upd H1 d (.xd [(("line" : Str), v)])) G' d (.xd [(("line" : Str), v)]) :=
      ⟨_, hns.at (fun o q => (gk d M.dne).trans q), fun f => relO_low rv f⟩
    have J : Inv X pins σ (upd H1 d (.xd [(("line" : Str), v)])) ⟨G', g, dr, tk', os⟩ := I1.laid (t' := tk') old M.dbig ob
    refine ⟨e, oe, fv, ⟨G', g, dr, tk', os⟩, _, .ref C, some d, rfl, J, fun b o q => ?_, ge, hoe, ⟨hc, hd⟩, hdat, h1, ?_, rfl, I1.bare, raises_own T.exC T.tyC, q1 d (I1.hok.fresh M.dbig)⟩
    · by_cases hb : b = e
      · have q' : G'.get? b = some o := q
        rw [hb, ge] at q'; cases q'
      · exact (gk b hb).symm.trans q
    · rw [upd_ne (Ne.symm M.dne)]
      exact I1.hok.fresh M.new
/-- raise Low(e) -/
def tRaiseLow (C : Addr) (W : WX) (ta : TA) : TS := fun _ σ H => tMkLow C ta σ H fun cls d H' => W cls d σ H'
theorem ps_raiseLow {a : Expr} {ta : TA} {W : WX} {p pos pos2 : Pos} {k : Nat} (hc : X.calm = true) (T : PySem.BadX.LowTxt X.K X.mg C fI) (hr : Room k X.A) (tk : Takes X W) (ha : PA X [a] ta) (hg : Gl X "BadLine" := by rfl)
    (he : starEach (a :: []) X.env = (false, eval a X.env) :: starEach [] X.env := by rfl) (hpl : (backTo pos (starEach [] X.env)).any (·.1) = false := by rfl) :
    PS X (.Raise (some (.Call (.Name "BadLine" p) [a] [] pos)) none pos2) (tRaiseLow C W ta) := ps_raise hc tk (pmk_low T hr ha hg he hpl)
/-- low.by, low the exception that the suite holds (at a; its class cls, its dict d) -/
def tByLow (C : Addr) (a : Addr) (cls : Value) (d : Option Addr) (te : TE) : TE := fun σ H Q => te σ H fun x H1 => x = .ref a ∧ cls = .ref C ∧ ∃ (dd : Addr) (v : V), d = some dd ∧ H1 dd = some (.xd [(("line" : Str), v)]) ∧ Q v H1
theorem pe_byLow {a : Addr} {oe : Obj} {cls : Value} {d : Option Addr} {pn : List (Addr × Obj)} {e : Expr} {te : TE} {pos : Pos} (T : PySem.BadX.LowTxt X.K X.mg C fI) (hz : Zc cls d oe) (hf : ∃ vs, oe.data = .fields vs) (he : PE (X.suite a ((a, oe) :: pn)) e te)
    (hb : attributeBase e "line" X.env (eval e X.env) = eval e X.env := by rfl) :
    PE (X.suite a ((a, oe) :: pn)) (.Attribute e "line" pos) (tByLow C a cls d te) := by
  refine ⟨fun pins s σ H Q I h => ?_⟩
  refine attr_of hb (thn (he.run pins s σ H _ I h) fun u s1 hh => ?_)
  obtain ⟨x, H1, I1, rx, ex, ec, dd, v, ed, ea, q⟩ := hh
  subst ex
  obtain rfl : u = Value.ref a := rx
  subst ec
  subst ed
  obtain ⟨ha, _⟩ := I1.pin (a, oe) (List.mem_append_left _ List.mem_cons_self)
  obtain ⟨vs, hd⟩ := hf
  have hx : ObjOk X.prog X.w H1 s1.heap dd (.xd [(("line" : Str), v)]) := I1.hok dd _ ea
  obtain ⟨mA, hns, hr⟩ := hx
  obtain ⟨od, ho, hl⟩ := lookIn_ns hns
  have l : List.lookup ("line" : Str) [(("line" : Str), v)] = some v := by simp [List.lookup]
  obtain ⟨u, hu, ru⟩ := RelO.some_of (v := v) (o := mA "line") (by rw [← l]; exact hr "line")
  have J : PySem.W.InstAt s1.heap a oe C (some od) := ⟨ha, hz.1, by unfold PySem.W.notCls; rw [hd] <;> rfl, by rw [hz.2]; exact ho⟩
  exact HandSPX.exc_get I1.kIn J T.ga T.gg T.exC (PySem.W.findObj_own T.hdC T.noN rfl (by rw [hl, hu])) (handed_of ru) ⟨v, H1, I1.tok _, ru, q⟩
end
end L2

namespace Lk
open PySem PySem.Spec PyProof.Rows L2
/-- an error of the class at S is what «except S» names -/
theorem exm_self {K : PySem.W.Frag} {S : Addr} (h1 : PySem.W.subIn K (.ref S) (.type "BaseException") = some true) (h2 : PySem.W.isClsIn K S = true) (h3 : PySem.W.typeIn K (.ref S) = some (.type "type")) (h4 : PySem.W.subIn K (.ref S) (.ref S) = some true) :
    PySem.W.exmOne K (.ref S) (.ref S) = some true := by
  have e1 : (PySem.W.subIn K (.ref S) (.type "BaseException") == some true) = true := by rw [h1] <;> rfl
  have e2 : ((PySem.W.clsIn K S).isSome && PySem.W.typeIn K (.ref S) == some (.type "type")) = true := by
    have h2' : (PySem.W.clsIn K S).isSome = true := h2
    rw [h2', h3] <;> rfl
  show (if (PySem.W.subIn K (.ref S) (.type "BaseException") == some true) = true then (if ((PySem.W.clsIn K S).isSome && PySem.W.typeIn K (.ref S) == some (.type "type")) = true then PySem.W.subIn K (.ref S) (.ref S) else none) else none) = some true
  rw [if_pos e1, if_pos e2]
  exact h4
end Lk
/-! The program's small functions: each once, what it gives told as data. -/
namespace Lk
open PySem PySem.Spec PyProof.Rows L2
def topS (i : Nat) : Stmt := PySem.Challenge.pw_likecuts_k02_whole_fractions_beside_whol.main.body.getD i (.Pass ⟨0, 0, 0, 0⟩)
/-- a def of the text as the top leaves it -/
structure Raw (K : PySem.W.Frag) (mg : Str → Option Value) (x : Str) (st : Stmt) (ps : List Str) : Prop where
  ex : ∃ (f : Addr) (fd : FuncData), Fun K x x st f fd ∧ mg x = some (.ref f) ∧ Binds K fd ps []
/-- a def that keeps its promise -/
structure Def (P : Program) (w : World) (K : PySem.W.Frag) (mg : Str → Option Value) (base : Heap) (CX : CXT) (k : Nat) (x : Str) (ps : List Str) (sp : Sp) : Prop where
  ex : ∃ (f : Addr) (fd : FuncData), mg x = some (.ref f) ∧ FnOk P w K mg base CX k f fd ps sp ∧ PySem.W.keepIn K (.ref f) = true ∧ Binds K fd ps []
section
variable {P : Program} {w : World} {K : PySem.W.Frag} {mg : Str → Option Value} {base : Heap}
theorem Raw.ok {x : Str} {st : Stmt} {ps : List Str} {CX : CXT} {k : Nat} {sp : Sp} (R : Raw K mg x st ps) (h : ∀ f fd, Fun K x x st f fd → FnOk P w K mg base CX k f fd ps sp) : Def P w K mg base CX k x ps sp := by
  obtain ⟨f, fd, F, g, b⟩ := R.ex
  exact ⟨f, fd, g, h f fd F, F.kp, b⟩
theorem Def.mono {x : Str} {ps : List Str} {CX : CXT} {j k : Nat} {sp : Sp} (D : Def P w K mg base CX j x ps sp) (h : j ≤ k) : Def P w K mg base CX k x ps sp := by
  obtain ⟨f, fd, g, F, kp, b⟩ := D.ex
  exact ⟨f, fd, g, F.mono h, kp, b⟩
end
/-- a call of such a def -/
theorem pe_d {X : Cx} {k : Nat} {x : Str} {ps : List Str} {sp : Sp} {e : Expr} {es : List Expr} {t : TA} {p pos : Pos} (D : Def X.prog X.w X.K X.mg X.base CX0 k x ps sp) (hr : Room k X.A) (hg : Gl X x) (ha : PA X (e :: es) t)
    (notdebug : (x == ("__debug__" : Str)) = false := by decide) (plain : starEach (e :: es) X.env = (false, eval e X.env) :: starEach es X.env := by rfl)
    (nostar : (backTo pos (starEach es X.env)).any (·.1) = false := by rfl) :
    PE X (.Call (.Name x p) (e :: es) [] pos) (tCall sp [] E0 t) := by
  obtain ⟨f, fd, g, F, kp, b⟩ := D.ex
  exact pe_call F hr hg g kp b .nil pass0 ha notdebug plain nostar
theorem pe_d0 {X : Cx} {k : Nat} {x : Str} {ps : List Str} {sp : Sp} {p pos : Pos} (D : Def X.prog X.w X.K X.mg X.base CX0 k x ps sp) (hr : Room k X.A) (hg : Gl X x)
    (hdb : (x == ("__debug__" : Str)) = false := by decide) : PE X (.Call (.Name x p) [] [] pos) (tCall sp [] E0 tNil) := by
  obtain ⟨f, fd, g, F, kp, b⟩ := D.ex
  exact pe_call0 F hr hg g kp b .nil pass0 hdb
theorem len_of {K : PySem.W.Frag} {F : List PyData → PyData → Prop} {n : Nat} (h : ∀ ds d, F ds d → ds.length = n) : ∀ (vs : List V) (H : Hp) (Q : VK) (E : XK), spF K F vs H Q E → vs.length = n := fun vs H Q E ⟨ds, d, p, f, _⟩ => by
  rw [dpa_len p]
  exact h ds d f
theorem one_of {K : PySem.W.Frag} {H : Hp} {vs : List V} {d : PyData} (h : DpAll K H vs [d]) : ∃ v, vs = [v] ∧ Dp K H v d := by
  cases h with
  | cons p q => cases q; exact ⟨_, rfl, p⟩
theorem two_of {K : PySem.W.Frag} {H : Hp} {vs : List V} {d e : PyData} (h : DpAll K H vs [d, e]) : ∃ v u, vs = [v, u] ∧ Dp K H v d ∧ Dp K H u e := by
  cases h with
  | cons p q =>
    cases q with
    | cons p2 q => cases q; exact ⟨_, _, rfl, p, p2⟩
/-! ### the texts and their names -/
abbrev sIsN : Stmt := topS 5
abbrev sIsF : Stmt := topS 9
abbrev sFrac : Stmt := topS 10
abbrev sWhole : Stmt := topS 11
abbrev sPlus : Stmt := topS 12
abbrev sMinus : Stmt := topS 13
abbrev sTimes : Stmt := topS 14
abbrev sOver : Stmt := topS 15
abbrev sOrder : Stmt := topS 16
abbrev sLeast : Stmt := topS 17
abbrev sGreat : Stmt := topS 18
abbrev sTotal : Stmt := topS 19
abbrev sFloor : Stmt := topS 20
abbrev sFText : Stmt := topS 21
theorem scIsN : FnScope ["thing"] ["thing"] (defScope sIsN) := ⟨rfl, rfl, rfl, by decide +kernel, rfl, by decide +kernel, by decide +kernel⟩
theorem scIsF : FnScope ["thing", "top", "bottom"] ["thing"] (defScope sIsF) := ⟨rfl, rfl, rfl, by decide +kernel, rfl, by decide +kernel, by decide +kernel⟩
theorem scFrac : FnScope ["top", "bottom", "common"] ["top", "bottom"] (defScope sFrac) := ⟨rfl, rfl, rfl, by decide +kernel, rfl, by decide +kernel, by decide +kernel⟩
theorem scWhole : FnScope ["number"] ["number"] (defScope sWhole) := ⟨rfl, rfl, rfl, by decide +kernel, rfl, by decide +kernel, by decide +kernel⟩
theorem scPlus : FnScope ["x", "y"] ["x", "y"] (defScope sPlus) := ⟨rfl, rfl, rfl, by decide +kernel, rfl, by decide +kernel, by decide +kernel⟩
theorem scMinus : FnScope ["x", "y"] ["x", "y"] (defScope sMinus) := ⟨rfl, rfl, rfl, by decide +kernel, rfl, by decide +kernel, by decide +kernel⟩
theorem scTimes : FnScope ["x", "y"] ["x", "y"] (defScope sTimes) := ⟨rfl, rfl, rfl, by decide +kernel, rfl, by decide +kernel, by decide +kernel⟩
theorem scOver : FnScope ["x", "y"] ["x", "y"] (defScope sOver) := ⟨rfl, rfl, rfl, by decide +kernel, rfl, by decide +kernel, by decide +kernel⟩
theorem scOrder : FnScope ["x", "y", "one", "other"] ["x", "y"] (defScope sOrder) := ⟨rfl, rfl, rfl, by decide +kernel, rfl, by decide +kernel, by decide +kernel⟩
theorem scLeast : FnScope ["some", "found", "own"] ["some"] (defScope sLeast) := ⟨rfl, rfl, rfl, by decide +kernel, rfl, by decide +kernel, by decide +kernel⟩
theorem scGreat : FnScope ["some", "found", "own"] ["some"] (defScope sGreat) := ⟨rfl, rfl, rfl, by decide +kernel, rfl, by decide +kernel, by decide +kernel⟩
theorem scTotal : FnScope ["some", "found", "own"] ["some"] (defScope sTotal) := ⟨rfl, rfl, rfl, by decide +kernel, rfl, by decide +kernel, by decide +kernel⟩
theorem scFloor : FnScope ["x"] ["x"] (defScope sFloor) := ⟨rfl, rfl, rfl, by decide +kernel, rfl, by decide +kernel, by decide +kernel⟩
theorem scFText : FnScope ["x"] ["x"] (defScope sFText) := ⟨rfl, rfl, rfl, by decide +kernel, rfl, by decide +kernel, by decide +kernel⟩
/-! ### what each gives -/
/-- no factor beyond 64 bits -/
def Sm (i : Int) : Prop := -(2 ^ 64) < i ∧ i < 2 ^ 64
def W9 (b : Int) : Prop := b ≠ 0 ∧ b.natAbs < 2 ^ 8000
def FFrac (ds : List PyData) (d : PyData) : Prop := ∃ t b, ds = [.int t, .int b] ∧ W9 b ∧ d = fr (nf t b)
def FWhole (ds : List PyData) (d : PyData) : Prop := ∃ n, ds = [.int n] ∧ d = fr (n, 1)
def F2 (f : Int × Int → Int × Int → Int × Int) (c : Int × Int → Int × Int → Prop) (ds : List PyData) (d : PyData) : Prop := ∃ x y, ds = [fr x, fr y] ∧ (Sm y.1 ∧ Sm y.2) ∧ c x y ∧ d = fr (f x y)
def CB (x y : Int × Int) : Prop := W9 (x.2 * y.2)
def CO (x y : Int × Int) : Prop := W9 (x.2 * y.1)
theorem cdiv_gg {t b : Int} (h : W9 b) (s : Int) (hs : s = gg t b ∨ s = -(gg t b)) : CDivA t s ∧ CDivA b s := by
  have p := gg_pos (t := t) h.1
  have l := gg_le (t := t) h.1
  have n : s.natAbs < 2 ^ 8000 := Nat.lt_of_le_of_lt (by rcases hs with e | e <;> omega) h.2
  have q := PySem.Flt.log2_lt_of (by decide : 0 < 8000) n
  have e : s ≠ 0 := by rcases hs with e | e <;> omega
  exact ⟨⟨e, by omega⟩, ⟨e, by omega⟩⟩
section
variable {P : Program} {w : World} {K : PySem.W.Frag} {mg : Str → Option Value} {base : Heap}
theorem ok_frac (R : Raw K mg "fraction" sFrac ["top", "bottom"]) (mgc : mg "gcd" = some (.builtin "math.gcd")) : Def P w K mg base CX0 1 "fraction" ["top", "bottom"] (spF K FFrac) := by
  refine R.ok fun f fd F => F.ok scFrac (len_of fun ds d ⟨t, b, e, _⟩ => by rw [e]; rfl) (fun cdv A outer s H vs Q E hr h => ?_)
  obtain ⟨ds, d, p, ⟨t, b, rfl, hb, rfl⟩, q⟩ := h
  obtain ⟨v, u, rfl, p1, p2⟩ := two_of p
  refine ⟨_, pss_cons (ps_if (pt_cmpR op_eq (pv 1) pe_int (nomark _)) (pss_one ps_never) pss_nil)
    (pss_cons (ps_set (i := 2) scFrac.nd rfl (.inl rfl) (pe_callBfun cr_gcd (by rfl) mgc (pa_cons (pv 0) (pa_cons (pv 1) pa_nil))))
    (pss_cons (ps_if (pt_cmpR op_lt (pv 1) pe_int (nomark _)) (pss_one (ps_set (i := 2) scFrac.nd rfl (.inl rfl) (pe_un un_neg (pv 2)))) pss_nil)
    (pss_one (ps_ret (pe_tup (pa_cons (pe_op op_fdivA (pv 0) (pv 2)) (pa_cons (pe_op op_fdivA (pv 1) (pv 2)) pa_nil))))))), ?_⟩
  cases p1
  cases p2
  refine q_if (b := decide (b = 0)) (eb_test (K := K) (ed_eqI (ed_var rfl (.int b)) ed_int)) (fun z => absurd (of_decide_eq_true z) hb.1) (fun _ H1 e1 => ?_)
  refine ⟨.int t, rfl, .int b, rfl, t, b, rfl, ?_⟩
  refine q_if (b := decide (b < 0)) (eb_test (K := K) (ed_opI0 (ed_var rfl (.int b)) ed_int fun _ => .bl _)) (fun z H2 e2 => ?_) (fun z H2 e2 => ?_)
  · refine ⟨.int (gg t b), rfl, gg t b, rfl, ?_⟩
    have c := cdiv_gg (t := t) hb (-(gg t b)) (.inr rfl)
    refine s_ret (K := K) (ed_tup (ea_cons (ed_fdiv (ed_var rfl (.int t)) (ed_var rfl (.int (-(gg t b)))) c.1) (ea_cons (ed_fdiv (ed_var rfl (.int b)) (ed_var rfl (.int (-(gg t b)))) c.2) ea_nil)) (by show 2 ≤ 1000; decide)) fun v H3 e3 p => ?_
    refine q v H3 ((e1.trans e2).trans e3) ?_
    unfold nf
    rw [if_pos (of_decide_eq_true z)]
    exact p
  · have c := cdiv_gg (t := t) hb (gg t b) (.inl rfl)
    refine s_ret (K := K) (ed_tup (ea_cons (ed_fdiv (ed_var rfl (.int t)) (ed_var rfl (.int (gg t b))) c.1) (ea_cons (ed_fdiv (ed_var rfl (.int b)) (ed_var rfl (.int (gg t b))) c.2) ea_nil)) (by show 2 ≤ 1000; decide)) fun v H3 e3 p => ?_
    refine q v H3 ((e1.trans e2).trans e3) ?_
    unfold nf
    rw [if_neg (of_decide_eq_false z)]
    exact p
theorem ok_whole (R : Raw K mg "whole" sWhole ["number"]) : Def P w K mg base CX0 1 "whole" ["number"] (spF K FWhole) := by
  refine R.ok fun f fd F => F.ok scWhole (len_of fun ds d ⟨t, e, _⟩ => by rw [e]; rfl) (fun cdv A outer s H vs Q E hr h => ?_)
  obtain ⟨ds, d, p, ⟨n, rfl, rfl⟩, q⟩ := h
  obtain ⟨v, rfl, p1⟩ := one_of p
  refine ⟨_, pss_one (ps_ret (pe_tup (pa_cons (pv 0) (pa_cons pe_int pa_nil)))), ?_⟩
  refine s_ret (K := K) (ed_tup (ea_cons (ed_var rfl p1) (ea_cons ed_int ea_nil)) (by show 2 ≤ 1000; decide)) fun v H3 e3 p => ?_
  exact q v H3 e3 p
theorem ok_plus (R : Raw K mg "plus" sPlus ["x", "y"]) (D : Def P w K mg base CX0 1 "fraction" ["top", "bottom"] (spF K FFrac)) : Def P w K mg base CX0 2 "plus" ["x", "y"] (spF K (F2 plusM CB)) := by
  refine R.ok fun f fd F => F.ok scPlus (len_of fun ds d ⟨x, y, e, _⟩ => by rw [e]; rfl) (fun cdv A outer s H vs Q E hr h => ?_)
  obtain ⟨ds, d, p, ⟨x, y, rfl, ⟨hy, hy'⟩, hb, rfl⟩, q⟩ := h
  obtain ⟨v, u, rfl, p1, p2⟩ := two_of p
  refine ⟨_, pss_one (ps_ret (pe_d D hr (by rfl) (pa_cons (pe_op op_add (pe_op op_mul (pe_ix ix_tup (pv 0) pe_int (fun _ _ => rfl)) (pe_ix ix_tup (pv 1) pe_int (fun _ _ => rfl))) (pe_op op_mul (pe_ix ix_tup (pv 1) pe_int (fun _ _ => rfl)) (pe_ix ix_tup (pv 0) pe_int (fun _ _ => rfl))))
    (pa_cons (pe_op op_mul (pe_ix ix_tup (pv 0) pe_int (fun _ _ => rfl)) (pe_ix ix_tup (pv 1) pe_int (fun _ _ => rfl))) pa_nil)))), ?_⟩
  have px : EvD K (tVar 0) (start ["x", "y"] [v, u]) H (fr x) := ed_var rfl p1
  have py : EvD K (tVar 1) (start ["x", "y"] [v, u]) H (fr y) := ed_var rfl p2
  refine s_ret (K := K) (ed_call (F := FFrac) (ea_cons (ed_add (ed_mul (ed_top px) (ed_bot py) (.inr hy')) (ed_mul (ed_top py) (ed_bot px) (.inl hy))) (ea_cons (ed_mul (ed_bot px) (ed_bot py) (.inr hy')) ea_nil)) ⟨_, _, rfl, hb, rfl⟩) fun v H3 e3 p => ?_
  exact q v H3 e3 p
end
end Lk
/-! More of the program's small functions. -/
namespace Lk
open PySem PySem.Spec PyProof.Rows L2
/-! ### isinstance -/
def tyD : PyData → String
  | .none => "NoneType"
  | .bool _ => "bool"
  | .int _ => "int"
  | .str _ => "str"
  | .list _ => "list"
  | .tuple _ => "tuple"
  | .dict _ => "dict"
theorem tyx {K : PySem.W.Frag} {H : Hp} {v : V} {d : PyData} (h : Dp K H v d) : TyX K H v (.type (tyD d)) := by
  cases h with
  | non => exact .base .non
  | bl b => exact .base (.bl b)
  | int i => exact .base (.int i)
  | str x => exact .base (.str x)
  | lst hs _ =>
    rcases hs with (h | ⟨o, h⟩) | ⟨o, its, n, hk, hc, _⟩
    · exact .base (.lst h)
    · exact .base (.frz h)
    · exact .kList hk hc
  | tup hs _ =>
    rcases hs with (h | ⟨o, h⟩) | ⟨o, its, n, hk, hc, _⟩
    · exact .base (.tup h)
    · exact .fTuple h
    · exact .kTuple hk hc
section
variable {K : PySem.W.Frag} {σ : L2.St} {H : Hp} {ta : TE} {d : PyData}
theorem ed_isi {T : String} {b : Bool} (ha : EvD K ta σ H d) (hk : kitB (tyD d) T = some b) : EvD K (tCB (rIsi K) (tCons ta (tCons (tC (.ty T)) tNil))) σ H (.bool b) := fun H1 e Q q =>
  ha H1 e _ fun v H2 e2 p => ⟨v, .ty T, _, .type T, b, rfl, .ty T, tyx p, kit_ty hk, q _ H2 e2 (.bl b)⟩
theorem ed_isi2 {S T : String} {a b : Bool} (ha : EvD K ta σ H d) (hk : kitB (tyD d) S = some a) (hk2 : kitB (tyD d) T = some b) : EvD K (tCB (rIsiT K) (tCons ta (tCons (tTup (tCons (tC (.ty S)) (tCons (tC (.ty T)) tNil))) tNil))) σ H (.bool (a || b)) := fun H1 e Q q =>
  ha H1 e _ fun v H2 e2 p => ⟨by show 2 ≤ sizeLine; decide, fun tp hp => ⟨v, tp, _, _, [.type S, .type T], a || b, rfl, upd_same, .cons (.ty S) (.cons (.ty T) .nil), tyx (dp_same (Evl.Ex.new hp) p),
    kitAny_cons (b := a) (kit_ty hk) (fun z => by
      rw [z, Bool.false_or]
      exact kitAny_cons (kit_ty hk2) (fun z => by rw [z]; exact kitAny_nil) (fun z => z)) (fun z => by rw [z, Bool.true_or]), q _ _ (e2.trans (Evl.Ex.new hp)) (.bl _)⟩⟩
theorem ed_gcd {tb : TE} {i j : Int} (ha : EvD K ta σ H (.int i)) (hb : EvD K tb σ H (.int j)) : EvD K (tCB rGcd (tCons ta (tCons tb tNil))) σ H (.int (gg i j)) := fun H1 e Q q =>
  ha H1 e _ fun v H2 e2 p => hb H2 (e.trans e2) _ fun u H3 e3 p' => by
    cases p
    cases p'
    exact ⟨i, j, rfl, q _ H3 (e2.trans e3) (.int _)⟩
end
/-- a, b = e, e a pair -/
theorem q_tup2 {K : PySem.W.Frag} {σ : L2.St} {H : Hp} {te : TE} {D : Ends} {tz : TS} {i j : Nat} {d e : PyData} (h : EvD K te σ H (.tuple [d, e])) (k : ∀ v w H1, Same H H1 → Dp K H1 v d → Dp K H1 w e → tz D ((σ.set i (some v)).set j (some w)) H1) :
    tSeq (tAsg te (gTup K 2 (gCons (gName i) (gCons (gName j) gNil)))) tz D σ H := h H (Same.refl H) _ fun v H1 e1 p => by
  cases p with
  | @tup a xs _ hs hall =>
    obtain ⟨x, y, rfl, p1, p2⟩ : ∃ x y, xs = [x, y] ∧ Dp K H1 x d ∧ Dp K H1 y e := by
      cases hall with
      | cons p q =>
        cases q with
        | cons p2 q => cases q; exact ⟨_, _, rfl, p, p2⟩
    exact ⟨a, [x, y], rfl, hs, rfl, x, [y], rfl, y, [], rfl, rfl, k x y H1 e1 p1 p2⟩
/-! ### numbers' sizes -/
theorem w9_mul {a b : Int} (ha : a ≠ 0) (hb : b ≠ 0) (h1 : a.natAbs < 2 ^ 4000) (h2 : b.natAbs < 2 ^ 4000) : W9 (a * b) := by
  refine ⟨mul_ne ha hb, ?_⟩
  rw [Int.natAbs_mul, show (2 : Nat) ^ 8000 = 2 ^ 4000 * 2 ^ 4000 by rw [← Nat.pow_add]]
  exact Nat.mul_lt_mul'' h1 h2
theorem p40 {a : Nat} (h : a < 2 ^ 64) : a < 2 ^ 4000 := Nat.lt_trans h (Nat.pow_lt_pow_right (by decide) (by decide))
theorem w9_small {a b : Int} (ha : a ≠ 0) (hb : b ≠ 0) (h1 : a.natAbs < 2 ^ 64) (h2 : b.natAbs < 2 ^ 64) : W9 (a * b) := w9_mul ha hb (p40 h1) (p40 h2)
/-- a drawn fraction: lowest terms, small -/
def Sml (f : Int × Int) : Prop := Red f ∧ -400 ≤ f.1 ∧ f.1 ≤ 400 ∧ f.2 ≤ 30
theorem Sml.sm {f : Int × Int} (h : Sml f) : Sm f.1 ∧ Sm f.2 := by
  obtain ⟨⟨h0, _⟩, h1, h2, h3⟩ := h
  unfold Sm
  omega
theorem nf_bot {t b : Int} (hb : b ≠ 0) : (nf t b).2.natAbs ≤ b.natAbs := by
  obtain ⟨u, c, hu, hc, _⟩ := gg_split (t := t) hb
  have hg := gg_pos (t := t) hb
  unfold nf
  generalize gg t b = g at *
  have hg0 : g ≠ 0 := by omega
  have k : c.natAbs ≤ b.natAbs := by
    rw [hc, Int.natAbs_mul]
    exact Nat.le_mul_of_pos_left _ (by omega)
  split
  · have e2 : b.fdiv (-g) = -c := by rw [hc, show g * c = -g * -c by rw [Int.neg_mul_neg], fdiv_mul (by omega)]
    dsimp only
    rw [e2]
    omega
  · have e2 : b.fdiv g = c := by rw [hc, fdiv_mul hg0]
    dsimp only
    rw [e2]
    exact k
theorem base_small : ∀ {fs : List (Int × Int)}, (∀ f ∈ fs, 0 < f.2 ∧ f.2 ≤ 30) → (baseM fs).natAbs ≤ 30 ^ fs.length
  | [], _ => by unfold baseM; decide
  | o :: fs, h => by
    rw [base_cons, Int.natAbs_mul, List.length_cons, Nat.pow_succ, Nat.mul_comm]
    have h1 := base_small (fs := fs) fun f hf => h f (List.mem_cons_of_mem _ hf)
    have h2 := h o (List.mem_cons_self ..)
    exact Nat.mul_le_mul h1 (by omega)
theorem total_bot {fs : List (Int × Int)} (h : ∀ f ∈ fs, Sml f) (hl : fs.length ≤ 8) : (totalM fs).2 ≠ 0 ∧ (totalM fs).2.natAbs < 2 ^ 64 := by
  have hp : ∀ f ∈ fs, 0 < f.2 := fun f hf => (h f hf).1.1
  have hB := base_pos hp
  refine ⟨red_ne (total_red hp), ?_⟩
  rw [total_is hp]
  refine Nat.lt_of_le_of_lt (nf_bot (by omega)) (Nat.lt_of_le_of_lt (base_small fun f hf => ⟨hp f hf, (h f hf).2.2.2⟩) ?_)
  exact Nat.lt_of_le_of_lt (Nat.pow_le_pow_right (by decide) hl) (by decide)
theorem fold_mem {g : Int × Int → Int × Int → Int × Int} (hg : ∀ m o, g m o = m ∨ g m o = o) : ∀ (fs : List (Int × Int)) (m : Int × Int), fs.foldl g m = m ∨ fs.foldl g m ∈ fs
  | [], _ => .inl rfl
  | o :: fs, m => by
    rw [List.foldl_cons]
    rcases fold_mem hg fs (g m o) with h | h
    · rw [h]
      rcases hg m o with e | e
      · exact .inl e
      · exact .inr (by rw [e]; exact List.mem_cons_self ..)
    · exact .inr (List.mem_cons_of_mem _ h)
theorem foldl_take {α β : Type} {g : β → α → β} {b : β} {l : List α} {i : Nat} {x : α} (h : l[i]? = some x) : (l.take (i + 1)).foldl g b = g ((l.take i).foldl g b) x := by
  rw [List.take_add_one, List.foldl_append, h]
  rfl
/-! ### what each gives -/
def FOrder (ds : List PyData) (d : PyData) : Prop := ∃ x y, ds = [fr x, fr y] ∧ (Sm y.1 ∧ Sm y.2) ∧ d = .int (orderM x y)
def FMost (g : Int × Int → List (Int × Int) → Int × Int) (ds : List PyData) (d : PyData) : Prop := ∃ f fs, ds = [.tuple ((f :: fs).map fr)] ∧ (∀ o ∈ f :: fs, Sm o.1 ∧ Sm o.2) ∧ d = fr (g f (f :: fs))
def FTotal (ds : List PyData) (d : PyData) : Prop := ∃ fs, ds = [.tuple (fs.map fr)] ∧ (∀ o ∈ fs, Sml o) ∧ fs.length ≤ 8 ∧ d = fr (totalM fs)
def FFloor (ds : List PyData) (d : PyData) : Prop := ∃ x, ds = [fr x] ∧ CDivA x.1 x.2 ∧ d = .int (x.1.fdiv x.2)
/-- the text of a fraction -/
def textM (x : Int × Int) : Str := if x.2 = 1 then toString x.1 else Str.empty ++ toString x.1 ++ "/" ++ toString x.2
def FText (ds : List PyData) (d : PyData) : Prop := ∃ x, ds = [fr x] ∧ (x.1.natAbs.log2 < 1920 ∧ x.2.natAbs.log2 < 1920 ∧ (textM x).length ≤ 1000) ∧ d = .str (textM x)
def FIsN (ds : List PyData) (d : PyData) : Prop := ∃ i, ds = [.int i] ∧ d = .bool true
def isF (x : Int × Int) : Bool := decide (0 < x.2) && decide (gg x.1 x.2 = 1)
def FIsF (ds : List PyData) (d : PyData) : Prop := ∃ x, ds = [fr x] ∧ d = .bool (isF x)
section
variable {P : Program} {w : World} {K : PySem.W.Frag} {mg : Str → Option Value} {base : Heap}
theorem ok_minus (R : Raw K mg "minus" sMinus ["x", "y"]) (D : Def P w K mg base CX0 1 "fraction" ["top", "bottom"] (spF K FFrac)) : Def P w K mg base CX0 2 "minus" ["x", "y"] (spF K (F2 minusM CB)) := by
  refine R.ok fun f fd F => F.ok scMinus (len_of fun ds d ⟨x, y, e, _⟩ => by rw [e]; rfl) (fun cdv A outer s H vs Q E hr h => ?_)
  obtain ⟨ds, d, p, ⟨x, y, rfl, ⟨hy, hy'⟩, hb, rfl⟩, q⟩ := h
  obtain ⟨v, u, rfl, p1, p2⟩ := two_of p
  refine ⟨_, pss_one (ps_ret (pe_d D hr (by rfl) (pa_cons (pe_op op_sub (pe_op op_mul (pe_ix ix_tup (pv 0) pe_int (fun _ _ => rfl)) (pe_ix ix_tup (pv 1) pe_int (fun _ _ => rfl))) (pe_op op_mul (pe_ix ix_tup (pv 1) pe_int (fun _ _ => rfl)) (pe_ix ix_tup (pv 0) pe_int (fun _ _ => rfl))))
    (pa_cons (pe_op op_mul (pe_ix ix_tup (pv 0) pe_int (fun _ _ => rfl)) (pe_ix ix_tup (pv 1) pe_int (fun _ _ => rfl))) pa_nil)))), ?_⟩
  have px : EvD K (tVar 0) (start ["x", "y"] [v, u]) H (fr x) := ed_var rfl p1
  have py : EvD K (tVar 1) (start ["x", "y"] [v, u]) H (fr y) := ed_var rfl p2
  refine s_ret (K := K) (ed_call (F := FFrac) (ea_cons (ed_sub (ed_mul (ed_top px) (ed_bot py) (.inr hy')) (ed_mul (ed_top py) (ed_bot px) (.inl hy))) (ea_cons (ed_mul (ed_bot px) (ed_bot py) (.inr hy')) ea_nil)) ⟨_, _, rfl, hb, rfl⟩) fun v H3 e3 p => ?_
  exact q v H3 e3 p
theorem ok_times (R : Raw K mg "times" sTimes ["x", "y"]) (D : Def P w K mg base CX0 1 "fraction" ["top", "bottom"] (spF K FFrac)) : Def P w K mg base CX0 2 "times" ["x", "y"] (spF K (F2 timesM CB)) := by
  refine R.ok fun f fd F => F.ok scTimes (len_of fun ds d ⟨x, y, e, _⟩ => by rw [e]; rfl) (fun cdv A outer s H vs Q E hr h => ?_)
  obtain ⟨ds, d, p, ⟨x, y, rfl, ⟨hy, hy'⟩, hb, rfl⟩, q⟩ := h
  obtain ⟨v, u, rfl, p1, p2⟩ := two_of p
  refine ⟨_, pss_one (ps_ret (pe_d D hr (by rfl) (pa_cons (pe_op op_mul (pe_ix ix_tup (pv 0) pe_int (fun _ _ => rfl)) (pe_ix ix_tup (pv 1) pe_int (fun _ _ => rfl)))
    (pa_cons (pe_op op_mul (pe_ix ix_tup (pv 0) pe_int (fun _ _ => rfl)) (pe_ix ix_tup (pv 1) pe_int (fun _ _ => rfl))) pa_nil)))), ?_⟩
  have px : EvD K (tVar 0) (start ["x", "y"] [v, u]) H (fr x) := ed_var rfl p1
  have py : EvD K (tVar 1) (start ["x", "y"] [v, u]) H (fr y) := ed_var rfl p2
  refine s_ret (K := K) (ed_call (F := FFrac) (ea_cons (ed_mul (ed_top px) (ed_top py) (.inr hy)) (ea_cons (ed_mul (ed_bot px) (ed_bot py) (.inr hy')) ea_nil)) ⟨_, _, rfl, hb, rfl⟩) fun v H3 e3 p => ?_
  exact q v H3 e3 p
theorem ok_over (R : Raw K mg "over" sOver ["x", "y"]) (D : Def P w K mg base CX0 1 "fraction" ["top", "bottom"] (spF K FFrac)) : Def P w K mg base CX0 2 "over" ["x", "y"] (spF K (F2 overM CO)) := by
  refine R.ok fun f fd F => F.ok scOver (len_of fun ds d ⟨x, y, e, _⟩ => by rw [e]; rfl) (fun cdv A outer s H vs Q E hr h => ?_)
  obtain ⟨ds, d, p, ⟨x, y, rfl, ⟨hy, hy'⟩, hb, rfl⟩, q⟩ := h
  obtain ⟨v, u, rfl, p1, p2⟩ := two_of p
  refine ⟨_, pss_one (ps_ret (pe_d D hr (by rfl) (pa_cons (pe_op op_mul (pe_ix ix_tup (pv 0) pe_int (fun _ _ => rfl)) (pe_ix ix_tup (pv 1) pe_int (fun _ _ => rfl)))
    (pa_cons (pe_op op_mul (pe_ix ix_tup (pv 0) pe_int (fun _ _ => rfl)) (pe_ix ix_tup (pv 1) pe_int (fun _ _ => rfl))) pa_nil)))), ?_⟩
  have px : EvD K (tVar 0) (start ["x", "y"] [v, u]) H (fr x) := ed_var rfl p1
  have py : EvD K (tVar 1) (start ["x", "y"] [v, u]) H (fr y) := ed_var rfl p2
  refine s_ret (K := K) (ed_call (F := FFrac) (ea_cons (ed_mul (ed_top px) (ed_bot py) (.inr hy')) (ea_cons (ed_mul (ed_bot px) (ed_top py) (.inr hy)) ea_nil)) ⟨_, _, rfl, hb, rfl⟩) fun v H3 e3 p => ?_
  exact q v H3 e3 p
theorem ok_order (R : Raw K mg "order" sOrder ["x", "y"]) : Def P w K mg base CX0 1 "order" ["x", "y"] (spF K FOrder) := by
  refine R.ok fun f fd F => F.ok scOrder (len_of fun ds d ⟨x, y, e, _⟩ => by rw [e]; rfl) (fun cdv A outer s H vs Q E hr h => ?_)
  obtain ⟨ds, d, p, ⟨x, y, rfl, ⟨hy, hy'⟩, rfl⟩, q⟩ := h
  obtain ⟨v, u, rfl, p1, p2⟩ := two_of p
  refine ⟨_, pss_cons (ps_par (i := 2) (j := 3) (by rfl) scOrder.nd rfl rfl (by decide) rfl rfl (pa_cons (pe_op op_mul (pe_ix ix_tup (pv 0) pe_int (fun _ _ => rfl)) (pe_ix ix_tup (pv 1) pe_int (fun _ _ => rfl)))
      (pa_cons (pe_op op_mul (pe_ix ix_tup (pv 1) pe_int (fun _ _ => rfl)) (pe_ix ix_tup (pv 0) pe_int (fun _ _ => rfl))) pa_nil)) (by rfl))
    (pss_cons (ps_if (pt_cmpR op_eq (pv 2) (pv 3) (nomark _)) (pss_one (ps_ret pe_int)) pss_nil)
    (pss_one (ps_ret (pe_ifExp (pt_cmpR op_gt (pv 2) (pv 3) (nomark _)) pe_int (pe_un un_neg pe_int))))), ?_⟩
  have px : EvD K (tVar 0) (start ["x", "y", "one", "other"] [v, u]) H (fr x) := ed_var rfl p1
  have py : EvD K (tVar 1) (start ["x", "y", "one", "other"] [v, u]) H (fr y) := ed_var rfl p2
  refine q_par (K := K) (ea_cons (ed_mul (ed_top px) (ed_bot py) (.inr hy')) (ea_cons (ed_mul (ed_top py) (ed_bot px) (.inl hy)) ea_nil)) fun v1 v2 H1 e1 k1 k2 => ?_
  cases k1
  cases k2
  refine q_if (eb_test (K := K) (ed_eqI (ed_var rfl (.int _)) (ed_var rfl (.int _)))) (fun z H2 e2 => ?_) (fun z H2 e2 => ?_)
  · refine s_ret (K := K) ed_int fun v H3 e3 p => q v H3 ((e1.trans e2).trans e3) ?_
    unfold orderM
    rw [if_pos (of_decide_eq_true z)]
    exact p
  · refine s_ret (K := K) (d := .int (if x.1 * y.2 > y.1 * x.2 then 1 else -1)) (ed_if (eb_test (K := K) (ed_opI0 (ed_var rfl (.int _)) (ed_var rfl (.int _)) fun _ => .bl _)) (fun z => ?_) (fun z => ?_)) fun v H3 e3 p => q v H3 ((e1.trans e2).trans e3) ?_
    · rw [if_pos (of_decide_eq_true z)]
      exact ed_int
    · rw [if_neg (of_decide_eq_false z)]
      exact ed_neg ed_int
    · unfold orderM
      rw [if_neg (of_decide_eq_false z)]
      exact p
theorem ok_floor (R : Raw K mg "floor_of" sFloor ["x"]) : Def P w K mg base CX0 1 "floor_of" ["x"] (spF K FFloor) := by
  refine R.ok fun f fd F => F.ok scFloor (len_of fun ds d ⟨x, e, _⟩ => by rw [e]; rfl) (fun cdv A outer s H vs Q E hr h => ?_)
  obtain ⟨ds, d, p, ⟨x, rfl, hc, rfl⟩, q⟩ := h
  obtain ⟨v, rfl, p1⟩ := one_of p
  refine ⟨_, pss_one (ps_ret (pe_op op_fdivA (pe_ix ix_tup (pv 0) pe_int (fun _ _ => rfl)) (pe_ix ix_tup (pv 0) pe_int (fun _ _ => rfl)))), ?_⟩
  have px : EvD K (tVar 0) (start ["x"] [v]) H (fr x) := ed_var rfl p1
  exact s_ret (K := K) (ed_fdiv (ed_top px) (ed_bot px) hc) fun v H3 e3 p => q v H3 e3 p
theorem ok_isn (R : Raw K mg "is_number" sIsN ["thing"]) (mi : mg "isinstance" = none) (mt : mg "int" = none) (mb : mg "bool" = none) : Def P w K mg base CX0 1 "is_number" ["thing"] (spF K FIsN) := by
  refine R.ok fun f fd F => F.ok scIsN (len_of fun ds d ⟨x, e, _⟩ => by rw [e]; rfl) (fun cdv A outer s H vs Q E hr h => ?_)
  obtain ⟨ds, d, p, ⟨i, rfl, rfl⟩, q⟩ := h
  obtain ⟨v, rfl, p1⟩ := one_of p
  refine ⟨_, pss_one (ps_ret (pe_and (pe_callB call_isi (by rfl) mi (by decide +kernel) (pa_cons (pv 0) (pa_cons (pe_bltn (v := .ty "int") (by rfl) mt (by decide +kernel) rfl) pa_nil)))
    (pe_one (pe_not (pe_callB call_isi (by rfl) mi (by decide +kernel) (pa_cons (pv 0) (pa_cons (pe_bltn (v := .ty "bool") (by rfl) mb (by decide +kernel) rfl) pa_nil))))))), ?_⟩
  have px : EvD K (tVar 0) (start ["thing"] [v]) H (.int i) := ed_var rfl p1
  exact s_ret (K := K) (ed_andV (a := true) (b := true) (ed_isi px (by show kitB "int" "int" = some true; decide +kernel)) fun _ => ed_notV (a := false) (ed_isi px (by show kitB "int" "bool" = some false; decide +kernel))) fun v H3 e3 p => q v H3 e3 p
theorem ok_isf (R : Raw K mg "is_fraction" sIsF ["thing"]) (D : Def P w K mg base CX0 1 "is_number" ["thing"] (spF K FIsN)) (mgc : mg "gcd" = some (.builtin "math.gcd")) (mi : mg "isinstance" = none) (mt : mg "tuple" = none) (ml : mg "len" = none) :
    Def P w K mg base CX0 2 "is_fraction" ["thing"] (spF K FIsF) := by
  refine R.ok fun f fd F => F.ok scIsF (len_of fun ds d ⟨x, e, _⟩ => by rw [e]; rfl) (fun cdv A outer s H vs Q E hr h => ?_)
  obtain ⟨ds, d, p, ⟨x, rfl, rfl⟩, q⟩ := h
  obtain ⟨v, rfl, p1⟩ := one_of p
  refine ⟨_, pss_cons (ps_if (PW.pt (pw_or (pt_not (pt_val (pe_callB call_isi (by rfl) mi (by decide +kernel) (pa_cons (pv 0) (pa_cons (pe_bltn (v := .ty "tuple") (by rfl) mt (by decide +kernel) rfl) pa_nil)))))
      (pw_or1 (pt_cmpR op_ne (pe_callB call_len_seq (by rfl) ml PySem.boot_len (pa_cons (pv 0) pa_nil)) pe_int (nomark _))))) (pss_one (ps_ret pe_bl)) pss_nil)
    (pss_cons (ps_asg (pv 0) (pg_tup (by rfl) (pgs_cons (pg_name (i := 1) scIsF.nd rfl (.inl rfl)) (pgs_cons (pg_name (i := 2) scIsF.nd rfl (.inl rfl)) pgs_nil))))
    (pss_one (ps_ret (pe_and (pe_d D hr (by rfl) (pa_cons (pv 1) pa_nil)) (pe_and (pe_d D hr (by rfl) (pa_cons (pv 2) pa_nil)) (pe_and (pe_cmpR op_gt (pv 2) pe_int (nomark _))
      (pe_one (pe_cmpR op_eq (pe_callBfun cr_gcd (by rfl) mgc (pa_cons (pv 1) (pa_cons (pv 2) pa_nil))) pe_int (nomark _))))))))), ?_⟩
  have px : EvD K (tVar 0) (start ["thing", "top", "bottom"] [v]) H (fr x) := ed_var rfl p1
  refine q_if (b := false) (eb_or (a := false) (b := false) (eb_not (a := true) (eb_B (K := K) (ed_isi px (by show kitB "tuple" "tuple" = some true; decide +kernel)))) fun _ => eb_test (K := K) (ed_neI (ed_lenT px) ed_int)) (fun z => nomatch z) (fun _ H1 e1 => ?_)
  refine q_tup2 (K := K) (px.mono e1) fun v1 v2 H2 e2 k1 k2 => ?_
  cases k1
  cases k2
  refine s_ret (K := K) (d := .bool (isF x)) ?_ fun v H3 e3 p => q v H3 ((e1.trans e2).trans e3) p
  refine ed_andV (a := true) (b := isF x) (ed_call (F := FIsN) (ea_cons (ed_var rfl (.int x.1)) ea_nil) ⟨_, rfl, rfl⟩) fun _ => ?_
  refine ed_andV (a := true) (b := isF x) (ed_call (F := FIsN) (ea_cons (ed_var rfl (.int x.2)) ea_nil) ⟨_, rfl, rfl⟩) fun _ => ?_
  exact ed_andV (ed_opI0 (ed_var rfl (.int x.2)) ed_int fun _ => .bl _) fun _ => ed_eqI (ed_gcd (ed_var rfl (.int x.1)) (ed_var rfl (.int x.2))) ed_int
theorem ok_ftext (R : Raw K mg "fraction_text" sFText ["x"]) (ms : mg "str" = none) : Def P w K mg base CX0 1 "fraction_text" ["x"] (spF K FText) := by
  refine R.ok fun f fd F => F.ok scFText (len_of fun ds d ⟨x, e, _⟩ => by rw [e]; rfl) (fun cdv A outer s H vs Q E hr h => ?_)
  obtain ⟨ds, d, p, ⟨x, rfl, ⟨h1, h2, h3⟩, rfl⟩, q⟩ := h
  obtain ⟨v, rfl, p1⟩ := one_of p
  refine ⟨_, pss_one (ps_ret (pe_ifExp (pt_cmpR op_eq (pe_ix ix_tup (pv 0) pe_int (fun _ _ => rfl)) pe_int (nomark _)) (pe_callTy call_str_int (by rfl) ms (by decide +kernel) (pa_cons (pe_ix ix_tup (pv 0) pe_int (fun _ _ => rfl)) pa_nil))
    (pe_joined (PJ.cons (pe_fmt (pe_ix ix_tup (pv 0) pe_int (fun _ _ => rfl))) (PJ.cons pe_str (PJ.cons (pe_fmt (pe_ix ix_tup (pv 0) pe_int (fun _ _ => rfl))) PJ.nil)))))), ?_⟩
  have px : EvD K (tVar 0) (start ["x"] [v]) H (fr x) := ed_var rfl p1
  refine s_ret (K := K) (d := .str (textM x)) (ed_if (b := decide (x.2 = 1)) (eb_test (K := K) (ed_eqI (ed_bot px) ed_int)) (fun z => ?_) (fun z => ?_)) fun v H3 e3 p => q v H3 e3 p
  · have z' := of_decide_eq_true z
    intro H1 e1 Q1 q1
    refine ed_top px H1 e1 _ fun v H2 e2 p => ?_
    cases p
    refine ⟨x.1, rfl, h1, q1 _ H2 e2 ?_⟩
    unfold textM
    rw [if_pos z']
    exact .str _
  · have z' := of_decide_eq_false z
    have tx : textM x = Str.empty ++ toString x.1 ++ "/" ++ toString x.2 := by unfold textM; rw [if_neg z']
    rw [tx] at h3
    have l3 : (Str.empty ++ toString x.1 ++ "/" ++ toString x.2 : Str).length ≤ sizeLine := Nat.le_of_lt (small1000 h3)
    have l2 : (Str.empty ++ toString x.1 ++ "/" : Str).length ≤ sizeLine := by
      refine Nat.le_trans ?_ l3
      rw [TL.len_tl, TL.len_tl, TL.tl_append _ (toString x.2 : Str), List.length_append]
      omega
    have l1 : (Str.empty ++ toString x.1 : Str).length ≤ sizeLine := by
      refine Nat.le_trans ?_ l2
      rw [TL.len_tl, TL.len_tl, TL.tl_append _ ("/" : Str), List.length_append]
      omega
    intro H1 e1 Q1 q1
    refine ed_top px H1 e1 _ fun v H2 e2 p => ?_
    cases p
    refine .inr ⟨x.1, rfl, h1, _, rfl, l1, _, rfl, l2, ?_⟩
    refine ed_bot px H2 (e1.trans e2) _ fun v H3 e3 p => ?_
    cases p
    refine .inr ⟨x.2, rfl, h2, _, rfl, l3, q1 _ H3 (e2.trans e3) ?_⟩
    rw [tx]
    exact .str _
end
end Lk
/-! least, greatest, total. -/
namespace Lk
open PySem PySem.Spec PyProof.Rows L2
section
variable {P : Program} {w : World} {K : PySem.W.Frag} {mg : Str → Option Value} {base : Heap}
theorem lm_choice (m o : Int × Int) : (fun m o => if orderM o m < 0 then o else m) m o = m ∨ (fun m o => if orderM o m < 0 then o else m) m o = o := by
  dsimp only
  split
  · exact .inr rfl
  · exact .inl rfl
theorem gm_choice (m o : Int × Int) : (fun m o => if orderM o m > 0 then o else m) m o = m ∨ (fun m o => if orderM o m > 0 then o else m) m o = o := by
  dsimp only
  split
  · exact .inr rfl
  · exact .inl rfl
theorem fold_all {g : Int × Int → Int × Int → Int × Int} (hg : ∀ m o, g m o = m ∨ g m o = o) {f : Int × Int} {fs : List (Int × Int)} {C : Int × Int → Prop} (h : ∀ o ∈ f :: fs, C o) (i : Nat) : C (((f :: fs).take i).foldl g f) := by
  rcases fold_mem hg ((f :: fs).take i) f with e | e
  · rw [e]; exact h f (List.mem_cons_self ..)
  · exact h _ (List.mem_of_mem_take e)
theorem ok_least (R : Raw K mg "least" sLeast ["some"]) (D : Def P w K mg base CX0 1 "order" ["x", "y"] (spF K FOrder)) (mt : mg "tuple" = none) : Def P w K mg base CX0 2 "least" ["some"] (spF K (FMost leastM)) := by
  refine R.ok fun f fd F => F.ok scLeast (len_of fun ds d ⟨x, y, e, _⟩ => by rw [e]; rfl) (fun cdv A outer s H vs Q E hr h => ?_)
  obtain ⟨ds, d, p, ⟨f0, fs, rfl, hall, rfl⟩, q⟩ := h
  obtain ⟨v, rfl, p1⟩ := one_of p
  refine ⟨_, pss_cons (ps_set (i := 1) scLeast.nd rfl (.inl rfl) (pe_ix ix_tup (pv 0) pe_int (fun _ _ => rfl)))
    (pss_cons (ps_for PassesOwn.never rfl (pi_tup (pv 0)) (pg_name (i := 2) scLeast.nd rfl (.inl rfl))
      (pss_one (ps_if (pt_cmpR op_lt (pe_d D hr (by rfl) (pa_cons (pv 2) (pa_cons (pv 1) pa_nil))) pe_int (nomark _)) (pss_one (ps_set (i := 1) scLeast.nd rfl (.inl rfl) (pv 2))) pss_nil)))
    (pss_one (ps_ret (pe_callTy call_tupleT (by rfl) mt (by decide +kernel) (pa_cons (pv 1) pa_nil))))), ?_⟩
  refine q_asg (K := K) (d := fr f0) (ed_ix 0 (ed_var rfl p1) ed_int rfl rfl) fun vf H1 e1 pf => ?_
  cases dp_same e1 p1 with
  | @tup a xs _ hs ha =>
    have hlen := dpa_len ha
    refine ⟨.ref a, rfl, a, rfl, ⟨_, hs⟩, for_tup (K := K) (xs := xs) (fun i σ H' => ∃ vf vo, σ = [some (.ref a), some vf, vo] ∧ Same H1 H' ∧ Dp K H' vf (fr (leastM f0 ((f0 :: fs).take i)))) ⟨vf, none, rfl, Same.refl _, pf⟩ (fun i σ H' _ ⟨_, _, _, e, _⟩ => Evl.ex_t e hs) ?_ ?_⟩
    · rintro i x σ H2 hi ⟨vf, vo, rfl, e2, pf⟩
      obtain ⟨d, hd, px⟩ := dpa_get' ha hi
      rw [List.getElem?_map] at hd
      obtain ⟨o, ho, rfl⟩ : ∃ o, (f0 :: fs)[i]? = some o ∧ fr o = d := by
        cases e : (f0 :: fs)[i]? with
        | none => rw [e] at hd; cases hd
        | some o => rw [e] at hd; exact ⟨o, rfl, Option.some.inj hd⟩
      have px := dp_same e2 px
      have step : leastM f0 ((f0 :: fs).take (i + 1)) = if orderM o (leastM f0 ((f0 :: fs).take i)) < 0 then o else leastM f0 ((f0 :: fs).take i) := foldl_take ho
      have sm := fold_all (C := fun o => Sm o.1 ∧ Sm o.2) lm_choice hall i
      show tIfS _ _ _ _ [some (.ref a), some vf, some x] H2
      refine s_if (eb_test (K := K) (ed_opI0 (ed_call (F := FOrder) (ea_cons (ed_var rfl px) (ea_cons (ed_var rfl pf) ea_nil)) ⟨o, _, rfl, sm, rfl⟩) ed_int fun _ => .bl _)) (fun z H3 e3 => ?_) (fun z H3 e3 => ?_)
      · refine ⟨x, rfl, x, some x, rfl, e2.trans e3, ?_⟩
        rw [step, if_pos (of_decide_eq_true z)]
        exact dp_same e3 px
      · refine ⟨vf, some x, rfl, e2.trans e3, ?_⟩
        rw [step, if_neg (of_decide_eq_false z)]
        exact dp_same e3 pf
    · rintro σ H2 ⟨vf, vo, rfl, e2, pf⟩
      rw [List.take_of_length_le (by rw [hlen, List.length_map]; exact Nat.le_refl _)] at pf
      obtain ⟨b, rfl, hb⟩ := dp_fr pf
      exact ⟨.ref b, rfl, b, _, rfl, hb, q _ H2 (e1.trans e2) (fr_dp hb)⟩
theorem ok_great (R : Raw K mg "greatest" sGreat ["some"]) (D : Def P w K mg base CX0 1 "order" ["x", "y"] (spF K FOrder)) (mt : mg "tuple" = none) : Def P w K mg base CX0 2 "greatest" ["some"] (spF K (FMost greatM)) := by
  refine R.ok fun f fd F => F.ok scGreat (len_of fun ds d ⟨x, y, e, _⟩ => by rw [e]; rfl) (fun cdv A outer s H vs Q E hr h => ?_)
  obtain ⟨ds, d, p, ⟨f0, fs, rfl, hall, rfl⟩, q⟩ := h
  obtain ⟨v, rfl, p1⟩ := one_of p
  refine ⟨_, pss_cons (ps_set (i := 1) scGreat.nd rfl (.inl rfl) (pe_ix ix_tup (pv 0) pe_int (fun _ _ => rfl)))
    (pss_cons (ps_for PassesOwn.never rfl (pi_tup (pv 0)) (pg_name (i := 2) scGreat.nd rfl (.inl rfl))
      (pss_one (ps_if (pt_cmpR op_gt (pe_d D hr (by rfl) (pa_cons (pv 2) (pa_cons (pv 1) pa_nil))) pe_int (nomark _)) (pss_one (ps_set (i := 1) scGreat.nd rfl (.inl rfl) (pv 2))) pss_nil)))
    (pss_one (ps_ret (pe_callTy call_tupleT (by rfl) mt (by decide +kernel) (pa_cons (pv 1) pa_nil))))), ?_⟩
  refine q_asg (K := K) (d := fr f0) (ed_ix 0 (ed_var rfl p1) ed_int rfl rfl) fun vf H1 e1 pf => ?_
  cases dp_same e1 p1 with
  | @tup a xs _ hs ha =>
    have hlen := dpa_len ha
    refine ⟨.ref a, rfl, a, rfl, ⟨_, hs⟩, for_tup (K := K) (xs := xs) (fun i σ H' => ∃ vf vo, σ = [some (.ref a), some vf, vo] ∧ Same H1 H' ∧ Dp K H' vf (fr (greatM f0 ((f0 :: fs).take i)))) ⟨vf, none, rfl, Same.refl _, pf⟩ (fun i σ H' _ ⟨_, _, _, e, _⟩ => Evl.ex_t e hs) ?_ ?_⟩
    · rintro i x σ H2 hi ⟨vf, vo, rfl, e2, pf⟩
      obtain ⟨d, hd, px⟩ := dpa_get' ha hi
      rw [List.getElem?_map] at hd
      obtain ⟨o, ho, rfl⟩ : ∃ o, (f0 :: fs)[i]? = some o ∧ fr o = d := by
        cases e : (f0 :: fs)[i]? with
        | none => rw [e] at hd; cases hd
        | some o => rw [e] at hd; exact ⟨o, rfl, Option.some.inj hd⟩
      have px := dp_same e2 px
      have step : greatM f0 ((f0 :: fs).take (i + 1)) = if orderM o (greatM f0 ((f0 :: fs).take i)) > 0 then o else greatM f0 ((f0 :: fs).take i) := foldl_take ho
      have sm := fold_all (C := fun o => Sm o.1 ∧ Sm o.2) gm_choice hall i
      show tIfS _ _ _ _ [some (.ref a), some vf, some x] H2
      refine s_if (eb_test (K := K) (ed_opI0 (ed_call (F := FOrder) (ea_cons (ed_var rfl px) (ea_cons (ed_var rfl pf) ea_nil)) ⟨o, _, rfl, sm, rfl⟩) ed_int fun _ => .bl _)) (fun z H3 e3 => ?_) (fun z H3 e3 => ?_)
      · refine ⟨x, rfl, x, some x, rfl, e2.trans e3, ?_⟩
        rw [step, if_pos (show orderM o _ > 0 from of_decide_eq_true z)]
        exact dp_same e3 px
      · refine ⟨vf, some x, rfl, e2.trans e3, ?_⟩
        rw [step, if_neg (show ¬ orderM o _ > 0 from of_decide_eq_false z)]
        exact dp_same e3 pf
    · rintro σ H2 ⟨vf, vo, rfl, e2, pf⟩
      rw [List.take_of_length_le (by rw [hlen, List.length_map]; exact Nat.le_refl _)] at pf
      obtain ⟨b, rfl, hb⟩ := dp_fr pf
      exact ⟨.ref b, rfl, b, _, rfl, hb, q _ H2 (e1.trans e2) (fr_dp hb)⟩
/-- NONE, of the module -/
structure IsNone (K : PySem.W.Frag) (mg : Str → Option Value) (n : Addr) : Prop where
  g : mg "NONE" = some (.ref n)
  at_ : ∃ (dd : Option Addr) (t u : Tok) (m : Nat) (sl : Array (Option Value)), K.lookup n = some ⟨.type "tuple", dd, .seq #[.int 0 t, .int 1 u] m, sl⟩
theorem IsNone.dp {n : Addr} (h : IsNone K mg n) {H : Hp} : Dp K H (.ref n) (fr (0, 1)) := by
  obtain ⟨dd, t, u, m, sl, e⟩ := h.at_
  refine fr_dp (.inr ⟨_, _, m, e, rfl, rfl, ?_, .cons ⟨t, rfl⟩ (.cons ⟨u, rfl⟩ .nil)⟩)
  show 2 ≤ sizeLine
  decide
theorem ok_total {n : Addr} (R : Raw K mg "total" sTotal ["some"]) (D : Def P w K mg base CX0 2 "plus" ["x", "y"] (spF K (F2 plusM CB))) (N : IsNone K mg n) : Def P w K mg base CX0 3 "total" ["some"] (spF K FTotal) := by
  refine R.ok fun f fd F => F.ok scTotal (len_of fun ds d ⟨x, e, _⟩ => by rw [e]; rfl) (fun cdv A outer s H vs Q E hr h => ?_)
  obtain ⟨ds, d, p, ⟨fs, rfl, hall, hl8, rfl⟩, q⟩ := h
  obtain ⟨v, rfl, p1⟩ := one_of p
  refine ⟨_, pss_cons (ps_set (i := 1) scTotal.nd rfl (.inl rfl) (pe_glob (v := .ref n) (by rfl) N.g rfl))
    (pss_cons (ps_for PassesOwn.never rfl (pi_tup (pv 0)) (pg_name (i := 2) scTotal.nd rfl (.inl rfl))
      (pss_one (ps_set (i := 1) scTotal.nd rfl (.inl rfl) (pe_d D hr (by rfl) (pa_cons (pv 1) (pa_cons (pv 2) pa_nil))))))
    (pss_one (ps_ret (pv 1)))), ?_⟩
  cases p1 with
  | @tup a xs _ hs ha =>
    have hlen := dpa_len ha
    refine ⟨.ref a, rfl, a, rfl, ⟨_, hs⟩, for_tup (K := K) (xs := xs) (fun i σ H' => ∃ vf vo, σ = [some (.ref a), some vf, vo] ∧ Same H H' ∧ Dp K H' vf (fr (totalM (fs.take i)))) ⟨.ref n, none, rfl, Same.refl _, N.dp⟩ (fun i σ H' _ ⟨_, _, _, e, _⟩ => Evl.ex_t e hs) ?_ ?_⟩
    · rintro i x σ H2 hi ⟨vf, vo, rfl, e2, pf⟩
      obtain ⟨d, hd, px⟩ := dpa_get' ha hi
      rw [List.getElem?_map] at hd
      obtain ⟨o, ho, rfl⟩ : ∃ o, fs[i]? = some o ∧ fr o = d := by
        cases e : fs[i]? with
        | none => rw [e] at hd; cases hd
        | some o => rw [e] at hd; exact ⟨o, rfl, Option.some.inj hd⟩
      have px := dp_same e2 px
      have step : totalM (fs.take (i + 1)) = plusM (totalM (fs.take i)) o := foldl_take ho
      have so : Sml o := hall o (List.mem_of_getElem? ho)
      have tb := total_bot (fs := fs.take i) (fun f hf => hall f (List.mem_of_mem_take hf)) (by rw [List.length_take]; omega)
      show tAsg _ _ _ [some (.ref a), some vf, some x] H2
      refine s_asg (K := K) (ed_call (F := F2 plusM CB) (ea_cons (ed_var rfl pf) (ea_cons (ed_var rfl px) ea_nil)) ⟨_, o, rfl, so.sm, w9_small tb.1 (red_ne so.1) tb.2 (by have := so.1.1; have := so.2.2.2; omega), rfl⟩) fun v H3 e3 p3 => ?_
      refine ⟨v, some x, rfl, e2.trans e3, ?_⟩
      rw [step]
      exact p3
    · rintro σ H2 ⟨vf, vo, rfl, e2, pf⟩
      rw [List.take_of_length_le (by rw [hlen, List.length_map]; exact Nat.le_refl _)] at pf
      exact ⟨vf, rfl, q _ H2 e2 pf⟩
end
end Lk
/-! Comprehensions over data; _digits, fraction_by, _law_read. -/
namespace Lk
open PySem PySem.Spec PyProof.Rows L2
/-! ### comprehensions whose items are plain data -/
theorem nd_put {K : PySem.W.Frag} {H : Hp} {D : Addr} {acc zs : List V} {l : List PyData} (hl : ∀ d ∈ l, NoL d) (hD : H D = some (.lst acc)) (h : DpAll K H acc l) : DpAll K (upd H D (.lst zs)) acc l := dpa_im (Im.put hD) h hl
theorem lc_pure {K : PySem.W.Frag} {J : It} {n : Nat} {G : Hp → Prop} {Y : Nat → Hp → V → Hp → Prop} (w : Walk J n G Y) {g : TG} {te : TE} {vs : List Nat} {σ : L2.St} {H : Hp} {D : Addr} {Qd : Hp → Prop} (l : List PyData) (hn : n = l.length) (hs : n ≤ 1000) (hl : ∀ d ∈ l, NoL d)
    (hD : H D = none) (hG : ∀ H', Same H H' → G H')
    (hg : ∀ i x d H' H'', l[i]? = some d → Same H H' → Y i H' x H'' → ∀ R : L2.St → Hp → Prop, (∀ σ2 H2, wipe σ2 vs = wipe σ vs → Same H' H2 → EvD K te σ2 H2 d → R σ2 H2) → g x (wipe σ vs) H'' R)
    (hd : ∀ H2 acc, Same H H2 → H2 D = some (.lst acc) → DpAll K H2 acc l → Qd H2) :
    ∃ W : Nat → Nat → Hp → Prop, (∃ m, W 0 m (upd H D (.lst []))) ∧ ∀ i m H, W i m H →
      (J.stop i H ∧ Qd H) ∨ (J.go i H ∧ ∃ Nx : Hp → Prop, (∀ H', Nx H' → ∃ m', m' < m ∧ W (i + 1) m' H') ∧ ∀ x H', J.yld i H x H' → g x (wipe σ vs) H' fun σ2 H2 => wipe σ2 vs = wipe σ vs ∧ tYes σ2 H2 fun b H3 => if b = true then te σ2 H3 fun y H4 => ∃ acc, H4 D = some (.lst acc) ∧ acc.length < sizeLine ∧ Nx (upd H4 D (.lst (acc ++ [y]))) else Nx H3) := by
  refine lc_it w (fun i H' => Same H H' ∧ ∃ acc, H' D = some (.lst acc) ∧ DpAll K H' acc (l.take i)) ⟨Evl.Ex.new hD, [], upd_same, by rw [List.take_zero]; exact .nil⟩ (fun i H' _ p => hG H' p.1) ?_ ?_
  · rintro i x H1 H2 hi ⟨e1, acc, ha, hacc⟩ hy
    have hli : i < l.length := by omega
    have hget : l[i]? = some l[i] := List.getElem?_eq_getElem hli
    refine hg i x _ H1 H2 hget e1 hy _ fun σ2 H3 hw e3 ev => ⟨hw, ?_⟩
    show te σ2 H3 _
    refine ev H3 (Same.refl _) _ fun y H4 e4 py => ?_
    have a4 : H4 D = some (.lst acc) := e4 _ _ (e3 _ _ ha)
    have hz : acc.length < sizeLine := small1000 (by rw [dpa_len hacc, List.length_take]; omega)
    refine ⟨acc, a4, hz, Evl.Ex.mut ((e1.trans e3).trans e4) hD, acc ++ [y], upd_same, ?_⟩
    rw [List.take_add_one, hget]
    have k1 : DpAll K H4 acc (l.take i) := dpa_same (e3.trans e4) hacc
    refine dpa_app (nd_put (fun d hd => hl d (List.mem_of_mem_take hd)) a4 k1) (dpa_one ?_)
    exact dp_im (Im.put a4) py (hl _ (List.getElem_mem hli))
  · rintro H1 ⟨e1, acc, ha, hacc⟩
    rw [List.take_of_length_le (by omega)] at hacc
    exact hd H1 acc e1 ha hacc
/-- a name as target, the heap as it was -/
theorem gname_pure {K : PySem.W.Frag} {te : TE} {vs : List Nat} {σ : L2.St} {H' : Hp} {j : Nat} {x : V} {d : PyData} (hw : wipe ((wipe σ vs).set j (some x)) vs = wipe σ vs) (h : EvD K te ((wipe σ vs).set j (some x)) H' d) :
    ∀ R : L2.St → Hp → Prop, (∀ σ2 H2, wipe σ2 vs = wipe σ vs → Same H' H2 → EvD K te σ2 H2 d → R σ2 H2) → gName j x (wipe σ vs) H' R := fun R k => k _ H' hw (Same.refl _) h
/-- the turns of a comprehension that gives l -/
def Turns (K : PySem.W.Frag) (te : TE) (g : TG) (vs : List Nat) (σ : L2.St) (l : List PyData) (J : It) (H : Hp) : Prop := ∃ (n : Nat) (G : Hp → Prop) (Y : Nat → Hp → V → Hp → Prop), Walk J n G Y ∧ n = l.length ∧ (∀ H', Same H H' → G H') ∧
  ∀ i x d H' H'', l[i]? = some d → Same H H' → Y i H' x H'' → ∀ R : L2.St → Hp → Prop, (∀ σ2 H2, wipe σ2 vs = wipe σ vs → Same H' H2 → EvD K te σ2 H2 d → R σ2 H2) → g x (wipe σ vs) H'' R
theorem ed_lc {K : PySem.W.Frag} {σ : L2.St} {H : Hp} {wi : TI} {g : TG} {te : TE} {vs : List Nat} {l : List PyData} (hs : l.length ≤ 1000) (hl : ∀ d ∈ l, NoL d)
    (h : ∀ H1, Same H H1 → ∀ R : It → Hp → Prop, (∀ J H2, Same H1 H2 → Turns K te g vs σ l J H2 → R J H2) → wi σ H1 R) : EvD K (tLc wi g tYes te vs) σ H (.list l) := fun H1 e Q q =>
  h H1 e _ fun J H2 e2 ⟨n, G, Y, w, hn, hG, ht⟩ D hD => lc_pure w l hn (by omega) hl hD hG ht fun H3 acc e3 ha hacc => q _ H3 (e2.trans e3) (.lst (.inl (.inl ha)) hacc)
theorem dpa_bls' {K : PySem.W.Frag} {H : Hp} : ∀ {ns : List Bool} {vs : List V}, DpAll K H vs (ns.map PyData.bool) → vs = ns.map V.bl
  | [], _, .nil => rfl
  | _ :: ns, _, .cons (.bl _) t => by rw [List.map_cons, ← dpa_bls' t]
theorem nol_bls (l : List Bool) : ∀ d ∈ l.map PyData.bool, NoL d := fun d hd => by
  obtain ⟨b, _, e⟩ := List.mem_map.mp hd
  rw [← e]
  exact .bl b
/-! ### what _digits and fraction_by give -/
def DG : List Nat := ("0123456789" : Str).cps.toList
def badW (x : Str) : Bool := !(decide ((1 : Int) ≤ x.length) && decide ((x.length : Int) ≤ 12)) || ((x.cps.toList.map fun c => !decide (c ∈ DG)).any id || (decide ((1 : Int) < x.length) && decide (x.cps.toList[0]? = some 48)))
def FDig (ds : List PyData) (d : PyData) : Prop := ∃ x, ds = [.str x] ∧ x.length ≤ 600 ∧ ((badW x = true ∧ d = .none) ∨ (badW x = false ∧ ∃ n, PySem.intText? x = some n ∧ d = .int n))
abbrev sDig : Stmt := topS 22
abbrev sBy : Stmt := topS 23
theorem scDig : FnScope ["word", "sign"] ["word"] (defScope sDig) := ⟨rfl, rfl, rfl, by decide +kernel, rfl, by decide +kernel, by decide +kernel⟩
theorem scBy : FnScope ["text", "parts", "numbers", "top", "found", "part"] ["text"] (defScope sBy) := ⟨rfl, rfl, rfl, by decide +kernel, rfl, by decide +kernel, by decide +kernel⟩
section
variable {K : PySem.W.Frag} {σ : L2.St} {H : Hp} {ta tb te : TE} {d : PyData}
theorem ed_slen {x : Str} (ha : EvD K ta σ H (.str x)) (hl : x.length ≤ 1000) : EvD K (tCB (fun xs H Q => ∃ z, xs = [.str z] ∧ z.length ≤ sizeLine ∧ Q (.int z.length) H) (tCons ta tNil)) σ H (.int x.length) := fun H1 e Q q =>
  ha H1 e _ fun v H2 e2 p => by
    cases p
    exact ⟨x, rfl, Nat.le_of_lt (small1000 hl), q _ H2 e2 (.int _)⟩
/-- a chain of two comparisons of ints -/
theorem eb_chain {tc : TE} {g g' : Int → Int → Bool} {i j k : Int} (ha : EvD K ta σ H (.int i)) (hb : EvD K tb σ H (.int j)) (hc : EvD K tc σ H (.int k)) :
    EvB (tTest (tChain (rI0 fun i j => .bl (g i j)) (rI0 fun i j => .bl (g' i j)) ta tb tc)) σ H (g i j && g' j k) := fun H1 e Q q =>
  ha H1 e _ fun v H2 e2 p => hb H2 (e.trans e2) _ fun u H3 e3 p' => by
    cases p
    cases p'
    refine ⟨i, j, rfl, rfl, g i j, rfl, ?_⟩
    cases hg : g i j with
    | true =>
      show tc σ H3 _
      refine hc H3 ((e.trans e2).trans e3) _ fun w H4 e4 p => ?_
      cases p
      refine ⟨j, k, rfl, rfl, g' j k, rfl, ?_⟩
      rw [hg, Bool.true_and] at q
      exact q H4 ((e2.trans e3).trans e4)
    | false =>
      show ∃ c, V.bl false = V.bl c ∧ Q c H3
      rw [hg, Bool.false_and] at q
      exact ⟨false, rfl, q H3 (e2.trans e3)⟩
theorem ed_any {bs : List Bool} (ha : EvD K ta σ H (.list (bs.map .bool))) : EvD K (tCB (rAny K) (tCons ta tNil)) σ H (.bool (bs.any id)) := fun H1 e Q q =>
  ha H1 e _ fun v H2 e2 p => by
    cases p with
    | @lst a xs _ hs hall =>
      rw [dpa_bls' hall] at hs
      exact ⟨a, bs, rfl, hs, q _ H2 e2 (.bl _)⟩
theorem ed_all {bs : List Bool} (ha : EvD K ta σ H (.list (bs.map .bool))) : EvD K (tCB (rAll K) (tCons ta tNil)) σ H (.bool (bs.all id)) := fun H1 e Q q =>
  ha H1 e _ fun v H2 e2 p => by
    cases p with
    | @lst a xs _ hs hall =>
      rw [dpa_bls' hall] at hs
      exact ⟨a, bs, rfl, hs, q _ H2 e2 (.bl _)⟩
end
section
variable {P : Program} {w : World} {K : PySem.W.Frag} {mg : Str → Option Value} {base : Heap}
theorem ok_dig {dt : Tok} (R : Raw K mg "_digits" sDig ["word"]) (mD : mg "DIGITS" = some (.str "0123456789" dt)) (ml : mg "len" = none) (ma : mg "any" = none) (mi : mg "int" = none) : Def P w K mg base CX0 1 "_digits" ["word"] (spF K FDig) := by
  refine R.ok fun f fd F => F.ok scDig (len_of fun ds d ⟨x, e, _⟩ => by rw [e]; rfl) (fun cdv A outer s H vs Q E hr h => ?_)
  obtain ⟨ds, d, p, ⟨x, rfl, hl, hcase⟩, q⟩ := h
  obtain ⟨v, rfl, p1⟩ := one_of p
  refine ⟨_, pss_cons (ps_if (PW.pt (pw_or (pt_not (pt_chain op_le op_le pe_int (pe_callB call_len_str (by rfl) ml PySem.boot_len (pa_cons (pv 0) pa_nil)) pe_int))
      (pw_or (pt_val (pe_callB (cr_any rfl) (by rfl) ma (by decide +kernel) (pa_cons (pe_lc (own := [("sign", 1)]) (g := gName 1) (tt := tYes) rfl scDig.nd (pi_str (pv 0)) (blkOk_by (N := ["word", "sign"]) (sc := defScope sDig) (by decide +kernel))
          (fun _ _ _ _ _ => pg_name (i := 1) scDig.nd rfl (Or.inl rfl)) (fun _ _ _ _ _ => pts_nil) (fun _ _ _ _ _ => pe_cmpR op_notIn_sign (pv 1) (pe_glob (v := .str "0123456789") (by rfl) mD ⟨_, rfl⟩) (by rfl))) pa_nil)))
        (pw_or1 (PW.pt (pw_and (pt_cmpR op_gt (pe_callB call_len_str (by rfl) ml PySem.boot_len (pa_cons (pv 0) pa_nil)) pe_int (nomark _)) (pw_and1 (pt_cmpR op_eq (pe_ix ix_str (pv 0) pe_int (fun _ _ => rfl)) pe_str (nomark _)))))))))
      (pss_one (ps_ret pe_non)) pss_nil)
    (pss_one (ps_ret (pe_callTy call_int_str (by rfl) mi (by decide +kernel) (pa_cons (pv 0) pa_nil)))), ?_⟩
  cases p1
  have px : EvD K (tVar 0) (start ["word", "sign"] [.str x]) H (.str x) := ed_var rfl (.str x)
  refine q_if (b := badW x) (eb_or (eb_not (eb_chain ed_int (ed_slen px (by omega)) ed_int)) fun hlen => eb_or (eb_B (K := K) (ed_any (bs := x.cps.toList.map fun c => !decide (c ∈ DG)) ?_)) fun _ => eb_and (eb_test (K := K) (ed_opI0 (ed_slen px (by omega)) ed_int fun _ => .bl _)) fun h1 => eb_test (K := K) ?_) (fun z H1 e1 => ?_) (fun z H1 e1 => ?_)
  · refine ed_lc (by rw [List.length_map, List.length_map]; have : x.length = x.cps.toList.length := TL.len_tl x; omega) (nol_bls _) fun H1 e1 R k => ⟨_, rfl, x, rfl, k _ H1 (Same.refl _) ⟨_, _, _, walk_str, by simp, fun _ _ => trivial, ?_⟩⟩
    rintro i y d H2 H3 hd e2 ⟨rfl, c, hc, rfl⟩
    rw [List.getElem?_map, List.getElem?_map, Array.getElem?_toList, hc] at hd
    cases hd
    refine gname_pure rfl ?_
    refine fun H4 e4 Q4 q4 => ⟨_, rfl, c, "0123456789", rfl, rfl, q4 _ H4 (Same.refl _) (.bl _)⟩
  · have h2 : (1 : Int) < x.length := of_decide_eq_true h1
    have hx : x.length = x.cps.toList.length := TL.len_tl x
    have h0 : 0 < x.cps.toList.length := by omega
    refine fun H1 e1 Q1 q1 => ⟨.str x, rfl, x, 0, x.cps.toList[0], rfl, rfl, Nat.le_of_lt (small1000 (by omega)), atI_nat (j := 0) (List.getElem?_eq_getElem h0), ?_, ?_⟩
    · rfl
    · have e : decide (V.str ⟨#[x.cps.toList[0]]⟩ = V.str "0") = decide (x.cps.toList[0]? = some 48) := by
        rw [List.getElem?_eq_getElem h0]
        by_cases h : x.cps.toList[0] = 48
        · rw [h]
          decide +kernel
        · rw [decide_eq_false fun z => h (Option.some.inj z)]
          refine decide_eq_false fun z => h ?_
          have z' := V.str.inj z
          have z2 : (#[x.cps.toList[0]] : Array Nat) = #[48] := congrArg Str.cps z'
          exact List.head_eq_of_cons_eq (congrArg Array.toList z2)
      rw [e]
      exact q1 _ H1 (Same.refl _) (.bl _)
  · rcases hcase with ⟨hb, rfl⟩ | ⟨hb, _⟩
    · exact q .non H1 e1 .non
    · rw [hb] at z; cases z
  · rcases hcase with ⟨hb, _⟩ | ⟨hb, n, hn, rfl⟩
    · rw [hb] at z; cases z
    · exact ⟨.str x, rfl, x, n, rfl, hn, by omega, q _ H1 e1 (.int n)⟩
end
end Lk
/-! fraction_by and _law_read. -/
namespace Lk
open PySem PySem.Spec PyProof.Rows L2
/-- the number with these digits -/
def numW (x : Str) : Option Int := if badW x = true then none else PySem.intText? x
def optD : Option Int → PyData
  | none => .none
  | some n => .int n
def optV : Option Int → V
  | none => .non
  | some n => .int n
def partsM (t : Str) : List Str := Txt.split (Txt.removeprefix t "-") "/"
def chk (t : Str) (f : Int × Int) : Option (Int × Int) := if isF f = true ∧ textM f = t then some f else none
def byN (t : Str) : List (Option Int) → Option (Int × Int)
  | [some a] => chk t (if Txt.startswith t "-" = true then -a else a, 1)
  | [some a, some b] => chk t (if Txt.startswith t "-" = true then -a else a, b)
  | _ => none
/-- fraction_by: none where it raises -/
def byM (t : Str) : Option (Int × Int) := byN t ((partsM t).map numW)
/-- texts that are asked: not long, their numbers small -/
def OkT (t : Str) : Prop := t.length ≤ 500 ∧ partsM t ≠ [] ∧ ∀ x ∈ partsM t, x.length ≤ 500 ∧ (badW x = false → ∃ n : Nat, PySem.intText? x = some (n : Int) ∧ n ≤ 1000)
theorem dp_opt {K : PySem.W.Frag} {H : Hp} {v : V} {o : Option Int} (h : Dp K H v (optD o)) : v = optV o := by
  cases o with
  | none => cases h; rfl
  | some n => cases h; rfl
theorem dpa_opt {K : PySem.W.Frag} {H : Hp} : ∀ {ns : List (Option Int)} {vs : List V}, DpAll K H vs (ns.map optD) → vs = ns.map optV
  | [], _, .nil => rfl
  | _ :: ns, _, .cons h t => by rw [List.map_cons, ← dpa_opt t, dp_opt h]
theorem nol_opt (l : List (Option Int)) : ∀ d ∈ l.map optD, NoL d := fun d hd => by
  obtain ⟨o, _, rfl⟩ := List.mem_map.mp hd
  cases o with
  | none => exact .non
  | some n => exact .int n
theorem inV_opt : ∀ ns : List (Option Int), inV .non (ns.map optV) = ns.any (·.isNone)
  | [] => rfl
  | none :: ns => rfl
  | some n :: ns => by
    have ih := inV_opt ns
    unfold inV at *
    rw [List.map_cons, List.any_cons, List.any_cons, ih]
    rfl
theorem flat_opt (ns : List (Option Int)) : (ns.map optV).all flatV = true := List.all_eq_true.mpr fun v hv => by
  obtain ⟨o, _, rfl⟩ := List.mem_map.mp hv
  cases o <;> rfl
theorem dpa_strs {K : PySem.W.Frag} {H : Hp} : ∀ (ns : List Str), DpAll K H (ns.map V.str) (ns.map PyData.str)
  | [] => .nil
  | n :: ns => .cons (.str n) (dpa_strs ns)
/-- the lengths of small numbers' texts -/
theorem tl_neg (m : Nat) : TL.tl (toString (Int.negSucc m) : Str) = 45 :: TL.numL (m + 1) := by
  have e : (toString (Int.negSucc m)) = "-" ++ toString (((m + 1 : Nat)) : Int) := rfl
  rw [e, TL.tl_ofString, String.toList_append, List.map_append, ← TL.tl_ofString (toString (((m + 1 : Nat)) : Int)), TL.tl_num]
  rfl
theorem tl_toString_len (i : Int) (h : i.natAbs ≤ 1000) : (toString i : Str).length ≤ 5 := by
  rw [TL.len_tl]
  cases i with
  | ofNat n =>
    have h : n ≤ 1000 := h
    have e : TL.tl (toString (Int.ofNat n) : Str) = TL.numL n := TL.tl_num n
    rw [e]
    exact Nat.le_trans (TL.numL_len (k := 4) (by decide) (by omega)) (by decide)
  | negSucc m =>
    have h : m + 1 ≤ 1000 := h
    rw [tl_neg, List.length_cons]
    have := TL.numL_len (n := m + 1) (k := 4) (by decide) (by omega)
    omega
theorem textM_len {f : Int × Int} (h1 : f.1.natAbs ≤ 1000) (h2 : f.2.natAbs ≤ 1000) : (textM f).length ≤ 1000 := by
  unfold textM
  have a := tl_toString_len f.1 h1
  have b := tl_toString_len f.2 h2
  split
  · omega
  · rw [TL.len_tl, TL.tl_append, TL.tl_append, TL.tl_append, List.length_append, List.length_append, List.length_append, ← TL.len_tl, ← TL.len_tl, ← TL.len_tl, ← TL.len_tl]
    have e1 : (Str.empty : Str).length = 0 := rfl
    have e2 : ("/" : Str).length = 1 := by decide +kernel
    omega
theorem log_small {i : Int} (h : i.natAbs ≤ 1000) : i.natAbs.log2 < 1920 := Nat.lt_of_lt_of_le (PySem.Flt.log2_lt_of (k := 10) (by decide) (by omega)) (by decide)
/-- its promise -/
def spBy (K : PySem.W.Frag) (C : Addr) : Sp := fun vs H Q E => ∃ t : Str, vs = [.str t] ∧ OkT t ∧
  (∀ f, byM t = some f → ∀ v H', Same H H' → Dp K H' v (fr f) → Q v H') ∧ (byM t = none → ∀ d H', Same H H' → H' d = some (.xd [("line", .int 1)]) → E (.ref C) (some d) H')
def FRead (ds : List PyData) (d : PyData) : Prop := ∃ t, ds = [.str t] ∧ OkT t ∧ d = match byM t with | some f => fr f | none => .list [.str "line", .int 1]
abbrev sRead : Stmt := topS 33
theorem scRead : FnScope ["_law_text", "error"] ["_law_text"] (defScope sRead) := ⟨rfl, rfl, rfl, by decide +kernel, rfl, by decide +kernel, by decide +kernel⟩
section
variable {K : PySem.W.Frag} {σ : L2.St} {H : Hp} {ta tb : TE}
theorem ed_rmp {x y : Str} (ha : EvD K ta σ H (.str x)) (hb : EvD K tb σ H (.str y)) (hl : x.length ≤ 1000) : EvD K (tM1 (fun x xs H Q => ∃ a b, x = .str a ∧ xs = [.str b] ∧ a.length ≤ sizeLine ∧ Q (.str (Txt.removeprefix a b)) H) ta tb) σ H (.str (Txt.removeprefix x y)) := fun H1 e Q q =>
  ha H1 e _ fun v H2 e2 p => by
    cases p
    refine ⟨⟨x, rfl⟩, hb H2 (e.trans e2) _ fun u H3 e3 p' => ?_⟩
    cases p'
    exact ⟨x, y, rfl, rfl, Nat.le_of_lt (small1000 hl), q _ H3 (e2.trans e3) (.str _)⟩
theorem ed_starts {x y : Str} (ha : EvD K ta σ H (.str x)) (hb : EvD K tb σ H (.str y)) : EvD K (tM1 (fun x xs H Q => ∃ a b, x = .str a ∧ xs = [.str b] ∧ Q (.bl (Txt.startswith a b)) H) ta tb) σ H (.bool (Txt.startswith x y)) := fun H1 e Q q =>
  ha H1 e _ fun v H2 e2 p => by
    cases p
    refine ⟨⟨x, rfl⟩, hb H2 (e.trans e2) _ fun u H3 e3 p' => ?_⟩
    cases p'
    exact ⟨x, y, rfl, rfl, q _ H3 (e2.trans e3) (.bl _)⟩
theorem ed_split {x y : Str} (ha : EvD K ta σ H (.str x)) (hb : EvD K tb σ H (.str y)) (hy : (y.length == 0) = false) (hl : x.length ≤ 900) : EvD K (tM1 (fun x xs H Q => ∃ a b, x = .str a ∧ xs = [.str b] ∧ (b.length == 0) = false ∧ a.length + 2 ≤ sizeLine ∧ rNewStrs (Txt.split a b) H Q) ta tb) σ H (.list ((Txt.split x y).map .str)) := fun H1 e Q q =>
  ha H1 e _ fun v H2 e2 p => by
    cases p
    refine ⟨⟨x, rfl⟩, hb H2 (e.trans e2) _ fun u H3 e3 p' => ?_⟩
    cases p'
    exact ⟨x, y, rfl, rfl, hy, Nat.le_of_lt (small1000 (by omega)), fun p hp => q _ _ ((e2.trans e3).trans (Evl.Ex.new hp)) (.lst (.inl (.inl upd_same)) (dpa_strs _))⟩
end
theorem byN_bad {t : Str} {ns : List (Option Int)} (h : (decide ((2 : Int) < ns.length) || ns.any (·.isNone)) = true) : byN t ns = none := by
  match ns, h with
  | [], _ => rfl
  | [none], _ => rfl
  | [some _], h => exact absurd h (by simp)
  | [none, _], _ => rfl
  | [some _, none], _ => rfl
  | [some _, some _], h => exact absurd h (by simp)
  | none :: _ :: _ :: _, _ => rfl
  | some _ :: none :: _ :: _, _ => rfl
  | some _ :: some _ :: _ :: _, _ => rfl
/-- one or two numbers, none wanting -/
theorem few {ns : List (Option Int)} (h0 : ns ≠ []) (h2 : ¬ (2 : Int) < ns.length) (hn : ns.any (·.isNone) = false) : (∃ a, ns = [some a]) ∨ ∃ a b, ns = [some a, some b] := by
  match ns, h0, h2, hn with
  | [some a], _, _, _ => exact .inl ⟨a, rfl⟩
  | [some a, some b], _, _, _ => exact .inr ⟨a, b, rfl⟩
  | [none], _, _, h => exact absurd h (by decide)
  | [none, _], _, _, h => exact absurd h (by simp)
  | [some _, none], _, _, h => exact absurd h (by simp)
  | _ :: _ :: _ :: _, _, h, _ => simp only [List.length_cons] at h; omega
section
variable {P : Program} {w : World} {K : PySem.W.Frag} {mg : Str → Option Value} {base : Heap}
theorem ok_by {C fI : Addr} (R : Raw K mg "fraction_by" sBy ["text"]) (T : PySem.BadX.LowTxt K mg C fI) (DD : Def P w K mg base CX0 1 "_digits" ["word"] (spF K FDig)) (DF : Def P w K mg base CX0 2 "is_fraction" ["thing"] (spF K FIsF))
    (DT : Def P w K mg base CX0 1 "fraction_text" ["x"] (spF K FText)) (ml : mg "len" = none) : Def P w K mg base (L2.CX P w) 3 "fraction_by" ["text"] (spBy K C) := by
  refine R.ok fun f fd F => F.okX scBy (fun vs H Q E h => ?_) (fun cdv A outer s H vs Q E hr h => ?_)
  · obtain ⟨t, rfl, _⟩ := h
    rfl
  obtain ⟨t, rfl, ⟨hl, hwne, hw⟩, kS, kN⟩ := h
  have hr1 : Room 1 _ := hr.mono (by decide)
  refine ⟨_, pss_cons (ps_set (i := 1) scBy.nd rfl (.inl rfl) (pe_split (pe_m1 PySem.F.slot_str_removeprefix PySem.F.type_str_removeprefix mt_removeprefix (pv 0) pe_str) pe_str))
    (pss_cons (ps_setLc (i := 2) (own := [("part", 5)]) (g := gName 5) (tt := tYes) rfl scBy.nd rfl rfl (sw_true rfl rfl rfl (by decide +kernel)) (pi_list (pv 1)) (blkOk_by (N := ["text", "parts", "numbers", "top", "found", "part"]) (sc := defScope sBy) (by decide +kernel))
        (fun _ _ _ _ _ => pg_name (i := 5) scBy.nd rfl (Or.inl rfl)) (fun _ _ _ _ _ => pts_nil) (fun _ _ _ _ _ => pe_d DD hr1 (by rfl) (pa_cons (pv 5) pa_nil)))
    (pss_cons (ps_if (PW.pt (pw_or (pt_cmpR op_gt (pe_callB call_len_seq (by rfl) ml PySem.boot_len (pa_cons (pv 1) pa_nil)) pe_int (nomark _)) (pw_or1 (pt_cmpR op_in_seq pe_non (pv 2) (by rfl)))))
        (pss_one (ps_raiseLow rfl T hr (takes_of rfl rfl rfl rfl) (pa_cons pe_int pa_nil))) pss_nil)
    (pss_cons (ps_set (i := 3) scBy.nd rfl (.inl rfl) (pe_ifExp (pt_val (pe_m1 PySem.F.slot_str_startswith PySem.F.type_str_startswith mt_startswith (pv 0) pe_str)) (pe_un un_neg (pe_ix ix_list (pv 2) pe_int (fun _ _ => rfl))) (pe_ix ix_list (pv 2) pe_int (fun _ _ => rfl))))
    (pss_cons (ps_set (i := 4) scBy.nd rfl (.inl rfl) (pe_tup (pa_cons (pv 3) (pa_cons (pe_ifExp (pt_cmpR op_eq (pe_callB call_len_seq (by rfl) ml PySem.boot_len (pa_cons (pv 1) pa_nil)) pe_int (nomark _)) (pe_ix ix_list (pv 2) pe_int (fun _ _ => rfl)) pe_int) pa_nil))))
    (pss_cons (ps_if (PW.pt (pw_or (pt_not (pt_val (pe_d DF hr (by rfl) (pa_cons (pv 4) pa_nil)))) (pw_or1 (pt_cmpR op_ne (pe_d DT hr1 (by rfl) (pa_cons (pv 4) pa_nil)) (pv 0) (nomark _)))))
        (pss_one (ps_raiseLow rfl T hr (takes_of rfl rfl rfl rfl) (pa_cons pe_int pa_nil))) pss_nil)
    (pss_one (ps_ret (pv 4)))))))), ?_⟩
  have hz : t.length ≤ sizeLine := Nat.le_of_lt (small1000 (by omega))
  have hrp : (Txt.removeprefix t "-").length ≤ t.length := PyProof.Rows.len_removeprefix t "-"
  have hpl : (partsM t).length ≤ 600 := by
    have := PyProof.Rows.split_le (Txt.removeprefix t "-") "/"
    unfold partsM
    omega
  have pt0 : EvD K (tVar 0) (start ["text", "parts", "numbers", "top", "found", "part"] [.str t]) H (.str t) := ed_var rfl (.str t)
  refine q_asg (K := K) (ed_split (ed_rmp pt0 ed_str (by omega)) ed_str rfl (by omega)) fun vp H1 e0 dp1 => ?_
  cases dp1 with
  | @lst p xs _ hsp hap =>
  have hxs : xs = (partsM t).map V.str := dpa_strs' hap
  subst hxs
  have dpp : ∀ {H'}, Same H1 H' → SqL K H' p ((partsM t).map V.str) := fun e => e.seq hsp
  have dp1 : Dp K H1 (.ref p) (.list ((partsM t).map PyData.str)) := .lst hsp hap
  -- numbers
  refine q_asg (K := K) (d := .list (((partsM t).map numW).map optD)) (ed_lc (by rw [List.length_map, List.length_map]; omega) (nol_opt _) fun H2 e2 R k => ⟨.ref p, rfl, p, rfl, ⟨_, dpp e2⟩, k _ H2 (Same.refl _) ⟨_, _, _, walk_list (xs := (partsM t).map V.str), by simp, fun H' e => dpp (e2.trans e), ?_⟩⟩) fun vn H2 e2 dn => ?_
  · rintro i y d H3 H4 hd e3 ⟨rfl, hy⟩
    rw [List.getElem?_map] at hy
    obtain ⟨x, hx, rfl⟩ : ∃ x, (partsM t)[i]? = some x ∧ V.str x = y := by
      cases e : (partsM t)[i]? with
      | none => rw [e] at hy; cases hy
      | some x => rw [e] at hy; exact ⟨x, rfl, Option.some.inj hy⟩
    rw [List.getElem?_map, List.getElem?_map, hx] at hd
    cases hd
    refine gname_pure rfl ?_
    obtain ⟨w1, w2⟩ := hw x (List.mem_of_getElem? hx)
    refine ed_call (F := FDig) (ea_cons (ed_var rfl (.str x)) ea_nil) ⟨x, rfl, by omega, ?_⟩
    unfold numW
    cases hb : badW x with
    | true => exact .inl ⟨rfl, by rw [if_pos rfl]; rfl⟩
    | false =>
      obtain ⟨n, hn, _⟩ := w2 hb
      exact .inr ⟨rfl, n, hn, by rw [if_neg Bool.false_ne_true, hn]; rfl⟩
  have hby : byM t = byN t ((partsM t).map numW) := rfl
  have hsm : ∀ a, some a ∈ (partsM t).map numW → a.natAbs ≤ 1000 := fun a ha => by
    obtain ⟨x, hx, e⟩ := List.mem_map.mp ha
    unfold numW at e
    cases hb : badW x with
    | true => rw [hb, if_pos rfl] at e; cases e
    | false =>
      obtain ⟨n, hn, hle⟩ := (hw x hx).2 hb
      rw [hb, if_neg Bool.false_ne_true, hn] at e
      cases e
      omega
  have hnl : ((partsM t).map numW).length = (partsM t).length := List.length_map _
  have hne : (partsM t).map numW ≠ [] := fun z => hwne (List.map_eq_nil_iff.mp z)
  generalize hns : (partsM t).map numW = ns at *
  have dp2 : Dp K H2 (.ref p) (.list ((partsM t).map PyData.str)) := dp_same e2 dp1
  have px : EvD K (tVar 1) [some (.str t), some (.ref p), some vn, none, none, none] H2 (.list ((partsM t).map PyData.str)) := ed_var rfl dp2
  have hlen : ((partsM t).map PyData.str).length = ns.length := by rw [List.length_map, hnl]
  -- if len(parts) > 2 or None in numbers
  refine q_when (b := decide ((2 : Int) < ns.length) || ns.any (·.isNone)) (eb_or (eb_test (K := K) (ed_opI0 ((ed_len px).is (by rw [hlen])) ed_int fun _ => .bl _)) fun _ => ?_) (fun z H3 e3 => ?_) (fun z H3 e3 => ?_)
  · intro H3 e3 Q3 q3
    cases dp_same e3 dn with
    | @lst a xs _ hs hall =>
      rw [dpa_opt hall] at hs
      refine ⟨.ref a, rfl, a, _, rfl, .inl hs, rfl, flat_opt ns, ns.any (·.isNone), ?_, q3 H3 (Same.refl _)⟩
      show V.bl (if false = true then _ else _) = _
      rw [if_neg Bool.false_ne_true, inV_opt]
  · refine ⟨.int 1, rfl, fun d hd => kN ?_ d _ ((e0.trans e2).trans (e3.trans (Evl.Ex.new hd))) upd_same⟩
    rw [hby]
    exact byN_bad z
  have z1 := of_decide_eq_false (Bool.or_eq_false_iff.mp z).1
  have z2 := (Bool.or_eq_false_iff.mp z).2
  -- top
  obtain ⟨a, rest, hnr, hrest⟩ : ∃ a rest, ns = some a :: rest ∧ (rest = [] ∨ ∃ b, rest = [some b]) := by
    rcases few hne z1 z2 with ⟨a, e⟩ | ⟨a, b, e⟩
    · exact ⟨a, [], e, .inl rfl⟩
    · exact ⟨a, [some b], e, .inr ⟨b, rfl⟩⟩
  have ha := hsm a (by rw [hnr]; exact List.mem_cons_self ..)
  have dn3 := dp_same e3 dn
  have pn : EvD K (tVar 2) [some (.str t), some (.ref p), some vn, none, none, none] H3 (.list (ns.map optD)) := ed_var rfl dn3
  have pn0 : ∀ {σ : L2.St}, EvD K (tVar 2) σ H3 (.list (ns.map optD)) → EvD K (tOp (rIxL K) (tVar 2) (tC (.int 0))) σ H3 (.int a) := fun h => ed_ixL 0 h ed_int rfl (by rw [hnr]; rfl)
  refine q_asg (K := K) (d := .int (if Txt.startswith t "-" = true then -a else a)) (ed_if (b := Txt.startswith t "-") (eb_B (K := K) (ed_starts (ed_var rfl (.str t)) ed_str))
    (fun z => by rw [if_pos z]; exact ed_neg (pn0 pn)) (fun z => by rw [z, if_neg Bool.false_ne_true]; exact pn0 pn)) fun vt H4 e4 dt => ?_
  generalize htop : (if Txt.startswith t "-" = true then -a else a) = top at *
  have htop' : top.natAbs ≤ 1000 := by rw [← htop]; split <;> omega
  -- found
  obtain ⟨b, hb, hb2, hbe⟩ : ∃ b : Int, b.natAbs ≤ 1000 ∧ byM t = chk t (top, b) ∧ ((rest = [] ∧ b = 1) ∨ rest = [some b]) := by
    rcases hrest with e | ⟨b, e⟩
    · exact ⟨1, by decide, by rw [hby, hnr, e]; show chk t (_, 1) = _; rw [htop], .inl ⟨e, rfl⟩⟩
    · exact ⟨b, hsm b (by rw [hnr, e]; exact List.mem_cons_of_mem _ (List.mem_cons_self ..)), by rw [hby, hnr, e]; show chk t (_, b) = _; rw [htop], .inr e⟩
  have px4 : EvD K (tVar 1) [some (.str t), some (.ref p), some vn, some vt, none, none] H4 (.list ((partsM t).map PyData.str)) := ed_var rfl (dp_same (e3.trans e4) dp2)
  have pn4 : EvD K (tVar 2) [some (.str t), some (.ref p), some vn, some vt, none, none] H4 (.list (ns.map optD)) := ed_var rfl (dp_same e4 dn3)
  refine q_asg (K := K) (d := fr (top, b)) (ed_tup (ea_cons (ed_var rfl dt) (ea_cons (d := .int b) (ed_if (b := decide ((ns.length : Int) = 2)) (eb_test (K := K) (ed_eqI ((ed_len px4).is (by rw [hlen])) ed_int)) (fun z => ?_) (fun z => ?_)) ea_nil)) (by show 2 ≤ 1000; decide)) fun vf H5 e5 df => ?_
  · have z := of_decide_eq_true z
    rcases hbe with ⟨e, _⟩ | e
    · rw [hnr, e] at z
      exact absurd z (by simp)
    · exact ed_ixL 1 pn4 ed_int rfl (by rw [hnr, e]; rfl)
  · have z := of_decide_eq_false z
    rcases hbe with ⟨_, e⟩ | e
    · rw [e]; exact ed_int
    · rw [hnr, e] at z
      exact absurd rfl z
  have pf : EvD K (tVar 4) [some (.str t), some (.ref p), some vn, some vt, some vf, none] H5 (fr (top, b)) := ed_var rfl df
  -- if not is_fraction(found) or fraction_text(found) != text
  refine q_when (b := !isF (top, b) || !decide (textM (top, b) = t)) (eb_or (eb_not (eb_B (K := K) (ed_call (F := FIsF) (ea_cons pf ea_nil) ⟨_, rfl, rfl⟩))) fun _ => eb_test (K := K) (ed_ne (ed_call (F := FText) (ea_cons pf ea_nil) ⟨_, rfl, ⟨log_small htop', log_small hb, textM_len htop' hb⟩, rfl⟩) (ed_var rfl (.str t)) (.str _) (.str _) rfl ?_)) (fun z H6 e6 => ?_) (fun z H6 e6 => ?_)
  · by_cases h : textM (top, b) = t
    · rw [decide_eq_true h, h]; exact congrArg not (decide_eq_true rfl)
    · rw [decide_eq_false h]; exact congrArg not (decide_eq_false fun z => h (V.str.inj z))
  · refine ⟨.int 1, rfl, fun d hd => kN ?_ d _ ((e0.trans e2).trans ((e3.trans e4).trans ((e5.trans e6).trans (Evl.Ex.new hd)))) upd_same⟩
    rw [hb2]
    unfold chk
    rw [if_neg]
    rintro ⟨c1, c2⟩
    rw [c1, decide_eq_true c2] at z
    exact absurd z (by decide)
  · have z3 := (Bool.or_eq_false_iff.mp z)
    have c1 : isF (top, b) = true := by cases h : isF (top, b) <;> simp [h] at z3 ⊢
    have c2 : textM (top, b) = t := by
      by_cases h : textM (top, b) = t
      · exact h
      · rw [decide_eq_false h] at z3; exact absurd z3.2 (by decide)
    refine ⟨vf, rfl, kS (top, b) ?_ vf H6 ((e0.trans e2).trans ((e3.trans e4).trans (e5.trans e6))) (dp_same e6 df)⟩
    rw [hb2]
    unfold chk
    rw [if_pos ⟨c1, c2⟩]
theorem ok_read {C fI : Addr} (R : Raw K mg "_law_read" sRead ["_law_text"]) (T : PySem.BadX.LowTxt K mg C fI) (D : Def P w K mg base (L2.CX P w) 3 "fraction_by" ["text"] (spBy K C)) : Def P w K mg base CX0 4 "_law_read" ["_law_text"] (spF K FRead) := by
  refine R.ok fun f fd F => F.ok scRead (len_of fun ds d ⟨x, e, _⟩ => by rw [e]; rfl) (fun cdv A outer s H vs Q E hr h => ?_)
  obtain ⟨ds, d, p, ⟨t, rfl, hT, rfl⟩, q⟩ := h
  obtain ⟨v, rfl, p1⟩ := one_of p
  cases p1
  obtain ⟨fb, fdb, gb, FB, kb, bb⟩ := D.ex
  refine ⟨_, pss_one (ps_try_as (i := 1) (tb := fun W => tRet (tCallS (spBy K C) (WE W) (tCons (tVar 0) tNil))) (ts := fun a cls d => tRet (tLst (tCons (tC (.str "line")) (tCons (L2.tByLow C a cls d (tVar 1)) tNil)))) (Wout := fun _ _ _ _ => False)
    rfl rfl scRead.nd rfl rfl ⟨rfl, by decide, Or.inl T.gC⟩ takes0
    (fun W pn xe tk _ => pss_one (ps_ret (by exact (pe_callS FB hr rfl gb kb bb (fun σ => passAt tk σ) (by exact (pa_cons (pv 0) pa_nil))))))
    (fun a oe cls d pn hz hf => pss_one (ps_ret (pe_lst (by exact (pa_cons pe_str (pa_cons (pe_byLow T hz hf (pv 1)) pa_nil))))))), ?_⟩
  refine ⟨_, rfl, t, rfl, hT, fun f hf v H' e p => ?_, fun hn d H' e hd => ?_⟩
  · rw [hf] at q
    exact q v H' e p
  · rw [hn] at q
    refine ⟨true, T.te, fun _ a ha => ?_, fun z => Bool.noConfusion z⟩
    refine ⟨_, rfl, rfl, rfl, d, _, rfl, hd, (by show 2 ≤ sizeLine; decide), fun p hp => q _ _ (e.trans (Evl.Ex.new hp)) (.lst (.inl (.inl upd_same)) (.cons (.str _) (.cons (.int _) .nil)))⟩
end
end Lk
/-! The law's own helpers: lowest terms, sums, sameness. -/
namespace Lk
open PySem PySem.Spec PyProof.Rows L2
abbrev sSame : Stmt := topS 29
abbrev sLow : Stmt := topS 31
abbrev sSum : Stmt := topS 32
theorem scSame : FnScope ["_law_got", "_law_goal", "_law_mine_so", "_law_own"] ["_law_got", "_law_goal"] (defScope sSame) := ⟨rfl, rfl, rfl, by decide +kernel, rfl, by decide +kernel, by decide +kernel⟩
theorem scLow : FnScope ["_law_top", "_law_bottom", "_law_one", "_law_other"] ["_law_top", "_law_bottom"] (defScope sLow) := ⟨rfl, rfl, rfl, by decide +kernel, rfl, by decide +kernel, by decide +kernel⟩
theorem scSum : FnScope ["_law_x", "_law_y"] ["_law_x", "_law_y"] (defScope sSum) := ⟨rfl, rfl, rfl, by decide +kernel, rfl, by decide +kernel, by decide +kernel⟩
/-- data of this depth at most -/
inductive Dep : Nat → PyData → Prop
  | bl (n : Nat) (b : Bool) : Dep n (.bool b)
  | int (n : Nat) (i : Int) : Dep n (.int i)
  | str (n : Nat) (x : Str) : Dep n (.str x)
  | lst {n : Nat} {ds : List PyData} : ds.length ≤ 900 → (∀ d ∈ ds, Dep n d) → Dep (n + 1) (.list ds)
  | tup {n : Nat} {ds : List PyData} : ds.length ≤ 900 → (∀ d ∈ ds, Dep n d) → Dep (n + 1) (.tuple ds)
def FSame (n : Nat) (ds : List PyData) (d : PyData) : Prop := ∃ e, ds = [e, e] ∧ Dep n e ∧ d = .bool true
/-- the statements of the branch for lists and tuples -/
def brSame : List Stmt := match defBody sSame with
  | .If _ b _ _ :: _ => b
  | _ => []
section
variable {K : PySem.W.Frag} {σ : L2.St} {H : Hp} {ta tb te : TE} {d : PyData}
theorem ed_eqB {i j : Bool} (ha : EvD K ta σ H (.bool i)) (hb : EvD K tb σ H (.bool j)) : EvD K (tOp rEq ta tb) σ H (.bool (decide (i = j))) := ed_eq ha hb (.bl i) (.bl j) rfl (by cases i <;> cases j <;> rfl)
theorem ed_neB {i j : Bool} (ha : EvD K ta σ H (.bool i)) (hb : EvD K tb σ H (.bool j)) : EvD K (tOp rNe ta tb) σ H (.bool (!decide (i = j))) := ed_ne ha hb (.bl i) (.bl j) rfl (by cases i <;> cases j <;> rfl)
theorem ed_eqS {i j : Str} (ha : EvD K ta σ H (.str i)) (hb : EvD K tb σ H (.str j)) : EvD K (tOp rEq ta tb) σ H (.bool (decide (i = j))) := ed_eq ha hb (.str i) (.str j) rfl (by
  by_cases h : i = j
  · rw [decide_eq_true h, h]; exact decide_eq_true rfl
  · rw [decide_eq_false h]; exact decide_eq_false fun z => h (V.str.inj z))
/-- is None of what is none -/
theorem ed_isN (ha : EvD K ta σ H d) (h : d ≠ .none) : EvD K (tOp (fun x y H Q => y = .non ∧ Q (.bl (decide (x = .non))) H) ta (tC .non)) σ H (.bool false) := fun H1 e Q q =>
  ha H1 e _ fun v H2 e2 p => ⟨rfl, by
    have z : v ≠ .non := fun z => by
      subst z
      cases p
      exact h rfl
    rw [decide_eq_false z]
    exact q _ H2 e2 (.bl false)⟩
/-- len of a list or a tuple -/
theorem ed_lenA {ds : List PyData} (hd : d = .list ds ∨ d = .tuple ds) (ha : EvD K ta σ H d) : EvD K (tCB (fun xs H Q => ∃ p ys, xs = [.ref p] ∧ (SqL K H p ys ∨ SqT K H p ys) ∧ Q (.int ys.length) H) (tCons ta tNil)) σ H (.int ds.length) := by
  rcases hd with e | e
  · rw [e] at ha; exact ed_len ha
  · rw [e] at ha; exact ed_lenT ha
end
theorem walk_zipT {K : PySem.W.Frag} {a b : Addr} {xs ys : List V} {n : Nat} (hn : n = min xs.length ys.length) : Walk (RZ.ItzT K a b) n (fun H => SqT K H a xs ∧ SqT K H b ys) (YPair (fun i => xs[i]?) (fun i => ys[i]?)) := by
  subst hn
  constructor
  · intro i G lt both
    have inA : i < xs.length := by omega
    have inB : i < ys.length := by omega
    exact ⟨xs, ys, xs[i], ys[i], both.1, both.2, List.getElem?_eq_getElem inA, List.getElem?_eq_getElem inB⟩
  · intro G both
    exact ⟨xs, ys, both.1, both.2, by omega⟩
  · intro i G v G' _ both got
    obtain ⟨T, x, z, p1, p2, p3, ofA, ofB⟩ := got
    exact ⟨T, x, z, p1, p2, p3, ofA xs both.1, ofB ys both.2⟩
section
variable {P : Program} {w : World} {K : PySem.W.Frag} {mg : Str → Option Value} {base : Heap}
theorem ok_low (R : Raw K mg "_law_low" sLow ["_law_top", "_law_bottom"]) (ma : mg "abs" = none) : Def P w K mg base CX0 1 "_law_low" ["_law_top", "_law_bottom"] (spF K FFrac) := by
  refine R.ok fun f fd F => F.ok scLow (len_of fun ds d ⟨t, b, e, _⟩ => by rw [e]; rfl) (fun cdv A outer s H vs Q E hr h => ?_)
  obtain ⟨ds, d, p, ⟨t, b, rfl, hb, rfl⟩, q⟩ := h
  obtain ⟨v, u, rfl, p1, p2⟩ := two_of p
  cases p1
  cases p2
  refine ⟨_, pss_cons (ps_if (pt_cmpR op_lt (pv 1) pe_int (nomark _)) (pss_one (ps_par (i := 0) (j := 1) (by rfl) scLow.nd rfl rfl (by decide) rfl rfl (pa_cons (pe_op op_sub pe_int (pv 0)) (pa_cons (pe_op op_sub pe_int (pv 1)) pa_nil)) (by rfl))) pss_nil)
    (pss_cons (ps_par (i := 2) (j := 3) (by rfl) scLow.nd rfl rfl (by decide) rfl rfl (pa_cons (pe_callB call_abs (by rfl) ma (by decide +kernel) (pa_cons (pv 0) pa_nil)) (pa_cons (pv 1) pa_nil)) (by rfl))
    (pss_cons (ps_while PassesOwn.never (pt_cmpR op_gt (pv 3) pe_int (nomark _)) (pss_one (ps_par (i := 2) (j := 3) (by rfl) scLow.nd rfl rfl (by decide) rfl rfl (pa_cons (pv 3) (pa_cons (pe_op op_mod (pv 2) (pv 3)) pa_nil)) (by rfl))))
    (pss_one (ps_ret (pe_tup (pa_cons (pe_op op_fdivA (pv 0) (pv 2)) (pa_cons (pe_op op_fdivA (pv 1) (pv 2)) pa_nil))))))), ?_⟩
  have rest : ∀ (t b : Int) (H1 : Hp), 0 < b → W9 b → (∀ v H', Same H1 H' → Dp K H' v (fr (nf t b)) → Q v H') →
      tSeq (tPar 2 3 (tCons (tCB (fun xs H Q => ∃ i, xs = [V.int i] ∧ Q (.int (if i < 0 then -i else i)) H) (tCons (tVar 0) tNil)) (tCons (tVar 1) tNil)))
        (tSeq (tWhile (tTest (tOp (rI0 fun i j => .bl (decide (j < i))) (tVar 3) (tC (.int 0)))) (tPar 2 3 (tCons (tVar 3) (tCons (tOp (rI (fun _ j => 0 < j) fun i j => .int (i % j)) (tVar 2) (tVar 3)) tNil))))
          (tRet (tTup (tCons (tOp (rI CDivA fun i j => .int (i.fdiv j)) (tVar 0) (tVar 2)) (tCons (tOp (rI CDivA fun i j => .int (i.fdiv j)) (tVar 1) (tVar 2)) tNil)))))
        { nx := fun _ H' => Q .non H', rt := Q } [some (.int t), some (.int b), none, none] H1 := by
    intro t b H1 hb hw q
    refine ⟨.int t, rfl, t, rfl, .int b, rfl, _, _, rfl, ?_⟩
    refine ⟨fun m σ H' => ∃ o e : Int, σ = [some (.int t), some (.int b), some (.int o), some (.int e)] ∧ H' = H1 ∧ 0 ≤ o ∧ 0 ≤ e ∧ gg o e = gg t b ∧ m = e.toNat, ⟨b.toNat, (if t < 0 then -t else t), b, rfl, rfl, by split <;> omega, by omega, ?_, rfl⟩, ?_⟩
    · unfold gg
      have : (if t < 0 then -t else t).natAbs = t.natAbs := by split <;> omega
      rw [this]
    · rintro m σ H' ⟨o, e, rfl, rfl, ho, he, hg, rfl⟩
      refine ⟨.int e, rfl, e, 0, rfl, rfl, decide (0 < e), rfl, ite2 (fun z => ?_) (fun z => ?_)⟩
      · have z := of_decide_eq_true z
        have hm := Int.emod_lt_of_pos o z
        have hm0 := Int.emod_nonneg o (b := e) (by omega)
        refine ⟨fun σ' H3 => ∃ o' e' : Int, σ' = [some (.int t), some (.int b), some (.int o'), some (.int e')] ∧ H3 = H' ∧ 0 ≤ o' ∧ 0 ≤ e' ∧ gg o' e' = gg t b ∧ e' < e, ?_, ?_⟩
        · rintro σ' H3 ⟨o', e', rfl, rfl, h1, h2, h3, h4⟩
          exact ⟨e'.toNat, by omega, o', e', rfl, rfl, h1, h2, h3, rfl⟩
        · refine ⟨.int e, rfl, .int o, rfl, .int e, rfl, o, e, rfl, rfl, z, _, _, rfl, e, o % e, rfl, rfl, by omega, hm0, ?_, hm⟩
          rw [gg_step ho z, hg]
      · have z : ¬ 0 < e := fun y => z (decide_eq_true y)
        have e0 : e = 0 := by omega
        subst e0
        rw [gg_zero ho] at hg
        subst hg
        have c := cdiv_gg (t := t) hw (gg t b) (.inl rfl)
        refine s_ret (K := K) (ed_tup (ea_cons (ed_fdiv (ed_var rfl (.int t)) (ed_var rfl (.int (gg t b))) c.1) (ea_cons (ed_fdiv (ed_var rfl (.int b)) (ed_var rfl (.int (gg t b))) c.2) ea_nil)) (by show 2 ≤ 1000; decide)) fun v H3 e3 p => ?_
        refine q v H3 e3 ?_
        unfold nf
        rw [if_neg (by omega)]
        exact p
  refine q_when (b := decide (b < 0)) (eb_test (K := K) (ed_opI0 (ed_var rfl (.int b)) ed_int fun _ => .bl _)) (fun z H1 e1 => ?_) (fun z H1 e1 => ?_)
  · have z := of_decide_eq_true z
    have n : nf (0 - t) (0 - b) = nf t b := nf_eq (by omega) hb.1 (by grind)
    refine s_par (K := K) (ea_cons (ed_sub ed_int (ed_var rfl (.int t))) (ea_cons (ed_sub ed_int (ed_var rfl (.int b))) ea_nil)) fun v1 v2 H2 e2 k1 k2 => ?_
    cases k1
    cases k2
    exact rest (0 - t) (0 - b) H2 (by omega) ⟨by omega, by have := hb.2; rw [show (0 - b).natAbs = b.natAbs by omega]; exact this⟩ fun v H' e p => q v H' ((e1.trans e2).trans e) (by rw [← n]; exact p)
  · have z := of_decide_eq_false z
    exact rest t b H1 (by have := hb.1; omega) hb fun v H' e p => q v H' (e1.trans e) p
theorem ok_sum (R : Raw K mg "_law_sum" sSum ["_law_x", "_law_y"]) (D : Def P w K mg base CX0 1 "_law_low" ["_law_top", "_law_bottom"] (spF K FFrac)) : Def P w K mg base CX0 2 "_law_sum" ["_law_x", "_law_y"] (spF K (F2 plusM CB)) := by
  refine R.ok fun f fd F => F.ok scSum (len_of fun ds d ⟨x, y, e, _⟩ => by rw [e]; rfl) (fun cdv A outer s H vs Q E hr h => ?_)
  obtain ⟨ds, d, p, ⟨x, y, rfl, ⟨hy, hy'⟩, hb, rfl⟩, q⟩ := h
  obtain ⟨v, u, rfl, p1, p2⟩ := two_of p
  refine ⟨_, pss_one (ps_ret (pe_d D hr (by rfl) (pa_cons (pe_op op_add (pe_op op_mul (pe_ix ix_tup (pv 0) pe_int (fun _ _ => rfl)) (pe_ix ix_tup (pv 1) pe_int (fun _ _ => rfl))) (pe_op op_mul (pe_ix ix_tup (pv 1) pe_int (fun _ _ => rfl)) (pe_ix ix_tup (pv 0) pe_int (fun _ _ => rfl))))
    (pa_cons (pe_op op_mul (pe_ix ix_tup (pv 0) pe_int (fun _ _ => rfl)) (pe_ix ix_tup (pv 1) pe_int (fun _ _ => rfl))) pa_nil)))), ?_⟩
  have px : EvD K (tVar 0) (start ["_law_x", "_law_y"] [v, u]) H (fr x) := ed_var rfl p1
  have py : EvD K (tVar 1) (start ["_law_x", "_law_y"] [v, u]) H (fr y) := ed_var rfl p2
  refine s_ret (K := K) (ed_call (F := FFrac) (ea_cons (ed_add (ed_mul (ed_top px) (ed_bot py) (.inr hy')) (ed_mul (ed_top py) (ed_bot px) (.inl hy))) (ea_cons (ed_mul (ed_bot px) (ed_bot py) (.inr hy')) ea_nil)) ⟨_, _, rfl, hb, rfl⟩) fun v H3 e3 p => ?_
  exact q v H3 e3 p
/-- the facts of the module that sameness asks -/
structure SameTxt (K : PySem.W.Frag) (mg : Str → Option Value) : Prop where
  R : Raw K mg "_law_same" sSame ["_law_got", "_law_goal"]
  mi : mg "isinstance" = none
  mli : mg "list" = none
  mt : mg "tuple" = none
  mb : mg "bool" = none
  ms : mg "str" = none
  mint : mg "int" = none
  ml : mg "len" = none
  ma : mg "all" = none
  mz : mg "zip" = none
theorem ok_same (T : SameTxt K mg) : ∀ n : Nat, Def P w K mg base CX0 (n + 1) "_law_same" ["_law_got", "_law_goal"] (spF K (FSame n)) := by
  have key : ∀ n : Nat, (n = 0 ∨ ∃ m, n = m + 1 ∧ Def P w K mg base CX0 n "_law_same" ["_law_got", "_law_goal"] (spF K (FSame m))) → Def P w K mg base CX0 (n + 1) "_law_same" ["_law_got", "_law_goal"] (spF K (FSame n)) := by
    intro n ih
    refine T.R.ok fun f fd F => F.ok scSame (len_of fun ds d ⟨e, z, _⟩ => by rw [z]; rfl) (fun cdv A outer s H vs Q E hr h => ?_)
    obtain ⟨ds, d, p, ⟨e, rfl, hdep, rfl⟩, q⟩ := h
    obtain ⟨v, u, rfl, p1, p2⟩ := two_of p
    have br : ∃ tb : TS, PSs (cxOf CX0 P w K mg base ["_law_got", "_law_goal", "_law_mine_so", "_law_own"] "_law_same" (defScope sSame) f cdv A outer s H E).nox brSame tb ∧
        ∀ ds, (e = .list ds ∨ e = .tuple ds) → ∀ D H1, Same H H1 → (∀ v H', Same H1 H' → Dp K H' v (.bool true) → D.rt v H') → tb D [some v, some u, none, none] H1 := by
      rcases ih with z | ⟨m, rfl, DS⟩
      · refine ⟨_, pss_cons ps_never (pss_one ps_never), fun ds z2 => ?_⟩
        subst z
        rcases z2 with z2 | z2 <;> (rw [z2] at hdep; cases hdep)
      · refine ⟨_, pss_cons (ps_if (PW.pt (pw_or (pt_cmpR op_ne (pe_callB call_isi (by rfl) T.mi (by decide +kernel) (pa_cons (pv 0) (pa_cons (pe_bltn (v := .ty "list") (by rfl) T.mli (by decide +kernel) rfl) pa_nil))) (pe_callB call_isi (by rfl) T.mi (by decide +kernel) (pa_cons (pv 1) (pa_cons (pe_bltn (v := .ty "list") (by rfl) T.mli (by decide +kernel) rfl) pa_nil))) (nomark _))
            (pw_or1 (pt_cmpR op_ne (pe_callB call_isi (by rfl) T.mi (by decide +kernel) (pa_cons (pv 0) (pa_cons (pe_bltn (v := .ty "tuple") (by rfl) T.mt (by decide +kernel) rfl) pa_nil))) (pe_callB call_isi (by rfl) T.mi (by decide +kernel) (pa_cons (pv 1) (pa_cons (pe_bltn (v := .ty "tuple") (by rfl) T.mt (by decide +kernel) rfl) pa_nil))) (nomark _))))) (pss_one (ps_ret pe_bl)) pss_nil)
          (pss_one (ps_ret (pe_and (pe_cmpR op_eq (pe_callB call_len_seq (by rfl) T.ml PySem.boot_len (pa_cons (pv 0) pa_nil)) (pe_callB call_len_seq (by rfl) T.ml PySem.boot_len (pa_cons (pv 1) pa_nil)) (nomark _))
            (pe_one (pe_callB (cr_all rfl) (by rfl) T.ma (by decide +kernel) (pa_cons (pe_lc (own := [("_law_mine_so", 2), ("_law_own", 3)]) (g := gTup K 2 (gCons (gName 2) (gCons (gName 3) gNil))) (tt := tYes) rfl scSame.nd (RZ.pi_zipA (by rfl) T.mz (pa_cons (pv 0) (pa_cons (pv 1) pa_nil)))
              (blkOk_by (N := ["_law_got", "_law_goal", "_law_mine_so", "_law_own"]) (sc := defScope sSame) (by decide +kernel)) (fun _ _ _ _ _ => pg_tup (by rfl) (pgs_cons (pg_name (i := 2) scSame.nd rfl (Or.inl rfl)) (pgs_cons (pg_name (i := 3) scSame.nd rfl (Or.inl rfl)) pgs_nil))) (fun _ _ _ _ _ => pts_nil)
              (fun _ _ _ _ _ => pe_d DS hr (by rfl) (pa_cons (pv 2) (pa_cons (pv 3) pa_nil)))) pa_nil)))))), fun ds hds D H1 e1 q1 => ?_⟩
        have hd2 : ds.length ≤ 900 ∧ ∀ d ∈ ds, Dep m d := by
          rcases hds with z | z <;> (rw [z] at hdep; cases hdep with | _ h1 h2 => exact ⟨h1, h2⟩)
        have g0 : EvD K (tVar 0) [some v, some u, none, none] H1 e := ed_var rfl (dp_same e1 p1)
        have g1 : EvD K (tVar 1) [some v, some u, none, none] H1 e := ed_var rfl (dp_same e1 p2)
        obtain ⟨a, b, ha, hb⟩ : ∃ a b, kitB (tyD e) "list" = some a ∧ kitB (tyD e) "tuple" = some b := by
          rcases hds with z | z
          · rw [z]
            exact ⟨true, false, by show kitB "list" "list" = _; decide +kernel, by show kitB "list" "tuple" = _; decide +kernel⟩
          · rw [z]
            exact ⟨false, true, by show kitB "tuple" "list" = _; decide +kernel, by show kitB "tuple" "tuple" = _; decide +kernel⟩
        refine q_when (b := false) (eb_or (a := false) (b := false) ((eb_test (K := K) (ed_neB (ed_isi g0 ha) (ed_isi g1 ha))).is (by simp)) fun _ => (eb_test (K := K) (ed_neB (ed_isi g0 hb) (ed_isi g1 hb))).is (by simp)) (fun z => nomatch z) (fun _ H2 e2 => ?_)
        refine s_ret (K := K) (d := .bool true) (ed_andV (a := true) (b := true) ((ed_eqI (ed_lenA hds (g0.mono e2)) (ed_lenA hds (g1.mono e2))).is (by rw [decide_eq_true rfl])) fun _ => (ed_all (bs := ds.map fun _ => true) ?_).is (by simp)) fun w H3 e3 p3 => q1 w H3 (e2.trans e3) p3
        have hlen : ((ds.map fun _ => true).map PyData.bool).length = ds.length := by rw [List.length_map, List.length_map]
        refine ed_lc (by omega) (nol_bls _) fun H3 e3 R k => ?_
        have e13 := e1.trans (e2.trans e3)
        have turn : ∀ (xs ys : List V) (H3 : Hp), Same H H3 → DpAll K H3 xs ds → DpAll K H3 ys ds → ∀ i x d H' H'', ((ds.map fun _ => true).map PyData.bool)[i]? = some d → Same H3 H' → YPair (fun i => xs[i]?) (fun i => ys[i]?) i H' x H'' →
            ∀ R : L2.St → Hp → Prop, (∀ σ2 H2, wipe σ2 [2, 3] = wipe [some v, some u, none, none] [2, 3] → Same H' H2 → EvD K (tCall (spF K (FSame m)) [] E0 (tCons (tVar 2) (tCons (tVar 3) tNil))) σ2 H2 d → R σ2 H2) →
            gTup K 2 (gCons (gName 2) (gCons (gName 3) gNil)) x (wipe [some v, some u, none, none] [2, 3]) H'' R := by
          rintro xs ys H3 e03 hx hy i x d H' H'' hd e4 ⟨Ta, x1, y1, rfl, hT, rfl, hx1, hy1⟩ R k
          obtain ⟨d1, hd1, q1⟩ := dpa_get' hx hx1
          obtain ⟨d2, hd2', q2⟩ := dpa_get' hy hy1
          have : d1 = d2 := Option.some.inj (hd1.symm.trans hd2')
          subst this
          rw [List.getElem?_map, List.getElem?_map, hd1] at hd
          cases hd
          have eT : Same H' (upd H' Ta (.tup [x1, y1])) := Evl.Ex.new hT
          refine ⟨Ta, [x1, y1], rfl, .inl (.inl upd_same), rfl, x1, [y1], rfl, y1, [], rfl, rfl, k _ _ rfl eT ?_⟩
          exact ed_call (F := FSame m) (ea_cons (ed_var rfl (dp_same (e4.trans eT) q1)) (ea_cons (ed_var rfl (dp_same (e4.trans eT) q2)) ea_nil)) ⟨d1, rfl, hd2.2 d1 (List.mem_of_getElem? hd1), rfl⟩
        rcases hds with z | z
        · subst z
          cases dp_same e13 p1 with
          | @lst a xs _ hs ha2 =>
            cases dp_same e13 p2 with
            | @lst b ys _ hs2 hb2 =>
              have l1 := dpa_len ha2
              have l2 := dpa_len hb2
              refine ⟨_, rfl, _, rfl, a, b, xs, ys, rfl, .inl ⟨hs, hs2, k _ H3 (Same.refl _) ⟨ds.length, _, _, walk_zip (xs := xs) (ys := ys) (by omega), hlen.symm, fun H' e => ⟨e.seq hs, e.seq hs2⟩, turn xs ys H3 e13 ha2 hb2⟩⟩⟩
        · subst z
          cases dp_same e13 p1 with
          | @tup a xs _ hs ha2 =>
            cases dp_same e13 p2 with
            | @tup b ys _ hs2 hb2 =>
              have l1 := dpa_len ha2
              have l2 := dpa_len hb2
              refine ⟨_, rfl, _, rfl, a, b, xs, ys, rfl, .inr ⟨hs, hs2, k _ H3 (Same.refl _) ⟨ds.length, _, _, walk_zipT (xs := xs) (ys := ys) (by omega), hlen.symm, fun H' e => ⟨Evl.ex_t e hs, Evl.ex_t e hs2⟩, turn xs ys H3 e13 ha2 hb2⟩⟩⟩
    obtain ⟨tb, hb, rb⟩ := br
    refine ⟨_, pss_cons (ps_if (pt_val (pe_callB call_isiT (by rfl) T.mi (by decide +kernel) (pa_cons (pv 1) (pa_cons (pe_tup (pa_cons (pe_bltn (v := .ty "list") (by rfl) T.mli (by decide +kernel) rfl) (pa_cons (pe_bltn (v := .ty "tuple") (by rfl) T.mt (by decide +kernel) rfl) pa_nil))) pa_nil)))) hb pss_nil)
      (pss_cons (ps_if (PW.pt (pw_or (pt_cmpR op_isN (pv 1) pe_non (nomark _)) (pw_or1 (pt_val (pe_callB call_isiT (by rfl) T.mi (by decide +kernel) (pa_cons (pv 1) (pa_cons (pe_tup (pa_cons (pe_bltn (v := .ty "bool") (by rfl) T.mb (by decide +kernel) rfl) (pa_cons (pe_bltn (v := .ty "str") (by rfl) T.ms (by decide +kernel) rfl) pa_nil))) pa_nil)))))))
        (pss_one (ps_ret (pe_and (pe_cmpR op_eq (pv 0) (pv 1) (nomark _)) (pe_and (pe_cmpR op_eq (pe_callB call_isi (by rfl) T.mi (by decide +kernel) (pa_cons (pv 0) (pa_cons (pe_bltn (v := .ty "bool") (by rfl) T.mb (by decide +kernel) rfl) pa_nil))) (pe_callB call_isi (by rfl) T.mi (by decide +kernel) (pa_cons (pv 1) (pa_cons (pe_bltn (v := .ty "bool") (by rfl) T.mb (by decide +kernel) rfl) pa_nil))) (nomark _))
          (pe_one (pe_cmpR op_eq (pe_cmpR op_isN (pv 0) pe_non (nomark _)) (pe_cmpR op_isN (pv 1) pe_non (nomark _)) (nomark _))))))) pss_nil)
      (pss_one (ps_ret (pe_and (pe_callB call_isi (by rfl) T.mi (by decide +kernel) (pa_cons (pv 0) (pa_cons (pe_bltn (v := .ty "int") (by rfl) T.mint (by decide +kernel) rfl) pa_nil)))
        (pe_and (pe_not (pe_callB call_isi (by rfl) T.mi (by decide +kernel) (pa_cons (pv 0) (pa_cons (pe_bltn (v := .ty "bool") (by rfl) T.mb (by decide +kernel) rfl) pa_nil)))) (pe_one (pe_cmpR op_eq (pv 0) (pv 1) (nomark _)))))))), ?_⟩
    have g0 : EvD K (tVar 0) (start ["_law_got", "_law_goal", "_law_mine_so", "_law_own"] [v, u]) H e := ed_var rfl p1
    have g1 : EvD K (tVar 1) (start ["_law_got", "_law_goal", "_law_mine_so", "_law_own"] [v, u]) H e := ed_var rfl p2
    cases hdep with
    | bl _ b =>
      have k1 : kitB "bool" "list" = some false := by decide +kernel
      have k2 : kitB "bool" "tuple" = some false := by decide +kernel
      have k3 : kitB "bool" "bool" = some true := by decide +kernel
      have k4 : kitB "bool" "str" = some false := by decide +kernel
      refine q_when (b := false) (eb_B (K := K) (ed_isi2 g1 k1 k2)) (fun z => nomatch z) (fun _ H1 e1 => ?_)
      refine q_when (b := true) (eb_or (a := false) (b := true) (eb_test (K := K) (ed_isN (g1.mono e1) (by intro z; cases z))) fun _ => eb_B (K := K) (ed_isi2 (g1.mono e1) k3 k4)) (fun _ H2 e2 => ?_) (fun z => nomatch z)
      have m0 := g0.mono (e1.trans e2)
      have m1 := g1.mono (e1.trans e2)
      refine s_ret (K := K) (d := .bool true) (ed_andV (a := true) (b := true) ((ed_eqB m0 m1).is (by rw [decide_eq_true rfl])) fun _ => ed_andV (a := true) (b := true) ((ed_eqB (ed_isi m0 k3) (ed_isi m1 k3)).is rfl) fun _ =>
        (ed_eqB (ed_isN m0 (by intro z; cases z)) (ed_isN m1 (by intro z; cases z))).is rfl) fun w H3 e3 p3 => q w H3 ((e1.trans e2).trans e3) p3
    | str _ x =>
      have k1 : kitB "str" "list" = some false := by decide +kernel
      have k2 : kitB "str" "tuple" = some false := by decide +kernel
      have k3 : kitB "str" "bool" = some false := by decide +kernel
      have k4 : kitB "str" "str" = some true := by decide +kernel
      refine q_when (b := false) (eb_B (K := K) (ed_isi2 g1 k1 k2)) (fun z => nomatch z) (fun _ H1 e1 => ?_)
      refine q_when (b := true) (eb_or (a := false) (b := true) (eb_test (K := K) (ed_isN (g1.mono e1) (by intro z; cases z))) fun _ => eb_B (K := K) (ed_isi2 (g1.mono e1) k3 k4)) (fun _ H2 e2 => ?_) (fun z => nomatch z)
      have m0 := g0.mono (e1.trans e2)
      have m1 := g1.mono (e1.trans e2)
      refine s_ret (K := K) (d := .bool true) (ed_andV (a := true) (b := true) ((ed_eqS m0 m1).is (by rw [decide_eq_true rfl])) fun _ => ed_andV (a := true) (b := true) ((ed_eqB (ed_isi m0 k3) (ed_isi m1 k3)).is rfl) fun _ =>
        (ed_eqB (ed_isN m0 (by intro z; cases z)) (ed_isN m1 (by intro z; cases z))).is rfl) fun w H3 e3 p3 => q w H3 ((e1.trans e2).trans e3) p3
    | int _ i =>
      have k1 : kitB "int" "list" = some false := by decide +kernel
      have k2 : kitB "int" "tuple" = some false := by decide +kernel
      have k3 : kitB "int" "bool" = some false := by decide +kernel
      have k4 : kitB "int" "str" = some false := by decide +kernel
      have k5 : kitB "int" "int" = some true := by decide +kernel
      refine q_when (b := false) (eb_B (K := K) (ed_isi2 g1 k1 k2)) (fun z => nomatch z) (fun _ H1 e1 => ?_)
      refine q_when (b := false) (eb_or (a := false) (b := false) (eb_test (K := K) (ed_isN (g1.mono e1) (by intro z; cases z))) fun _ => eb_B (K := K) (ed_isi2 (g1.mono e1) k3 k4)) (fun z => nomatch z) (fun _ H2 e2 => ?_)
      have m0 := g0.mono (e1.trans e2)
      have m1 := g1.mono (e1.trans e2)
      refine s_ret (K := K) (d := .bool true) (ed_andV (a := true) (b := true) (ed_isi m0 k5) fun _ => ed_andV (a := true) (b := true) (ed_notV (a := false) (ed_isi m0 k3)) fun _ => (ed_eqI m0 m1).is (by rw [decide_eq_true rfl])) fun w H3 e3 p3 => q w H3 ((e1.trans e2).trans e3) p3
    | @lst _ ds hl hall =>
      have k1 : kitB "list" "list" = some true := by decide +kernel
      have k2 : kitB "list" "tuple" = some false := by decide +kernel
      refine q_when (b := true) (eb_B (K := K) (ed_isi2 g1 k1 k2)) (fun _ H1 e1 => ?_) (fun z => nomatch z)
      exact rb ds (.inl rfl) _ H1 e1 fun w H' e p => q w H' (e1.trans e) p
    | @tup _ ds hl hall =>
      have k1 : kitB "tuple" "list" = some false := by decide +kernel
      have k2 : kitB "tuple" "tuple" = some true := by decide +kernel
      refine q_when (b := true) (eb_B (K := K) (ed_isi2 g1 k1 k2)) (fun _ H1 e1 => ?_) (fun z => nomatch z)
      exact rb ds (.inr rfl) _ H1 e1 fun w H' e p => q w H' (e1.trans e) p
  intro n
  induction n with
  | zero => exact key 0 (.inl rfl)
  | succ n ih => exact key (n + 1) (.inr ⟨n, rfl, ih⟩)
end
end Lk
/-! The law's draws: the urn, a drawn part, one of some, the cells. -/
namespace Lk
open PySem PySem.Spec PyProof.Rows L2
abbrev sBox : Stmt := topS 25
abbrev sTake : Stmt := topS 26
abbrev sCells : Stmt := topS 27
abbrev sOf : Stmt := topS 28
abbrev sPart : Stmt := topS 30
theorem scBox : FnScope ["_law_script", "_law_k", "_law_cell"] ["_law_script", "_law_k"] (defScope sBox) := ⟨rfl, rfl, rfl, by decide +kernel, rfl, by decide +kernel, by decide +kernel⟩
theorem scTake : FnScope ["_law_urn", "_law_low_so", "_law_drawn", "_law_once", "_law_far", "_law_twice"] ["_law_urn", "_law_low_so"] (defScope sTake) := ⟨rfl, rfl, rfl, by decide +kernel, rfl, by decide +kernel, by decide +kernel⟩
theorem scCells : FnScope ["_law_script", "_law_top", "_law_cells_here", "_law_k", "_law_cell", "_law_at_so"] ["_law_script", "_law_top"] (defScope sCells) := ⟨rfl, rfl, rfl, by decide +kernel, rfl, by decide +kernel, by decide +kernel⟩
theorem scOf : FnScope ["_law_urn", "_law_some_so"] ["_law_urn", "_law_some_so"] (defScope sOf) := ⟨rfl, rfl, rfl, by decide +kernel, rfl, by decide +kernel, by decide +kernel⟩
theorem scPart : FnScope ["_law_urn", "_law_most", "_law_base", "_law_top", "_law_bottom", "_law_common", "_law_k"] ["_law_urn", "_law_most", "_law_base"] (defScope sPart) := ⟨rfl, rfl, rfl, by decide +kernel, rfl, by decide +kernel, by decide +kernel⟩
/-! ### all but one place -/
def But (p : Addr) (H H' : Hp) : Prop := ∀ a o, a ≠ p → H a = some o → H' a = some o
theorem But.refl (p : Addr) (H : Hp) : But p H H := fun _ _ _ h => h
theorem But.of {p : Addr} {H H' : Hp} (e : Same H H') : But p H H' := fun a o _ h => e a o h
theorem But.trans {p : Addr} {H H1 H2 : Hp} (a : But p H H1) (b : But p H1 H2) : But p H H2 := fun x o n h => b x o n (a x o n h)
theorem But.put {p : Addr} {H : Hp} {o : HO} : But p H (upd H p o) := fun a u n h => by rw [upd_ne n]; exact h
theorem But.im {p : Addr} {H H' : Hp} {xs : List V} (e : But p H H') (h : H p = some (.lst xs)) : Im H H' := fun a ys r => by
  rcases r with r | ⟨o, r⟩
  · exact .inl (e a _ (ne_of r h (by intro z; cases z)) r)
  · exact .inr ⟨o, e a _ (ne_of r h (by intro z; cases z)) r⟩
theorem But.same {p : Addr} {H H' : Hp} (e : But p H H') (h : H p = none) : Same H H' := fun a o r => e a o (ne_of_none r h) r
/-- the urn's numbers -/
def urn (a b c : Int) : List V := [.int a, .int b, .int c]
def UB (b c : Int) : Prop := 0 ≤ b ∧ b < 2 ^ 62 + 1000000 ∧ 0 ≤ c ∧ c ≤ 1000
theorem urn_dp {K : PySem.W.Frag} {H : Hp} {p : Addr} {a b c : Int} (h : H p = some (.lst (urn a b c))) : Dp K H (.ref p) (.list [.int a, .int b, .int c]) := .lst (.inl (.inl h)) (.cons (.int _) (.cons (.int _) (.cons (.int _) .nil)))
def spTake : Sp := fun vs H Q _ => ∃ (p : Addr) (a b c low : Int), vs = [.ref p, .int low] ∧ H p = some (.lst (urn a b c)) ∧ UB b c ∧ 0 < low ∧ low ≤ 100000 ∧
  ∀ (r a' c' : Int) (H' : Hp), 0 ≤ r → r < low → 0 ≤ c' → c' ≤ c + 1 → But p H H' → H' p = some (.lst (urn a' b c')) → Q (.int r) H'
def spPart (K : PySem.W.Frag) : Sp := fun vs H Q _ => ∃ (p : Addr) (a b c : Int), vs = [.ref p, .int 400, .int 30] ∧ H p = some (.lst (urn a b c)) ∧ UB b (c + 1) ∧ 0 ≤ c ∧
  ∀ (f : Int × Int) (v : V) (a' c' : Int) (H' : Hp), Sml f → 0 ≤ c' → c' ≤ c + 2 → But p H H' → H' p = some (.lst (urn a' b c')) → Dp K H' v (fr f) → Q v H'
def spOf : Sp := fun vs H Q _ => ∃ (p l : Addr) (a b c : Int) (xs : List V), vs = [.ref p, .ref l] ∧ H p = some (.lst (urn a b c)) ∧ UB b c ∧ l ≠ p ∧ H l = some (.lst xs) ∧ 0 < xs.length ∧ xs.length ≤ 1000 ∧
  ∀ (v : V) (a' c' : Int) (H' : Hp), v ∈ xs → But p H H' → H' p = some (.lst (urn a' b c')) → Q v H'
def spBox (K : PySem.W.Frag) : Sp := fun vs H Q _ => ∃ (x : V) (ms : List Int) (k : Int), vs = [x, .int k] ∧ Dp K H x (.list (ms.map .int)) ∧ 0 ≤ k ∧ k ≤ 10 ∧
  ∀ (p : Addr) (a b : Int) (H' : Hp), UB b 0 → Same H H' → H p = none → H' p = some (.lst (urn a b 0)) → Q (.ref p) H'
def spCells (K : PySem.W.Frag) : Sp := fun vs H Q _ => ∃ (x : Addr) (ns : List Int), vs = [.ref x, .int 2] ∧ SqL K H x (ns.map V.int) ∧ ns.length ≤ 63 ∧
  ∀ (v : V) (ms : List Int) (H' : Hp), Same H H' → Dp K H' v (.list (ms.map .int)) → ms.length ≤ 2 → Q v H'
theorem ite_sm (b : Bool) : -(2 ^ 64) < (if b = true then (1 : Int) else 0) ∧ (if b = true then (1 : Int) else 0) < 2 ^ 64 := by cases b <;> decide
section
variable {K : PySem.W.Frag} {σ : L2.St} {H : Hp} {ta tb te : TE} {d : PyData}
theorem ed_intI {i : Int} (ha : EvD K ta σ H (.int i)) : EvD K (tCB (fun xs H Q => (∃ i, xs = [.int i] ∧ Q (.int i) H) ∨ ∃ k, xs = [.bl k] ∧ Q (.int (if k then 1 else 0)) H) (tCons ta tNil)) σ H (.int i) := fun H1 e Q q =>
  ha H1 e _ fun v H2 e2 p => by
    cases p
    exact .inl ⟨i, rfl, q _ H2 e2 (.int i)⟩
theorem ed_intB {k : Bool} (ha : EvD K ta σ H (.bool k)) : EvD K (tCB (fun xs H Q => (∃ i, xs = [.int i] ∧ Q (.int i) H) ∨ ∃ k, xs = [.bl k] ∧ Q (.int (if k then 1 else 0)) H) (tCons ta tNil)) σ H (.int (if k then 1 else 0)) := fun H1 e Q q =>
  ha H1 e _ fun v H2 e2 p => by
    cases p
    exact .inr ⟨k, rfl, q _ H2 e2 (.int _)⟩
theorem ed_abs {i : Int} (ha : EvD K ta σ H (.int i)) : EvD K (tCB (fun xs H Q => ∃ i, xs = [V.int i] ∧ Q (.int (if i < 0 then -i else i)) H) (tCons ta tNil)) σ H (.int (if i < 0 then -i else i)) := fun H1 e Q q =>
  ha H1 e _ fun v H2 e2 p => by
    cases p
    exact ⟨i, rfl, q _ H2 e2 (.int _)⟩
theorem ed_div {i j : Int} (ha : EvD K ta σ H (.int i)) (hb : EvD K tb σ H (.int j)) (hc : CDiv i j) : EvD K (tOp (rI CDiv fun i j => .int (i / j)) ta tb) σ H (.int (i / j)) := ed_opI ha hb hc fun _ => .int _
/-- a list's place is written -/
theorem q_put {ti : TE} {D : Ends} {tz : TS} {p : Addr} {xs : List V} {k : Int} {j : Nat} (hp : H p = some (.lst xs)) (h : EvD K te σ H d) (ho : σ[0]? = some (some (.ref p))) (hi : EvD K ti σ H (.int k)) (hj : ixN xs.length k = some j)
    (kk : ∀ v H1, Same H H1 → Dp K H1 v d → tz D σ (upd H1 p (.lst (xs.set j v)))) : tSeq (tAsg te (gSub (tVar 0) ti rSetL)) tz D σ H := h H (Same.refl H) _ fun v H1 e1 pv => ⟨.ref p, ho, hi H1 e1 _ fun w H2 e2 pw => by
  cases pw
  exact ⟨p, xs, k, j, rfl, rfl, e2 _ _ (e1 _ _ hp), hj, kk v H2 (e1.trans e2) (dp_same e2 pv)⟩⟩
end
section
variable {P : Program} {w : World} {K : PySem.W.Frag} {mg : Str → Option Value} {base : Heap}
theorem ok_take (R : Raw K mg "_law_take" sTake ["_law_urn", "_law_low_so"]) (mi : mg "int" = none) : Def P w K mg base CX0 1 "_law_take" ["_law_urn", "_law_low_so"] spTake := by
  refine R.ok fun f fd F => F.ok scTake (fun vs H Q E h => ?_) (fun cdv A outer s H vs Q E hr h => ?_)
  · obtain ⟨p, a, b, c, low, rfl, _⟩ := h
    rfl
  obtain ⟨p, a, b, c, low, rfl, hp, ⟨hb0, hb1, hc0, hc1⟩, hl0, hl1, q⟩ := h
  refine ⟨_, pss_cons (ps_if (pt_cmpR op_gt (pe_ix ix_list (pv 0) pe_int (fun _ _ => rfl)) pe_int (nomark _))
      (pss_cons (ps_set (i := 2) scTake.nd rfl (.inl rfl) (pe_op op_mod (pe_callTy call_int1 (by rfl) mi (by decide +kernel) (pa_cons (pe_ix ix_list (pv 0) pe_int (fun _ _ => rfl)) pa_nil)) (pv 1)))
      (pss_cons (ps_asg (pe_op op_fdiv (pe_ix ix_list (pv 0) pe_int (fun _ _ => rfl)) (pv 1)) (pg_sub (pv 0) pe_int set_list))
      (pss_one (ps_ret (pv 2))))) pss_nil)
    (pss_cons (ps_asg (pe_op op_add (pe_ix ix_list (pv 0) pe_int (fun _ _ => rfl)) pe_int) (pg_sub (pv 0) pe_int set_list))
    (pss_cons (ps_set (i := 3) scTake.nd rfl (.inl rfl) (pe_op op_mod (pe_callTy call_int1 (by rfl) mi (by decide +kernel) (pa_cons (pe_op op_mul (pe_op op_add (pe_ix ix_list (pv 0) pe_int (fun _ _ => rfl)) (pe_op op_mul pe_int (pe_ix ix_list (pv 0) pe_int (fun _ _ => rfl)))) (pe_op op_add pe_int (pe_ix ix_list (pv 0) pe_int (fun _ _ => rfl)))) pa_nil)) pe_int))
    (pss_cons (ps_set (i := 4) scTake.nd rfl (.inl rfl) (pe_op op_add (pe_op op_mod (pe_callTy call_int1 (by rfl) mi (by decide +kernel) (pa_cons (pv 3) pa_nil)) pe_int) pe_int))
    (pss_cons (ps_set (i := 5) scTake.nd rfl (.inl rfl) (pe_op op_mod (pe_callTy call_int1 (by rfl) mi (by decide +kernel) (pa_cons (pe_op op_mul (pe_op op_add (pe_op op_add (pv 3) (pe_ix ix_list (pv 0) pe_int (fun _ _ => rfl))) (pe_op op_fdiv (pe_ix ix_list (pv 0) pe_int (fun _ _ => rfl)) pe_int)) (pv 4)) pa_nil)) pe_int))
    (pss_one (ps_ret (pe_op op_mod (pe_callTy call_int1 (by rfl) mi (by decide +kernel) (pa_cons (pe_op op_fdiv (pe_op op_mod (pe_callTy call_int1 (by rfl) mi (by decide +kernel) (pa_cons (pe_op op_add (pe_op op_mul (pv 5) pe_int) (pv 3)) pa_nil)) pe_int) pe_int) pa_nil)) (pv 1)))))))), ?_⟩
  have x0 : EvD K (tOp (rIxL K) (tVar 0) (tC (.int 0))) (start ["_law_urn", "_law_low_so", "_law_drawn", "_law_once", "_law_far", "_law_twice"] [.ref p, .int low]) H (.int a) := ed_ixL 0 (ed_var rfl (urn_dp hp)) ed_int rfl rfl
  refine q_when (b := decide (0 < a)) (eb_test (K := K) (ed_opI0 x0 ed_int fun _ => .bl _)) (fun z H1 e1 => ?_) (fun z H1 e1 => ?_)
  · have hp1 := e1 _ _ hp
    refine q_asg (K := K) (ed_mod (ed_intI (ed_ixL 0 (ed_var rfl (urn_dp hp1)) ed_int rfl rfl)) (ed_var rfl (.int low)) hl0) fun v H2 e2 p2 => ?_
    cases p2
    have hp2 := e2 _ _ hp1
    refine q_put (K := K) hp2 (ed_div (ed_ixL 0 (ed_var rfl (urn_dp hp2)) ed_int rfl rfl) (ed_var rfl (.int low)) ⟨hl0, by omega⟩) rfl ed_int rfl fun v H3 e3 p3 => ?_
    cases p3
    exact ⟨.int (a % low), rfl, q _ _ c _ (Int.emod_nonneg _ (by omega)) (Int.emod_lt_of_pos _ hl0) hc0 (by omega) (((But.of e1).trans (But.of e2)).trans ((But.of e3).trans But.put)) upd_same⟩
  · have hp1 := e1 _ _ hp
    refine q_put (K := K) hp1 (ed_add (ed_ixL 2 (ed_var rfl (urn_dp hp1)) ed_int rfl rfl) ed_int) rfl ed_int rfl fun v H2 e2 p2 => ?_
    cases p2
    have hB : But p H (upd H2 p (.lst (urn a b (c + 1)))) := ((But.of e1).trans (But.of e2)).trans But.put
    have hp3 : upd H2 p (.lst (urn a b (c + 1))) p = some (.lst (urn a b (c + 1))) := upd_same
    show tSeq _ _ _ _ (upd H2 p (.lst (urn a b (c + 1))))
    generalize upd H2 p (.lst (urn a b (c + 1))) = H3 at *
    have u1 : ∀ {σ : L2.St} {H4 : Hp}, σ[0]? = some (some (.ref p)) → Same H3 H4 → EvD K (tOp (rIxL K) (tVar 0) (tC (.int 1))) σ H4 (.int b) := fun hs e => ed_ixL 1 (ed_var hs (urn_dp (e _ _ hp3))) ed_int rfl rfl
    have u2 : ∀ {σ : L2.St} {H4 : Hp}, σ[0]? = some (some (.ref p)) → Same H3 H4 → EvD K (tOp (rIxL K) (tVar 0) (tC (.int 2))) σ H4 (.int (c + 1)) := fun hs e => ed_ixL 2 (ed_var hs (urn_dp (e _ _ hp3))) ed_int rfl rfl
    refine q_asg (K := K) (ed_mod (ed_intI (ed_mul (ed_add (u1 rfl (Same.refl _)) (ed_mul ed_int (u2 rfl (Same.refl _)) (.inl (by omega)))) (ed_add ed_int (u2 rfl (Same.refl _))) (.inr (by omega)))) ed_int (by decide)) fun v H4 e4 p4 => ?_
    cases p4
    have o0 := Int.emod_nonneg ((b + 48271 * (c + 1)) * (39373 + (c + 1))) (b := 2147483647) (by decide)
    have o1 := Int.emod_lt_of_pos ((b + 48271 * (c + 1)) * (39373 + (c + 1))) (b := 2147483647) (by decide)
    generalize (b + 48271 * (c + 1)) * (39373 + (c + 1)) % 2147483647 = once at *
    refine q_asg (K := K) (ed_add (ed_mod (ed_intI (ed_var rfl (.int once))) ed_int (by decide)) ed_int) fun v H5 e5 p5 => ?_
    cases p5
    have f0 : 0 ≤ once % 40009 + 7 ∧ once % 40009 + 7 < 50000 := by omega
    generalize once % 40009 + 7 = far at *
    refine q_asg (K := K) (ed_mod (ed_intI (ed_mul (ed_add (ed_add (ed_var rfl (.int once)) (u2 rfl (e4.trans e5))) (ed_div (u1 rfl (e4.trans e5)) ed_int ⟨by decide, by decide⟩)) (ed_var rfl (.int far)) (.inr (by omega)))) ed_int (by decide)) fun v H6 e6 p6 => ?_
    cases p6
    have t0 := Int.emod_nonneg ((once + (c + 1) + b / 1000003) * far) (b := 2147483629) (by decide)
    have t1 := Int.emod_lt_of_pos ((once + (c + 1) + b / 1000003) * far) (b := 2147483629) (by decide)
    generalize (once + (c + 1) + b / 1000003) * far % 2147483629 = twice at *
    refine s_ret (K := K) (ed_mod (ed_intI (ed_div (ed_mod (ed_intI (ed_add (ed_mul (ed_var rfl (.int twice)) ed_int (.inr (by decide))) (ed_var rfl (.int once)))) ed_int (by decide)) ed_int ⟨by decide, by decide⟩)) (ed_var rfl (.int low)) hl0) fun v H7 e7 p7 => ?_
    cases p7
    exact q _ _ (c + 1) H7 (Int.emod_nonneg _ (by omega)) (Int.emod_lt_of_pos _ hl0) (by omega) (by omega) ((hB.trans (But.of e4)).trans ((But.of e5).trans ((But.of e6).trans (But.of e7)))) (((e4.trans e5).trans (e6.trans e7)) _ _ hp3)
theorem ok_box (R : Raw K mg "_law_box" sBox ["_law_script", "_law_k"]) (mi : mg "int" = none) (ml : mg "len" = none) (ma : mg "abs" = none) : Def P w K mg base CX0 1 "_law_box" ["_law_script", "_law_k"] (spBox K) := by
  refine R.ok fun f fd F => F.ok scBox (fun vs H Q E h => ?_) (fun cdv A outer s H vs Q E hr h => ?_)
  · obtain ⟨x, ms, k, rfl, _⟩ := h
    rfl
  obtain ⟨x, ms, k, rfl, hx, hk0, hk1, q⟩ := h
  refine ⟨_, pss_cons (ps_set (i := 2) scBox.nd rfl (.inl rfl) (pe_ifExp (pt_cmpR op_lt (pv 1) (pe_callB call_len_seq (by rfl) ml PySem.boot_len (pa_cons (pv 0) pa_nil)) (nomark _)) (pe_ix ix_list (pv 0) (pv 1) (fun _ _ => rfl)) pe_int))
    (pss_one (ps_ret (pe_lst (pa_cons (pe_op op_mul (pe_callB call_abs (by rfl) ma (by decide +kernel) (pa_cons (pv 2) pa_nil)) (pe_callTy call_int1 (by rfl) mi (by decide +kernel) (pa_cons (pe_cmpR op_ge (pe_callB call_abs (by rfl) ma (by decide +kernel) (pa_cons (pv 2) pa_nil)) (pe_op op_pow pe_int pe_int) (nomark _)) pa_nil)))
      (pa_cons (pe_op op_add (pe_op op_add (pe_op op_mod (pe_callTy call_int1 (by rfl) mi (by decide +kernel) (pa_cons (pv 2) pa_nil)) pe_int) (pe_op op_mul pe_int (pv 1))) pe_int) (pa_cons pe_int pa_nil)))))), ?_⟩
  obtain ⟨cell, hcell⟩ : ∃ cell : Int, k < (ms.length : Int) → (ms.map PyData.int)[k.toNat]? = some (.int cell) := by
    by_cases h : k < (ms.length : Int)
    · have hl : k.toNat < ms.length := by omega
      exact ⟨ms[k.toNat], fun _ => by rw [List.getElem?_map, List.getElem?_eq_getElem hl]; rfl⟩
    · exact ⟨0, fun z => absurd z h⟩
  have px : EvD K (tVar 0) (start ["_law_script", "_law_k", "_law_cell"] [x, .int k]) H (.list (ms.map .int)) := ed_var rfl hx
  refine q_asg (K := K) (d := .int (if k < (ms.length : Int) then cell else 0)) (ed_if (b := decide (k < (ms.length : Int))) (eb_test (K := K) (ed_opI0 (ed_var rfl (.int k)) ((ed_len px).is (by rw [List.length_map])) fun _ => .bl _)) (fun z => ?_) (fun z => ?_)) fun v H1 e1 p1 => ?_
  · have z := of_decide_eq_true z
    rw [if_pos z]
    exact ed_ixL k.toNat px (ed_var rfl (.int k)) (by omega) (hcell z)
  · rw [if_neg (of_decide_eq_false z)]
    exact ed_int
  cases p1
  generalize (if k < (ms.length : Int) then cell else 0) = g at *
  refine el_lst (K := K) (ea_cons (ed_mul (ed_abs (ed_var rfl (.int g))) (ed_intB (ed_opI0 (ed_abs (ed_var rfl (.int g))) (ed_opI ed_int ed_int ⟨by decide, by decide, by decide⟩ fun _ => .int _) fun _ => .bl _)) (.inr (ite_sm _)))
    (ea_cons (ed_add (ed_add (ed_mod (ed_intI (ed_var rfl (.int g))) ed_int (by decide)) (ed_mul ed_int (ed_var rfl (.int k)) (.inl (by decide)))) ed_int) (ea_cons ed_int ea_nil))) (by show 3 ≤ 1000; decide) H1 (Same.refl _) _ fun p vs H2 e2 hp ps => ?_
  have m0 := Int.emod_nonneg g (b := 2305843009213693951) (by decide)
  have m1 := Int.emod_lt_of_pos g (b := 2305843009213693951) (by decide)
  cases ps with
  | cons q1 ps =>
    cases ps with
    | cons q2 ps =>
      cases ps with
      | cons q3 ps =>
        cases ps
        cases q1
        cases q2
        cases q3
        exact q p _ _ _ ⟨by omega, by omega, by decide, by decide⟩ ((e1.trans e2).trans (Evl.Ex.new hp)) ((e1.trans e2).free hp) upd_same
end
end Lk
/-! One of some, a drawn part, the cells. -/
namespace Lk
open PySem PySem.Spec PyProof.Rows L2
theorem at_mem {xs : List V} {r : Int} (h0 : 0 ≤ r) (h1 : r < (xs.length : Int)) : ∃ v, v ∈ xs ∧ atI xs r = some v := by
  have hl : r.toNat < xs.length := by omega
  exact ⟨xs[r.toNat], List.getElem_mem hl, at_of (j := r.toNat) (by omega) (List.getElem?_eq_getElem hl)⟩
section
variable {P : Program} {w : World} {K : PySem.W.Frag} {mg : Str → Option Value} {base : Heap}
theorem ok_of (R : Raw K mg "_law_of" sOf ["_law_urn", "_law_some_so"]) (D : Def P w K mg base CX0 1 "_law_take" ["_law_urn", "_law_low_so"] spTake) (ml : mg "len" = none) : Def P w K mg base CX0 2 "_law_of" ["_law_urn", "_law_some_so"] spOf := by
  refine R.ok fun f fd F => F.ok scOf (fun vs H Q E h => ?_) (fun cdv A outer s H vs Q E hr h => ?_)
  · obtain ⟨p, l, a, b, c, xs, rfl, _⟩ := h
    rfl
  obtain ⟨p, l, a, b, c, xs, rfl, hp, hub, hlp, hl, h0, h1, q⟩ := h
  refine ⟨_, pss_one (ps_ret (pe_ix ix_list (pv 1) (pe_d D hr (by rfl) (pa_cons (pv 0) (pa_cons (pe_callB call_len_seq (by rfl) ml PySem.boot_len (pa_cons (pv 1) pa_nil)) pa_nil))) (fun _ _ => rfl))), ?_⟩
  refine ⟨.ref l, rfl, .ref p, rfl, .ref l, rfl, l, xs, rfl, .inl (SqL.of hl), p, a, b, c, xs.length, rfl, hp, hub, by omega, by omega, fun r a' c' H' r0 r1 _ _ hB hp' => ?_⟩
  obtain ⟨v, hv, hat⟩ := at_mem r0 r1
  exact ⟨l, xs, r, v, rfl, rfl, SqL.of (hB l _ hlp hl), hat, q v a' c' H' hv hB hp'⟩
theorem ok_part (R : Raw K mg "_law_part" sPart ["_law_urn", "_law_most", "_law_base"]) (D : Def P w K mg base CX0 1 "_law_take" ["_law_urn", "_law_low_so"] spTake) (mr : mg "range" = none) : Def P w K mg base CX0 2 "_law_part" ["_law_urn", "_law_most", "_law_base"] (spPart K) := by
  refine R.ok fun f fd F => F.ok scPart (fun vs H Q E h => ?_) (fun cdv A outer s H vs Q E hr h => ?_)
  · obtain ⟨p, a, b, c, rfl, _⟩ := h
    rfl
  obtain ⟨p, a, b, c, rfl, hp, ⟨hb0, hb1, hc0, hc1⟩, hc, q⟩ := h
  refine ⟨_, pss_cons (ps_par (i := 3) (j := 4) (by rfl) scPart.nd rfl rfl (by decide) rfl rfl (pa_cons (pe_op op_sub (pe_d D hr (by rfl) (pa_cons (pv 0) (pa_cons (pe_op op_add (pe_op op_mul pe_int (pv 1)) pe_int) pa_nil))) (pv 1))
      (pa_cons (pe_op op_add pe_int (pe_d D hr (by rfl) (pa_cons (pv 0) (pa_cons (pv 2) pa_nil)))) pa_nil)) (by rfl))
    (pss_cons (ps_set (i := 5) scPart.nd rfl (.inl rfl) pe_int)
    (pss_cons (ps_for PassesOwn.never rfl (pi_range2 (by rfl) mr (pa_cons pe_int (pa_cons (pe_op op_add (pv 4) pe_int) pa_nil))) (pg_name (i := 6) scPart.nd rfl (.inl rfl))
      (pss_one (ps_if (PW.pt (pw_and (pt_cmpR op_eq (pe_op op_mod (pv 3) (pv 6)) pe_int (nomark _)) (pw_and1 (pt_cmpR op_eq (pe_op op_mod (pv 4) (pv 6)) pe_int (nomark _))))) (pss_one (ps_set (i := 5) scPart.nd rfl (.inl rfl) (pv 6))) pss_nil)))
    (pss_one (ps_ret (pe_tup (pa_cons (pe_op op_fdivA (pv 3) (pv 5)) (pa_cons (pe_op op_fdivA (pv 4) (pv 5)) pa_nil))))))), ?_⟩
  refine ⟨.ref p, rfl, .int 400, rfl, 2, 400, rfl, rfl, .inl (by decide), _, _, rfl, rfl, p, a, b, c, _, rfl, hp, ⟨hb0, hb1, by omega, by omega⟩, by decide, by decide, fun r1 a1 c1 H1 r10 r11 hc10 hc11 hB1 hp1 => ?_⟩
  refine ⟨.int 400, rfl, _, _, rfl, rfl, .ref p, rfl, .int 30, rfl, p, a1, b, c1, 30, rfl, hp1, ⟨hb0, hb1, by omega, by omega⟩, by decide, by decide, fun r2 a2 c2 H2 r20 r21 hc20 hc21 hB2 hp2 => ?_⟩
  refine ⟨_, _, rfl, rfl, _, _, rfl, ?_⟩
  have ht : -400 ≤ r1 - 400 ∧ r1 - 400 ≤ 400 := by omega
  have hbt : 0 < 1 + r2 ∧ 1 + r2 ≤ 30 := by omega
  have hB := hB1.trans hB2
  show tSeq _ _ _ [some (.ref p), some (.int 400), some (.int 30), some (.int (r1 - 400)), some (.int (1 + r2)), none, none] H2
  generalize r1 - 400 = t at *
  generalize 1 + r2 = bt at *
  refine ⟨.int bt, rfl, _, _, rfl, rfl, 1, bt + 1, rfl, ⟨by decide, by decide, by omega, by omega⟩, for_range (lo := 1) (n := (bt + 1 - 1).toNat) (fun i σ H' => ∃ vk, σ = [some (.ref p), some (.int 400), some (.int 30), some (.int t), some (.int bt), some (.int (comm t bt i)), vk] ∧ Same H2 H') ⟨none, rfl, Same.refl _⟩ ?_ ?_⟩
  · rintro i σ H3 hi ⟨vk, rfl, e3⟩
    show tIfS _ _ _ _ [some (.ref p), some (.int 400), some (.int 30), some (.int t), some (.int bt), some (.int (comm t bt i)), some (.int (1 + i))] H3
    refine s_if (b := decide (t % (1 + (i : Int)) = 0) && decide (bt % (1 + (i : Int)) = 0)) (eb_and (eb_test (K := K) (ed_eqI (ed_mod (ed_var rfl (.int t)) (ed_var rfl (.int _)) (by omega)) ed_int)) fun _ => eb_test (K := K) (ed_eqI (ed_mod (ed_var rfl (.int bt)) (ed_var rfl (.int _)) (by omega)) ed_int)) (fun z H4 e4 => ?_) (fun z H4 e4 => ?_)
    · have z1 := of_decide_eq_true (Bool.and_eq_true _ _ |>.mp z).1
      have z2 := of_decide_eq_true (Bool.and_eq_true _ _ |>.mp z).2
      refine ⟨.int (1 + i), rfl, some (.int (1 + i)), ?_, e3.trans e4⟩
      have e : comm t bt (i + 1) = 1 + (i : Int) := by
        unfold comm
        rw [Int.add_comm 1] at z1 z2
        rw [if_pos ⟨z1, z2⟩]
        omega
      rw [e]
      rfl
    · refine ⟨some (.int (1 + i)), ?_, e3.trans e4⟩
      have e : comm t bt (i + 1) = comm t bt i := by
        rw [show comm t bt (i + 1) = if t % ((i : Int) + 1) = 0 ∧ bt % ((i : Int) + 1) = 0 then (i : Int) + 1 else comm t bt i from rfl, if_neg]
        rintro ⟨z1, z2⟩
        rw [Int.add_comm 1, decide_eq_true z1, decide_eq_true z2] at z
        exact absurd z (by decide)
      rw [e]
  · rintro σ H3 ⟨vk, rfl, e3⟩
    rw [show (bt + 1 - 1).toNat = bt.toNat by omega]
    have hcg := comm_gg (t := t) hbt.1
    have hw : W9 bt := ⟨by omega, Nat.lt_of_lt_of_le (by omega : bt.natAbs < 2 ^ 64) (Nat.pow_le_pow_right (by decide) (by decide))⟩
    have cd := cdiv_gg (t := t) hw (gg t bt) (.inl rfl)
    rw [hcg]
    refine s_ret (K := K) (ed_tup (ea_cons (ed_fdiv (ed_var rfl (.int t)) (ed_var rfl (.int (gg t bt))) cd.1) (ea_cons (ed_fdiv (ed_var rfl (.int bt)) (ed_var rfl (.int (gg t bt))) cd.2) ea_nil)) (by show 2 ≤ 1000; decide)) fun v H4 e4 p4 => ?_
    have hnf : nf t bt = (t.fdiv (gg t bt), bt.fdiv (gg t bt)) := by unfold nf; rw [if_neg (by omega)]
    have sm := part_small hbt.1 ht hbt.2
    refine q (nf t bt) v a2 c2 H4 ⟨nf_red (by omega), sm⟩ (by omega) (by omega) (hB.trans ((But.of e3).trans (But.of e4))) (e4 _ _ (e3 _ _ hp2)) ?_
    rw [hnf]
    exact p4
end
section
variable {K : PySem.W.Frag} {σ : L2.St} {H : Hp} {te ti : TE} {d : PyData}
theorem s_put {D : Ends} {p : Addr} {xs : List V} {k : Int} {j s : Nat} (hp : H p = some (.lst xs)) (h : EvD K te σ H d) (ho : σ[s]? = some (some (.ref p))) (hi : EvD K ti σ H (.int k)) (hj : ixN xs.length k = some j)
    (kk : ∀ v H1, Same H H1 → Dp K H1 v d → D.nx σ (upd H1 p (.lst (xs.set j v)))) : tAsg te (gSub (tVar s) ti rSetL) D σ H := h H (Same.refl H) _ fun v H1 e1 pv => ⟨.ref p, ho, hi H1 e1 _ fun w H2 e2 pw => by
  cases pw
  exact ⟨p, xs, k, j, rfl, rfl, e2 _ _ (e1 _ _ hp), hj, kk v H2 (e1.trans e2) (dp_same e2 pv)⟩⟩
end
section
variable {P : Program} {w : World} {K : PySem.W.Frag} {mg : Str → Option Value} {base : Heap}
theorem ok_cells (R : Raw K mg "_law_cells" sCells ["_law_script", "_law_top"]) (mli : mg "list" = none) (me : mg "enumerate" = none) (mi : mg "int" = none) : Def P w K mg base CX0 1 "_law_cells" ["_law_script", "_law_top"] (spCells K) := by
  refine R.ok fun f fd F => F.ok scCells (fun vs H Q E h => ?_) (fun cdv A outer s H vs Q E hr h => ?_)
  · obtain ⟨x, ns, rfl, _⟩ := h
    rfl
  obtain ⟨x, ns, rfl, hS, hlen, q⟩ := h
  refine ⟨_, Evl.pss_cut (ps_set (i := 2) scCells.nd rfl (.inl rfl) (pe_orT (pe_callTy call_list_of (by rfl) mli (by decide +kernel) (pa_cons (pe_slice sl_list (pv 0) po_none (po_some (pv 1))) pa_nil)) (pe_one (pe_lst (pa_cons pe_int pa_nil)))))
    (pss_cons (ps_for PassesOwn.never rfl (pi_enum (by rfl) me (pa_cons (pe_slice sl_list (pv 0) (po_some (pv 1)) (po_some pe_int)) pa_nil)) (pg_tup (by rfl) (pgs_cons (pg_name (i := 3) scCells.nd rfl (.inl rfl)) (pgs_cons (pg_name (i := 4) scCells.nd rfl (.inl rfl)) pgs_nil)))
      (pss_cons (ps_set (i := 5) scCells.nd rfl (.inl rfl) (pe_op op_mod (pe_callTy call_int1 (by rfl) mi (by decide +kernel) (pa_cons (pv 3) pa_nil)) (pv 1)))
      (pss_one (ps_asg (pe_op op_add (pe_ix ix_list (pv 2) (pv 5) (fun _ _ => rfl)) (pe_op op_mul (pv 4) (pe_op op_add (pv 3) pe_int))) (pg_sub (pv 2) (pv 5) set_list)))))
    (pss_one (ps_ret (pv 2)))), ?_⟩
  refine ⟨fun σ H1 => ∃ (l : Addr) (ms : List Int), σ = [some (.ref x), some (.int 2), some (.ref l), none, none, none] ∧ Same H H1 ∧ H l = none ∧ H1 l = some (.lst (ms.map V.int)) ∧ ms.length ≤ 2 ∧ (2 < ns.length → ms.length = 2), ?_, ?_⟩
  · refine ⟨.ref x, rfl, .int 2, rfl, 2, rfl, x, _, rfl, hS, fun p hp => ⟨p, _, rfl, .inl (.inl (.inl upd_same)), fun l hl => ?_⟩⟩
    have e1 : Same H (upd H p (.lst (cutV (ns.map V.int) none (some 2)))) := Evl.Ex.new hp
    have e2 := e1.trans (Evl.Ex.new hl (o := .lst (cutV (ns.map V.int) none (some 2))))
    refine ⟨!(cutV (ns.map V.int) none (some 2)).isEmpty, .inl ⟨_, .inl (.inl upd_same), rfl⟩, ?_⟩
    have hcut : cutV (ns.map V.int) none (some 2) = (ns.take 2).map V.int := by
      unfold cutV
      rw [show HT.sIx (ns.map V.int).length (ns.map V.int).length (some 2) = min 2 (ns.map V.int).length from HT.sIx_nat _ _ 2, HT.sIx_none, List.drop_zero, List.map_take, Nat.sub_zero]
      by_cases h : 2 ≤ (ns.map V.int).length
      · rw [Nat.min_eq_left h]
      · rw [Nat.min_eq_right (by omega)]
        rw [List.take_of_length_le (Nat.le_refl _), List.take_of_length_le (by omega)]
    refine ite2 (fun z => ?_) (fun z => ?_)
    · refine ⟨l, ns.take 2, rfl, e2, e1.free hl, by rw [upd_same, hcut], by rw [List.length_take]; omega, fun h => by rw [List.length_take]; omega⟩
    · have hns : ns = [] := by
        cases ns with
        | nil => rfl
        | cons n ns => rw [hcut] at z; exact absurd rfl z
      refine ⟨by show 1 ≤ sizeLine; decide, fun p2 hp2 => ⟨p2, [0], rfl, e2.trans (Evl.Ex.new hp2), e2.free hp2, upd_same, by decide, fun h => ?_⟩⟩
      rw [hns] at h
      exact absurd h (by decide)
  · rintro σ H1 ⟨l, ms, rfl, e1, hl, hml, hm2, hm3⟩
    refine ⟨.ref x, rfl, .int 2, rfl, 2, rfl, 63, rfl, x, _, rfl, e1.seq hS, fun pz hpz => ?_⟩
    have hlz : pz ≠ l := (ne_of_none hml hpz).symm
    have e2 : Same H1 (upd H1 pz (.lst (cutV (ns.map V.int) (some 2) (some 63)))) := Evl.Ex.new hpz
    have hz : upd H1 pz (.lst (cutV (ns.map V.int) (some 2) (some 63))) pz = some (.lst (cutV (ns.map V.int) (some 2) (some 63))) := upd_same
    have hml2 := e2 _ _ hml
    have zlen : (cutV (ns.map V.int) (some 2) (some 63)).length ≤ ns.length - 2 := by
      unfold cutV
      rw [show HT.sIx (ns.map V.int).length 0 (some 2) = min 2 (ns.map V.int).length from HT.sIx_nat _ _ 2, List.length_take, List.length_drop, List.length_map]
      omega
    have zmem : ∀ y, y ∈ cutV (ns.map V.int) (some 2) (some 63) → ∃ z : Int, y = .int z := fun y hy => by
      have : y ∈ ns.map V.int := List.mem_of_mem_drop (List.mem_of_mem_take hy)
      obtain ⟨z, _, e⟩ := List.mem_map.mp this
      exact ⟨z, e.symm⟩
    refine ⟨pz, _, rfl, .inl (.inl hz), ?_⟩
    generalize cutV (ns.map V.int) (some 2) (some 63) = zs at *
    generalize upd H1 pz (.lst zs) = H2 at *
    refine for_it (walk_enum (K := K) (a := pz) (xs := zs)) (fun i σ H' => ∃ (ms : List Int) (vk vc va : Option V), σ = [some (.ref x), some (.int 2), some (.ref l), vk, vc, va] ∧ But l H2 H' ∧ H' l = some (.lst (ms.map V.int)) ∧ ms.length ≤ 2 ∧ (2 < ns.length → ms.length = 2)) ⟨ms, none, none, none, rfl, But.refl _ _, hml2, hm2, hm3⟩ (fun i σ H' _ ⟨_, _, _, _, _, hB, _⟩ => .inl (.inl (hB _ _ hlz hz))) ?_ ?_
    · rintro i y σ H3 H4 hi ⟨ms, vk, vc, va, rfl, hB, hm, hm2, hm3⟩ ⟨T, x1, y1, rfl, hT, rfl, hx, hy⟩
      cases hx
      obtain ⟨z, rfl⟩ := zmem y1 (List.mem_of_getElem? hy)
      have eT : Same H3 (upd H3 T (.tup [.int (i : Nat), .int z])) := Evl.Ex.new hT
      have hm' := eT _ _ hm
      have hB' := hB.trans (But.of eT)
      refine ⟨T, [.int (i : Nat), .int z], rfl, .inl (.inl upd_same), rfl, _, [.int z], rfl, _, [], rfl, rfl, ?_⟩
      generalize upd H3 T (.tup [.int (i : Nat), .int z]) = H4 at *
      have hms := hm3 (by omega)
      refine q_asg (K := K) (ed_mod (ed_intI (ed_var rfl (.int (i : Nat)))) (ed_var rfl (.int 2)) (by decide)) fun v H5 e5 p5 => ?_
      cases p5
      have hm5 := e5 _ _ hm'
      have hj : ((i : Nat) : Int) % 2 = ((i % 2 : Nat) : Int) := by omega
      have hj2 : i % 2 < ms.length := by omega
      have dl : Dp K H5 (.ref l) (.list (ms.map .int)) := .lst (.inl (.inl hm5)) (dpa_ints ms)
      refine s_put (K := K) (j := i % 2) hm5 (ed_add (ed_ixL (i % 2) (ed_var rfl dl) (ed_var rfl (.int _)) hj (by rw [List.getElem?_map, List.getElem?_eq_getElem hj2]; rfl)) (ed_mul (ed_var rfl (.int z)) (ed_add (ed_var rfl (.int (i : Nat))) ed_int) (.inr (by omega)))) rfl (ed_var rfl (.int _))
        (by rw [hj]; exact Evl.ixN_nat (by rw [List.length_map]; exact hj2)) fun v H6 e6 p6 => ?_
      cases p6
      refine ⟨ms.set (i % 2) (ms[i % 2] + z * (((i : Nat) : Int) + 2)), _, _, _, rfl, ((hB'.trans (But.of e5)).trans (But.of e6)).trans But.put, ?_, by rw [List.length_set]; exact hm2, fun h => by rw [List.length_set]; exact hm3 h⟩
      rw [upd_same, List.map_set]
    · rintro σ H3 ⟨ms, vk, vc, va, rfl, hB, hm, hm2, hm3⟩
      refine ⟨.ref l, rfl, q _ ms H3 ((((But.of e1).trans (But.of e2)).trans hB).same hl) (.lst (.inl (.inl hm)) (dpa_ints ms)) hm2⟩
end
end Lk
/-! Texts of drawn fractions: written, read back, bent. -/
namespace Lk
open PySem PySem.Spec PyProof.Rows L2
abbrev tl := TL.tl
abbrev numL := TL.numL
def badL (l : List Nat) : Bool := !(decide ((1 : Int) ≤ l.length) && decide ((l.length : Int) ≤ 12)) || ((l.map fun c => !decide (c ∈ DG)).any id || (decide ((1 : Int) < l.length) && decide (l[0]? = some 48)))
theorem badW_tl (x : Str) : badW x = badL (tl x) := by
  unfold badW badL
  rw [TL.len_tl x]
theorem good_all : ∀ n : Nat, n < 401 → badL (numL n) = false := by decide +kernel
theorem bad_mem {c : Nat} {l : List Nat} (h : c ∈ l) (hc : c ∉ DG) : badL l = true := by
  have : ((l.map fun c => !decide (c ∈ DG)).any id) = true := List.any_eq_true.mpr ⟨true, List.mem_map.mpr ⟨c, h, by rw [decide_eq_false hc]; rfl⟩, rfl⟩
  unfold badL
  rw [this, Bool.true_or, Bool.or_true]
theorem bad_nil : badL [] = true := rfl
theorem bad_zero {l : List Nat} (h : l ≠ []) : badL (48 :: l) = true := by
  have hl : (1 : Int) < ((48 :: l).length : Nat) := by
    have := List.length_pos_iff.mpr h
    rw [List.length_cons]
    omega
  have h48 : decide ((48 :: l)[0]? = some 48) = true := decide_eq_true rfl
  unfold badL
  rw [decide_eq_true hl, h48, Bool.and_true, Bool.or_true, Bool.or_true]
def sg (i : Int) : List Nat := if i < 0 then [45] else []
theorem tl_int (i : Int) : tl (toString i : Str) = sg i ++ numL i.natAbs := by
  cases i with
  | ofNat n =>
    have e : sg (Int.ofNat n) = [] := if_neg (by simp)
    rw [e, List.nil_append]
    exact TL.tl_num n
  | negSucc m =>
    have e : sg (Int.negSucc m) = [45] := if_pos (Int.negSucc_lt_zero m)
    rw [e]
    exact tl_neg m
def codesM (x : Int × Int) : List Nat := sg x.1 ++ (numL x.1.natAbs ++ (if x.2 = 1 then [] else 47 :: numL x.2.natAbs))
theorem tl_slash : tl ("/" : Str) = [47] := by decide +kernel
theorem tl_textM {x : Int × Int} (h : 0 < x.2) : tl (textM x) = codesM x := by
  unfold textM codesM
  by_cases c : x.2 = 1
  · rw [if_pos c, if_pos c, tl_int, List.append_nil]
  · rw [if_neg c, if_neg c]
    show TL.tl (Str.empty ++ toString x.1 ++ "/" ++ toString x.2) = _
    rw [TL.tl_append, TL.tl_append, TL.tl_append]
    show TL.tl Str.empty ++ tl (toString x.1 : Str) ++ tl ("/" : Str) ++ tl (toString x.2 : Str) = _
    rw [tl_int, tl_int, tl_slash, show TL.tl Str.empty = [] from rfl, show sg x.2 = [] from if_neg (by omega)]
    simp
/-! ### a sign ahead -/
def stripL : List Nat → List Nat
  | [] => []
  | c :: r => if c = 45 then r else c :: r
theorem stripL_cons (c : Nat) (r : List Nat) : stripL (c :: r) = if c = 45 then r else c :: r := rfl
theorem tl_rmp (t : Str) : tl (Txt.removeprefix t "-") = stripL (tl t) := by
  have hy : ("-" : Str).length = 1 := by decide +kernel
  have hc : ("-" : Str).cps.toList = [45] := by decide +kernel
  have hx : t.length = (tl t).length := TL.len_tl t
  rw [StrLaws.removeprefix_eq, StrLaws.subAt_eq, hy, hc, List.drop_zero, hx]
  show tl (if (decide (0 + 1 ≤ (tl t).length) && (tl t).take 1 == [45]) = true then (⟨(((tl t).drop 1).take ((tl t).length - 1)).toArray⟩ : Str) else t) = stripL (tl t)
  cases e : tl t with
  | nil => rw [if_neg (by simp)]; exact e
  | cons c r =>
    have e1 : (decide (0 + 1 ≤ (c :: r).length) && (c :: r).take 1 == [45]) = decide (c = 45) := by
      by_cases h : c = 45
      · subst h; simp
      · simp [h]
    rw [e1, stripL_cons]
    by_cases h : c = 45
    · rw [decide_eq_true h, if_pos rfl, if_pos h]
      show tl (⟨(r.take r.length).toArray⟩ : Str) = r
      rw [List.take_length]
    · rw [decide_eq_false h, if_neg Bool.false_ne_true, if_neg h]
      exact e
theorem starts_tl (t : Str) : Txt.startswith t "-" = decide ((tl t)[0]? = some 45) := by
  have hy : ("-" : Str).length = 1 := by decide +kernel
  have hc : ("-" : Str).cps.toList = [45] := by decide +kernel
  have hx : t.length = (tl t).length := TL.len_tl t
  unfold Txt.startswith
  rw [StrLaws.subAt_eq, hy, hc, List.drop_zero, hx]
  show (decide (0 + 1 ≤ (tl t).length) && (tl t).take 1 == [45]) = _
  cases e : tl t with
  | nil => rfl
  | cons c r =>
    by_cases h : c = 45
    · subst h; simp
    · simp [h]
theorem spl_ne (S : List Nat) : ∀ (l : List Nat) (k : Nat) (acc : List Nat), TL.spl S k acc l ≠ []
  | [], k, acc => by rw [TL.spl_nil]; simp
  | c :: r, k, acc => by
    rw [TL.spl_pass]
    cases e : (c :: r).drop k with
    | nil => rw [TL.spl_nil]; simp
    | cons d q =>
      have hq : q.length < (c :: r).length := by
        have := congrArg List.length e
        rw [List.length_drop, List.length_cons (a := d)] at this
        omega
      by_cases h : TL.pre S (d :: q) = true
      · rw [TL.spl_hit h]; simp
      · rw [TL.spl_miss (by simpa using h)]
        exact spl_ne S q 0 _
termination_by l => l.length
theorem parts_tl (t : Str) : (partsM t).map tl = TL.spl [47] 0 [] (stripL (tl t)) := by
  unfold partsM
  rw [← tl_rmp, ← tl_slash]
  exact TL.split_spl _ _ (by show tl ("/" : Str) ≠ []; rw [tl_slash]; simp) (TL.kind_ok (by decide +kernel))
theorem parts_is {t : Str} {L : List (List Nat)} (h : stripL (tl t) = TL.joinL [47] L) (hne : L ≠ []) (hL : ∀ p ∈ L, 47 ∉ p) : (partsM t).map tl = L := by
  rw [parts_tl, h]
  exact TL.spl_join hne hL
/-! ### numbers within -/
theorem numW_good {x : Str} {m : Nat} (hm : m ≤ 400) (h : tl x = numL m) : numW x = some (m : Int) ∧ PySem.intText? x = some (m : Int) ∧ badW x = false := by
  have e : x = Str.ofString (toString ((m : Nat) : Int)) := TL.ext_tl (h.trans (TL.tl_num m).symm)
  have hb : badW x = false := by rw [badW_tl, h]; exact good_all m (by omega)
  have hi : PySem.intText? x = some (m : Int) := by
    rw [e]
    exact TL.int_num (Nat.le_trans (TL.numL_len (k := 4) (by decide) (by omega)) (by decide))
  refine ⟨?_, hi, hb⟩
  unfold numW
  rw [hb, if_neg Bool.false_ne_true, hi]
theorem numW_bad {x : Str} (h : badL (tl x) = true) : numW x = none := by
  unfold numW
  rw [badW_tl, h, if_pos rfl]
/-- a part: of digits, or none -/
def Okw (p : List Nat) : Prop := p.length ≤ 400 ∧ 47 ∉ p ∧ (badL p = true ∨ ∃ m, m ≤ 400 ∧ p = numL m)
theorem okT_of {t : Str} {L : List (List Nat)} (hl : (tl t).length ≤ 500) (hp : (partsM t).map tl = L) (hL : ∀ p ∈ L, Okw p) : OkT t := by
  refine ⟨by rw [TL.len_tl]; exact hl, fun z => ?_, fun x hx => ?_⟩
  · have := parts_tl t
    rw [z] at this
    exact spl_ne _ _ _ _ this.symm
  · have hm : tl x ∈ L := by rw [← hp]; exact List.mem_map.mpr ⟨x, hx, rfl⟩
    obtain ⟨h1, _, h2⟩ := hL _ hm
    refine ⟨by rw [TL.len_tl]; exact Nat.le_trans h1 (by decide), fun hb => ?_⟩
    rcases h2 with h2 | ⟨m, hm, e⟩
    · rw [badW_tl, h2] at hb; cases hb
    · exact ⟨m, (numW_good hm e).2.1, by omega⟩
theorem fall_bad {t : Str} {L : List (List Nat)} (hp : (partsM t).map tl = L) (hb : ∃ p ∈ L, badL p = true) : byM t = none := by
  obtain ⟨p, hpL, hb⟩ := hb
  rw [← hp] at hpL
  obtain ⟨x, hx, e⟩ := List.mem_map.mp hpL
  refine byN_bad ?_
  have : ((partsM t).map numW).any (·.isNone) = true := List.any_eq_true.mpr ⟨numW x, List.mem_map.mpr ⟨x, hx, rfl⟩, by rw [numW_bad (by rw [e]; exact hb)]; rfl⟩
  rw [this, Bool.or_true]
theorem fall_many {t : Str} {L : List (List Nat)} (hp : (partsM t).map tl = L) (h : 2 < L.length) : byM t = none := by
  refine byN_bad ?_
  have : ((partsM t).map numW).length = L.length := by rw [List.length_map, ← hp, List.length_map]
  rw [this, decide_eq_true (by omega), Bool.true_or]
/-! ### a drawn fraction's text -/
section
variable {x : Int × Int} (hx : Sml x)
include hx
theorem n400 : x.1.natAbs ≤ 400 := by have := hx.2; omega
theorem b30 : x.2.natAbs ≤ 400 := by have := hx.2; have := hx.1.1; omega
theorem num_okw {m : Nat} (h : m ≤ 400) : Okw (numL m) := ⟨Nat.le_trans (TL.numL_len (k := 4) (by decide) (by omega)) (by decide), TL.numL_free (.inl (by decide)), .inr ⟨m, h, rfl⟩⟩
theorem num_short {m : Nat} (h : m ≤ 400) : (numL m).length ≤ 4 := TL.numL_len (k := 4) (by decide) (by omega)
end
theorem num_head (m : Nat) : ∃ c r, numL m = c :: r ∧ c ≠ 45 := by
  cases e : numL m with
  | nil => exact absurd e (TL.numL_ne m)
  | cons c r =>
    refine ⟨c, r, rfl, fun z => ?_⟩
    subst z
    have : 45 ∈ numL m := by rw [e]; exact List.mem_cons_self ..
    exact TL.numL_free (.inl (by decide)) this
theorem strip_sg (i : Int) (m : Nat) (r : List Nat) : stripL (sg i ++ (numL m ++ r)) = numL m ++ r := by
  obtain ⟨c, q, e, hc⟩ := num_head m
  unfold sg
  split
  · rfl
  · rw [List.nil_append, e]
    show (if c = 45 then _ else _) = _
    rw [if_neg hc]
    rfl
theorem strip_ne {c : Nat} {r : List Nat} (h : c ≠ 45) : stripL (c :: r) = c :: r := if_neg h
theorem sg_len (i : Int) : (sg i).length ≤ 1 := by unfold sg; split <;> decide
theorem sg_free (i : Int) : 47 ∉ sg i := by unfold sg; split <;> decide
theorem codes_len {x : Int × Int} (hx : Sml x) : (codesM x).length ≤ 20 := by
  have h1 := num_short hx (n400 hx)
  have h2 := num_short hx (b30 hx)
  have h3 := sg_len x.1
  unfold codesM
  rw [List.length_append, List.length_append]
  split
  · simp only [List.length_nil]; omega
  · rw [List.length_cons]; omega
theorem codes_head {x : Int × Int} : decide ((codesM x)[0]? = some 45) = decide (x.1 < 0) := by
  obtain ⟨c, q, e, hc⟩ := num_head x.1.natAbs
  unfold codesM sg
  by_cases h : x.1 < 0
  · rw [if_pos h, decide_eq_true h]
    rfl
  · rw [if_neg h, decide_eq_false h, List.nil_append, e]
    show decide (some c = some 45) = false
    exact decide_eq_false fun z => hc (Option.some.inj z)
theorem isF_red {x : Int × Int} (hx : Red x) : isF x = true := by
  unfold isF gg
  rw [decide_eq_true hx.1, hx.2]
  rfl
theorem map_one {l : List Str} {a : List Nat} (h : l.map tl = [a]) : ∃ y, l = [y] ∧ tl y = a := by
  cases l with
  | nil => cases h
  | cons y r =>
    rw [List.map_cons] at h
    obtain ⟨h1, h2⟩ := List.cons_eq_cons.mp h
    have : r = [] := List.map_eq_nil_iff.mp h2
    subst this
    exact ⟨y, rfl, h1⟩
theorem map_two {l : List Str} {a b : List Nat} (h : l.map tl = [a, b]) : ∃ y z, l = [y, z] ∧ tl y = a ∧ tl z = b := by
  cases l with
  | nil => cases h
  | cons y r =>
    rw [List.map_cons] at h
    obtain ⟨h1, h2⟩ := List.cons_eq_cons.mp h
    obtain ⟨z, e, h3⟩ := map_one h2
    subst e
    exact ⟨y, z, rfl, h1, h3⟩
/-- read back -/
theorem read_back {x : Int × Int} (hx : Sml x) {t : Str} (ht : tl t = codesM x) : OkT t ∧ byM t = some x := by
  have htx : textM x = t := TL.ext_tl ((tl_textM hx.1.1).trans ht.symm)
  have hst : Txt.startswith t "-" = decide (x.1 < 0) := by rw [starts_tl, ht, codes_head]
  have htop : (if Txt.startswith t "-" = true then -((x.1.natAbs : Nat) : Int) else ((x.1.natAbs : Nat) : Int)) = x.1 := by
    rw [hst]
    by_cases h : x.1 < 0
    · rw [decide_eq_true h, if_pos rfl]
      omega
    · rw [decide_eq_false h, if_neg Bool.false_ne_true]
      omega
  have hchk : chk t x = some x := by
    unfold chk
    rw [if_pos ⟨isF_red hx.1, htx⟩]
  have k1 := num_okw hx (n400 hx)
  have k2 := num_okw hx (b30 hx)
  have hl : (tl t).length ≤ 500 := by rw [ht]; exact Nat.le_trans (codes_len hx) (by decide)
  by_cases c : x.2 = 1
  · have hp : (partsM t).map tl = [numL x.1.natAbs] := parts_is (by rw [ht]; unfold codesM; rw [strip_sg, if_pos c, List.append_nil]; rfl) (by simp) (fun p hp => by rw [List.mem_singleton.mp hp]; exact k1.2.1)
    refine ⟨okT_of hl hp fun p hp => by rw [List.mem_singleton.mp hp]; exact k1, ?_⟩
    obtain ⟨y, h, hy⟩ := map_one hp
    · unfold byM
      rw [h, List.map_cons, List.map_nil, (numW_good (n400 hx) hy).1]
      show chk t (_, 1) = some x
      rw [htop, ← c]
      exact hchk
  · have hp : (partsM t).map tl = [numL x.1.natAbs, numL x.2.natAbs] := parts_is (by rw [ht]; unfold codesM; rw [strip_sg, if_neg c]; rfl) (by simp) (fun p hp => by
      rcases List.mem_cons.mp hp with e | other
      · rw [e]; exact k1.2.1
      · rw [List.mem_singleton.mp other]; exact k2.2.1)
    refine ⟨okT_of hl hp fun p hp => ?_, ?_⟩
    · rcases List.mem_cons.mp hp with e | hp
      · rw [e]; exact k1
      · rw [List.mem_singleton.mp hp]; exact k2
    obtain ⟨y, z, h, hy, hz⟩ := map_two hp
    · unfold byM
      rw [h, List.map_cons, List.map_cons, List.map_nil, (numW_good (n400 hx) hy).1, (numW_good (b30 hx) hz).1]
      show chk t (_, ((x.2.natAbs : Nat) : Int)) = some x
      rw [htop, show ((x.2.natAbs : Nat) : Int) = x.2 by have := hx.1.1; omega]
      exact hchk
/-! ### bent texts -/
/-- of parts of which one is none -/
theorem fallen {t : Str} (L : List (List Nat)) (hl : (tl t).length ≤ 500) (h : stripL (tl t) = TL.joinL [47] L) (hne : L ≠ []) (hL : ∀ p ∈ L, Okw p) (hb : (∃ p ∈ L, badL p = true) ∨ 2 < L.length) : OkT t ∧ byM t = none := by
  have hp := parts_is h hne fun p hp => (hL p hp).2.1
  refine ⟨okT_of hl hp hL, ?_⟩
  rcases hb with hb | hb
  · exact fall_bad hp hb
  · exact fall_many hp hb
theorem okw_bad {p : List Nat} (h1 : p.length ≤ 400) (h2 : 47 ∉ p) (h : badL p = true) : Okw p := ⟨h1, h2, .inl h⟩
section
variable {x : Int × Int} (hx : Sml x)
include hx
/-- what stands ahead: a sign or a nought -/
theorem bent_ahead {t : Str} {c : Nat} (hc : c = 48 ∨ c = 43) (ht : tl t = c :: codesM x) : OkT t ∧ byM t = none := by
  have k2 := num_okw hx (b30 hx)
  have hlen := codes_len hx
  have s1 := num_short hx (n400 hx)
  have s2 := sg_len x.1
  have hne : sg x.1 ++ numL x.1.natAbs ≠ [] := fun z => TL.numL_ne _ (List.append_eq_nil_iff.mp z).2
  have hb : badL (c :: (sg x.1 ++ numL x.1.natAbs)) = true := by
    rcases hc with e | e
    · rw [e]; exact bad_zero hne
    · rw [e]; exact bad_mem (List.mem_cons_self ..) (by decide +kernel)
  have hw : Okw (c :: (sg x.1 ++ numL x.1.natAbs)) := okw_bad (by rw [List.length_cons, List.length_append]; omega) (by
    intro z
    rcases List.mem_cons.mp z with z | w
    · omega
    · rcases List.mem_append.mp w with z | z
      · exact sg_free _ z
      · exact TL.numL_free (.inl (by decide)) z) hb
  have hl : (tl t).length ≤ 500 := by rw [ht, List.length_cons]; omega
  have hs : stripL (tl t) = c :: (sg x.1 ++ (numL x.1.natAbs ++ (if x.2 = 1 then [] else 47 :: numL x.2.natAbs))) := by rw [ht, strip_ne (by omega)]; rfl
  by_cases e : x.2 = 1
  · refine fallen [c :: (sg x.1 ++ numL x.1.natAbs)] hl (by rw [hs, if_pos e, List.append_nil]; rfl) (by simp) (fun p hp => by rw [List.mem_singleton.mp hp]; exact hw) (.inl ⟨_, List.mem_cons_self .., hb⟩)
  · refine fallen [c :: (sg x.1 ++ numL x.1.natAbs), numL x.2.natAbs] hl (by rw [hs, if_neg e]; simp [TL.joinL]) (by simp) (fun p hp => ?_) (.inl ⟨_, List.mem_cons_self .., hb⟩)
    rcases List.mem_cons.mp hp with z | other
    · rw [z]; exact hw
    · rw [List.mem_singleton.mp other]; exact k2
/-- what stands behind: a blank, a dash -/
theorem bent_behind {t : Str} {c : Nat} (hc : c = 32 ∨ c = 45) (ht : tl t = codesM x ++ [c]) : OkT t ∧ byM t = none := by
  have k1 := num_okw hx (n400 hx)
  have hlen := codes_len hx
  have s1 := num_short hx (n400 hx)
  have s2 := num_short hx (b30 hx)
  have hw : ∀ m, m ≤ 400 → Okw (numL m ++ [c]) ∧ badL (numL m ++ [c]) = true := fun m hm => by
    have hb : badL (numL m ++ [c]) = true := bad_mem (c := c) (by simp) (by rcases hc with e | e <;> (rw [e]; decide +kernel))
    have := num_short hx hm
    refine ⟨okw_bad (by rw [List.length_append]; simp only [List.length_cons, List.length_nil]; omega) (fun z => ?_) hb, hb⟩
    rcases List.mem_append.mp z with z | z
    · exact TL.numL_free (.inl (by decide)) z
    · have := List.mem_singleton.mp z; omega
  have hl : (tl t).length ≤ 500 := by rw [ht, List.length_append]; simp only [List.length_cons, List.length_nil]; omega
  have hs : stripL (tl t) = numL x.1.natAbs ++ ((if x.2 = 1 then [] else 47 :: numL x.2.natAbs) ++ [c]) := by
    rw [ht]
    unfold codesM
    rw [List.append_assoc, List.append_assoc, strip_sg]
  by_cases e : x.2 = 1
  · exact fallen [numL x.1.natAbs ++ [c]] hl (by rw [hs, if_pos e]; rfl) (by simp) (fun p hp => by rw [List.mem_singleton.mp hp]; exact (hw _ (n400 hx)).1) (.inl ⟨_, List.mem_cons_self .., (hw _ (n400 hx)).2⟩)
  · refine fallen [numL x.1.natAbs, numL x.2.natAbs ++ [c]] hl (by rw [hs, if_neg e]; simp [TL.joinL]) (by simp) (fun p hp => ?_) (.inl ⟨_, List.mem_cons_of_mem _ (List.mem_cons_self ..), (hw _ (b30 hx)).2⟩)
    rcases List.mem_cons.mp hp with z | other
    · rw [z]; exact k1
    · rw [List.mem_singleton.mp other]; exact (hw _ (b30 hx)).1
/-- a stroke behind -/
theorem bent_stroke {t : Str} (ht : tl t = codesM x ++ [47]) : OkT t ∧ byM t = none := by
  have k1 := num_okw hx (n400 hx)
  have k2 := num_okw hx (b30 hx)
  have k0 : Okw [] := okw_bad (by decide) (by simp) rfl
  have hlen := codes_len hx
  have hl : (tl t).length ≤ 500 := by rw [ht, List.length_append]; simp only [List.length_cons, List.length_nil]; omega
  have hs : stripL (tl t) = numL x.1.natAbs ++ ((if x.2 = 1 then [] else 47 :: numL x.2.natAbs) ++ [47]) := by
    rw [ht]
    unfold codesM
    rw [List.append_assoc, List.append_assoc, strip_sg]
  by_cases e : x.2 = 1
  · refine fallen [numL x.1.natAbs, []] hl (by rw [hs, if_pos e]; rfl) (by simp) (fun p hp => ?_) (.inl ⟨[], by simp, rfl⟩)
    rcases List.mem_cons.mp hp with z | other
    · rw [z]; exact k1
    · rw [List.mem_singleton.mp other]; exact k0
  · refine fallen [numL x.1.natAbs, numL x.2.natAbs, []] hl (by rw [hs, if_neg e]; simp [TL.joinL]) (by simp) (fun p hp => ?_) (.inl ⟨[], by simp, rfl⟩)
    rcases List.mem_cons.mp hp with z | other
    · rw [z]; exact k1
    · rcases List.mem_cons.mp other with z | third
      · rw [z]; exact k2
      · rw [List.mem_singleton.mp third]; exact k0
/-- strokes doubled, a dash behind -/
theorem bent_double {t : Str} (ht : tl t = (sg x.1 ++ (numL x.1.natAbs ++ (if x.2 = 1 then [] else 47 :: 47 :: numL x.2.natAbs))) ++ [45]) : OkT t ∧ byM t = none := by
  by_cases e : x.2 = 1
  · exact bent_behind hx (c := 45) (.inr rfl) (by rw [ht]; unfold codesM; rw [if_pos e, if_pos e])
  · have k1 := num_okw hx (n400 hx)
    have k0 : Okw [] := okw_bad (by decide) (by simp) rfl
    have s1 := num_short hx (n400 hx)
    have s2 := num_short hx (b30 hx)
    have s3 := sg_len x.1
    have hb : badL (numL x.2.natAbs ++ [45]) = true := bad_mem (c := 45) (by simp) (by decide +kernel)
    have kb : Okw (numL x.2.natAbs ++ [45]) := okw_bad (by rw [List.length_append]; simp only [List.length_cons, List.length_nil]; omega) (fun z => by
      rcases List.mem_append.mp z with z | z
      · exact TL.numL_free (.inl (by decide)) z
      · have := List.mem_singleton.mp z; omega) hb
    rw [if_neg e] at ht
    have hl : (tl t).length ≤ 500 := by rw [ht]; simp only [List.length_append, List.length_cons, List.length_nil]; omega
    have hs : stripL (tl t) = numL x.1.natAbs ++ ((47 :: 47 :: numL x.2.natAbs) ++ [45]) := by
      rw [ht, List.append_assoc, List.append_assoc, strip_sg]
    refine fallen [numL x.1.natAbs, [], numL x.2.natAbs ++ [45]] hl (by rw [hs]; simp [TL.joinL]) (by simp) (fun p hp => ?_) (.inl ⟨[], by simp, rfl⟩)
    rcases List.mem_cons.mp hp with z | other
    · rw [z]; exact k1
    · rcases List.mem_cons.mp other with z | third
      · rw [z]; exact k0
      · rw [List.mem_singleton.mp third]; exact kb
/-- over one, written -/
theorem bent_one {t : Str} (ht : tl t = codesM x ++ [47, 49]) : OkT t ∧ byM t = none := by
  have k1 := num_okw hx (n400 hx)
  have k2 := num_okw hx (b30 hx)
  have e49 : [49] = numL 1 := by decide +kernel
  have k3 : Okw [49] := ⟨by decide, by decide, .inr ⟨1, by decide, e49⟩⟩
  have hlen := codes_len hx
  have hl : (tl t).length ≤ 500 := by rw [ht, List.length_append]; simp only [List.length_cons, List.length_nil]; omega
  have hs : stripL (tl t) = numL x.1.natAbs ++ ((if x.2 = 1 then [] else 47 :: numL x.2.natAbs) ++ [47, 49]) := by
    rw [ht]
    unfold codesM
    rw [List.append_assoc, List.append_assoc, strip_sg]
  by_cases e : x.2 = 1
  · have hL : ∀ p ∈ [numL x.1.natAbs, [49]], Okw p := fun p hp => by
      rcases List.mem_cons.mp hp with z | other
      · rw [z]; exact k1
      · rw [List.mem_singleton.mp other]; exact k3
    have hp := parts_is (t := t) (L := [numL x.1.natAbs, [49]]) (by rw [hs, if_pos e]; rfl) (by simp) fun p hp => (hL p hp).2.1
    refine ⟨okT_of hl hp hL, ?_⟩
    obtain ⟨y, z, h, hy, hz⟩ := map_two hp
    unfold byM
    rw [h, List.map_cons, List.map_cons, List.map_nil, (numW_good (n400 hx) hy).1, (numW_good (m := 1) (by decide) (hz.trans e49)).1]
    show chk t (_, 1) = none
    unfold chk
    rw [if_neg]
    rintro ⟨_, h2⟩
    have h3 : (tl (textM _)).length = (tl t).length := congrArg (fun y => (tl y).length) h2
    rw [ht, tl_textM (by show (0 : Int) < 1; decide)] at h3
    unfold codesM at h3
    rw [if_pos e, if_pos rfl] at h3
    simp only [List.length_append, List.length_cons, List.length_nil] at h3
    have hst : Txt.startswith t "-" = decide (x.1 < 0) := by
      rw [starts_tl, ht]
      have := codes_head (x := x)
      have hne : codesM x ≠ [] := by
        unfold codesM
        intro z
        exact TL.numL_ne _ (List.append_eq_nil_iff.mp (List.append_eq_nil_iff.mp z).2).1
      cases hc : codesM x with
      | nil => exact absurd hc hne
      | cons c r =>
        rw [hc] at this
        rw [← this]
        rfl
    have htop : (if Txt.startswith t "-" = true then -((x.1.natAbs : Nat) : Int) else ((x.1.natAbs : Nat) : Int)) = x.1 := by
      rw [hst]
      by_cases h : x.1 < 0
      · rw [decide_eq_true h, if_pos rfl]
        omega
      · rw [decide_eq_false h, if_neg Bool.false_ne_true]
        omega
    rw [htop] at h3
    omega
  · refine fallen [numL x.1.natAbs, numL x.2.natAbs, [49]] hl (by rw [hs, if_neg e]; simp [TL.joinL]) (by simp) (fun p hp => ?_) (.inr (by simp))
    rcases List.mem_cons.mp hp with z | other
    · rw [z]; exact k1
    · rcases List.mem_cons.mp other with z | third
      · rw [z]; exact k2
      · rw [List.mem_singleton.mp third]; exact k3
end
/-- minus nought -/
theorem bent_nought : OkT "-0" ∧ byM "-0" = none := by
  have ht : tl ("-0" : Str) = [45, 48] := by decide +kernel
  have e48 : [48] = numL 0 := by decide +kernel
  have hL : ∀ p ∈ [[48]], Okw p := fun p hp => by rw [List.mem_singleton.mp hp]; exact ⟨by decide, by decide, .inr ⟨0, by decide, e48⟩⟩
  have hp := parts_is (t := "-0") (L := [[48]]) (by rw [ht]; rfl) (by simp) fun p hp => (hL p hp).2.1
  refine ⟨okT_of (by rw [ht]; decide) hp hL, ?_⟩
  obtain ⟨y, h, hy⟩ := map_one hp
  unfold byM
  rw [h, List.map_cons, List.map_nil, (numW_good (m := 0) (by decide) (hy.trans e48)).1]
  show chk "-0" (_, 1) = none
  have e0 : (if Txt.startswith "-0" "-" = true then -((0 : Nat) : Int) else ((0 : Nat) : Int)) = 0 := by split <;> rfl
  rw [e0]
  unfold chk
  rw [if_neg]
  rintro ⟨_, h2⟩
  have h3 : (tl (textM _)).length = (tl ("-0" : Str)).length := congrArg (fun y => (tl y).length) h2
  rw [ht, tl_textM (by decide)] at h3
  revert h3
  decide +kernel
end Lk
/-! More readings over data: lists that are tracked, texts joined, a replace behind a written text. -/
namespace Lk
open PySem PySem.Spec PyProof.Rows L2
/-- a new list -/
def EvN (K : PySem.W.Frag) (te : TE) (σ : L2.St) (H : Hp) (ds : List PyData) : Prop := ∀ H1, Same H H1 → ∀ Q : VK, (∀ p vs H2, Same H1 H2 → H1 p = none → H2 p = some (.lst vs) → DpAll K H2 vs ds → Q (.ref p) H2) → te σ H1 Q
/-- a tracked list -/
def EvK (K : PySem.W.Frag) (te : TE) (σ : L2.St) (H : Hp) (ds : List PyData) : Prop := ∀ H1, Same H H1 → ∀ Q : VK, (∀ p vs H2, Same H1 H2 → H2 p = some (.lst vs) → DpAll K H2 vs ds → Q (.ref p) H2) → te σ H1 Q
section
variable {K : PySem.W.Frag} {σ : L2.St} {H H' : Hp} {ta tb te : TE} {t : TT} {d : PyData} {ds es : List PyData}
theorem EvN.k (h : EvN K te σ H ds) : EvK K te σ H ds := fun H1 e Q q => h H1 e Q fun p vs H2 e2 _ hp hv => q p vs H2 e2 hp hv
theorem EvK.dat (h : EvK K te σ H ds) : EvD K te σ H (.list ds) := fun H1 e Q q => h H1 e Q fun p vs H2 e2 hp hv => q _ H2 e2 (.lst (.inl (.inl hp)) hv)
theorem ek_var {i : Nat} {p : Addr} {vs : List V} (h : σ[i]? = some (some (.ref p))) (hp : H p = some (.lst vs)) (hv : DpAll K H vs ds) : EvK K (tVar i) σ H ds := fun H1 e Q q => ⟨_, h, q p vs H1 (Same.refl _) (e _ _ hp) (dpa_same e hv)⟩
theorem en_lst {tr : TA} (h : EvAs K tr σ H ds) (hl : ds.length ≤ 1000) : EvN K (tLst tr) σ H ds := fun H1 e Q q =>
  el_lst h hl H1 e Q fun p vs H2 e2 hp ps => q p vs _ (e2.trans (Evl.Ex.new hp)) (e2.free hp) upd_same (dpa_same (Evl.Ex.new hp) ps)
theorem en_cat (ha : EvK K ta σ H ds) (hb : EvK K tb σ H es) (h1 : ds.length ≤ 400) (h2 : es.length ≤ 400) : EvN K (tOp rCat ta tb) σ H (ds ++ es) := fun H1 e Q q =>
  ha H1 e _ fun p vs H2 e2 hp hv => hb H2 (e.trans e2) _ fun p' ws H3 e3 hp' hw => ⟨p, p', vs, ws, rfl, rfl, e3 _ _ hp, hp', Nat.le_of_lt (small1000 (by rw [dpa_len hv, dpa_len hw]; omega)), fun l hl =>
    q l _ _ ((e2.trans e3).trans (Evl.Ex.new hl)) ((e2.trans e3).free hl) upd_same (dpa_same (Evl.Ex.new hl) (dpa_app (dpa_same e3 hv) hw))⟩
theorem ek_if {b : Bool} (h : EvB t σ H b) (h1 : b = true → EvK K ta σ H ds) (h2 : b = false → EvK K tb σ H ds) : EvK K (tIf t ta tb) σ H ds := fun H1 e Q q => h H1 e _ fun H2 e2 => by
  cases b with
  | true =>
    show ta σ H2 Q
    exact h1 rfl H2 (e.trans e2) Q fun p vs H3 e3 hp hv => q p vs H3 (e2.trans e3) hp hv
  | false =>
    show tb σ H2 Q
    exact h2 rfl H2 (e.trans e2) Q fun p vs H3 e3 hp hv => q p vs H3 (e2.trans e3) hp hv
/-- a new list goes to a name -/
theorem q_asgN {D : Ends} {tz : TS} {i : Nat} (h : EvN K te σ H ds) (k : ∀ p vs H1, Same H H1 → H p = none → H1 p = some (.lst vs) → DpAll K H1 vs ds → tz D (σ.set i (some (.ref p))) H1) : tSeq (tAsg te (gName i)) tz D σ H := h H (Same.refl H) _ fun p vs H1 e hp h1 hv => k p vs H1 e hp h1 hv
/-- texts -/
theorem ed_cat {x y : Str} (ha : EvD K ta σ H (.str x)) (hb : EvD K tb σ H (.str y)) (h1 : x.length ≤ 400) (h2 : y.length ≤ 400) : EvD K (tOp (fun x y H Q => ∃ i j, x = .str i ∧ y = .str j ∧ i.length + j.length ≤ sizeLine ∧ Q (.str (i ++ j)) H) ta tb) σ H (.str (x ++ y)) := fun H1 e Q q =>
  ha H1 e _ fun v H2 e2 p => hb H2 (e.trans e2) _ fun w H3 e3 p' => by
    cases p
    cases p'
    exact ⟨x, y, rfl, rfl, Nat.le_of_lt (small1000 (by omega)), q _ H3 (e2.trans e3) (.str _)⟩
theorem ed_join {x : Str} {ys : List Str} (ha : EvD K ta σ H (.str x)) (hb : EvD K tb σ H (.list (ys.map .str))) (hz : (ys.map (·.length)).sum + ys.length * x.length ≤ 16777216) :
    EvD K (tM1 (fun x xs H Q => ∃ a p, ∃ ys : List Str, x = .str a ∧ xs = [.ref p] ∧ (SqL K H p (ys.map V.str) ∨ SqT K H p (ys.map V.str)) ∧ (ys.map (·.length)).sum + ys.length * a.length ≤ 16777216 ∧ Q (.str (Txt.join a ys)) H) ta tb) σ H (.str (Txt.join x ys)) := fun H1 e Q q =>
  ha H1 e _ fun v H2 e2 p => by
    cases p
    refine ⟨⟨x, rfl⟩, hb H2 (e.trans e2) _ fun w H3 e3 p' => ?_⟩
    cases p' with
    | @lst a xs _ hs hall =>
      rw [dpa_strs' hall] at hs
      exact ⟨x, a, ys, rfl, rfl, .inl hs, hz, q _ H3 (e2.trans e3) (.str _)⟩
theorem ed_strI {i : Int} (ha : EvD K ta σ H (.int i)) (h : i.natAbs.log2 < 1920) : EvD K (tCB (fun xs H Q => ∃ i : Int, xs = [.int i] ∧ i.natAbs.log2 < 1920 ∧ Q (.str (toString i)) H) (tCons ta tNil)) σ H (.str (toString i)) := fun H1 e Q q =>
  ha H1 e _ fun v H2 e2 p => by
    cases p
    exact ⟨i, rfl, h, q _ H2 e2 (.str _)⟩
theorem ed_repl {x y z : Str} (ha : EvD K ta σ H (.str x)) (h : x.length + (x.length + 1) * z.length ≤ 16777216) : EvD K (CwR.tReplC ta y z) σ H (.str (Txt.replace x y z)) := fun H1 e Q q =>
  ha H1 e _ fun v H2 e2 p => by
    cases p
    exact ⟨x, rfl, h, q _ H2 e2 (.str _)⟩
/-- sum, least, greatest of ints -/
theorem ed_sum {ns : List Int} (ha : EvD K ta σ H (.list (ns.map .int))) : EvD K (tCB (rSum K) (tCons ta tNil)) σ H (.int ns.sum) := fun H1 e Q q =>
  ha H1 e _ fun v H2 e2 p => by
    cases p with
    | @lst a xs _ hs hall =>
      rw [dpa_ints' hall] at hs
      exact ⟨a, ns, rfl, hs, q _ H2 e2 (.int _)⟩
theorem ed_min {ns : List Int} {m : Int} (ha : EvD K ta σ H (.list (ns.map .int))) (hm : m ∈ ns) (hle : ∀ y ∈ ns, m ≤ y) : EvD K (tCB (rMin K) (tCons ta tNil)) σ H (.int m) := fun H1 e Q q =>
  ha H1 e _ fun v H2 e2 p => by
    cases p with
    | @lst a xs _ hs hall =>
      rw [dpa_ints' hall] at hs
      refine ⟨a, ns, rfl, hs, List.length_pos_of_mem hm, fun m' h1 h2 => ?_⟩
      have : m' = m := Int.le_antisymm (h2 m hm) (hle m' h1)
      subst this
      exact q _ H2 e2 (.int _)
theorem ed_max {ns : List Int} {m : Int} (ha : EvD K ta σ H (.list (ns.map .int))) (hm : m ∈ ns) (hle : ∀ y ∈ ns, y ≤ m) : EvD K (tCB (rMax K) (tCons ta tNil)) σ H (.int m) := fun H1 e Q q =>
  ha H1 e _ fun v H2 e2 p => by
    cases p with
    | @lst a xs _ hs hall =>
      rw [dpa_ints' hall] at hs
      refine ⟨a, ns, rfl, hs, List.length_pos_of_mem hm, fun m' h1 h2 => ?_⟩
      have : m' = m := Int.le_antisymm (hle m' h1) (h2 m hm)
      subst this
      exact q _ H2 e2 (.int _)
theorem ed_subB {i j : Bool} (ha : EvD K ta σ H (.bool i)) (hb : EvD K tb σ H (.bool j)) : EvD K (tOp (fun x y H Q => ∃ i j, x = .bl i ∧ y = .bl j ∧ Q (.int (b2i i - b2i j)) H) ta tb) σ H (.int (b2i i - b2i j)) := fun H1 e Q q =>
  ha H1 e _ fun v H2 e2 p => hb H2 (e.trans e2) _ fun w H3 e3 p' => by
    cases p
    cases p'
    exact ⟨i, j, rfl, rfl, q _ H3 (e2.trans e3) (.int _)⟩
/-- the first one, as a tuple of its own -/
theorem ed_first {d' : PyData} {rest : List PyData} {tl' th : TO} (hl : tl' = tNoPart) (hh : th = tPart (tC (.int 1))) (ha : EvD K ta σ H (.tuple (d :: d' :: rest))) : EvD K (tSl (rSlT K) ta tl' th) σ H (.tuple [d]) := fun H1 e Q q => by
  subst hl hh
  exact ha H1 e _ fun v H2 e2 p => by
    cases p with
    | @tup a xs _ hs hall =>
      cases hall with
      | @cons x xs' _ _ p1 q1 =>
        cases q1 with
        | @cons y ys _ _ p2 q2 =>
          have hc : cutV (x :: y :: ys) none (some 1) = [x] := by
            unfold cutV
            rw [show HT.sIx (x :: y :: ys).length (x :: y :: ys).length (some 1) = min 1 (x :: y :: ys).length from HT.sIx_nat _ _ 1, HT.sIx_none, List.drop_zero, Nat.sub_zero, Nat.min_eq_left (by simp)]
            rfl
          refine ⟨1, rfl, a, _, rfl, hs, ?_, fun p hp => q _ _ (e2.trans (Evl.Ex.new hp)) (.tup (.inl (.inl (by rw [hc]; exact upd_same))) (dpa_one (dp_same (Evl.Ex.new hp) p1)))⟩
          rw [show HT.sIx (x :: y :: ys).length (x :: y :: ys).length (some 1) = min 1 (x :: y :: ys).length from HT.sIx_nat _ _ 1, Nat.min_eq_left (by simp)]
          simp
/-- a chain of comparisons as a value -/
theorem ed_chain {tc : TE} {g g' : Int → Int → Bool} {i j k : Int} (ha : EvD K ta σ H (.int i)) (hb : EvD K tb σ H (.int j)) (hc : EvD K tc σ H (.int k)) :
    EvD K (tChain (rI0 fun i j => .bl (g i j)) (rI0 fun i j => .bl (g' i j)) ta tb tc) σ H (.bool (g i j && g' j k)) := fun H1 e Q q =>
  ha H1 e _ fun v H2 e2 p => hb H2 (e.trans e2) _ fun u H3 e3 p' => by
    cases p
    cases p'
    refine ⟨i, j, rfl, rfl, g i j, rfl, ?_⟩
    cases hg : g i j with
    | true =>
      show tc σ H3 _
      refine hc H3 ((e.trans e2).trans e3) _ fun w H4 e4 p => ?_
      cases p
      rw [hg, Bool.true_and] at q
      exact ⟨j, k, rfl, rfl, q _ H4 ((e2.trans e3).trans e4) (.bl _)⟩
    | false =>
      rw [hg, Bool.false_and] at q
      exact q _ H3 (e2.trans e3) (.bl false)
/-- xs.append(e) -/
theorem s_app {D : Ends} {l : Addr} {xs : List V} {i : Nat} (hl : H l = some (.lst xs)) (ha : σ[i]? = some (some (.ref l))) (h : EvD K te σ H d) (hz : xs.length ≤ 900) (k : ∀ v H1, Same H H1 → Dp K H1 v d → D.nx σ (upd H1 l (.lst (xs ++ [v])))) :
    tDrop (tBM K "list" rAppend (tVar i) (tCons te tNil)) D σ H := ⟨_, ha, .inl ⟨rfl, xs, .inl (.inl hl)⟩, h H (Same.refl _) _ fun v H1 e1 p => ⟨l, xs, v, rfl, rfl, e1 _ _ hl, small1000 (by omega), k v H1 e1 p⟩⟩
theorem q_app {D : Ends} {tz : TS} {l : Addr} {xs : List V} {i : Nat} (hl : H l = some (.lst xs)) (ha : σ[i]? = some (some (.ref l))) (h : EvD K te σ H d) (hz : xs.length ≤ 900) (k : ∀ v H1, Same H H1 → Dp K H1 v d → tz D σ (upd H1 l (.lst (xs ++ [v])))) :
    tSeq (tDrop (tBM K "list" rAppend (tVar i) (tCons te tNil))) tz D σ H := s_app (D := { D with nx := tz D }) hl ha h hz k
end
/-! ### a token behind a written text -/
def PEK (X : Cx) (e : Expr) (t : TE) : Prop :=
  ∀ (pins : List (Addr × Obj)) (s : Shared) (σ : L2.St) (H : Hp) (Q : VK), Inv X pins σ H s → t σ H Q → wpAny (model X.prog X.w) X.A (eval e X.env) (fun v s' => EP X pins σ Q v s' ∧ 1 ≤ s'.toks) X.xe s
section
variable {X : Cx} {e : Expr} {es : List Expr} {te : TE} {ta : TA}
theorem pek_cat {c : Str} {j : Nat} {cp pos : Pos} {op : Operator} {r : R2} (ho : OpR X (binaryOp op) r) (ha : PE X e te) : PEK X (.BinOp e op (.Constant (.str c) j cp) pos) (tOp r te (tC (.str c))) := by
  intro pins s σ H Q I h
  refine wpAny_BinOp (thn (ha.run pins s σ H _ I h) fun v s1 ⟨x, H1, I1, r1, q1⟩ => Calls.Constant_str ?_)
  refine wpAny_mono (PySem.wpAny_toks (ho pins _ σ H1 x (.str c) v _ Q (I1.tok (s1.toks + 1)) r1 ⟨_, rfl⟩ q1)) (fun u s2 q => ⟨q.2, ?_⟩) fun _ _ z => z.2
  have : s1.toks + 1 ≤ s2.toks := q.1
  omega
theorem pa_consT (ha : PEK X e te) (hr : PAT X es ta) (hs : starEach (e :: es) X.env = (false, eval e X.env) :: starEach es X.env := by rfl) : PA X (e :: es) (tCons te ta) := by
  constructor
  intro at_ pins s σ H Q I reads
  rw [hs]
  change wpAny _ _ (spliced ((false, eval e X.env) :: backTo at_ (starEach es X.env))) _ _ s
  refine Calls.spliced_cons (thn (ha pins s σ H _ I reads) fun v s1 got => ?_)
  obtain ⟨⟨x, H1, I1, r1, q1⟩, hk⟩ := got
  exact thn (hr at_ pins s1 σ H1 _ hk I1 q1) fun us s2 ⟨xs, H2, I2, r2, q2⟩ => ⟨x :: xs, H2, I2, .cons r1 r2, q2⟩
end
end Lk
/-! The law's own text of a fraction, and its seven bent ones. -/
namespace Lk
open PySem PySem.Spec PyProof.Rows L2
def absM (i : Int) : Int := if i < 0 then -i else i
def signM (x : Int × Int) : Str := if x.1 < 0 then "-" else ""
def wordsM (x : Int × Int) : List Str := ([toString (absM x.1)] : List Str) ++ (if x.2 = 1 then ([] : List Str) else (["/", toString x.2] : List Str))
def lawT (x : Int × Int) : Str := signM x ++ Txt.join "" (wordsM x)
def bentsM (t : Str) : List Str := [t ++ "/1", "0" ++ t, t ++ " ", "+" ++ t, t ++ "/", "-0", Txt.replace t "/" "//" ++ "-"]
theorem tl_abs (i : Int) : tl (toString (absM i) : Str) = numL i.natAbs := by
  have h : 0 ≤ absM i := by unfold absM; split <;> omega
  have e : (absM i).natAbs = i.natAbs := by unfold absM; split <;> omega
  rw [tl_int, e, show sg (absM i) = [] from if_neg (by omega), List.nil_append]
theorem tl_sign (x : Int × Int) : tl (signM x) = sg x.1 := by
  unfold signM sg
  split
  · decide +kernel
  · decide +kernel
theorem tl_empty : tl ("" : Str) = [] := by decide +kernel
theorem tl_words {x : Int × Int} (h : 0 < x.2) : tl (Txt.join "" (wordsM x)) = numL x.1.natAbs ++ (if x.2 = 1 then [] else 47 :: numL x.2.natAbs) := by
  show TL.tl (Txt.join "" (wordsM x)) = _
  rw [TL.join_eq, TL.tl_join]
  show TL.joinL (tl ("" : Str)) ((wordsM x).map tl) = _
  rw [tl_empty]
  unfold wordsM
  by_cases c : x.2 = 1
  · rw [if_pos c, if_pos c, List.append_nil, List.map_cons, List.map_nil, tl_abs, List.append_nil]
    rfl
  · rw [if_neg c, if_neg c]
    show TL.joinL [] [tl (toString (absM x.1) : Str), tl ("/" : Str), tl (toString x.2 : Str)] = _
    rw [tl_abs, tl_slash, tl_int, show sg x.2 = [] from if_neg (by omega)]
    rfl
theorem tl_lawT {x : Int × Int} (h : 0 < x.2) : tl (lawT x) = codesM x := by
  unfold lawT
  show TL.tl (signM x ++ Txt.join "" (wordsM x)) = _
  rw [TL.tl_append]
  show tl (signM x) ++ tl (Txt.join "" (wordsM x)) = _
  rw [tl_sign, tl_words h]
  rfl
theorem lawT_is {x : Int × Int} (h : 0 < x.2) : lawT x = textM x := TL.ext_tl ((tl_lawT h).trans (tl_textM h).symm)
theorem lawT_len {x : Int × Int} (h : Sml x) : (lawT x).length ≤ 20 := by
  rw [TL.len_tl]
  show (tl (lawT x)).length ≤ 20
  rw [tl_lawT h.1.1]
  exact codes_len h
theorem words_len {x : Int × Int} (h : Sml x) : (Txt.join "" (wordsM x)).length ≤ 20 := by
  have := lawT_len h
  unfold lawT at this
  rw [TL.len_tl, TL.tl_append, List.length_append, ← TL.len_tl, ← TL.len_tl] at this
  omega
theorem sign_len (x : Int × Int) : (signM x).length ≤ 1 := by
  rw [TL.len_tl]
  show (tl (signM x)).length ≤ 1
  rw [tl_sign]
  exact sg_len _
theorem words_fit {x : Int × Int} (h : Sml x) : ((wordsM x).map (·.length)).sum + (wordsM x).length * ("" : Str).length ≤ 16777216 := by
  have e0 : ("" : Str).length = 0 := by decide +kernel
  have e1 : ("/" : Str).length = 1 := by decide +kernel
  have a1 : (toString (absM x.1) : Str).length ≤ 5 := tl_toString_len _ (by unfold absM; have := h.2; split <;> omega)
  have a2 : (toString x.2 : Str).length ≤ 5 := tl_toString_len _ (by have := h.2; have := h.1.1; omega)
  rw [e0, Nat.mul_zero, Nat.add_zero]
  unfold wordsM
  split
  · simp only [List.append_nil, List.map_cons, List.map_nil, List.sum_cons, List.sum_nil]
    omega
  · simp only [List.cons_append, List.nil_append, List.map_cons, List.map_nil, List.sum_cons, List.sum_nil]
    omega
theorem repl_free {z : List Nat} : ∀ (l r : List Nat), 47 ∉ l → StrLaws.replL [47] z (l ++ r) = l ++ StrLaws.replL [47] z r
  | [], r, _ => rfl
  | c :: l, r, h => by
    have hc : c ≠ 47 := fun e => h (by rw [e]; exact List.mem_cons_self ..)
    rw [List.cons_append, StrLaws.replL_miss (by intro e; exact hc (List.head_eq_of_cons_eq e)), repl_free l r fun z => h (List.mem_cons_of_mem _ z)]
    rfl
theorem tl_repl {x : Int × Int} {t : Str} (ht : tl t = codesM x) : tl (Txt.replace t "/" "//") = sg x.1 ++ (numL x.1.natAbs ++ (if x.2 = 1 then [] else 47 :: 47 :: numL x.2.natAbs)) := by
  have e1 : ("/" : Str).cps.toList = [47] := tl_slash
  have e2 : ("//" : Str).cps.toList = [47, 47] := by decide +kernel
  have e3 : 1 ≤ ("/" : Str).length := by decide +kernel
  have e := StrLaws.replace_list (x := t) (y := "/") (z := "//") e3
  rw [e1, e2] at e
  show (Txt.replace t "/" "//").cps.toList = _
  rw [e]
  show StrLaws.replL [47] [47, 47] (tl t) = _
  rw [ht]
  unfold codesM
  rw [repl_free _ _ (sg_free _), repl_free _ _ (TL.numL_free (.inl (by decide)))]
  by_cases c : x.2 = 1
  · rw [if_pos c, if_pos c, StrLaws.replL_nil]
  · rw [if_neg c, if_neg c, StrLaws.replL_hit (by simp) rfl]
    have f := repl_free (z := [47, 47]) (numL x.2.natAbs) [] (TL.numL_free (.inl (by decide)))
    rw [List.append_nil, StrLaws.replL_nil, List.append_nil] at f
    show sg x.1 ++ (numL x.1.natAbs ++ ([47, 47] ++ StrLaws.replL [47] [47, 47] (numL x.2.natAbs))) = _
    rw [f]
    rfl
theorem tl_app (x y : Str) : tl (x ++ y) = tl x ++ tl y := TL.tl_append x y
theorem bents_ok {x : Int × Int} (hx : Sml x) {t : Str} (ht : tl t = codesM x) : ∀ y ∈ bentsM t, OkT y ∧ byM y = none := by
  intro y hy
  unfold bentsM at hy
  simp only [List.mem_cons, List.not_mem_nil, or_false] at hy
  rcases hy with e | e | e | e | e | e | e
  · subst e
    exact bent_one hx (by rw [tl_app, ht, show tl ("/1" : Str) = [47, 49] by decide +kernel])
  · subst e
    exact bent_ahead hx (c := 48) (.inl rfl) (by rw [tl_app, ht, show tl ("0" : Str) = [48] by decide +kernel]; rfl)
  · subst e
    exact bent_behind hx (c := 32) (.inl rfl) (by rw [tl_app, ht, show tl (" " : Str) = [32] by decide +kernel])
  · subst e
    exact bent_ahead hx (c := 43) (.inr rfl) (by rw [tl_app, ht, show tl ("+" : Str) = [43] by decide +kernel]; rfl)
  · subst e
    exact bent_stroke hx (by rw [tl_app, ht, tl_slash])
  · subst e
    exact bent_nought
  · subst e
    exact bent_double hx (by rw [tl_app, tl_repl ht, show tl ("-" : Str) = [45] by decide +kernel])
theorem repl_len {x : Int × Int} (hx : Sml x) {t : Str} (ht : tl t = codesM x) : (Txt.replace t "/" "//").length ≤ 40 := by
  have h1 := num_short hx (n400 hx)
  have h2 := num_short hx (b30 hx)
  have h3 := sg_len x.1
  rw [TL.len_tl]
  show (tl (Txt.replace t "/" "//")).length ≤ 40
  rw [tl_repl ht, List.length_append, List.length_append]
  split
  · simp only [List.length_nil]; omega
  · rw [List.length_cons, List.length_cons]; omega
end Lk
/-! _law_right, its statements as terms. -/
namespace Lk
open PySem PySem.Spec PyProof.Rows L2
abbrev sRight : Stmt := topS 34
abbrev NR : List Str := ["_law_urn", "_law_some", "_law_x", "_law_y", "_law_base", "_law_own", "_law_tops", "_law_heard", "_law_due", "_law_floor", "_law_good", "_law_text", "_law_bent", "_law_k"]
theorem scRight : FnScope NR ["_law_urn"] (defScope sRight) := ⟨rfl, rfl, rfl, by decide +kernel, rfl, by decide +kernel, by decide +kernel⟩
/-- what the module holds that _law_right asks -/
structure RTxt (P : Program) (w : World) (K : PySem.W.Frag) (mg : Str → Option Value) (base : Heap) : Prop where
  take : Def P w K mg base CX0 4 "_law_take" ["_law_urn", "_law_low_so"] spTake
  part : Def P w K mg base CX0 4 "_law_part" ["_law_urn", "_law_most", "_law_base"] (spPart K)
  plus : Def P w K mg base CX0 4 "plus" ["x", "y"] (spF K (F2 plusM CB))
  minus : Def P w K mg base CX0 4 "minus" ["x", "y"] (spF K (F2 minusM CB))
  times : Def P w K mg base CX0 4 "times" ["x", "y"] (spF K (F2 timesM CB))
  over : Def P w K mg base CX0 4 "over" ["x", "y"] (spF K (F2 overM CO))
  order : Def P w K mg base CX0 4 "order" ["x", "y"] (spF K FOrder)
  total : Def P w K mg base CX0 4 "total" ["some"] (spF K FTotal)
  least : Def P w K mg base CX0 4 "least" ["some"] (spF K (FMost leastM))
  great : Def P w K mg base CX0 4 "greatest" ["some"] (spF K (FMost greatM))
  whole : Def P w K mg base CX0 4 "whole" ["number"] (spF K FWhole)
  frac : Def P w K mg base CX0 4 "fraction" ["top", "bottom"] (spF K FFrac)
  floor : Def P w K mg base CX0 4 "floor_of" ["x"] (spF K FFloor)
  isf : Def P w K mg base CX0 4 "is_fraction" ["thing"] (spF K FIsF)
  ftext : Def P w K mg base CX0 4 "fraction_text" ["x"] (spF K FText)
  read : Def P w K mg base CX0 4 "_law_read" ["_law_text"] (spF K FRead)
  sum : Def P w K mg base CX0 4 "_law_sum" ["_law_x", "_law_y"] (spF K (F2 plusM CB))
  low : Def P w K mg base CX0 4 "_law_low" ["_law_top", "_law_bottom"] (spF K FFrac)
  of : Def P w K mg base CX0 4 "_law_of" ["_law_urn", "_law_some_so"] spOf
  same : Def P w K mg base CX0 4 "_law_same" ["_law_got", "_law_goal"] (spF K (FSame 2))
  mtup : mg "tuple" = none
  mran : mg "range" = none
  msum : mg "sum" = none
  mmin : mg "min" = none
  mmax : mg "max" = none
  misi : mg "isinstance" = none
  mint : mg "int" = none
  mboo : mg "bool" = none
  mstr : mg "str" = none
  mabs : mg "abs" = none
def spRight : Sp := fun vs H Q _ => ∃ (p : Addr) (a b : Int), vs = [.ref p] ∧ H p = some (.lst (urn a b 0)) ∧ UB b 0 ∧ ∀ H', But p H H' → Q (.bl true) H'
/-- behind the first statement -/
def Mid0 (K : PySem.W.Frag) (p : Addr) (b : Int) (H : Hp) (σ : L2.St) (H1 : Hp) : Prop := ∃ (vs : V) (fs : List (Int × Int)) (a c : Int),
  σ = [some (.ref p), some vs, none, none, none, none, none, none, none, none, none, none, none, none] ∧ Dp K H1 vs (.tuple (fs.map fr)) ∧ (∀ f ∈ fs, Sml f) ∧ 2 ≤ fs.length ∧ fs.length ≤ 8 ∧
  H1 p = some (.lst (urn a b c)) ∧ 0 ≤ c ∧ c ≤ 20 ∧ But p H H1
/-- behind the lists' making -/
def Mid1 (K : PySem.W.Frag) (p : Addr) (b : Int) (H : Hp) (n : Nat) (σ : L2.St) (H1 : Hp) : Prop := ∃ (vs vx vy vb vt : V) (vo : Option V) (x y : Int × Int) (a c : Int) (ph pd : Addr) (hv dv : List V) (ds : List PyData),
  σ = [some (.ref p), some vs, some vx, some vy, some vb, vo, some vt, some (.ref ph), some (.ref pd), none, none, none, none, none] ∧ Dp K H1 vx (fr x) ∧ Dp K H1 vy (fr y) ∧ Sml x ∧ Sml y ∧
  H1 p = some (.lst (urn a b c)) ∧ 0 ≤ c ∧ c ≤ 20 ∧ But p H H1 ∧ ph ≠ p ∧ pd ≠ p ∧ ph ≠ pd ∧ H ph = none ∧ H pd = none ∧ H1 ph = some (.lst hv) ∧ H1 pd = some (.lst dv) ∧ DpAll K H1 hv ds ∧ DpAll K H1 dv ds ∧ (∀ d ∈ ds, NoL d) ∧ (∀ d ∈ ds, Dep 1 d) ∧ ds.length ≤ n
theorem s_asgN {K : PySem.W.Frag} {σ : L2.St} {H : Hp} {te : TE} {ds : List PyData} {D : Ends} {i : Nat} (h : EvN K te σ H ds) (k : ∀ p vs H1, Same H H1 → H p = none → H1 p = some (.lst vs) → DpAll K H1 vs ds → D.nx (σ.set i (some (.ref p))) H1) : tAsg te (gName i) D σ H := h H (Same.refl H) _ fun p vs H1 e hp h1 hv => k p vs H1 e hp h1 hv
theorem tyes_go {σ : L2.St} {H : Hp} {Q : Bool → Hp → Prop} (h : Q true H) : tYes σ H Q := h
theorem But.free {p q : Addr} {H H' : Hp} (e : But p H H') (h : H' q = none) (n : q ≠ p) : H q = none := by
  cases z : H q with
  | none => rfl
  | some o =>
    rw [e q o n z] at h
    cases h
theorem But.mut {p q : Addr} {H H' : Hp} {o : HO} (e : But p H H') (h : H q = none) : But p H (upd H' q o) := fun a u n r => by
  rw [upd_ne (ne_of_none r h)]
  exact e a u n r
theorem exists_min : ∀ {ns : List Int}, ns ≠ [] → ∃ m, m ∈ ns ∧ ∀ y ∈ ns, m ≤ y
  | [n], _ => ⟨n, List.mem_cons_self .., fun y hy => by rw [List.mem_singleton.mp hy]; exact Int.le_refl _⟩
  | n :: k :: r, _ => by
    obtain ⟨m, hm, hle⟩ := exists_min (ns := k :: r) (by simp)
    by_cases h : n ≤ m
    · exact ⟨n, List.mem_cons_self .., fun y hy => by
        rcases List.mem_cons.mp hy with e | other
        · omega
        · have := hle y other; omega⟩
    · exact ⟨m, List.mem_cons_of_mem _ hm, fun y hy => by
        rcases List.mem_cons.mp hy with e | other
        · omega
        · exact hle y other⟩
theorem exists_max : ∀ {ns : List Int}, ns ≠ [] → ∃ m, m ∈ ns ∧ ∀ y ∈ ns, y ≤ m
  | [n], _ => ⟨n, List.mem_cons_self .., fun y hy => by rw [List.mem_singleton.mp hy]; exact Int.le_refl _⟩
  | n :: k :: r, _ => by
    obtain ⟨m, hm, hle⟩ := exists_max (ns := k :: r) (by simp)
    by_cases h : m ≤ n
    · exact ⟨n, List.mem_cons_self .., fun y hy => by
        rcases List.mem_cons.mp hy with e | other
        · omega
        · have := hle y other; omega⟩
    · exact ⟨m, List.mem_cons_of_mem _ hm, fun y hy => by
        rcases List.mem_cons.mp hy with e | other
        · omega
        · exact hle y other⟩
theorem dep_fr (f : Int × Int) : Dep 1 (fr f) := .tup (by show 2 ≤ 900; decide) fun d h => by
  rcases List.mem_cons.mp h with e | other
  · rw [e]; exact .int _ _
  · rcases List.mem_cons.mp other with e | none
    · rw [e]; exact .int _ _
    · exact nomatch none
def Fl (d : PyData) : Prop := NoL d ∧ Dep 1 d
theorem fl_fr (f : Int × Int) : Fl (fr f) := ⟨.fr f, dep_fr f⟩
theorem fl_int (i : Int) : Fl (.int i) := ⟨.int i, .int _ i⟩
theorem fl_bl (b : Bool) : Fl (.bool b) := ⟨.bl b, .bl _ b⟩
theorem fl_nil : ∀ d ∈ ([] : List PyData), Fl d := fun _ h => nomatch h
theorem fl_cons {a : PyData} {l : List PyData} (h : Fl a) (t : ∀ d ∈ l, Fl d) : ∀ d ∈ a :: l, Fl d := fun d hd => by
  rcases List.mem_cons.mp hd with e | hd
  · rw [e]; exact h
  · exact t d hd
theorem fl_app {k l : List PyData} (h : ∀ d ∈ k, Fl d) (t : ∀ d ∈ l, Fl d) : ∀ d ∈ k ++ l, Fl d := fun d hd => by
  rcases List.mem_append.mp hd with e | hd
  · exact h d e
  · exact t d hd
theorem flat_fl {ds : List PyData} (h1 : ∀ d ∈ ds, NoL d) (h2 : ∀ d ∈ ds, Dep 1 d) {es : List PyData} (h : ∀ d ∈ es, Fl d) : (∀ d ∈ ds ++ es, NoL d) ∧ ∀ d ∈ ds ++ es, Dep 1 d :=
  ⟨fun d hd => (fl_app (fun d hd => ⟨h1 d hd, h2 d hd⟩) h d hd).1, fun d hd => (fl_app (fun d hd => ⟨h1 d hd, h2 d hd⟩) h d hd).2⟩
theorem nol_ints (l : List Int) : ∀ d ∈ l.map PyData.int, NoL d := fun d hd => by
  obtain ⟨b, _, e⟩ := List.mem_map.mp hd
  rw [← e]
  exact .int b
/-- what is heard and what is due, before the texts -/
def heard1 (x y : Int × Int) (fs : List (Int × Int)) : List PyData := [fr (plusM x y), fr (minusM x y), fr (timesM x y), .int (orderM x y), .int (orderM y x), fr (totalM fs), fr (totalM [x])]
def heard2 (x y : Int × Int) (fs : List (Int × Int)) : List PyData := [fr (leastM x fs), fr (greatM x fs), fr (x.1, 1), fr (nf (x.1 * 6) (x.2 * -6)), fr (nf 0 (0 - y.2))]
def due1 (x y : Int × Int) : List PyData := [fr (plusM x y), fr (plusM x (0 - y.1, y.2)), fr (nf (x.1 * y.1) (x.2 * y.2))]
def due2 (x : Int × Int) (t0 t1 S B : Int) : List PyData := [.int (b2i (decide (t1 < t0)) - b2i (decide (t0 < t1))), .int (b2i (decide (t0 < t1)) - b2i (decide (t1 < t0))), fr (nf S B), fr x]
def due3 (x : Int × Int) (m M B : Int) : List PyData := [fr (nf m B), fr (nf M B), fr (x.1, 1), fr (0 - x.1, x.2), fr (0, 1)]
theorem due_is {x y : Int × Int} {rest : List (Int × Int)} (hall : ∀ f ∈ x :: y :: rest, Sml f) {m M : Int} (hm : m ∈ topsM (baseM (x :: y :: rest)) (x :: y :: rest)) (hle : ∀ z ∈ topsM (baseM (x :: y :: rest)) (x :: y :: rest), m ≤ z)
    (hM : M ∈ topsM (baseM (x :: y :: rest)) (x :: y :: rest)) (hge : ∀ z ∈ topsM (baseM (x :: y :: rest)) (x :: y :: rest), z ≤ M) :
    (due1 x y ++ due2 x (x.1 * (baseM (x :: y :: rest) / x.2)) (y.1 * (baseM (x :: y :: rest) / y.2)) (topsM (baseM (x :: y :: rest)) (x :: y :: rest)).sum (baseM (x :: y :: rest))) ++ due3 x m M (baseM (x :: y :: rest)) = heard1 x y (x :: y :: rest) ++ heard2 x y (x :: y :: rest) := by
  have hx := hall x (List.mem_cons_self (a := x))
  have hy := hall y (List.mem_cons_of_mem _ (List.mem_cons_self ..))
  have hpos : ∀ f ∈ x :: y :: rest, 0 < f.2 := fun f hf => (hall f hf).1.1
  have hred : ∀ f ∈ x :: y :: rest, Red f := fun f hf => (hall f hf).1
  have hB := base_pos hpos
  have dx : 0 < x.2 ∧ x.2 ∣ baseM (x :: y :: rest) := ⟨hx.1.1, base_dvd (List.mem_cons_self ..)⟩
  have dy : 0 < y.2 ∧ y.2 ∣ baseM (x :: y :: rest) := ⟨hy.1.1, base_dvd (List.mem_cons_of_mem _ (List.mem_cons_self ..))⟩
  have q1 : plusM x (0 - y.1, y.2) = minusM x y := minus_is (red_ne hx.1) (red_ne hy.1)
  have q2 := order_is hB dx dy
  have q3 := order_is hB dy dx
  have q4 := total_is hpos
  have q5 := total_one hx.1
  have q6 := least_is hred hm hle
  have q7 := great_is hred hM hge
  have q8 := six hx.1
  have q9 := zero_over hy.1.1
  unfold due1 due2 due3 heard1 heard2
  rw [q1, q2, q3, q4, q5, q6, q7, q8, q9]
  have b : ∀ {c : Prop} [Decidable c], b2i (decide c) = if c then 1 else 0 := fun {c} _ => by
    unfold b2i
    by_cases h : c
    · rw [decide_eq_true h, if_pos rfl, if_pos h]
    · rw [decide_eq_false h, if_neg Bool.false_ne_true, if_neg h]
  rw [b, b]
  rfl
section
variable {P : Program} {w : World} {K : PySem.W.Frag} {mg : Str → Option Value} {base : Heap}
theorem ok_right (R : Raw K mg "_law_right" sRight ["_law_urn"]) (T : RTxt P w K mg base) : Def P w K mg base CX0 5 "_law_right" ["_law_urn"] spRight := by
  refine R.ok fun f fd F => F.ok scRight (fun vs H Q E h => ?_) (fun cdv A outer s H vs Q E hr h => ?_)
  · obtain ⟨p, a, b, rfl, _⟩ := h
    rfl
  obtain ⟨p, a, b, rfl, hp, ⟨hb0, hb1, _, _⟩, q⟩ := h
  refine ⟨_, Evl.pss_cut (ps_set (i := 1) scRight.nd rfl (.inl rfl) (pe_callTy call_tuple_of (by rfl) T.mtup (by decide +kernel) (pa_cons (pe_lc (own := [("_law_k", 13)]) (g := gName 13) (tt := tYes) rfl scRight.nd
        (pi_range1 (by rfl) T.mran (pa_cons (pe_op op_add pe_int (pe_d T.take hr (by rfl) (pa_cons (pv 0) (pa_cons pe_int pa_nil)))) pa_nil)) (blkOk_by (N := NR) (sc := defScope sRight) (by decide +kernel)) (fun _ _ _ _ _ => pg_name (i := 13) scRight.nd rfl (Or.inl rfl)) (fun _ _ _ _ _ => pts_nil)
        (fun _ _ _ _ _ => pe_d T.part hr (by rfl) (pa_cons (pv 0) (pa_cons pe_int (pa_cons pe_int pa_nil))))) pa_nil)))
    -- x, y
    (pss_cons (ps_par (i := 2) (j := 3) (by rfl) scRight.nd rfl rfl (by decide) rfl rfl (pa_cons (pe_ix ix_tup (pv 1) pe_int (fun _ _ => rfl)) (pa_cons (pe_ix ix_tup (pv 1) pe_int (fun _ _ => rfl)) pa_nil)) (by rfl))
    -- base
    (pss_cons (ps_set (i := 4) scRight.nd rfl (.inr rfl) pe_int)
    (pss_cons (ps_for PassesOwn.never rfl (pi_tup (pv 1)) (pg_name (i := 5) scRight.nd rfl (.inl rfl)) (pss_one (ps_set (i := 4) scRight.nd rfl (.inr rfl) (pe_op op_mul (pv 4) (pe_ix ix_tup (pv 5) pe_int (fun _ _ => rfl))))))
    -- tops
    (pss_cons (ps_setLc (i := 6) (own := [("_law_own", 5)]) (g := gName 5) (tt := tYes) rfl scRight.nd rfl rfl (sw_true rfl rfl rfl (by decide +kernel)) (pi_tup (pv 1)) (blkOk_by (N := NR) (sc := defScope sRight) (by decide +kernel))
        (fun _ _ _ _ _ => pg_name (i := 5) scRight.nd rfl (Or.inl rfl)) (fun _ _ _ _ _ => pts_nil) (fun _ _ _ _ _ => pe_op op_mul (pe_ix (r := rIxT K) ix_tup (pv 5) pe_int (fun _ _ => rfl)) (pe_op op_fdiv (pv 4) (pe_ix (r := rIxT K) ix_tup (pv 5) pe_int (fun _ _ => rfl)))))
    -- heard
    (pss_cons (ps_set (i := 7) scRight.nd rfl (.inl rfl) (pe_lst (pa_cons (pe_d T.plus hr (by rfl) (pa_cons (pv 2) (pa_cons (pv 3) pa_nil))) (pa_cons (pe_d T.minus hr (by rfl) (pa_cons (pv 2) (pa_cons (pv 3) pa_nil))) (pa_cons (pe_d T.times hr (by rfl) (pa_cons (pv 2) (pa_cons (pv 3) pa_nil)))
        (pa_cons (pe_d T.order hr (by rfl) (pa_cons (pv 2) (pa_cons (pv 3) pa_nil))) (pa_cons (pe_d T.order hr (by rfl) (pa_cons (pv 3) (pa_cons (pv 2) pa_nil))) (pa_cons (pe_d T.total hr (by rfl) (pa_cons (pv 1) pa_nil)) (pa_cons (pe_d T.total hr (by rfl) (pa_cons (pe_slice sl_tup (pv 1) po_none (po_some pe_int)) pa_nil)) pa_nil)))))))))
    -- due
    (pss_cons (ps_set (i := 8) scRight.nd rfl (.inl rfl) (pe_lst (pa_cons (pe_d T.sum hr (by rfl) (pa_cons (pv 2) (pa_cons (pv 3) pa_nil))) (pa_cons (pe_d T.sum hr (by rfl) (pa_cons (pv 2) (pa_cons (pe_tup (pa_cons (pe_op op_sub pe_int (pe_ix ix_tup (pv 3) pe_int (fun _ _ => rfl))) (pa_cons (pe_ix ix_tup (pv 3) pe_int (fun _ _ => rfl)) pa_nil))) pa_nil)))
        (pa_cons (pe_d T.low hr (by rfl) (pa_cons (pe_op op_mul (pe_ix ix_tup (pv 2) pe_int (fun _ _ => rfl)) (pe_ix ix_tup (pv 3) pe_int (fun _ _ => rfl))) (pa_cons (pe_op op_mul (pe_ix ix_tup (pv 2) pe_int (fun _ _ => rfl)) (pe_ix ix_tup (pv 3) pe_int (fun _ _ => rfl))) pa_nil))) pa_nil)))))
    (pss_cons (ps_set (i := 8) scRight.nd rfl (.inl rfl) (pe_op op_cat (pv 8) (pe_lst (pa_cons (pe_op op_subB (pe_cmpR op_gt (pe_ix ix_list (pv 6) pe_int (fun _ _ => rfl)) (pe_ix ix_list (pv 6) pe_int (fun _ _ => rfl)) (nomark _)) (pe_cmpR op_lt (pe_ix ix_list (pv 6) pe_int (fun _ _ => rfl)) (pe_ix ix_list (pv 6) pe_int (fun _ _ => rfl)) (nomark _)))
        (pa_cons (pe_op op_subB (pe_cmpR op_gt (pe_ix ix_list (pv 6) pe_int (fun _ _ => rfl)) (pe_ix ix_list (pv 6) pe_int (fun _ _ => rfl)) (nomark _)) (pe_cmpR op_lt (pe_ix ix_list (pv 6) pe_int (fun _ _ => rfl)) (pe_ix ix_list (pv 6) pe_int (fun _ _ => rfl)) (nomark _)))
        (pa_cons (pe_d T.low hr (by rfl) (pa_cons (pe_callB (cr_sum rfl) (by rfl) T.msum (by decide +kernel) (pa_cons (pv 6) pa_nil)) (pa_cons (pv 4) pa_nil))) (pa_cons (pv 2) pa_nil)))))))
    (pss_cons (ps_set (i := 7) scRight.nd rfl (.inl rfl) (pe_op op_cat (pv 7) (pe_lst (pa_cons (pe_d T.least hr (by rfl) (pa_cons (pv 1) pa_nil)) (pa_cons (pe_d T.great hr (by rfl) (pa_cons (pv 1) pa_nil)) (pa_cons (pe_d T.whole hr (by rfl) (pa_cons (pe_ix ix_tup (pv 2) pe_int (fun _ _ => rfl)) pa_nil))
        (pa_cons (pe_d T.frac hr (by rfl) (pa_cons (pe_op op_mul (pe_ix ix_tup (pv 2) pe_int (fun _ _ => rfl)) pe_int) (pa_cons (pe_op op_mul (pe_ix ix_tup (pv 2) pe_int (fun _ _ => rfl)) (pe_un un_neg pe_int)) pa_nil))) (pa_cons (pe_d T.frac hr (by rfl) (pa_cons pe_int (pa_cons (pe_op op_sub pe_int (pe_ix ix_tup (pv 3) pe_int (fun _ _ => rfl))) pa_nil))) pa_nil))))))))
    (Evl.pss_cut (ps_set (i := 8) scRight.nd rfl (.inl rfl) (pe_op op_cat (pv 8) (pe_lst (pa_cons (pe_d T.low hr (by rfl) (pa_cons (pe_callB (cr_min rfl) (by rfl) T.mmin (by decide +kernel) (pa_cons (pv 6) pa_nil)) (pa_cons (pv 4) pa_nil))) (pa_cons (pe_d T.low hr (by rfl) (pa_cons (pe_callB (cr_max rfl) (by rfl) T.mmax (by decide +kernel) (pa_cons (pv 6) pa_nil)) (pa_cons (pv 4) pa_nil)))
        (pa_cons (pe_tup (pa_cons (pe_ix ix_tup (pv 2) pe_int (fun _ _ => rfl)) (pa_cons pe_int pa_nil))) (pa_cons (pe_tup (pa_cons (pe_op op_sub pe_int (pe_ix ix_tup (pv 2) pe_int (fun _ _ => rfl))) (pa_cons (pe_ix ix_tup (pv 2) pe_int (fun _ _ => rfl)) pa_nil))) (pa_cons (pe_tup (pa_cons pe_int (pa_cons pe_int pa_nil))) pa_nil))))))))
    -- if y[0] != 0
    (Evl.pss_cut (ps_if (pt_cmpR op_ne (pe_ix ix_tup (pv 3) pe_int (fun _ _ => rfl)) pe_int (nomark _))
        (pss_cons (ps_expr (pe_bm PySem.F.plainAttrs_list PySem.F.slot_list_append PySem.F.type_list_append mt_append (pv 7) (pa_cons (pe_d T.times hr (by rfl) (pa_cons (pe_d T.over hr (by rfl) (pa_cons (pv 2) (pa_cons (pv 3) pa_nil))) (pa_cons (pv 3) pa_nil))) pa_nil)))
        (pss_one (ps_expr (pe_bm PySem.F.plainAttrs_list PySem.F.slot_list_append PySem.F.type_list_append mt_append (pv 8) (pa_cons (pv 2) pa_nil))))) pss_nil)
    -- floor, good
    (pss_cons (ps_set (i := 9) scRight.nd rfl (.inl rfl) (pe_d T.floor hr (by rfl) (pa_cons (pv 2) pa_nil)))
    (pss_cons (ps_set (i := 10) scRight.nd rfl (.inl rfl) (pe_and (pe_callB call_isi (by rfl) T.misi (by decide +kernel) (pa_cons (pv 9) (pa_cons (pe_bltn (v := .ty "int") (by rfl) T.mint (by decide +kernel) rfl) pa_nil)))
        (pe_and (pe_not (pe_callB call_isi (by rfl) T.misi (by decide +kernel) (pa_cons (pv 9) (pa_cons (pe_bltn (v := .ty "bool") (by rfl) T.mboo (by decide +kernel) rfl) pa_nil))))
        (pe_one (pe_chain op_le op_lt (pe_op op_mul (pv 9) (pe_ix ix_tup (pv 2) pe_int (fun _ _ => rfl))) (pe_ix ix_tup (pv 2) pe_int (fun _ _ => rfl)) (pe_op op_mul (pe_op op_add (pv 9) pe_int) (pe_ix ix_tup (pv 2) pe_int (fun _ _ => rfl))))))))
    (pss_cons (ps_set (i := 7) scRight.nd rfl (.inl rfl) (pe_op op_cat (pv 7) (pe_lst (pa_cons (pv 10) (pa_cons (pe_d T.isf hr (by rfl) (pa_cons (pv 2) pa_nil)) (pa_cons (pe_d T.isf hr (by rfl) (pa_cons (pe_tup (pa_cons (pe_op op_mul (pe_ix ix_tup (pv 2) pe_int (fun _ _ => rfl)) pe_int) (pa_cons (pe_op op_mul (pe_ix ix_tup (pv 2) pe_int (fun _ _ => rfl)) pe_int) pa_nil))) pa_nil)) pa_nil))))))
    (pss_cons (ps_set (i := 8) scRight.nd rfl (.inl rfl) (pe_op op_cat (pv 8) (pe_lst (pa_cons pe_bl (pa_cons pe_bl (pa_cons pe_bl pa_nil))))))
    -- text, bent
    (pss_cons (ps_set (i := 11) scRight.nd rfl (.inl rfl) (pe_op op_add_str (pe_ifExp (pt_cmpR op_lt (pe_ix ix_tup (pv 2) pe_int (fun _ _ => rfl)) pe_int (nomark _)) pe_str pe_str)
        (pe_join pe_str (pe_op op_cat (pe_lst (pa_cons (pe_callTy call_str_int (by rfl) T.mstr (by decide +kernel) (pa_cons (pe_callB call_abs (by rfl) T.mabs (by decide +kernel) (pa_cons (pe_ix ix_tup (pv 2) pe_int (fun _ _ => rfl)) pa_nil)) pa_nil)) pa_nil))
          (pe_ifExp (pt_cmpR op_ne (pe_ix ix_tup (pv 2) pe_int (fun _ _ => rfl)) pe_int (nomark _)) (pe_lst (pa_cons pe_str (pa_cons (pe_callTy call_str_int (by rfl) T.mstr (by decide +kernel) (pa_cons (pe_ix ix_tup (pv 2) pe_int (fun _ _ => rfl)) pa_nil)) pa_nil))) (pe_lst pa_nil))))))
    (pss_cons (ps_set (i := 12) scRight.nd rfl (.inl rfl) (pe_d T.of hr (by rfl) (pa_cons (pv 0) (pa_cons (pe_lst (pa_consT (pek_cat op_add_str (pv 11)) (pat_cons (CwR.PET.of (pe_op op_add_str pe_str (pv 11))) (pat_cons (CwR.PET.of (pe_op op_add_str (pv 11) pe_str)) (pat_cons (CwR.PET.of (pe_op op_add_str pe_str (pv 11)))
        (pat_cons (CwR.PET.of (pe_op op_add_str (pv 11) pe_str)) (pat_cons (CwR.PET.of pe_str) (pat_cons (CwR.pet_op op_add_str (CwR.pet_replC (pv 11)) (CwR.PET.of pe_str)) pat_nil)))))))) pa_nil))))
    (pss_cons (ps_set (i := 7) scRight.nd rfl (.inl rfl) (pe_op op_cat (pv 7) (pe_lst (pa_cons (pe_d T.ftext hr (by rfl) (pa_cons (pv 2) pa_nil)) (pa_cons (pe_d T.read hr (by rfl) (pa_cons (pv 11) pa_nil)) (pa_cons (pe_d T.read hr (by rfl) (pa_cons (pv 12) pa_nil)) pa_nil))))))
    (pss_one (ps_ret (pe_d T.same hr (by rfl) (pa_cons (pv 7) (pa_cons (pe_op op_cat (pv 8) (pe_lst (pa_cons (pv 11) (pa_cons (pv 2) (pa_cons (pe_lst (pa_cons pe_str (pa_cons pe_int pa_nil))) pa_nil))))) pa_nil)))))))))))))))))))))), ?_⟩
  refine ⟨Mid0 K p b H, ?_, fun σ H1 hm => ?_⟩
  · -- some = tuple([..])
    refine ⟨.ref p, rfl, p, a, b, 0, 7, rfl, hp, ⟨hb0, hb1, by decide, by decide⟩, by decide, by decide, fun r a1 c1 H1 r0 r1 hc0 hc1 hB1 hp1 => ⟨2, r, rfl, rfl, 2 + r, rfl, by omega, by omega, fun D hD => ?_⟩⟩
    have hpD : p ≠ D := ne_of_none hp1 hD
    refine lc_range (lo := 0) (n := (2 + r).toNat) (fun i H' => ∃ (a' c' : Int) (fs : List (Int × Int)) (acc : List V), H' p = some (.lst (urn a' b c')) ∧ 0 ≤ c' ∧ c' ≤ 1 + 2 * i ∧ But p H H' ∧ H' D = some (.lst acc) ∧ DpAll K H' acc (fs.map fr) ∧ fs.length = i ∧ ∀ f ∈ fs, Sml f)
      ⟨a1, c1, [], [], by rw [upd_ne hpD]; exact hp1, hc0, by omega, hB1.mut (hB1.free hD hpD.symm), upd_same, .nil, rfl, fun _ h => nomatch h⟩ ?_ ?_
    · rintro i H2 hi ⟨a', c', fs, acc, hp2, hc20, hc21, hB2, hacc, hda, hlen, hall⟩
      refine ⟨rfl, ?_⟩
      refine tyes_go ?_
      rw [if_pos rfl]
      refine ⟨.ref p, rfl, p, a', b, c', rfl, hp2, ⟨hb0, hb1, by omega, by omega⟩, hc20, fun f v a2 c2 H3 hs hc30 hc31 hB3 hp3 hd => ?_⟩
      have hacc3 := hB3 _ _ hpD.symm hacc
      have hda3 := dpa_frs (hB3.im hp2) hda
      refine ⟨acc, hacc3, small1000 (by rw [dpa_len hda, List.length_map]; omega), a2, c2, fs ++ [f], acc ++ [v], by rw [upd_ne hpD]; exact hp3, hc30, by omega, (hB2.trans hB3).mut (hB1.free hD hpD.symm), upd_same, ?_, by rw [List.length_append, hlen]; rfl, fun g hg => ?_⟩
      · rw [List.map_append]
        exact dpa_app (dpa_frs (Im.put hacc3) hda3) (dpa_one (dp_im (Im.put hacc3) hd (.fr f)))
      · rcases List.mem_append.mp hg with hg | hg
        · exact hall g hg
        · rw [List.mem_singleton.mp hg]; exact hs
    · rintro H2 ⟨a', c', fs, acc, hp2, hc20, hc21, hB2, hacc, hda, hlen, hall⟩
      refine ⟨D, acc, rfl, .inl ⟨.inl (.inl hacc), fun l hl => ?_⟩⟩
      have e : Same H2 (upd H2 l (.tup acc)) := Evl.Ex.new hl
      exact ⟨.ref l, fs, a', c', rfl, .tup (.inl (.inl upd_same)) (dpa_same e hda), hall, by omega, by omega, e _ _ hp2, hc20, by omega, hB2.trans (But.of e)⟩
  obtain ⟨vs, fs, a1, c1, rfl, hfs, hall, hl2, hl8, hp1, hc0, hc1, hB1⟩ := hm
  obtain ⟨x, y, rest, hE⟩ : ∃ x y rest, fs = x :: y :: rest := by
    match fs, hl2 with
    | x :: y :: rest, _ => exact ⟨x, y, rest, rfl⟩
  have hx : Sml x := hall x (by rw [hE]; exact List.mem_cons_self ..)
  have hy : Sml y := hall y (by rw [hE]; exact List.mem_cons_of_mem _ (List.mem_cons_self ..))
  have sx := hx.sm
  have sy := hy.sm
  have hxn := red_ne hx.1
  have hyn := red_ne hy.1
  have hxb : x.2.natAbs < 2 ^ 64 := by have := hx.2; have := hx.1.1; omega
  have hyb : y.2.natAbs < 2 ^ 64 := by have := hy.2; have := hy.1.1; omega
  have wxy : W9 (x.2 * y.2) := w9_small hxn hyn hxb hyb
  have wyx : W9 (y.2 * x.2) := w9_small hyn hxn hyb hxb
  have hpos : ∀ f ∈ fs, 0 < f.2 := fun f hf => (hall f hf).1.1
  have hBpos := base_pos hpos
  have hBn : (baseM fs).natAbs < 2 ^ 64 := Nat.lt_of_le_of_lt (base_small fun f hf => ⟨hpos f hf, (hall f hf).2.2.2⟩) (Nat.lt_of_le_of_lt (Nat.pow_le_pow_right (by decide) hl8) (by decide))
  have wB : W9 (baseM fs) := ⟨by omega, Nat.lt_of_lt_of_le hBn (Nat.pow_le_pow_right (by decide) (by decide))⟩
  -- x, y
  refine q_par (K := K) (d := fr x) (e := fr y) (ea_cons (ed_ix 0 (ed_var rfl hfs) ed_int rfl (by rw [hE]; rfl)) (ea_cons (ed_ix 1 (ed_var rfl hfs) ed_int rfl (by rw [hE]; rfl)) ea_nil)) fun vx vy H2 e2 px py => ?_
  -- base
  refine q_asg (K := K) (d := .int 1) ed_int fun vb H3 e3 pb => ?_
  cases pb
  cases dp_same (e2.trans e3) hfs with
  | @tup as xs _ hs ha =>
  have hlen : xs.length = fs.length := by rw [dpa_len ha, List.length_map]
  refine Evl.q_forT (K := K) (xs := xs) (Evl.ev_var rfl) hs (fun i σ H' => ∃ vo : Option V, σ = [some (.ref p), some (.ref as), some vx, some vy, some (.int (baseM (fs.take i))), vo, none, none, none, none, none, none, none, none] ∧ Same H3 H') (fun H' e => ⟨none, rfl, e⟩) (fun i σ H' _ ⟨_, _, e⟩ => Evl.ex_t e hs) ?_ ?_
  · rintro i z σ H4 hi ⟨vo, rfl, e4⟩
    obtain ⟨d, hd, pz⟩ := dpa_get' ha hi
    rw [List.getElem?_map] at hd
    obtain ⟨o, ho, rfl⟩ : ∃ o, fs[i]? = some o ∧ fr o = d := by
      cases e : fs[i]? with
      | none => rw [e] at hd; cases hd
      | some o => rw [e] at hd; exact ⟨o, rfl, Option.some.inj hd⟩
    have so := (hall o (List.mem_of_getElem? ho)).sm
    have step : baseM (fs.take (i + 1)) = baseM (fs.take i) * o.2 := foldl_take ho
    refine s_asg (K := K) (ed_mul (ed_var rfl (.int (baseM (fs.take i)))) (ed_bot (ed_var rfl (dp_same e4 pz))) (.inr so.2)) fun v H5 e5 p5 => ?_
    cases p5
    refine ⟨some z, ?_, e4.trans e5⟩
    rw [step]
    rfl
  intro σ H4 hm4
  obtain ⟨vo, rfl, e4⟩ := hm4
  rw [List.take_of_length_le (by omega)]
  have hs4 := Evl.ex_t e4 hs
  have ha4 := dpa_same e4 ha
  have gx := dp_same (e3.trans e4) px
  have gy := dp_same (e3.trans e4) py
  have X : ∀ {σ : L2.St} {H'}, σ[2]? = some (some vx) → Same H4 H' → EvD K (tVar 2) σ H' (fr x) := fun h e => ed_var h (dp_same e gx)
  have Y : ∀ {σ : L2.St} {H'}, σ[3]? = some (some vy) → Same H4 H' → EvD K (tVar 3) σ H' (fr y) := fun h e => ed_var h (dp_same e gy)
  have S : ∀ {σ : L2.St} {H'}, σ[1]? = some (some (.ref as)) → Same H4 H' → EvD K (tVar 1) σ H' (.tuple (fs.map fr)) := fun h e => ed_var h (.tup (Evl.ex_t e hs4) (dpa_same e ha4))
  have BB : ∀ {σ : L2.St} {H'}, σ[4]? = some (some (.int (baseM fs))) → EvD K (tVar 4) σ H' (.int (baseM fs)) := fun h => ed_var h (.int _)
  have hB4 : But p H H4 := hB1.trans (But.of ((e2.trans e3).trans e4))
  have hp4 := ((e2.trans e3).trans e4) _ _ hp1
  -- tops
  refine q_asg (K := K) (d := .list ((topsM (baseM fs) fs).map .int)) (ed_lc (by unfold topsM; rw [List.length_map, List.length_map]; omega) (nol_ints _) fun H5 e5 R k => ⟨.ref as, rfl, as, rfl, ⟨_, Evl.ex_t e5 hs4⟩, k _ H5 (Same.refl _) ⟨_, _, _, walk_tup (xs := xs), by unfold topsM; rw [List.length_map, List.length_map]; exact hlen, fun H' e => Evl.ex_t (e5.trans e) hs4, ?_⟩⟩) fun vt H5 e5 pt => ?_
  · rintro i z d H6 H7 hd e6 ⟨rfl, hz⟩
    obtain ⟨d', hd', pz⟩ := dpa_get' ha4 hz
    rw [List.getElem?_map] at hd'
    obtain ⟨o, ho, rfl⟩ : ∃ o, fs[i]? = some o ∧ fr o = d' := by
      cases e : fs[i]? with
      | none => rw [e] at hd'; cases hd'
      | some o => rw [e] at hd'; exact ⟨o, rfl, Option.some.inj hd'⟩
    unfold topsM at hd
    rw [List.getElem?_map, List.getElem?_map, ho] at hd
    cases hd
    have so := hall o (List.mem_of_getElem? ho)
    refine gname_pure rfl ?_
    exact ed_mul (ed_top (ed_var rfl (dp_same (e5.trans e6) pz))) (ed_div (BB rfl) (ed_bot (ed_var rfl (dp_same (e5.trans e6) pz))) ⟨so.1.1, by have := so.2.2.2; omega⟩) (.inl so.sm.1)
  have TP : ∀ {σ : L2.St} {H'}, σ[6]? = some (some vt) → Same H5 H' → EvD K (tVar 6) σ H' (.list ((topsM (baseM fs) fs).map .int)) := fun h e => ed_var h (dp_same e pt)
  -- heard
  refine q_asgN (K := K) (ds := heard1 x y fs) (en_lst (ea_cons (ed_call (F := F2 plusM CB) (ea_cons (X rfl e5) (ea_cons (Y rfl e5) ea_nil)) ⟨x, y, rfl, sy, wxy, rfl⟩) (ea_cons (ed_call (F := F2 minusM CB) (ea_cons (X rfl e5) (ea_cons (Y rfl e5) ea_nil)) ⟨x, y, rfl, sy, wxy, rfl⟩)
    (ea_cons (ed_call (F := F2 timesM CB) (ea_cons (X rfl e5) (ea_cons (Y rfl e5) ea_nil)) ⟨x, y, rfl, sy, wxy, rfl⟩) (ea_cons (ed_call (F := FOrder) (ea_cons (X rfl e5) (ea_cons (Y rfl e5) ea_nil)) ⟨x, y, rfl, sy, rfl⟩) (ea_cons (ed_call (F := FOrder) (ea_cons (Y rfl e5) (ea_cons (X rfl e5) ea_nil)) ⟨y, x, rfl, sx, rfl⟩)
    (ea_cons (ed_call (F := FTotal) (ea_cons (S rfl e5) ea_nil) ⟨fs, rfl, hall, hl8, rfl⟩) (ea_cons (ed_call (F := FTotal) (ea_cons (ed_first (d := fr x) (d' := fr y) (rest := rest.map fr) rfl rfl ((S rfl e5).is (by rw [hE]; rfl))) ea_nil) ⟨[x], rfl, fun o ho => by rw [List.mem_singleton.mp ho]; exact hx, by show 1 ≤ 8; decide, rfl⟩) ea_nil))))))) (by show 7 ≤ 1000; decide)) fun ph hv H6 e6 hph0 hph hdv => ?_
  -- due
  refine q_asgN (K := K) (ds := due1 x y) (en_lst (ea_cons (ed_call (F := F2 plusM CB) (ea_cons (X rfl (e5.trans e6)) (ea_cons (Y rfl (e5.trans e6)) ea_nil)) ⟨x, y, rfl, sy, wxy, rfl⟩)
    (ea_cons (ed_call (F := F2 plusM CB) (ea_cons (X rfl (e5.trans e6)) (ea_cons (ed_tup (ea_cons (ed_sub ed_int (ed_top (Y rfl (e5.trans e6)))) (ea_cons (ed_bot (Y rfl (e5.trans e6))) ea_nil)) (by show 2 ≤ 1000; decide)) ea_nil)) ⟨x, (0 - y.1, y.2), rfl, ⟨by have := sy.1; unfold Sm at *; dsimp only; omega, sy.2⟩, wxy, rfl⟩)
    (ea_cons (ed_call (F := FFrac) (ea_cons (ed_mul (ed_top (X rfl (e5.trans e6))) (ed_top (Y rfl (e5.trans e6))) (.inr sy.1)) (ea_cons (ed_mul (ed_bot (X rfl (e5.trans e6))) (ed_bot (Y rfl (e5.trans e6))) (.inr sy.2)) ea_nil)) ⟨_, _, rfl, wxy, rfl⟩) ea_nil))) (by show 3 ≤ 1000; decide)) fun pd dv H7 e7 hpd0 hpd hdd => ?_
  have e57 := e6.trans e7
  have e47 := e5.trans e57
  have t0 : (topsM (baseM fs) fs)[0]? = some (x.1 * (baseM fs / x.2)) := by unfold topsM; rw [List.getElem?_map]; rw [show fs[0]? = some x by rw [hE]; rfl]; rfl
  have t1 : (topsM (baseM fs) fs)[1]? = some (y.1 * (baseM fs / y.2)) := by unfold topsM; rw [List.getElem?_map]; rw [show fs[1]? = some y by rw [hE]; rfl]; rfl
  have I0 : ∀ {σ : L2.St} {H'}, σ[6]? = some (some vt) → Same H5 H' → EvD K (tOp (rIxL K) (tVar 6) (tC (.int 0))) σ H' (.int (x.1 * (baseM fs / x.2))) := fun h e => ed_ixL 0 (TP h e) ed_int rfl (by rw [List.getElem?_map, t0]; rfl)
  have I1 : ∀ {σ : L2.St} {H'}, σ[6]? = some (some vt) → Same H5 H' → EvD K (tOp (rIxL K) (tVar 6) (tC (.int 1))) σ H' (.int (y.1 * (baseM fs / y.2))) := fun h e => ed_ixL 1 (TP h e) ed_int rfl (by rw [List.getElem?_map, t1]; rfl)
  refine q_asgN (K := K) (ds := due1 x y ++ due2 x (x.1 * (baseM fs / x.2)) (y.1 * (baseM fs / y.2)) (topsM (baseM fs) fs).sum (baseM fs)) (en_cat (ek_var rfl hpd hdd) (en_lst (ea_cons (ed_subB (ed_opI0 (I0 rfl e57) (I1 rfl e57) fun _ => .bl _) (ed_opI0 (I0 rfl e57) (I1 rfl e57) fun _ => .bl _))
    (ea_cons (ed_subB (ed_opI0 (I1 rfl e57) (I0 rfl e57) fun _ => .bl _) (ed_opI0 (I1 rfl e57) (I0 rfl e57) fun _ => .bl _)) (ea_cons (ed_call (F := FFrac) (ea_cons (ed_sum (TP rfl e57)) (ea_cons (BB rfl) ea_nil)) ⟨_, _, rfl, wB, rfl⟩) (ea_cons (X rfl e47) ea_nil)))) (by show 4 ≤ 1000; decide)).k (by show 3 ≤ 400; decide) (by show 4 ≤ 400; decide)) fun pd2 dv2 H8 e8 hpd20 hpd2 hdd2 => ?_
  have e58 := e57.trans e8
  have e48 := e47.trans e8
  obtain ⟨m, hm, hle⟩ := exists_min (ns := topsM (baseM fs) fs) (by intro z; rw [z] at t0; cases t0)
  obtain ⟨M, hM, hge⟩ := exists_max (ns := topsM (baseM fs) fs) (by intro z; rw [z] at t0; cases t0)
  have sms : ∀ o ∈ x :: y :: rest, Sm o.1 ∧ Sm o.2 := fun o ho => (hall o (by rw [hE]; exact ho)).sm
  have w6 : W9 (x.2 * -6) := w9_small hxn (by decide) hxb (by decide)
  have wy : W9 (0 - y.2) := ⟨by omega, Nat.lt_of_lt_of_le (by omega : (0 - y.2).natAbs < 2 ^ 64) (Nat.pow_le_pow_right (by decide) (by decide))⟩
  -- heard + ..
  refine q_asgN (K := K) (ds := heard1 x y fs ++ heard2 x y fs) (en_cat (ek_var rfl ((e7.trans e8) _ _ hph) (dpa_same (e7.trans e8) hdv)) (en_lst (ea_cons (ed_call (F := FMost leastM) (ea_cons (S rfl e48) ea_nil) ⟨x, y :: rest, by rw [hE], sms, by rw [hE]⟩) (ea_cons (ed_call (F := FMost greatM) (ea_cons (S rfl e48) ea_nil) ⟨x, y :: rest, by rw [hE], sms, by rw [hE]⟩)
    (ea_cons (ed_call (F := FWhole) (ea_cons (ed_top (X rfl e48)) ea_nil) ⟨_, rfl, rfl⟩) (ea_cons (ed_call (F := FFrac) (ea_cons (ed_mul (ed_top (X rfl e48)) ed_int (.inr (by decide))) (ea_cons (ed_mul (ed_bot (X rfl e48)) (ed_neg ed_int) (.inr (by decide))) ea_nil)) ⟨_, _, rfl, w6, rfl⟩)
    (ea_cons (ed_call (F := FFrac) (ea_cons ed_int (ea_cons (ed_sub ed_int (ed_bot (Y rfl e48))) ea_nil)) ⟨_, _, rfl, wy, rfl⟩) ea_nil))))) (by show 5 ≤ 1000; decide)).k (by show 7 ≤ 400; decide) (by show 5 ≤ 400; decide)) fun ph2 hv2 H9 e9 hph20 hph2 hdv2 => ?_
  have e59 := e58.trans e9
  have e49 := e48.trans e9
  -- due + ..
  refine ⟨Mid1 K p b H 12, ?_, fun σ H' hmid => ?_⟩
  · refine s_asgN (K := K) (en_cat (es := due3 x m M (baseM fs)) (ek_var rfl (e9 _ _ hpd2) (dpa_same e9 hdd2)) (en_lst (ea_cons (ed_call (F := FFrac) (ea_cons (ed_min (TP rfl e59) hm hle) (ea_cons (BB rfl) ea_nil)) ⟨_, _, rfl, wB, rfl⟩) (ea_cons (ed_call (F := FFrac) (ea_cons (ed_max (TP rfl e59) hM hge) (ea_cons (BB rfl) ea_nil)) ⟨_, _, rfl, wB, rfl⟩)
      (ea_cons (ed_tup (ea_cons (ed_top (X rfl e49)) (ea_cons ed_int ea_nil)) (by show 2 ≤ 1000; decide)) (ea_cons (ed_tup (ea_cons (ed_sub ed_int (ed_top (X rfl e49))) (ea_cons (ed_bot (X rfl e49)) ea_nil)) (by show 2 ≤ 1000; decide)) (ea_cons (ed_tup (ea_cons ed_int (ea_cons ed_int ea_nil)) (by show 2 ≤ 1000; decide)) ea_nil))))) (by show 5 ≤ 1000; decide)).k (by show 7 ≤ 400; decide) (by show 5 ≤ 400; decide)) fun pd3 dv3 H10 e10 hpd30 hpd3 hdd3 => ?_
    have e410 := e49.trans e10
    have nph : ph2 ≠ p := (ne_of_none (e48 _ _ hp4) hph20).symm
    have npd : pd3 ≠ p := (ne_of_none (e49 _ _ hp4) hpd30).symm
    have hB8 : But p H H8 := hB4.trans (But.of e48)
    have hB9 : But p H H9 := hB4.trans (But.of e49)
    have hEq := due_is (x := x) (y := y) (rest := rest) (by rw [← hE]; exact hall) (m := m) (M := M) (by rw [← hE]; exact hm) (by rw [← hE]; exact hle) (by rw [← hE]; exact hM) (by rw [← hE]; exact hge)
    rw [← hE] at hEq
    rw [hEq] at hdd3
    have fl : ∀ d ∈ heard1 x y fs ++ heard2 x y fs, Fl d := fl_app (fl_cons (fl_fr _) (fl_cons (fl_fr _) (fl_cons (fl_fr _) (fl_cons (fl_int _) (fl_cons (fl_int _) (fl_cons (fl_fr _) (fl_cons (fl_fr _) fl_nil))))))) (fl_cons (fl_fr _) (fl_cons (fl_fr _) (fl_cons (fl_fr _) (fl_cons (fl_fr _) (fl_cons (fl_fr _) fl_nil)))))
    exact ⟨.ref as, vx, vy, .int (baseM fs), vt, vo, x, y, a1, c1, ph2, pd3, hv2, dv3, _, rfl, dp_same e410 gx, dp_same e410 gy, hx, hy, e410 _ _ hp4, hc0, hc1, hB4.trans (But.of e410), nph, npd, ne_of_none hph2 hpd30, hB8.free hph20 nph, hB9.free hpd30 npd, e10 _ _ hph2, hpd3, dpa_same e10 hdv2, hdd3, fun d h => (fl d h).1, fun d h => (fl d h).2, by show 12 ≤ 12; decide⟩
  obtain ⟨vs, vx, vy, vb, vt, vo, x, y, a2, c2, ph, pd, hv, dv, ds, rfl, gx, gy, hx, hy, hp2, hc20, hc21, hB2, nph, npd, nhd, fph, fpd, hph, hpd, hdv, hdd, fl1, fl2, hl⟩ := hmid
  have sx := hx.sm
  have sy := hy.sm
  have hxn := red_ne hx.1
  have hyn := red_ne hy.1
  have hxb : x.2.natAbs < 2 ^ 64 := by have := hx.2; have := hx.1.1; omega
  have hyb : y.2.natAbs < 2 ^ 64 := by have := hy.2; have := hy.1.1; omega
  refine ⟨Mid1 K p b H 13, ?_, fun σ H3 hm => ?_⟩
  · -- if y[0] != 0
    refine s_if (b := !decide (y.1 = 0)) (eb_test (K := K) (ed_neI (ed_top (ed_var rfl gy)) ed_int)) (fun z H3 e3 => ?_) (fun z H3 e3 => ?_)
    · have hy0 : y.1 ≠ 0 := fun w => by rw [decide_eq_true w] at z; cases z
      have hyt : y.1.natAbs < 2 ^ 62 := by have := hy.2; omega
      have wo : W9 (x.2 * y.1) := w9_small hxn hy0 hxb (by omega)
      have on : (overM x y).2 ≠ 0 := red_ne (nf_red wo.1)
      have ob : (overM x y).2.natAbs < 2 ^ 64 := by
        refine Nat.lt_of_le_of_lt (nf_bot wo.1) ?_
        rw [Int.natAbs_mul]
        have h1 : x.2.natAbs ≤ 30 := by have := hx.2; have := hx.1.1; omega
        have h2 : y.1.natAbs ≤ 400 := by have := hy.2; omega
        exact Nat.lt_of_le_of_lt (Nat.mul_le_mul h1 h2) (by decide)
      have wt : W9 ((overM x y).2 * y.2) := w9_small on hyn ob hyb
      have u := undone hx.1 hy.1 hy0
      refine q_app (K := K) (d := fr x) (e3 _ _ hph) rfl ((ed_call (F := F2 timesM CB) (ea_cons (ed_call (F := F2 overM CO) (ea_cons (ed_var rfl (dp_same e3 gx)) (ea_cons (ed_var rfl (dp_same e3 gy)) ea_nil)) ⟨x, y, rfl, sy, wo, rfl⟩) (ea_cons (ed_var rfl (dp_same e3 gy)) ea_nil)) ⟨overM x y, y, rfl, sy, wt, rfl⟩).is (by rw [u])) (by rw [dpa_len hdv]; omega) fun v H4 e4 p4 => ?_
      have e34 := e3.trans e4
      have im5 : Im H4 (upd H4 ph (.lst (hv ++ [v]))) := Im.put (e34 _ _ hph)
      have h5 : upd H4 ph (.lst (hv ++ [v])) pd = some (.lst dv) := by rw [upd_ne nhd.symm]; exact e34 _ _ hpd
      have h5h : upd H4 ph (.lst (hv ++ [v])) ph = some (.lst (hv ++ [v])) := upd_same
      have h5p : upd H4 ph (.lst (hv ++ [v])) p = some (.lst (urn a2 b c2)) := by rw [upd_ne nph.symm]; exact e34 _ _ hp2
      have hB5 : But p H (upd H4 ph (.lst (hv ++ [v]))) := (hB2.trans (But.of e34)).mut fph
      generalize upd H4 ph (.lst (hv ++ [v])) = H5 at *
      refine s_app (K := K) (d := fr x) h5 rfl (ed_var rfl (dp_im im5 (dp_same e34 gx) (.fr x))) (by rw [dpa_len hdd]; omega) fun v2 H6 e6 p6 => ?_
      have im7 : Im H6 (upd H6 pd (.lst (dv ++ [v2]))) := Im.put (e6 _ _ h5)
      have imA : Im H' (upd H6 pd (.lst (dv ++ [v2]))) := ((Im.of e34).trans im5).trans ((Im.of e6).trans im7)
      have fl := flat_fl fl1 fl2 (es := [fr x]) (fl_cons (fl_fr x) fl_nil)
      refine ⟨vs, vx, vy, vb, vt, vo, x, y, a2, c2, ph, pd, hv ++ [v], dv ++ [v2], ds ++ [fr x], rfl, dp_im imA gx (.fr x), dp_im imA gy (.fr y), hx, hy, by rw [upd_ne npd.symm]; exact e6 _ _ h5p, hc20, hc21, (hB5.trans (But.of e6)).mut fpd, nph, npd, nhd, fph, fpd, by rw [upd_ne nhd]; exact e6 _ _ h5h, upd_same, ?_, ?_, fl.1, fl.2, by rw [List.length_append]; show ds.length + 1 ≤ 13; omega⟩
      · exact dpa_app (dpa_im imA hdv fl1) (dpa_one (dp_im (im5.trans ((Im.of e6).trans im7)) p4 (.fr x)))
      · exact dpa_app (dpa_im imA hdd fl1) (dpa_one (dp_im im7 p6 (.fr x)))
    · exact ⟨vs, vx, vy, vb, vt, vo, x, y, a2, c2, ph, pd, hv, dv, ds, rfl, dp_same e3 gx, dp_same e3 gy, hx, hy, e3 _ _ hp2, hc20, hc21, hB2.trans (But.of e3), nph, npd, nhd, fph, fpd, e3 _ _ hph, e3 _ _ hpd, dpa_same e3 hdv, dpa_same e3 hdd, fl1, fl2, by omega⟩
  obtain ⟨vs, vx, vy, vb, vt, vo, x, y, a2, c2, ph, pd, hv, dv, ds, rfl, gx, gy, hx, hy, hp2, hc20, hc21, hB2, nph, npd, nhd, fph, fpd, hph, hpd, hdv, hdd, fl1, fl2, hl⟩ := hm
  have sx := hx.sm
  have hx0 := hx.1.1
  have hs1 := hx.2
  have X : ∀ {σ : L2.St} {H'}, σ[2]? = some (some vx) → Same H3 H' → EvD K (tVar 2) σ H' (fr x) := fun h e => ed_var h (dp_same e gx)
  have logt : x.1.natAbs ≤ 1000 := by omega
  have logb : x.2.natAbs ≤ 1000 := by omega
  -- floor
  refine q_asg (K := K) (d := .int (x.1.fdiv x.2)) (ed_call (F := FFloor) (ea_cons (X rfl (Same.refl _)) ea_nil) ⟨x, rfl, ⟨by omega, Nat.lt_of_lt_of_le (PySem.Flt.log2_lt_of (k := 64) (by decide) (by omega)) (by decide)⟩, rfl⟩) fun vf H4 e4 pf => ?_
  cases pf
  have hfl := floor_ok (x := x) hx0
  -- good
  refine q_asg (K := K) (d := .bool true) (ed_andV (a := true) (b := true) (ed_isi (ed_var rfl (.int _)) (by show kitB "int" "int" = some true; decide +kernel)) fun _ => ed_andV (a := true) (b := true) (ed_notV (a := false) (ed_isi (ed_var rfl (.int _)) (by show kitB "int" "bool" = some false; decide +kernel))) fun _ =>
    (ed_chain (ed_mul (ed_var rfl (.int _)) (ed_bot (X rfl e4)) (.inr sx.2)) (ed_top (X rfl e4)) (ed_mul (ed_add (ed_var rfl (.int _)) ed_int) (ed_bot (X rfl e4)) (.inr sx.2))).is (by rw [decide_eq_true hfl.1, decide_eq_true hfl.2]; rfl)) fun vg H5 e5 pg => ?_
  have e35 := e4.trans e5
  -- heard + ..
  have wt : ¬ gg (x.1 * 2) (x.2 * 2) = 1 := fun z => twice_not hx.1 (by unfold gg at z; omega)
  have isf2 : isF (x.1 * 2, x.2 * 2) = false := by
    unfold isF
    rw [decide_eq_false wt, Bool.and_false]
  refine q_asgN (K := K) (ds := ds ++ [.bool true, .bool true, .bool false]) (en_cat (ek_var rfl (e35 _ _ hph) (dpa_same e35 hdv)) (en_lst (ea_cons (ed_var rfl pg) (ea_cons (ed_call (F := FIsF) (ea_cons (X rfl e35) ea_nil) ⟨x, rfl, by rw [isF_red hx.1]⟩)
    (ea_cons (ed_call (F := FIsF) (ea_cons (ed_tup (ea_cons (ed_mul (ed_top (X rfl e35)) ed_int (.inr (by decide))) (ea_cons (ed_mul (ed_bot (X rfl e35)) ed_int (.inr (by decide))) ea_nil)) (by show 2 ≤ 1000; decide)) ea_nil) ⟨(x.1 * 2, x.2 * 2), rfl, by rw [isf2]⟩) ea_nil))) (by show 3 ≤ 1000; decide)).k (by omega) (by show 3 ≤ 400; decide)) fun ph2 hv2 H6 e6 hph20 hph2 hdv2 => ?_
  have e36 := e35.trans e6
  -- due + ..
  refine q_asgN (K := K) (ds := ds ++ [.bool true, .bool true, .bool false]) (en_cat (ek_var rfl (e36 _ _ hpd) (dpa_same e36 hdd)) (en_lst (ea_cons ed_bl (ea_cons ed_bl (ea_cons ed_bl ea_nil))) (by show 3 ≤ 1000; decide)).k (by omega) (by show 3 ≤ 400; decide)) fun pd2 dv2 H7 e7 hpd20 hpd2 hdd2 => ?_
  have e37 := e36.trans e7
  have fl3 := flat_fl fl1 fl2 (es := [.bool true, .bool true, .bool false]) (fl_cons (fl_bl _) (fl_cons (fl_bl _) (fl_cons (fl_bl _) fl_nil)))
  have hl3 : (ds ++ [PyData.bool true, .bool true, .bool false]).length ≤ 16 := by rw [List.length_append]; show ds.length + 3 ≤ 16; omega
  generalize ds ++ [PyData.bool true, .bool true, .bool false] = ds3 at *
  -- text
  have tlen : (lawT x).length ≤ 20 := lawT_len hx
  have wlen := words_len hx
  have slen := sign_len x
  have hT : tl (lawT x) = codesM x := tl_lawT hx0
  refine q_asg (K := K) (d := .str (lawT x)) (ed_cat (x := signM x) (ed_if (b := decide (x.1 < 0)) (eb_test (K := K) (ed_opI0 (ed_top (X rfl e37)) ed_int fun _ => .bl _)) (fun z => ed_str.is (by unfold signM; rw [if_pos (of_decide_eq_true z)])) (fun z => ed_str.is (by unfold signM; rw [if_neg (of_decide_eq_false z)])))
    (ed_join (x := "") (ys := wordsM x) ed_str ((en_cat (en_lst (ea_cons (ed_strI (ed_abs (ed_top (X rfl e37))) (log_small (by split <;> omega))) ea_nil) (by show 1 ≤ 1000; decide)).k
      (ek_if (ds := (if x.2 = 1 then ([] : List Str) else (["/", toString x.2] : List Str)).map .str) (b := !decide (x.2 = 1)) (eb_test (K := K) (ed_neI (ed_bot (X rfl e37)) ed_int)) (fun z => ?_) (fun z => ?_)) (by show 1 ≤ 400; decide) (by rw [List.length_map]; split <;> simp)).k.dat.is (by unfold wordsM; rw [List.map_append]; rfl)) (words_fit hx)) (by omega) (by omega)) fun vtx H8 e8 ptx => ?_
  · have z : ¬ x.2 = 1 := fun w => by rw [decide_eq_true w] at z; cases z
    rw [if_neg z]
    exact (en_lst (ea_cons ed_str (ea_cons (ed_strI (ed_bot (X rfl e37)) (log_small logb)) ea_nil)) (by show 2 ≤ 1000; decide)).k
  · have z : x.2 = 1 := by
      by_cases w : x.2 = 1
      · exact w
      · rw [decide_eq_false w] at z; cases z
    rw [if_pos z]
    exact (en_lst ea_nil (by show 0 ≤ 1000; decide)).k
  cases ptx
  have e38 := e37.trans e8
  have hrb := read_back hx hT
  have hbe := bents_ok hx hT
  have hrl := repl_len hx hT
  have htx : lawT x = textM x := lawT_is hx0
  generalize lawT x = t at *
  have TX : ∀ {σ : L2.St} {H' : Hp}, σ[11]? = some (some (.str t)) → EvD K (tVar 11) σ H' (.str t) := fun h => ed_var h (.str t)
  -- bent
  have l1 : ("/1" : Str).length ≤ 400 ∧ ("0" : Str).length ≤ 400 ∧ (" " : Str).length ≤ 400 ∧ ("+" : Str).length ≤ 400 ∧ ("/" : Str).length ≤ 400 ∧ ("-" : Str).length ≤ 400 ∧ ("//" : Str).length = 2 := by decide +kernel
  refine ⟨.ref p, rfl, el_lst (K := K) (ds := (bentsM t).map .str) (ea_cons (ed_cat (TX rfl) ed_str (by omega) l1.1) (ea_cons (ed_cat ed_str (TX rfl) l1.2.1 (by omega)) (ea_cons (ed_cat (TX rfl) ed_str (by omega) l1.2.2.1) (ea_cons (ed_cat ed_str (TX rfl) l1.2.2.2.1 (by omega)) (ea_cons (ed_cat (TX rfl) ed_str (by omega) l1.2.2.2.2.1) (ea_cons ed_str
    (ea_cons (ed_cat (ed_repl (TX rfl) (by rw [l1.2.2.2.2.2.2]; omega)) ed_str (by omega) l1.2.2.2.2.2.1) ea_nil))))))) (by show 7 ≤ 1000; decide) _ (Same.refl _) _ fun l vs7 H9 e9 hl9 ps => ?_⟩
  have e39 := e38.trans e9
  have hp9 := e39 _ _ hp2
  have hlp : l ≠ p := (ne_of_none hp9 hl9).symm
  have eL : Same H9 (upd H9 l (.lst vs7)) := Evl.Ex.new hl9
  have hvs : vs7 = (bentsM t).map V.str := dpa_strs' ps
  refine ⟨p, l, a2, b, c2, vs7, rfl, eL _ _ hp9, ⟨hb0, hb1, hc20, by omega⟩, hlp, upd_same, by rw [hvs]; show 0 < 7; decide, by rw [hvs]; show 7 ≤ 1000; decide, fun v a3 c3 H10 hv10 hB10 hp10 => ?_⟩
  rw [hvs] at hv10
  obtain ⟨bent, hbm, rfl⟩ := List.mem_map.mp hv10
  obtain ⟨okb, byb⟩ := hbe bent hbm
  have eLL := e39.trans eL
  have im10 : Im H3 H10 := (Im.of eLL).trans (hB10.im (eL _ _ hp9))
  have nph2 : ph2 ≠ p := (ne_of_none (e35 _ _ hp2) hph20).symm
  have npd2 : pd2 ≠ p := (ne_of_none (e36 _ _ hp2) hpd20).symm
  have h10h : H10 ph2 = some (.lst hv2) := hB10 _ _ nph2 (((e7.trans e8).trans (e9.trans eL)) _ _ hph2)
  have h10d : H10 pd2 = some (.lst dv2) := hB10 _ _ npd2 ((e8.trans (e9.trans eL)) _ _ hpd2)
  have d10h : DpAll K H10 hv2 ds3 := dpa_im ((Im.of ((e7.trans e8).trans (e9.trans eL))).trans (hB10.im (eL _ _ hp9))) hdv2 fl3.1
  have d10d : DpAll K H10 dv2 ds3 := dpa_im ((Im.of (e8.trans (e9.trans eL))).trans (hB10.im (eL _ _ hp9))) hdd2 fl3.1
  have g10 : Dp K H10 vx (fr x) := dp_im im10 gx (.fr x)
  have hB' : But p H H10 := (hB2.trans (But.of eLL)).trans hB10
  -- heard + ..
  refine q_asgN (K := K) (ds := ds3 ++ [.str t, fr x, .list [.str "line", .int 1]]) (en_cat (ek_var rfl h10h d10h) (en_lst (ea_cons (ed_call (F := FText) (ea_cons (ed_var rfl g10) ea_nil) ⟨x, rfl, ⟨log_small logt, log_small logb, textM_len logt logb⟩, by rw [htx]⟩)
    (ea_cons (ed_call (F := FRead) (ea_cons (ed_var rfl (.str t)) ea_nil) ⟨t, rfl, hrb.1, by rw [hrb.2]⟩) (ea_cons (ed_call (F := FRead) (ea_cons (ed_var rfl (.str bent)) ea_nil) ⟨bent, rfl, okb, by rw [byb]⟩) ea_nil))) (by show 3 ≤ 1000; decide)).k (by omega) (by show 3 ≤ 400; decide)) fun ph3 hv3 H11 e11 hph30 hph3 hdv3 => ?_
  -- return
  have dep : Dep 2 (.list (ds3 ++ [.str t, fr x, .list [.str "line", .int 1]])) := .lst (by rw [List.length_append]; show ds3.length + 3 ≤ 900; omega) fun d hd => by
    rcases List.mem_append.mp hd with hd | hd
    · exact fl3.2 d hd
    · rcases List.mem_cons.mp hd with z | hd
      · rw [z]; exact .str _ _
      · rcases List.mem_cons.mp hd with z | hd
        · rw [z]; exact dep_fr x
        · rw [List.mem_singleton.mp hd]
          exact .lst (by show 2 ≤ 900; decide) fun d hd => by
            rcases List.mem_cons.mp hd with z | hd
            · rw [z]; exact .str _ _
            · rw [List.mem_singleton.mp hd]; exact .int _ _
  refine s_ret (K := K) (d := .bool true) (ed_call (F := FSame 2) (ea_cons (ed_var rfl (.lst (.inl (.inl hph3)) hdv3)) (ea_cons (en_cat (ek_var rfl (e11 _ _ h10d) (dpa_same e11 d10d)) (en_lst (ea_cons (ed_var rfl (.str t)) (ea_cons (ed_var rfl (dp_same e11 g10)) (ea_cons (ed_lst (ea_cons ed_str (ea_cons ed_int ea_nil)) (by show 2 ≤ 1000; decide)) ea_nil))) (by show 3 ≤ 1000; decide)).k (by omega) (by show 3 ≤ 400; decide)).k.dat ea_nil)) ⟨_, rfl, dep, rfl⟩) fun v H12 e12 pv => ?_
  cases pv
  exact q H12 (hB'.trans (But.of (e11.trans e12)))
end
end Lk
/-! The law by hand; the law. -/
namespace Lk
open PySem PySem.Spec PyProof.Rows L2
abbrev sHand : Stmt := topS 35
abbrev sLaw : Stmt := topS 36
theorem scHand : FnScope ["_law_heard"] [] (defScope sHand) := ⟨rfl, rfl, rfl, by decide +kernel, rfl, by decide +kernel, by decide +kernel⟩
theorem scLaw : FnScope ["_law_script", "_law_cells_so", "_law_k"] ["_law_script"] (defScope sLaw) := ⟨rfl, rfl, rfl, by decide +kernel, rfl, by decide +kernel, by decide +kernel⟩
def FHand (ds : List PyData) (d : PyData) : Prop := ds = [] ∧ d = .bool true
def spLaw (K : PySem.W.Frag) : Sp := fun vs H Q _ => ∃ (a : Addr) (ns : List Int), vs = [.ref a] ∧ SqL K H a (ns.map V.int) ∧ ns.length ≤ 63 ∧ ∀ H', Q (.bl true) H'
theorem h12 : Sml (1, 2) := ⟨⟨by decide, by decide⟩, by decide, by decide, by decide⟩
theorem h13 : Sml (1, 3) := ⟨⟨by decide, by decide⟩, by decide, by decide, by decide⟩
theorem h41 : Sml (4, 1) := ⟨⟨by decide, by decide⟩, by decide, by decide, by decide⟩
theorem h72 : Sml (7, 2) := ⟨⟨by decide, by decide⟩, by decide, by decide, by decide⟩
theorem hm72 : Sml (-7, 2) := ⟨⟨by decide, by decide⟩, by decide, by decide, by decide⟩
theorem g1 : plusM (1, 2) (1, 3) = (5, 6) := by decide +kernel
theorem g2 : totalM [(1, 2), (1, 2)] = (1, 1) := by decide +kernel
theorem g3 : leastM (4, 1) [(4, 1), (7, 2)] = (7, 2) := by decide +kernel
theorem g4 : (-7 : Int).fdiv 2 = -4 := by decide +kernel
theorem g5 : orderM (-1, 2) (-1, 3) = -1 := by decide +kernel
theorem g6 : overM (1, 2) (-3, 1) = (-1, 6) := by decide +kernel
theorem read1 : OkT "-7/2" ∧ byM "-7/2" = some (-7, 2) := read_back hm72 (by decide +kernel)
theorem read2 : OkT "2/4" ∧ byM "2/4" = none := by
  have ht : tl ("2/4" : Str) = [50, 47, 52] := by decide +kernel
  have e2 : [50] = numL 2 := by decide +kernel
  have e4 : [52] = numL 4 := by decide +kernel
  have hL : ∀ p ∈ [[50], [52]], Okw p := fun p hp => by
    rcases List.mem_cons.mp hp with z | other
    · rw [z]; exact ⟨by decide, by decide, .inr ⟨2, by decide, e2⟩⟩
    · rw [List.mem_singleton.mp other]; exact ⟨by decide, by decide, .inr ⟨4, by decide, e4⟩⟩
  have hp := parts_is (t := "2/4") (L := [[50], [52]]) (by rw [ht]; rfl) (by simp) fun p hp => (hL p hp).2.1
  refine ⟨okT_of (by rw [ht]; decide) hp hL, ?_⟩
  obtain ⟨y, z, h, hy, hz⟩ := map_two hp
  unfold byM
  rw [h, List.map_cons, List.map_cons, List.map_nil, (numW_good (m := 2) (by decide) (hy.trans e2)).1, (numW_good (m := 4) (by decide) (hz.trans e4)).1]
  show chk "2/4" (_, 4) = none
  rw [starts_tl, ht]
  show chk "2/4" (2, 4) = none
  unfold chk
  rw [if_neg]
  rintro ⟨h1, _⟩
  revert h1
  decide +kernel
section
variable {P : Program} {w : World} {K : PySem.W.Frag} {mg : Str → Option Value} {base : Heap}
theorem ok_hand (R : Raw K mg "_law_by_hand_right" sHand []) (T : RTxt P w K mg base) : Def P w K mg base CX0 5 "_law_by_hand_right" [] (spF K FHand) := by
  refine R.ok fun f fd F => F.ok scHand (len_of fun ds d ⟨e, _⟩ => by rw [e]; rfl) (fun cdv A outer s H vs Q E hr h => ?_)
  obtain ⟨ds, d, p, ⟨rfl, rfl⟩, q⟩ := h
  cases p
  refine ⟨_, pss_cons (ps_set (i := 0) scHand.nd rfl (.inl rfl) (pe_lst (pa_cons (pe_d T.plus hr (by rfl) (pa_cons (pe_tup (pa_cons pe_int (pa_cons pe_int pa_nil))) (pa_cons (pe_tup (pa_cons pe_int (pa_cons pe_int pa_nil))) pa_nil)))
        (pa_cons (pe_d T.total hr (by rfl) (pa_cons (pe_tup (pa_cons (pe_tup (pa_cons pe_int (pa_cons pe_int pa_nil))) (pa_cons (pe_tup (pa_cons pe_int (pa_cons pe_int pa_nil))) pa_nil))) pa_nil))
        (pa_cons (pe_d T.least hr (by rfl) (pa_cons (pe_tup (pa_cons (pe_tup (pa_cons pe_int (pa_cons pe_int pa_nil))) (pa_cons (pe_tup (pa_cons pe_int (pa_cons pe_int pa_nil))) pa_nil))) pa_nil))
        (pa_cons (pe_d T.floor hr (by rfl) (pa_cons (pe_tup (pa_cons (pe_un un_neg pe_int) (pa_cons pe_int pa_nil))) pa_nil))
        (pa_cons (pe_d T.read hr (by rfl) (pa_cons pe_str pa_nil)) (pa_cons (pe_d T.read hr (by rfl) (pa_cons pe_str pa_nil))
        (pa_cons (pe_d T.order hr (by rfl) (pa_cons (pe_tup (pa_cons (pe_un un_neg pe_int) (pa_cons pe_int pa_nil))) (pa_cons (pe_tup (pa_cons (pe_un un_neg pe_int) (pa_cons pe_int pa_nil))) pa_nil))) pa_nil)))))))))
    (pss_cons (ps_set (i := 0) scHand.nd rfl (.inl rfl) (pe_op op_cat (pv 0) (pe_lst (pa_cons (pe_d T.over hr (by rfl) (pa_cons (pe_tup (pa_cons pe_int (pa_cons pe_int pa_nil))) (pa_cons (pe_tup (pa_cons (pe_un un_neg pe_int) (pa_cons pe_int pa_nil))) pa_nil))) pa_nil))))
    (pss_one (ps_ret (pe_d T.same hr (by rfl) (pa_cons (pv 0) (pa_cons (pe_lst (pa_cons (pe_tup (pa_cons pe_int (pa_cons pe_int pa_nil))) (pa_cons (pe_tup (pa_cons pe_int (pa_cons pe_int pa_nil))) (pa_cons (pe_tup (pa_cons pe_int (pa_cons pe_int pa_nil))) (pa_cons (pe_un un_neg pe_int)
        (pa_cons (pe_tup (pa_cons (pe_un un_neg pe_int) (pa_cons pe_int pa_nil))) (pa_cons (pe_lst (pa_cons pe_str (pa_cons pe_int pa_nil))) (pa_cons (pe_un un_neg pe_int) (pa_cons (pe_tup (pa_cons (pe_un un_neg pe_int) (pa_cons pe_int pa_nil))) pa_nil))))))))) pa_nil)))))), ?_⟩
  have tt : ∀ {σ : L2.St} {H : Hp} {a b : Int}, EvD K (tTup (tCons (tC (.int a)) (tCons (tC (.int b)) tNil))) σ H (fr (a, b)) := ed_tup (ea_cons ed_int (ea_cons ed_int ea_nil)) (by show 2 ≤ 1000; decide)
  have tn : ∀ {σ : L2.St} {H : Hp} {a b : Int}, EvD K (tTup (tCons (tUn (rU fun i => .int (-i)) (tC (.int a))) (tCons (tC (.int b)) tNil))) σ H (fr (-a, b)) := ed_tup (ea_cons (ed_neg ed_int) (ea_cons ed_int ea_nil)) (by show 2 ≤ 1000; decide)
  refine q_asgN (K := K) (ds := [fr (5, 6), fr (1, 1), fr (7, 2), .int (-4), fr (-7, 2), .list [.str "line", .int 1], .int (-1)]) (en_lst (ea_cons (ed_call (F := F2 plusM CB) (ea_cons tt (ea_cons tt ea_nil)) ⟨(1, 2), (1, 3), rfl, h13.sm, w9_small (by decide) (by decide) (by decide) (by decide), by rw [g1]⟩)
    (ea_cons (ed_call (F := FTotal) (ea_cons (ed_tup (ea_cons tt (ea_cons tt ea_nil)) (by show 2 ≤ 1000; decide)) ea_nil) ⟨[(1, 2), (1, 2)], rfl, fun o ho => by simp only [List.mem_cons, List.not_mem_nil, or_false, or_self] at ho; rw [ho]; exact h12, by decide, by rw [g2]⟩)
    (ea_cons (ed_call (F := FMost leastM) (ea_cons (ed_tup (ea_cons tt (ea_cons tt ea_nil)) (by show 2 ≤ 1000; decide)) ea_nil) ⟨(4, 1), [(7, 2)], rfl, fun o ho => by
      rcases List.mem_cons.mp ho with z | ho
      · rw [z]; exact h41.sm
      · rw [List.mem_singleton.mp ho]; exact h72.sm, by rw [g3]⟩)
    (ea_cons (ed_call (F := FFloor) (ea_cons tn ea_nil) ⟨(-7, 2), rfl, ⟨by decide, by decide +kernel⟩, by rw [g4]⟩)
    (ea_cons (ed_call (F := FRead) (ea_cons ed_str ea_nil) ⟨"-7/2", rfl, read1.1, by rw [read1.2]⟩) (ea_cons (ed_call (F := FRead) (ea_cons ed_str ea_nil) ⟨"2/4", rfl, read2.1, by rw [read2.2]⟩)
    (ea_cons (ed_call (F := FOrder) (ea_cons tn (ea_cons tn ea_nil)) ⟨(-1, 2), (-1, 3), rfl, ⟨by unfold Sm; decide, by unfold Sm; decide⟩, by rw [g5]⟩) ea_nil))))))) (by show 7 ≤ 1000; decide)) fun ph hv H1 e1 hph0 hph hdv => ?_
  refine q_asgN (K := K) (ds := [fr (5, 6), fr (1, 1), fr (7, 2), .int (-4), fr (-7, 2), .list [.str "line", .int 1], .int (-1)] ++ [fr (-1, 6)]) (en_cat (ek_var rfl hph hdv) (en_lst (ea_cons (ed_call (F := F2 overM CO) (ea_cons tt (ea_cons tn ea_nil)) ⟨(1, 2), (-3, 1), rfl, ⟨by unfold Sm; decide, by unfold Sm; decide⟩, w9_small (by decide) (by decide) (by decide) (by decide), by rw [g6]⟩) ea_nil) (by show 1 ≤ 1000; decide)).k (by show 7 ≤ 400; decide) (by show 1 ≤ 400; decide)) fun ph2 hv2 H2 e2 hph20 hph2 hdv2 => ?_
  have dl : Dep 1 (.list [.str "line", .int 1]) := .lst (by show 2 ≤ 900; decide) fun d hd => by
    rcases List.mem_cons.mp hd with z | hd
    · rw [z]; exact .str _ _
    · rw [List.mem_singleton.mp hd]; exact .int _ _
  have dep : Dep 2 (.list ([fr (5, 6), fr (1, 1), fr (7, 2), .int (-4), fr (-7, 2), .list [.str "line", .int 1], .int (-1)] ++ [fr (-1, 6)])) := .lst (by show 8 ≤ 900; decide) fun d hd => by
    simp only [List.cons_append, List.nil_append, List.mem_cons, List.not_mem_nil, or_false] at hd
    rcases hd with z | z | z | z | z | z | z | z <;> rw [z]
    · exact dep_fr _
    · exact dep_fr _
    · exact dep_fr _
    · exact .int _ _
    · exact dep_fr _
    · exact dl
    · exact .int _ _
    · exact dep_fr _
  refine s_ret (K := K) (d := .bool true) (ed_call (F := FSame 2) (ea_cons (ed_var rfl (.lst (.inl (.inl hph2)) hdv2)) (ea_cons (ed_lst (ea_cons tt (ea_cons tt (ea_cons tt (ea_cons (ed_neg ed_int) (ea_cons tn (ea_cons (ed_lst (ea_cons ed_str (ea_cons ed_int ea_nil)) (by show 2 ≤ 1000; decide)) (ea_cons (ed_neg ed_int) (ea_cons tn ea_nil)))))))) (by show 8 ≤ 1000; decide)) ea_nil)) ⟨_, rfl, dep, rfl⟩) fun v H3 e3 pv => ?_
  exact q v H3 ((e1.trans e2).trans e3) pv
theorem ok_law {f : Addr} {fd : FuncData} (F : Fun K "law" "law" sLaw f fd) (DH : Def P w K mg base CX0 5 "_law_by_hand_right" [] (spF K FHand)) (DC : Def P w K mg base CX0 1 "_law_cells" ["_law_script", "_law_top"] (spCells K)) (DB : Def P w K mg base CX0 1 "_law_box" ["_law_script", "_law_k"] (spBox K))
    (DR : Def P w K mg base CX0 5 "_law_right" ["_law_urn"] spRight) (ml : mg "len" = none) (ma : mg "all" = none) (mr : mg "range" = none) : FnOk P w K mg base CX0 6 f fd ["_law_script"] (spLaw K) := by
  refine F.ok scLaw (fun vs H Q E h => ?_) (fun cdv A outer s H vs Q E hr h => ?_)
  · obtain ⟨a, ns, rfl, _⟩ := h
    rfl
  obtain ⟨a, ns, rfl, hS, hlen, q⟩ := h
  have hr1 : Room 1 _ := hr.mono (by decide)
  refine ⟨_, pss_cons (ps_if (pt_not (pt_val (pe_d0 DH hr (by rfl)))) (pss_one (ps_ret pe_bl)) pss_nil)
    (pss_cons (ps_set (i := 1) scLaw.nd rfl (.inr rfl) (pe_d DC hr1 (by rfl) (pa_cons (pv 0) (pa_cons pe_int pa_nil))))
    (pss_one (ps_ret (pe_callB (cr_all rfl) (by rfl) ma (by decide +kernel) (pa_cons (pe_lc (own := [("_law_k", 2)]) (g := gName 2) (tt := tYes) rfl scLaw.nd (pi_range1 (by rfl) mr (pa_cons (pe_callB call_len_seq (by rfl) ml PySem.boot_len (pa_cons (pv 1) pa_nil)) pa_nil))
      (blkOk_by (N := ["_law_script", "_law_cells_so", "_law_k"]) (sc := defScope sLaw) (by decide +kernel)) (fun _ _ _ _ _ => pg_name (i := 2) scLaw.nd rfl (Or.inl rfl)) (fun _ _ _ _ _ => pts_nil) (fun _ _ _ _ _ => pe_d DR hr (by rfl) (pa_cons (pe_d DB hr1 (by rfl) (pa_cons (pv 1) (pa_cons (pv 2) pa_nil))) pa_nil))) pa_nil))))), ?_⟩
  refine q_when (b := false) (eb_not (a := true) (eb_B (K := K) (ed_call (F := FHand) ea_nil ⟨rfl, rfl⟩))) (fun z => nomatch z) (fun _ H1 e1 => ?_)
  refine ⟨.ref a, rfl, a, ns, rfl, e1.seq hS, hlen, fun v ms H2 e2 pm hm2 => ?_⟩
  cases pm with
  | @lst pc xs _ hs hall =>
  have hxl : xs.length = ms.length := by rw [dpa_len hall, List.length_map]
  refine ⟨.ref pc, rfl, pc, xs, rfl, .inl hs, (xs.length : Nat), rfl, by omega, by omega, fun D hD => ?_⟩
  refine lc_range (lo := 0) (n := ((xs.length : Nat) : Int).toNat) (fun i H' => Same H2 H' ∧ H' D = some (.lst ((List.replicate i true).map V.bl))) ⟨Evl.Ex.new hD, upd_same⟩ ?_ ?_
  · rintro i H3 hi ⟨e3, hacc⟩
    refine ⟨rfl, ?_⟩
    refine tyes_go ?_
    rw [if_pos rfl]
    refine ⟨.ref pc, rfl, .int (0 + i), rfl, .ref pc, ms, 0 + i, rfl, .lst (e3.seq hs) (dpa_same e3 hall), by omega, by omega, fun p a b H4 hub e4 hp0 hp => ?_⟩
    refine ⟨p, a, b, rfl, hp, hub, fun H5 hB => ?_⟩
    have e5 : Same H3 H5 := ((But.of e4).trans hB).same hp0
    refine ⟨_, e5 _ _ hacc, small1000 (by rw [List.length_map, List.length_replicate]; omega), Evl.Ex.mut (e3.trans e5) hD, ?_⟩
    rw [upd_same, List.replicate_succ', List.map_append]
    rfl
  · rintro H3 ⟨e3, hacc⟩
    refine ⟨D, _, rfl, .inl (.inl hacc), ?_⟩
    have : (List.replicate ((xs.length : Nat) : Int).toNat true).all id = true := by simp
    rw [this]
    exact q H3
end
end Lk
/-! The end: what the top has written, and the law over it. -/
namespace Lk
open PySem PySem.Spec PyProof.Rows L2
theorem raw_mk {K : PySem.W.Frag} {mg : Str → Option Value} {h : Heap} {x : Str} {st : Stmt} {ps : List Str} {f : Addr} {oc : Value} {od an : Option Addr} {osl : Array (Option Value)} {kV doc pm cdv ct : Value} (X : K.In h) (G : h.Ns mainGlobals mg)
    (b : ∀ (kV doc pm : Value) (an : Option Addr) (cdv ct : Value) (us : List Value), us.length = ps.length → bindArgs (PySem.W.fnOf x x (defArgs st) (defBody st) (defScope st) .none kV doc pm an cdv ct) ⟨us, []⟩ = pure (ps.zip us))
    (a : PySem.W.nsIn K mainGlobals x = some (some (.ref f))) (l : K.lookup f = some ⟨oc, od, .func (PySem.W.fnOf x x (defArgs st) (defBody st) (defScope st) .none kV doc pm an cdv ct), osl⟩) (c : PySem.W.codeIn K cdv x = true) (k : PySem.W.keepIn K (.ref f) = true) : Raw K mg x st ps :=
  let F := fun_mk (st := st) l c k
  ⟨f, _, F, PySem.W.mg_of X G a, F.binds b⟩
theorem all_mk {l : PySem.W.OpenLaw} {w : World} {K : PySem.W.Frag} {h : Heap} {mg : Str → Option Value} {fa : Addr} (X : K.In h) (G : h.Ns mainGlobals mg) (hfa : mg "law" = some (.ref fa))
    (r0 : Raw K mg "is_number" sIsN ["thing"])
    (r1 : Raw K mg "is_fraction" sIsF ["thing"])
    (r2 : Raw K mg "fraction" sFrac ["top", "bottom"])
    (r3 : Raw K mg "whole" sWhole ["number"])
    (r4 : Raw K mg "plus" sPlus ["x", "y"])
    (r5 : Raw K mg "minus" sMinus ["x", "y"])
    (r6 : Raw K mg "times" sTimes ["x", "y"])
    (r7 : Raw K mg "over" sOver ["x", "y"])
    (r8 : Raw K mg "order" sOrder ["x", "y"])
    (r9 : Raw K mg "least" sLeast ["some"])
    (r10 : Raw K mg "greatest" sGreat ["some"])
    (r11 : Raw K mg "total" sTotal ["some"])
    (r12 : Raw K mg "floor_of" sFloor ["x"])
    (r13 : Raw K mg "fraction_text" sFText ["x"])
    (r14 : Raw K mg "_digits" sDig ["word"])
    (r15 : Raw K mg "fraction_by" sBy ["text"])
    (r16 : Raw K mg "_law_box" sBox ["_law_script", "_law_k"])
    (r17 : Raw K mg "_law_take" sTake ["_law_urn", "_law_low_so"])
    (r18 : Raw K mg "_law_cells" sCells ["_law_script", "_law_top"])
    (r19 : Raw K mg "_law_of" sOf ["_law_urn", "_law_some_so"])
    (r20 : Raw K mg "_law_same" sSame ["_law_got", "_law_goal"])
    (r21 : Raw K mg "_law_part" sPart ["_law_urn", "_law_most", "_law_base"])
    (r22 : Raw K mg "_law_low" sLow ["_law_top", "_law_bottom"])
    (r23 : Raw K mg "_law_sum" sSum ["_law_x", "_law_y"])
    (r24 : Raw K mg "_law_read" sRead ["_law_text"])
    (r25 : Raw K mg "_law_right" sRight ["_law_urn"])
    (r26 : Raw K mg "_law_by_hand_right" sHand [])
    (z0 : PySem.W.nsIn K mainGlobals "isinstance" = some none)
    (z1 : PySem.W.nsIn K mainGlobals "int" = some none)
    (z2 : PySem.W.nsIn K mainGlobals "bool" = some none)
    (z3 : PySem.W.nsIn K mainGlobals "tuple" = some none)
    (z4 : PySem.W.nsIn K mainGlobals "len" = some none)
    (z5 : PySem.W.nsIn K mainGlobals "str" = some none)
    (z6 : PySem.W.nsIn K mainGlobals "any" = some none)
    (z7 : PySem.W.nsIn K mainGlobals "list" = some none)
    (z8 : PySem.W.nsIn K mainGlobals "abs" = some none)
    (z9 : PySem.W.nsIn K mainGlobals "enumerate" = some none)
    (z10 : PySem.W.nsIn K mainGlobals "all" = some none)
    (z11 : PySem.W.nsIn K mainGlobals "zip" = some none)
    (z12 : PySem.W.nsIn K mainGlobals "range" = some none)
    (z13 : PySem.W.nsIn K mainGlobals "sum" = some none)
    (z14 : PySem.W.nsIn K mainGlobals "min" = some none)
    (z15 : PySem.W.nsIn K mainGlobals "max" = some none)
    {dt : Tok} (mN : ∃ n, IsNone K mg n) (mD : PySem.W.nsIn K mainGlobals "DIGITS" = some (some (.str "0123456789" dt))) (mC : PySem.W.nsIn K mainGlobals "gcd" = some (some (.builtin "math.gcd")))
    (TB : ∃ C fI, PySem.BadX.LowTxt K mg C fI)
    {fL : Addr} {oc : Value} {od an : Option Addr} {osl : Array (Option Value)} {kV doc pm cdv ct : Value} (aL : PySem.W.nsIn K mainGlobals "law" = some (some (.ref fL)))
    (lL : K.lookup fL = some ⟨oc, od, .func (PySem.W.fnOf "law" "law" (defArgs sLaw) (defBody sLaw) (defScope sLaw) .none kV doc pm an cdv ct), osl⟩) (cL : PySem.W.codeIn K cdv "law" = true) (kL : PySem.W.keepIn K (.ref fL) = true) :
    ∃ fd : FuncData, (∀ (s : Shared) (v : Value), BindsTo s fd ⟨[v], []⟩ [("_law_script", v)]) ∧ ∀ base : Heap, K.In base → base.Ns mainGlobals mg → FnOk l.prog w K mg base CX0 6 fa fd ["_law_script"] (spLaw K) := by
  have e := hfa.symm.trans (PySem.W.mg_of X G aL)
  cases e
  obtain ⟨C, fI, TB⟩ := TB
  obtain ⟨nN, mN⟩ := mN
  have FL := fun_mk (st := sLaw) lL cL kL
  refine ⟨PySem.W.fnOf "law" "law" (defArgs sLaw) (defBody sLaw) (defScope sLaw) .none kV doc pm an cdv ct, fun s v => .of_eq rfl, fun base _ _ => ?_⟩
  have m_isinstance := PySem.W.mg_none_of X G z0
  have m_int := PySem.W.mg_none_of X G z1
  have m_bool := PySem.W.mg_none_of X G z2
  have m_tuple := PySem.W.mg_none_of X G z3
  have m_len := PySem.W.mg_none_of X G z4
  have m_str := PySem.W.mg_none_of X G z5
  have m_any := PySem.W.mg_none_of X G z6
  have m_list := PySem.W.mg_none_of X G z7
  have m_abs := PySem.W.mg_none_of X G z8
  have m_enumerate := PySem.W.mg_none_of X G z9
  have m_all := PySem.W.mg_none_of X G z10
  have m_zip := PySem.W.mg_none_of X G z11
  have m_range := PySem.W.mg_none_of X G z12
  have m_sum := PySem.W.mg_none_of X G z13
  have m_min := PySem.W.mg_none_of X G z14
  have m_max := PySem.W.mg_none_of X G z15
  have m_gcd := PySem.W.mg_of X G mC
  have m_DIG := PySem.W.mg_of X G mD
  have dFrac := ok_frac (P := l.prog) (w := w) (base := base) r2 m_gcd
  have dWhole := ok_whole (P := l.prog) (w := w) (base := base) r3
  have dPlus := ok_plus r4 dFrac
  have dMinus := ok_minus r5 dFrac
  have dTimes := ok_times r6 dFrac
  have dOver := ok_over r7 dFrac
  have dOrder := ok_order (P := l.prog) (w := w) (base := base) r8
  have dLeast := ok_least r9 dOrder m_tuple
  have dGreat := ok_great r10 dOrder m_tuple
  have dTotal := ok_total r11 dPlus mN
  have dFloor := ok_floor (P := l.prog) (w := w) (base := base) r12
  have dText := ok_ftext (P := l.prog) (w := w) (base := base) r13 m_str
  have dIsN := ok_isn (P := l.prog) (w := w) (base := base) r0 m_isinstance m_int m_bool
  have dIsF := ok_isf r1 dIsN m_gcd m_isinstance m_tuple m_len
  have dDig := ok_dig (P := l.prog) (w := w) (base := base) r14 m_DIG m_len m_any m_int
  have dBy := ok_by r15 TB dDig dIsF dText m_len
  have dRead := ok_read r24 TB dBy
  have dLow := ok_low (P := l.prog) (w := w) (base := base) r22 m_abs
  have dSum := ok_sum r23 dLow
  have dSame := ok_same (P := l.prog) (w := w) (base := base) ⟨r20, m_isinstance, m_list, m_tuple, m_bool, m_str, m_int, m_len, m_all, m_zip⟩ 2
  have dTake := ok_take (P := l.prog) (w := w) (K := K) (base := base) r17 m_int
  have dBox := ok_box (P := l.prog) (w := w) (base := base) r16 m_int m_len m_abs
  have dCells := ok_cells (P := l.prog) (w := w) (base := base) r18 m_list m_enumerate m_int
  have dOf := ok_of r19 dTake m_len
  have dPart := ok_part r21 dTake m_range
  have T : RTxt l.prog w K mg base := ⟨dTake.mono (by decide), dPart.mono (by decide), dPlus.mono (by decide), dMinus.mono (by decide), dTimes.mono (by decide), dOver.mono (by decide), dOrder.mono (by decide), dTotal.mono (by decide), dLeast.mono (by decide), dGreat.mono (by decide), dWhole.mono (by decide), dFrac.mono (by decide), dFloor.mono (by decide), dIsF.mono (by decide), dText.mono (by decide), dRead,
    dSum.mono (by decide), dLow.mono (by decide), dOf.mono (by decide), dSame.mono (by decide), m_tuple, m_range, m_sum, m_min, m_max, m_isinstance, m_int, m_bool, m_str, m_abs⟩
  exact ok_law FL (ok_hand r26 T) dCells dBox (ok_right r25 T) m_len m_all m_range
end Lk
namespace Lk
open PySem PySem.Spec PyProof.Rows L2
/-- the four marks in l1's row: where self, line and the store stand in the text -/
theorem low_mk {K : PySem.W.Frag} {h : Heap} {mg : Str → Option Value} {C f1 : Addr} (X : K.In h) (G : h.Ns mainGlobals mg)
    {nm q : Str} {N : Addr} {bs : List Value} {sn : List Str} {sub : List Value} {ab : Bool} {col : Option Bool} {dd : Option Addr} {m0 m1 m2 m3 m5 : Option Value} {od1 an1 : Option Addr} {sl1 : Array (Option Value)} {oc1 dc1 pm1 cd1 ct1 : Value}
    (aC : PySem.W.nsIn K mainGlobals "BadLine" = some (some (.ref C)))
    (xL : K.lookup C = some (excClassObj nm q C N bs [.type "ValueError", .type "Exception", .type "BaseException", .type "object"] true sn sub ab col dd m0 m1 m2 m3 m5 "ValueError.__new__"))
    (sa : PySem.W.findIn K (.ref C) "__setattr__" = some (some (.builtin "object.__setattr__"))) (ga : PySem.W.findIn K (.ref C) "__getattribute__" = some (some (.builtin "BaseException.__getattribute__"))) (gg : PySem.W.findIn K (.ref C) "__getattr__" = some none) (nb : PySem.W.findIn K (.ref C) "line" = some none)
    (a1 : PySem.W.findIn K (.ref C) "__init__" = some (some (.ref f1))) (t1 : PySem.W.typeIn K (.ref f1) = some (.type "function"))
    (l1 : K.lookup f1 = some ⟨oc1, od1, .func (PySem.W.fnOf "__init__" "BadLine.__init__" (PySem.BadX.iA ⟨5, 17, 5, 21⟩ ⟨5, 23, 5, 27⟩) (PySem.BadX.iB ⟨6, 8, 6, 12⟩ ⟨6, 8, 6, 17⟩ ⟨6, 20, 6, 24⟩ ⟨6, 8, 6, 24⟩) PySem.BadX.iS .none .none dc1 pm1 an1 cd1 ct1), sl1⟩) (c1 : PySem.W.codeIn K cd1 "BadLine.__init__" = true)
    (kC : PySem.W.keepIn K (.ref C) = true) (eC : PySem.W.subIn K (.ref C) (.type "BaseException") = some true) (tC : PySem.W.typeIn K (.ref C) = some (.type "type")) (hC : PySem.W.hasDictIn K C = true) (iC : PySem.W.isClsIn K C = true) (sC : PySem.W.subIn K (.ref C) (.ref C) = some true) :
    ∃ C fI, PySem.BadX.LowTxt K mg C fI :=
  ⟨C, f1, { gC := PySem.W.mg_of X G aC, cls := ⟨nm, q, N, bs, _, sn, sub, ab, col, dd, m0, m1, m2, m3, m5, xL, by decide +kernel⟩, sa := sa, ga := ga, gg := gg, noN := nb, iC := a1, tC := t1, kC := kC, exC := eC, tyC := tC, hdC := hC, te := exm_self eC iC tC sC, fn := ⟨_, _, _, _, _, _, _, _, _, _, _, _, _, _, l1, c1⟩ }⟩
theorem none_mk {K : PySem.W.Frag} {h : Heap} {mg : Str → Option Value} {n : Addr} (X : K.In h) (G : h.Ns mainGlobals mg) {dd : Option Addr} {t u : Tok} {m : Nat} {sl : Array (Option Value)}
    (a : PySem.W.nsIn K mainGlobals "NONE" = some (some (.ref n))) (l : K.lookup n = some ⟨.type "tuple", dd, .seq #[.int 0 t, .int 1 u] m, sl⟩) : ∃ n, IsNone K mg n := ⟨n, PySem.W.mg_of X G a, dd, t, u, m, sl, l⟩
end Lk
open PySem PySem.W PyProof.Rows
set_option maxHeartbeats 0 in
theorem PySem.Challenge.cw_likecuts_k02_whole_fractions_beside_whol_holds : PySem.Challenge.rw_likecuts_k02_whole_fractions_beside_whol.Holds := by
  w_on; o_law; k_head; (case hw => w_witness2)
  k_fill
  refine L2.walk_ofK (l := PySem.Challenge.rw_likecuts_k02_whole_fractions_beside_whol) (n := 63) (k := 6) (x := "_law_script") (CX := L2.CX0) (sp := Lk.spLaw) rfl (by decide) rfl ⟨rfl, by decide, by decide⟩ (fun w h Y => PySem.W.kIn_of Y) ?F (fun _ _ a ns hl _ hS => ⟨a, ns, rfl, hS, hl, fun _ => rfl⟩) (fun _ _ _ _ h => h)
  case F =>
    intro w mg fa h KX G hmg
    refine' Lk.all_mk KX G hmg ?r0 ?r1 ?r2 ?r3 ?r4 ?r5 ?r6 ?r7 ?r8 ?r9 ?r10 ?r11 ?r12 ?r13 ?r14 ?r15 ?r16 ?r17 ?r18 ?r19 ?r20 ?r21 ?r22 ?r23 ?r24 ?r25 ?r26 ?z0 ?z1 ?z2 ?z3 ?z4 ?z5 ?z6 ?z7 ?z8 ?z9 ?z10 ?z11 ?z12 ?z13 ?z14 ?z15 ?mN ?mD ?mC ?TB ?aL ?lL ?cL ?kL
    case r0 =>
      refine' Lk.raw_mk KX G (fun _ _ _ _ _ _ us hl => match us, hl with | [_], _ => rfl) ?a ?l ?c ?k
      (case a => k_is); (case l => k_is); (case c => k_is); (case k => k_is)
    case r1 =>
      refine' Lk.raw_mk KX G (fun _ _ _ _ _ _ us hl => match us, hl with | [_], _ => rfl) ?a ?l ?c ?k
      (case a => k_is); (case l => k_is); (case c => k_is); (case k => k_is)
    case r2 =>
      refine' Lk.raw_mk KX G (fun _ _ _ _ _ _ us hl => match us, hl with | [_, _], _ => rfl) ?a ?l ?c ?k
      (case a => k_is); (case l => k_is); (case c => k_is); (case k => k_is)
    case r3 =>
      refine' Lk.raw_mk KX G (fun _ _ _ _ _ _ us hl => match us, hl with | [_], _ => rfl) ?a ?l ?c ?k
      (case a => k_is); (case l => k_is); (case c => k_is); (case k => k_is)
    case r4 =>
      refine' Lk.raw_mk KX G (fun _ _ _ _ _ _ us hl => match us, hl with | [_, _], _ => rfl) ?a ?l ?c ?k
      (case a => k_is); (case l => k_is); (case c => k_is); (case k => k_is)
    case r5 =>
      refine' Lk.raw_mk KX G (fun _ _ _ _ _ _ us hl => match us, hl with | [_, _], _ => rfl) ?a ?l ?c ?k
      (case a => k_is); (case l => k_is); (case c => k_is); (case k => k_is)
    case r6 =>
      refine' Lk.raw_mk KX G (fun _ _ _ _ _ _ us hl => match us, hl with | [_, _], _ => rfl) ?a ?l ?c ?k
      (case a => k_is); (case l => k_is); (case c => k_is); (case k => k_is)
    case r7 =>
      refine' Lk.raw_mk KX G (fun _ _ _ _ _ _ us hl => match us, hl with | [_, _], _ => rfl) ?a ?l ?c ?k
      (case a => k_is); (case l => k_is); (case c => k_is); (case k => k_is)
    case r8 =>
      refine' Lk.raw_mk KX G (fun _ _ _ _ _ _ us hl => match us, hl with | [_, _], _ => rfl) ?a ?l ?c ?k
      (case a => k_is); (case l => k_is); (case c => k_is); (case k => k_is)
    case r9 =>
      refine' Lk.raw_mk KX G (fun _ _ _ _ _ _ us hl => match us, hl with | [_], _ => rfl) ?a ?l ?c ?k
      (case a => k_is); (case l => k_is); (case c => k_is); (case k => k_is)
    case r10 =>
      refine' Lk.raw_mk KX G (fun _ _ _ _ _ _ us hl => match us, hl with | [_], _ => rfl) ?a ?l ?c ?k
      (case a => k_is); (case l => k_is); (case c => k_is); (case k => k_is)
    case r11 =>
      refine' Lk.raw_mk KX G (fun _ _ _ _ _ _ us hl => match us, hl with | [_], _ => rfl) ?a ?l ?c ?k
      (case a => k_is); (case l => k_is); (case c => k_is); (case k => k_is)
    case r12 =>
      refine' Lk.raw_mk KX G (fun _ _ _ _ _ _ us hl => match us, hl with | [_], _ => rfl) ?a ?l ?c ?k
      (case a => k_is); (case l => k_is); (case c => k_is); (case k => k_is)
    case r13 =>
      refine' Lk.raw_mk KX G (fun _ _ _ _ _ _ us hl => match us, hl with | [_], _ => rfl) ?a ?l ?c ?k
      (case a => k_is); (case l => k_is); (case c => k_is); (case k => k_is)
    case r14 =>
      refine' Lk.raw_mk KX G (fun _ _ _ _ _ _ us hl => match us, hl with | [_], _ => rfl) ?a ?l ?c ?k
      (case a => k_is); (case l => k_is); (case c => k_is); (case k => k_is)
    case r15 =>
      refine' Lk.raw_mk KX G (fun _ _ _ _ _ _ us hl => match us, hl with | [_], _ => rfl) ?a ?l ?c ?k
      (case a => k_is); (case l => k_is); (case c => k_is); (case k => k_is)
    case r16 =>
      refine' Lk.raw_mk KX G (fun _ _ _ _ _ _ us hl => match us, hl with | [_, _], _ => rfl) ?a ?l ?c ?k
      (case a => k_is); (case l => k_is); (case c => k_is); (case k => k_is)
    case r17 =>
      refine' Lk.raw_mk KX G (fun _ _ _ _ _ _ us hl => match us, hl with | [_, _], _ => rfl) ?a ?l ?c ?k
      (case a => k_is); (case l => k_is); (case c => k_is); (case k => k_is)
    case r18 =>
      refine' Lk.raw_mk KX G (fun _ _ _ _ _ _ us hl => match us, hl with | [_, _], _ => rfl) ?a ?l ?c ?k
      (case a => k_is); (case l => k_is); (case c => k_is); (case k => k_is)
    case r19 =>
      refine' Lk.raw_mk KX G (fun _ _ _ _ _ _ us hl => match us, hl with | [_, _], _ => rfl) ?a ?l ?c ?k
      (case a => k_is); (case l => k_is); (case c => k_is); (case k => k_is)
    case r20 =>
      refine' Lk.raw_mk KX G (fun _ _ _ _ _ _ us hl => match us, hl with | [_, _], _ => rfl) ?a ?l ?c ?k
      (case a => k_is); (case l => k_is); (case c => k_is); (case k => k_is)
    case r21 =>
      refine' Lk.raw_mk KX G (fun _ _ _ _ _ _ us hl => match us, hl with | [_, _, _], _ => rfl) ?a ?l ?c ?k
      (case a => k_is); (case l => k_is); (case c => k_is); (case k => k_is)
    case r22 =>
      refine' Lk.raw_mk KX G (fun _ _ _ _ _ _ us hl => match us, hl with | [_, _], _ => rfl) ?a ?l ?c ?k
      (case a => k_is); (case l => k_is); (case c => k_is); (case k => k_is)
    case r23 =>
      refine' Lk.raw_mk KX G (fun _ _ _ _ _ _ us hl => match us, hl with | [_, _], _ => rfl) ?a ?l ?c ?k
      (case a => k_is); (case l => k_is); (case c => k_is); (case k => k_is)
    case r24 =>
      refine' Lk.raw_mk KX G (fun _ _ _ _ _ _ us hl => match us, hl with | [_], _ => rfl) ?a ?l ?c ?k
      (case a => k_is); (case l => k_is); (case c => k_is); (case k => k_is)
    case r25 =>
      refine' Lk.raw_mk KX G (fun _ _ _ _ _ _ us hl => match us, hl with | [_], _ => rfl) ?a ?l ?c ?k
      (case a => k_is); (case l => k_is); (case c => k_is); (case k => k_is)
    case r26 =>
      refine' Lk.raw_mk KX G (fun _ _ _ _ _ _ us hl => match us, hl with | [], _ => rfl) ?a ?l ?c ?k
      (case a => k_is); (case l => k_is); (case c => k_is); (case k => k_is)
    case z0 => k_is
    case z1 => k_is
    case z2 => k_is
    case z3 => k_is
    case z4 => k_is
    case z5 => k_is
    case z6 => k_is
    case z7 => k_is
    case z8 => k_is
    case z9 => k_is
    case z10 => k_is
    case z11 => k_is
    case z12 => k_is
    case z13 => k_is
    case z14 => k_is
    case z15 => k_is
    case mN =>
      refine' Lk.none_mk KX G ?a ?l
      (case a => k_is); (case l => k_is)
    case mD => k_is
    case mC => k_is
    case TB =>
      refine' Lk.low_mk KX G ?aC ?xL ?sa ?ga ?gg ?nb ?a1 ?t1 ?l1 ?c1 ?kC ?eC ?tC ?hC ?iC ?sC
      (case aC => k_is); (case xL => k_is); (case sa => k_is); (case ga => k_is); (case gg => k_is); (case nb => k_is)
      (case a1 => k_is); (case t1 => k_is); (case l1 => k_is); (case c1 => k_is)
      (case kC => k_is); (case eC => k_is); (case tC => k_is); (case hC => k_is); (case iC => k_is); (case sC => first | rfl | k_is)
    case aL => k_is
    case lL => k_is
    case cL => k_is
    case kL => k_is
