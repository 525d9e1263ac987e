import PyProof.Rows.All
import Wide.All
import OpenK.AllK
import Wide.FinOn
import PyProof.EqAt
import PyProof.EqKinds
import PyProof.TupleCall
import HandS.ForMost
import HandS.Evl
import HandS.Zip
import HandS.Walk
import HandS.IsInst
import PySem.Challenge.RW_lawsunseen_k17_whole_laws_walked_and_tol
import HandS.Gcd
import KE.GoesEnum
import HandS.TupSets
import KE.KeyNested
import KE.SortData
import HandS.TupMul
import KE.GoesZip
import KE.KDictZip
import HandS.MapObj
import HandS.ExcValue
import HandS.Star
import HandS.Exc
import HandS.TryOnly
import HandS.ExcOwn
import HandS.WordsExc
import HandS.ExcIs
import HandS.Flow
import PyProof.Rows.SeqMore
set_option Elab.async false
set_option linter.all false
set_option maxRecDepth 100000
section
/-! # The plain law: growths, values that are let, the law made of them; no program in sight -/
namespace K17

abbrev Row := List Rat

/-! ### sizes: a fraction is so many D-ths -/
/-- q is a whole number of D-ths, in size at most B -/
def Bd (D B : Nat) (q : Rat) : Prop := ∃ k : Int, q * (D : Rat) = (k : Rat) ∧ k.natAbs ≤ B * D
/-- small enough for the machine's rules -/
def Sm (q : Rat) : Prop := q.den ≤ 1000 ∧ q.num.natAbs ≤ 10 ^ 12

theorem natCast_ne {D : Nat} (h : 0 < D) : (D : Rat) ≠ 0 := by
  intro e
  have : (D : Rat) = ((0 : Nat) : Rat) := by simpa using e
  have := Rat.natCast_inj.mp this
  omega

theorem den_of {D : Nat} {k : Int} {q : Rat} (hD : 0 < D) (h : q * (D : Rat) = (k : Rat)) : q = mkRat k D := by
  rw [Rat.mkRat_eq_div]
  have hd := natCast_ne hD
  rw [← h, Rat.div_def, Rat.mul_assoc, Rat.mul_inv_cancel _ hd, Rat.mul_one]

theorem mkRat_sizes {D : Nat} {k : Int} (hD : 0 < D) : (mkRat k D).den ≤ D ∧ (mkRat k D).num.natAbs ≤ k.natAbs := by
  have hz : D ≠ 0 := by omega
  rw [Rat.mkRat_def, dif_neg hz, Rat.normalize_eq]
  constructor
  · exact Nat.div_le_self _ _
  · show (k / _).natAbs ≤ _
    rw [Int.natAbs_ediv_of_dvd]
    · exact Nat.div_le_self _ _
    · exact Int.dvd_natAbs.mp (Int.natCast_dvd_natCast.mpr (Nat.gcd_dvd_left _ _))

theorem Bd.sm {D B : Nat} {q : Rat} (h : Bd D B q) (hD : 0 < D) (h1 : D ≤ 1000) (h2 : B * D ≤ 10 ^ 12) : Sm q := by
  obtain ⟨k, e, hk⟩ := h
  rw [den_of hD e]
  have z := mkRat_sizes (k := k) hD
  exact ⟨by omega, by omega⟩

theorem Bd.add {D B C : Nat} {q r : Rat} (h : Bd D B q) (g : Bd D C r) : Bd D (B + C) (q + r) := by
  obtain ⟨k, e, hk⟩ := h
  obtain ⟨m, f, hm⟩ := g
  refine ⟨k + m, ?_, ?_⟩
  · rw [Rat.add_mul, e, f, Rat.intCast_add]
  · rw [Nat.add_mul]
    omega
theorem Bd.neg {D B : Nat} {q : Rat} (h : Bd D B q) : Bd D B (-q) := by
  obtain ⟨k, e, hk⟩ := h
  refine ⟨-k, ?_, by omega⟩
  rw [Rat.neg_mul, e, Rat.intCast_neg]
theorem Bd.sub {D B C : Nat} {q r : Rat} (h : Bd D B q) (g : Bd D C r) : Bd D (B + C) (q - r) := by
  rw [Rat.sub_eq_add_neg]
  exact h.add g.neg
theorem Bd.mul {D E B C : Nat} {q r : Rat} (h : Bd D B q) (g : Bd E C r) : Bd (D * E) (B * C) (q * r) := by
  obtain ⟨k, e, hk⟩ := h
  obtain ⟨m, f, hm⟩ := g
  refine ⟨k * m, ?_, ?_⟩
  · rw [Rat.intCast_mul, ← e, ← f, Rat.natCast_mul]
    grind
  · rw [Int.natAbs_mul]
    have := Nat.mul_le_mul hk hm
    have e2 : B * D * (C * E) = B * C * (D * E) := by
      rw [Nat.mul_mul_mul_comm]
    omega
theorem Bd.mono {D B C : Nat} {q : Rat} (h : Bd D B q) (hb : B ≤ C) : Bd D C q := by
  obtain ⟨k, e, hk⟩ := h
  exact ⟨k, e, Nat.le_trans hk (Nat.mul_le_mul hb (Nat.le_refl D))⟩
/-- D-ths are also (D m)-ths -/
theorem Bd.finer {D B : Nat} (m : Nat) {q : Rat} (h : Bd D B q) : Bd (D * m) B q := by
  obtain ⟨k, e, hk⟩ := h
  refine ⟨k * m, ?_, ?_⟩
  · rw [Rat.natCast_mul, ← Rat.mul_assoc, e, Rat.intCast_mul, Rat.intCast_natCast]
  · rw [Int.natAbs_mul, Int.natAbs_natCast, ← Nat.mul_assoc]
    exact Nat.mul_le_mul hk (Nat.le_refl m)
theorem Bd.zero (D B : Nat) : Bd D B 0 := ⟨0, by simp, by simp⟩

/-! ### the greatest and the least of some -/
def maxL : List Rat → Rat
  | [] => 0
  | h :: t => t.foldl (fun f p => if f < p then p else f) h
def minL : List Rat → Rat
  | [] => 0
  | h :: t => t.foldl (fun f p => if p < f then p else f) h

theorem foldMax (l : List Rat) : ∀ h : Rat, (l.foldl (fun f p => if f < p then p else f) h = h ∨ l.foldl (fun f p => if f < p then p else f) h ∈ l) ∧
    h ≤ l.foldl (fun f p => if f < p then p else f) h ∧ ∀ x ∈ l, x ≤ l.foldl (fun f p => if f < p then p else f) h := by
  induction l with
  | nil => intro h; exact ⟨.inl rfl, Rat.le_refl, fun x hx => nomatch hx⟩
  | cons a t ih =>
    intro h
    obtain ⟨h1, h2, h3⟩ := ih (if h < a then a else h)
    rw [List.foldl_cons]
    refine ⟨?_, ?_, ?_⟩
    · rcases h1 with e | e
      · rw [e]
        split
        · exact .inr List.mem_cons_self
        · exact .inl rfl
      · exact .inr (List.mem_cons_of_mem _ e)
    · split at h2 <;> split <;> grind
    · intro x hx
      rcases List.eq_or_mem_of_mem_cons hx with rfl | hx
      · split at h2 <;> split <;> grind
      · exact h3 x hx
theorem foldMin (l : List Rat) : ∀ h : Rat, (l.foldl (fun f p => if p < f then p else f) h = h ∨ l.foldl (fun f p => if p < f then p else f) h ∈ l) ∧
    l.foldl (fun f p => if p < f then p else f) h ≤ h ∧ ∀ x ∈ l, l.foldl (fun f p => if p < f then p else f) h ≤ x := by
  induction l with
  | nil => intro h; exact ⟨.inl rfl, Rat.le_refl, fun x hx => nomatch hx⟩
  | cons a t ih =>
    intro h
    obtain ⟨h1, h2, h3⟩ := ih (if a < h then a else h)
    rw [List.foldl_cons]
    refine ⟨?_, ?_, ?_⟩
    · rcases h1 with e | e
      · rw [e]
        split
        · exact .inr List.mem_cons_self
        · exact .inl rfl
      · exact .inr (List.mem_cons_of_mem _ e)
    · split at h2 <;> split <;> grind
    · intro x hx
      rcases List.eq_or_mem_of_mem_cons hx with rfl | hx
      · split at h2 <;> split <;> grind
      · exact h3 x hx
theorem maxL_mem {l : List Rat} (h : l ≠ []) : maxL l ∈ l := by
  cases l with
  | nil => exact absurd rfl h
  | cons a t =>
    rcases (foldMax t a).1 with e | e
    · show List.foldl _ a t ∈ _
      rw [e]; exact List.mem_cons_self
    · exact List.mem_cons_of_mem _ e
theorem le_maxL {l : List Rat} {x : Rat} (h : x ∈ l) : x ≤ maxL l := by
  cases l with
  | nil => exact nomatch h
  | cons a t =>
    rcases List.eq_or_mem_of_mem_cons h with rfl | h
    · exact (foldMax t x).2.1
    · exact (foldMax t a).2.2 x h
theorem minL_mem {l : List Rat} (h : l ≠ []) : minL l ∈ l := by
  cases l with
  | nil => exact absurd rfl h
  | cons a t =>
    rcases (foldMin t a).1 with e | e
    · show List.foldl _ a t ∈ _
      rw [e]; exact List.mem_cons_self
    · exact List.mem_cons_of_mem _ e
theorem minL_le {l : List Rat} {x : Rat} (h : x ∈ l) : minL l ≤ x := by
  cases l with
  | nil => exact nomatch h
  | cons a t =>
    rcases List.eq_or_mem_of_mem_cons h with rfl | h
    · exact (foldMin t x).2.1
    · exact (foldMin t a).2.2 x h

/-! ### rows -/
def dotR : Row → Row → Rat
  | a :: as, b :: bs => a * b + dotR as bs
  | _, _ => 0
def subR (a b : Row) : Row := List.zipWith (fun x y => x - y) a b
def addR (a b : Row) : Row := List.zipWith (fun x y => x + y) a b
def costR (g : List Row) (r : Row) : Rat := maxL (g.map fun c => dotR c r)
/-- what it costs from p to q -/
def rise (g : List Row) (p q : Row) : Rat := costR g (subR q p)

theorem subR_cons (a b : Rat) (x y : Row) : subR (a :: x) (b :: y) = (a - b) :: subR x y := rfl
theorem dot_tri : ∀ (c x y z : Row), x.length = y.length → y.length = z.length → dotR c (subR z x) = dotR c (subR y x) + dotR c (subR z y)
  | [], _, _, _, _, _ => by simp [dotR]; grind
  | _ :: _, [], [], [], _, _ => by simp [dotR, subR]; grind
  | c :: cs, x :: xs, y :: ys, z :: zs, h, g => by
    have ih := dot_tri cs xs ys zs (by simpa using h) (by simpa using g)
    rw [subR_cons, subR_cons, subR_cons, dotR, dotR, dotR, ih]
    grind
theorem dot_self : ∀ (c x : Row), dotR c (subR x x) = 0
  | [], _ => by simp [dotR]
  | _ :: _, [] => by simp [dotR, subR]
  | c :: cs, x :: xs => by
    rw [subR_cons, dotR, dot_self cs xs]
    grind
theorem rise_tri {g : List Row} (hg : g ≠ []) {x y z : Row} (h1 : x.length = y.length) (h2 : y.length = z.length) : rise g x z ≤ rise g x y + rise g y z := by
  have hm : maxL (g.map fun c => dotR c (subR z x)) ∈ g.map fun c => dotR c (subR z x) := maxL_mem (by simpa using hg)
  obtain ⟨c, hc, e⟩ := List.mem_map.mp hm
  have e1 : rise g x z = dotR c (subR z x) := e.symm
  have l1 : dotR c (subR y x) ≤ rise g x y := le_maxL (List.mem_map.mpr ⟨c, hc, rfl⟩)
  have l2 : dotR c (subR z y) ≤ rise g y z := le_maxL (List.mem_map.mpr ⟨c, hc, rfl⟩)
  rw [e1, dot_tri c x y z h1 h2]
  grind
theorem rise_self {g : List Row} (hg : g ≠ []) (x : Row) : rise g x x = 0 := by
  have hm : maxL (g.map fun c => dotR c (subR x x)) ∈ g.map fun c => dotR c (subR x x) := maxL_mem (by simpa using hg)
  obtain ⟨c, hc, e⟩ := List.mem_map.mp hm
  have e1 : rise g x x = dotR c (subR x x) := e.symm
  rw [e1, dot_self]

/-! ### values, let, the laws made -/
/-- (point, value) -/
abbrev PV := Row × Rat
def made (g : List Row) (zs : List PV) (x : Row) : Rat := minL (zs.map fun z => z.2 + rise g z.1 x)
def least (g : List Row) (zs : List PV) (x : Row) : Rat := maxL (zs.map fun z => z.2 - rise g x z.1)
def Let (g : List Row) (zs : List PV) : Prop := ∀ a ∈ zs, ∀ b ∈ zs, b.2 - a.2 ≤ rise g a.1 b.1
def Len (n : Nat) (zs : List PV) : Prop := ∀ z ∈ zs, z.1.length = n

section
variable {g : List Row} {zs : List PV} {n : Nat} (hg : g ≠ []) (hz : zs ≠ []) (hl : Len n zs)
include hg hz hl
theorem made_rises {x y : Row} (hx : x.length = n) (hy : y.length = n) : made g zs y - made g zs x ≤ rise g x y := by
  have hm : minL (zs.map fun z => z.2 + rise g z.1 x) ∈ zs.map fun z => z.2 + rise g z.1 x := minL_mem (by simpa using hz)
  obtain ⟨a, ha, e⟩ := List.mem_map.mp hm
  have e1 : made g zs x = a.2 + rise g a.1 x := e.symm
  have l1 : made g zs y ≤ a.2 + rise g a.1 y := minL_le (List.mem_map.mpr ⟨a, ha, rfl⟩)
  have t := rise_tri hg (x := a.1) (y := x) (z := y) ((hl a ha).trans hx.symm) (hx.trans hy.symm)
  rw [e1]
  grind
theorem least_rises {x y : Row} (hx : x.length = n) (hy : y.length = n) : least g zs y - least g zs x ≤ rise g x y := by
  have hm : maxL (zs.map fun z => z.2 - rise g y z.1) ∈ zs.map fun z => z.2 - rise g y z.1 := maxL_mem (by simpa using hz)
  obtain ⟨b, hb, e⟩ := List.mem_map.mp hm; have e1 : least g zs y = b.2 - rise g y b.1 := e.symm
  have l1 : b.2 - rise g x b.1 ≤ least g zs x := le_maxL (List.mem_map.mpr ⟨b, hb, rfl⟩)
  have t := rise_tri hg (x := x) (y := y) (z := b.1) (hx.trans hy.symm) (hy.trans (hl b hb).symm)
  rw [e1]
  grind
end
/-- what a law that keeps the growth shows at places is let -/
theorem let_of {g : List Row} {f : Row → Rat} {ps : List Row} {n : Nat} (hf : ∀ x y, x.length = n → y.length = n → f y - f x ≤ rise g x y) (hp : ∀ p ∈ ps, p.length = n) : Let g (ps.map fun p => (p, f p)) := by
  intro a ha b hb
  obtain ⟨p, hp1, rfl⟩ := List.mem_map.mp ha
  obtain ⟨q, hq1, rfl⟩ := List.mem_map.mp hb
  exact hf p q (hp p hp1) (hp q hq1)
/-- values that are let are those of the law made of them -/
theorem made_at {g : List Row} {zs : List PV} (hg : g ≠ []) (h : Let g zs) {z : PV} (hz : z ∈ zs) : made g zs z.1 = z.2 := by
  have ne : zs ≠ [] := fun e => by rw [e] at hz; exact nomatch hz
  have l1 : made g zs z.1 ≤ z.2 + rise g z.1 z.1 := minL_le (List.mem_map.mpr ⟨z, hz, rfl⟩)
  rw [rise_self hg] at l1
  have hm : minL (zs.map fun a => a.2 + rise g a.1 z.1) ∈ zs.map fun a => a.2 + rise g a.1 z.1 := minL_mem (by simpa using ne)
  obtain ⟨a, ha, e⟩ := List.mem_map.mp hm
  have e1 : made g zs z.1 = a.2 + rise g a.1 z.1 := e.symm
  have l2 := h a ha z hz
  grind
/-- one more point: let exactly if its value is between both -/
theorem let_more {g : List Row} {zs : List PV} (hg : g ≠ []) (hz : zs ≠ []) (h : Let g zs) (x : Row) (v : Rat) : Let g (zs ++ [(x, v)]) ↔ least g zs x ≤ v ∧ v ≤ made g zs x := by
  constructor
  · intro L
    constructor
    · have hm : maxL (zs.map fun z => z.2 - rise g x z.1) ∈ zs.map fun z => z.2 - rise g x z.1 := maxL_mem (by simpa using hz)
      obtain ⟨b, hb, e⟩ := List.mem_map.mp hm; have e1 : least g zs x = b.2 - rise g x b.1 := e.symm
      have l := L (x, v) (by simp) b (by simp [hb])
      rw [e1]
      grind
    · have hm : minL (zs.map fun z => z.2 + rise g z.1 x) ∈ zs.map fun z => z.2 + rise g z.1 x := minL_mem (by simpa using hz)
      obtain ⟨a, ha, e⟩ := List.mem_map.mp hm
      have e1 : made g zs x = a.2 + rise g a.1 x := e.symm
      have l := L a (by simp [ha]) (x, v) (by simp)
      rw [e1]
      grind
  · rintro ⟨h1, h2⟩ a ha b hb
    rcases List.mem_append.mp ha with ha | ha <;> rcases List.mem_append.mp hb with hb | hb
    · exact h a ha b hb
    · rw [List.mem_singleton.mp hb]; have l : made g zs x ≤ a.2 + rise g a.1 x := minL_le (List.mem_map.mpr ⟨a, ha, rfl⟩)
      show v - a.2 ≤ rise g a.1 x
      grind
    · rw [List.mem_singleton.mp ha]; have l : b.2 - rise g x b.1 ≤ least g zs x := le_maxL (List.mem_map.mpr ⟨b, hb, rfl⟩)
      show b.2 - v ≤ rise g x b.1
      grind
    · rw [List.mem_singleton.mp ha, List.mem_singleton.mp hb]
      show v - v ≤ rise g x x
      rw [rise_self hg]
      grind
theorem Let.perm {g : List Row} {zs ys : List PV} (h : zs.Perm ys) : Let g zs ↔ Let g ys := by
  constructor
  · intro L a ha b hb
    exact L a (h.mem_iff.mpr ha) b (h.mem_iff.mpr hb)
  · intro L a ha b hb
    exact L a (h.mem_iff.mp ha) b (h.mem_iff.mp hb)
end K17

end
section
/-! # Fractions as the program makes them -/
namespace K17
theorem fr_of (t b : Int) (hb : 0 < b) : t / ((Nat.gcd t.natAbs b.natAbs : Nat) : Int) = (mkRat t b.toNat).num ∧ b / ((Nat.gcd t.natAbs b.natAbs : Nat) : Int) = ((mkRat t b.toNat).den : Int) := by
  have hz : b.toNat ≠ 0 := by omega
  have e : b.natAbs = b.toNat := by omega
  have e2 : ((b.toNat : Nat) : Int) = b := by omega
  rw [Rat.mkRat_def, dif_neg hz, Rat.normalize_eq, e]
  refine ⟨rfl, ?_⟩
  show b / _ = ((b.toNat / Nat.gcd t.natAbs b.toNat : Nat) : Int)
  rw [Int.natCast_ediv, e2]
theorem gcd_pos {t b : Int} (hb : 0 < b) : 0 < ((Nat.gcd t.natAbs b.natAbs : Nat) : Int) := by
  have : 0 < Nat.gcd t.natAbs b.natAbs := Nat.gcd_pos_of_pos_right _ (by omega)
  omega
theorem gcd_le {t b : Int} (hb : 0 < b) : ((Nat.gcd t.natAbs b.natAbs : Nat) : Int) ≤ b := by
  have : Nat.gcd t.natAbs b.natAbs ≤ b.natAbs := Nat.gcd_le_right _ (by omega)
  omega
theorem den_pos (q : Rat) : 0 < (q.den : Int) := by
  have := q.den_pos
  omega
theorem toNat_mul (q r : Rat) : ((q.den : Int) * (r.den : Int)).toNat = q.den * r.den := by
  rw [← Int.natCast_mul, Int.toNat_natCast]
theorem add_mk (q r : Rat) : mkRat (q.num * r.den + r.num * q.den) ((q.den : Int) * (r.den : Int)).toNat = q + r := by
  rw [toNat_mul, Rat.add_def, Rat.normalize_eq_mkRat]
theorem sub_mk (q r : Rat) : mkRat (q.num * r.den - r.num * q.den) ((q.den : Int) * (r.den : Int)).toNat = q - r := by
  rw [Rat.sub_eq_add_neg, ← add_mk, Rat.neg_num, Rat.neg_den]
  congr 1
  rw [Int.neg_mul, Int.sub_eq_add_neg]
theorem mul_mk (q r : Rat) : mkRat (q.num * r.num) ((q.den : Int) * (r.den : Int)).toNat = q * r := by
  rw [toNat_mul, Rat.mul_def, Rat.normalize_eq_mkRat]
theorem mk_whole (n : Int) : mkRat n 1 = ⟨n, 1, by decide, by simp⟩ := by
  rw [Rat.mkRat_def, dif_neg (by decide), Rat.normalize_eq]
  congr 1
  · simp
  · simp
theorem add_whole {q r : Rat} (h : q.den = 1) (g : r.den = 1) : (q + r).num = q.num + r.num ∧ (q + r).den = 1 := by
  rw [← add_mk, toNat_mul, h, g]
  simp only [Int.cast_ofNat_Int, Int.mul_one, Nat.mul_one]
  rw [mk_whole]
  exact ⟨rfl, rfl⟩
theorem mul_whole {q r : Rat} (h : q.den = 1) (g : r.den = 1) : (q * r).num = q.num * r.num ∧ (q * r).den = 1 := by
  rw [← mul_mk, toNat_mul, h, g]
  simp only [Nat.mul_one]
  rw [mk_whole]
  exact ⟨rfl, rfl⟩
theorem den_int {q : Rat} : ((q.den : Int) = 1) ↔ q.den = 1 := by omega
/-- sizes of what is reckoned with -/
theorem Sm.den {q : Rat} (h : Sm q) : 0 < (q.den : Int) ∧ (q.den : Int) ≤ 1000 := ⟨den_pos q, by have := h.1; omega⟩
theorem Sm.num {q : Rat} (h : Sm q) : -(10 ^ 12) ≤ q.num ∧ q.num ≤ 10 ^ 12 := by have := h.2; omega
theorem Sm.dd {q r : Rat} (h : Sm q) (g : Sm r) : 0 < (q.den : Int) * (r.den : Int) ∧ (q.den : Int) * (r.den : Int) ≤ 1000000 := by
  refine ⟨Int.mul_pos (den_pos q) (den_pos r), ?_⟩
  have h1 := h.den
  have g1 := g.den
  have : (q.den : Int) * (r.den : Int) ≤ 1000 * 1000 := Int.mul_le_mul h1.2 g1.2 (by omega) (by omega)
  omega
theorem half_q : mkRat 1 2 = (1 / 2 : Rat) := by decide +kernel
end K17

end
section
/-! # Rows as the program goes through them -/
namespace K17
def sumL (l : List Rat) : Rat := l.foldl (fun a b => a + b) 0
def fmax (f p : Rat) : Rat := if f < p then p else f
def fmin (f p : Rat) : Rat := if p < f then p else f
theorem foldl_snoc {α β : Type} (f : α → β → α) (a : α) {l : List β} {i : Nat} {x : β} (h : l[i]? = some x) : (l.take (i + 1)).foldl f a = f ((l.take i).foldl f a) x := by
  rw [List.take_succ, h, List.foldl_append]
  rfl
theorem sumL_snoc {l : List Rat} {i : Nat} {x : Rat} (h : l[i]? = some x) : sumL (l.take (i + 1)) = sumL (l.take i) + x := foldl_snoc _ _ h
theorem maxL_fold (h : Rat) (t : List Rat) : (h :: t).foldl fmax h = maxL (h :: t) := by
  show t.foldl fmax (fmax h h) = _
  have : fmax h h = h := by unfold fmax; split <;> rfl
  rw [this]
  rfl
theorem minL_fold (h : Rat) (t : List Rat) : (h :: t).foldl fmin h = minL (h :: t) := by
  show t.foldl fmin (fmin h h) = _
  have : fmin h h = h := by unfold fmin; split <;> rfl
  rw [this]
  rfl
theorem fold_mem {f : Rat → Rat → Rat} (hf : ∀ a b, f a b = a ∨ f a b = b) : ∀ (l : List Rat) (h : Rat), l.foldl f h = h ∨ l.foldl f h ∈ l
  | [], h => .inl rfl
  | a :: t, h => by
    rw [List.foldl_cons]
    rcases fold_mem hf t (f h a) with e | e
    · rw [e]
      rcases hf h a with z | z
      · exact .inl z
      · rw [z]; exact .inr List.mem_cons_self
    · exact .inr (List.mem_cons_of_mem _ e)
theorem fmax_or (a b : Rat) : fmax a b = a ∨ fmax a b = b := by unfold fmax; split <;> simp
theorem fmin_or (a b : Rat) : fmin a b = a ∨ fmin a b = b := by unfold fmin; split <;> simp
/-- the places' products -/
def prods (c r : Row) : List Rat := (c.zip r).map fun p => p.1 * p.2
theorem foldl_add (l : List Rat) : ∀ a : Rat, l.foldl (fun a b => a + b) a = a + sumL l := by
  unfold sumL
  induction l with
  | nil => intro a; simp; grind
  | cons x t ih =>
    intro a
    rw [List.foldl_cons, List.foldl_cons, ih (a + x), ih (0 + x)]
    grind
theorem sumL_cons (x : Rat) (t : List Rat) : sumL (x :: t) = x + sumL t := by
  show List.foldl _ (0 + x) t = _
  rw [foldl_add]
  grind
theorem dot_prods : ∀ c r : Row, sumL (prods c r) = dotR c r
  | [], _ => by simp [prods, dotR, sumL]
  | _ :: _, [] => by simp [prods, dotR, sumL]
  | a :: c, b :: r => by
    show sumL (a * b :: prods c r) = a * b + dotR c r
    rw [sumL_cons, dot_prods c r]
theorem zip_sub : ∀ a b : Row, (a.zip b).map (fun p => p.1 - p.2) = subR a b
  | [], _ => by simp [subR]
  | _ :: _, [] => by simp [subR]
  | x :: a, y :: b => by
    show (x - y) :: (a.zip b).map _ = (x - y) :: subR a b
    rw [zip_sub a b]
theorem zip_add : ∀ a b : Row, (a.zip b).map (fun p => p.1 + p.2) = addR a b
  | [], _ => by simp [addR]
  | _ :: _, [] => by simp [addR]
  | x :: a, y :: b => by
    show (x + y) :: (a.zip b).map _ = (x + y) :: addR a b
    rw [zip_add a b]
theorem add_less : ∀ a b : Row, addR a (b.map fun q => q * (-1)) = subR a b
  | [], _ => by simp [addR, subR]
  | _ :: _, [] => by simp [addR, subR]
  | x :: a, y :: b => by
    show (x + y * (-1)) :: addR a (b.map _) = (x - y) :: subR a b
    rw [add_less a b]
    congr 1
    grind
/-! ### sizes along a dot -/
structure DotOk (c r : Row) : Prop where
  oc : ∀ q ∈ c, Sm q
  or : ∀ q ∈ r, Sm q
  op : ∀ q ∈ prods c r, Sm q
  os : ∀ i, Sm (sumL ((prods c r).take i))
/-- a row's entries are so many D-ths -/
def RowBd (D B : Nat) (r : Row) : Prop := ∀ q ∈ r, Bd D B q
theorem prods_bd {D E B C : Nat} {c r : Row} (h : RowBd D B c) (g : RowBd E C r) : ∀ q ∈ prods c r, Bd (D * E) (B * C) q := by
  intro q hq
  obtain ⟨p, hp, rfl⟩ := List.mem_map.mp hq; exact (h _ (List.of_mem_zip hp).1).mul (g _ (List.of_mem_zip hp).2)
theorem sum_bd {D B : Nat} : ∀ {l : List Rat}, (∀ q ∈ l, Bd D B q) → Bd D (B * l.length) (sumL l)
  | [], _ => by
    show Bd D (B * 0) 0
    exact Bd.zero _ _
  | x :: t, h => by
    rw [sumL_cons, List.length_cons, Nat.mul_add, Nat.mul_one, Nat.add_comm]
    exact (h x List.mem_cons_self).add (sum_bd fun q hq => h q (List.mem_cons_of_mem _ hq))
theorem sum_take_bd {D B n : Nat} {l : List Rat} (h : ∀ q ∈ l, Bd D B q) (hn : l.length ≤ n) (i : Nat) : Bd D (B * n) (sumL (l.take i)) :=
  (sum_bd fun q hq => h q (List.mem_of_mem_take hq)).mono (Nat.mul_le_mul (Nat.le_refl _) (by rw [List.length_take]; omega))
theorem prods_len (c r : Row) : (prods c r).length ≤ c.length := by
  unfold prods
  rw [List.length_map, List.length_zip]
  omega
theorem Bd.sm' {D B : Nat} {q : Rat} (h : Bd D B q) (hD : 0 < D := by decide) (h1 : D ≤ 1000 := by decide) (h2 : B * D ≤ 10 ^ 12 := by decide) : Sm q := h.sm hD h1 h2
/-- corners with slopes of halves up to 2, a row of halves up to 6, at most two places -/
theorem dotOk {c r : Row} (hc : RowBd 2 2 c) (hr : RowBd 2 6 r) (hn : c.length ≤ 2) : DotOk c r where
  oc := fun q hq => (hc q hq).sm'
  or := fun q hq => (hr q hq).sm'
  op := fun q hq => (prods_bd hc hr q hq).sm'
  os := fun i => (sum_take_bd (n := 2) (prods_bd hc hr) (Nat.le_trans (prods_len c r) hn) i).sm'
theorem dot_bd {c r : Row} (hc : RowBd 2 2 c) (hr : RowBd 2 6 r) (hn : c.length ≤ 2) : Bd 4 24 (dotR c r) := by
  rw [← dot_prods]
  have := sum_take_bd (n := 2) (prods_bd hc hr) (Nat.le_trans (prods_len c r) hn) (prods c r).length
  rw [List.take_length] at this
  exact this
/-- a growth of n: its corners -/
structure GOk (n : Nat) (g : List Row) : Prop where
  ne : g ≠ []
  n1 : n ≤ 2
  len : ∀ c ∈ g, c.length = n
  bd : ∀ c ∈ g, RowBd 2 2 c
  few : g.length ≤ 3
/-- a point of n -/
structure PtOk (n : Nat) (p : Row) : Prop where
  len : p.length = n
  bd : RowBd 2 3 p
theorem sub_bd {D B C : Nat} : ∀ {a b : Row}, RowBd D B a → RowBd D C b → RowBd D (B + C) (subR a b) := by
  intro a b ha hb q hq
  rw [← zip_sub] at hq
  obtain ⟨p, hp, rfl⟩ := List.mem_map.mp hq; exact (ha _ (List.of_mem_zip hp).1).sub (hb _ (List.of_mem_zip hp).2)
theorem cost_bd {n : Nat} {g : List Row} {r : Row} (hg : GOk n g) (hr : RowBd 2 6 r) : Bd 4 24 (costR g r) := by
  have hm : maxL (g.map fun c => dotR c r) ∈ g.map fun c => dotR c r := maxL_mem (by simpa using hg.ne)
  obtain ⟨c, hc, e⟩ := List.mem_map.mp hm
  show Bd 4 24 (maxL _)
  rw [← e]
  exact dot_bd (hg.bd c hc) hr (by rw [hg.len c hc]; exact hg.n1)
theorem rise_bd {n : Nat} {g : List Row} {p q : Row} (hg : GOk n g) (hp : PtOk n p) (hq : PtOk n q) : Bd 4 24 (rise g p q) := cost_bd hg (sub_bd hq.bd hp.bd)
end K17

end
section
/-! # The least broken pair -/
namespace K17
/-- points with values -/
structure ZOk (n : Nat) (zs : List PV) : Prop where
  ne : zs ≠ []
  few : zs.length ≤ 6
  pt : ∀ z ∈ zs, PtOk n z.1
  vl : ∀ z ∈ zs, Bd 504 1000 z.2
theorem ZOk.len {n : Nat} {zs : List PV} (h : ZOk n zs) : Len n zs := fun z hz => (h.pt z hz).len
/-- from the i-th to the j-th the values rise too much -/
def brk (g : List Row) (zs : List PV) (i j : Nat) : Bool :=
  match zs[i]?, zs[j]? with
  | some a, some b => decide (rise g a.1 b.1 < b.2 - a.2)
  | _, _ => false
def first2 (B : Nat → Nat → Bool) (n : Nat) : Option (Nat × Nat) := (List.range n).findSome? fun i => (List.range n).findSome? fun j => if B i j = true then some (i, j) else none
def brokenP (g : List Row) (zs : List PV) : Option (Nat × Nat) := first2 (brk g zs) zs.length
theorem brk_self {g : List Row} (hg : g ≠ []) (zs : List PV) (i : Nat) : brk g zs i i = false := by
  unfold brk
  cases zs[i]? with
  | none => rfl
  | some a =>
    show decide (rise g a.1 a.1 < a.2 - a.2) = false
    rw [rise_self hg]
    exact decide_eq_false (by grind)
theorem brk_at {g : List Row} {zs : List PV} {i j : Nat} {a b : PV} (h1 : zs[i]? = some a) (h2 : zs[j]? = some b) : brk g zs i j = decide (rise g a.1 b.1 < b.2 - a.2) := by
  unfold brk
  rw [h1, h2]
theorem first2_none {B : Nat → Nat → Bool} {n : Nat} : first2 B n = none ↔ ∀ i, i < n → ∀ j, j < n → B i j = false := by
  unfold first2
  rw [List.findSome?_eq_none_iff]
  constructor
  · intro h i hi j hj
    have h1 := h i (List.mem_range.mpr hi)
    rw [List.findSome?_eq_none_iff] at h1
    have h2 := h1 j (List.mem_range.mpr hj)
    cases e : B i j with
    | false => rfl
    | true => rw [e] at h2; simp at h2
  · intro h i hi
    rw [List.findSome?_eq_none_iff]
    intro j hj
    rw [h i (List.mem_range.mp hi) j (List.mem_range.mp hj)]
    rfl
theorem broken_none {g : List Row} {zs : List PV} : brokenP g zs = none ↔ Let g zs := by
  unfold brokenP
  rw [first2_none]
  constructor
  · intro h a ha b hb
    obtain ⟨i, hi, e1⟩ := List.getElem_of_mem ha
    obtain ⟨j, hj, e2⟩ := List.getElem_of_mem hb
    have z := h i hi j hj
    rw [brk_at (by rw [List.getElem?_eq_getElem hi, e1]) (by rw [List.getElem?_eq_getElem hj, e2])] at z
    have := of_decide_eq_false z
    grind
  · intro h i hi j hj
    rw [brk_at (List.getElem?_eq_getElem hi) (List.getElem?_eq_getElem hj)]
    have := h _ (List.getElem_mem hi) _ (List.getElem_mem hj)
    exact decide_eq_false (by grind)
theorem zip_fst_snd : ∀ zs : List PV, (zs.map (·.1)).zip (zs.map (·.2)) = zs
  | [] => rfl
  | z :: zs => by
    show (z.1, z.2) :: ((zs.map (·.1)).zip (zs.map (·.2))) = z :: zs
    rw [zip_fst_snd zs]
theorem made_sm {n : Nat} {g : List Row} {zs : List PV} {x : Row} (hg : GOk n g) (hz : ZOk n zs) (hx : PtOk n x) : ∀ q ∈ zs.map (fun z => z.2 + rise g z.1 x), Bd 504 1024 q := fun q hq => by
  obtain ⟨z, h, rfl⟩ := List.mem_map.mp hq
  have b : Bd 504 24 (rise g z.1 x) := (rise_bd hg (hz.pt z h) hx).finer 126
  have c : Bd 504 (1000 + 24) (z.2 + rise g z.1 x) := (hz.vl z h).add b
  exact c
theorem least_sm {n : Nat} {g : List Row} {zs : List PV} {x : Row} (hg : GOk n g) (hz : ZOk n zs) (hx : PtOk n x) : ∀ q ∈ zs.map (fun z => z.2 - rise g x z.1), Bd 504 1024 q := fun q hq => by
  obtain ⟨z, h, rfl⟩ := List.mem_map.mp hq
  have b : Bd 504 24 (rise g x z.1) := (rise_bd hg hx (hz.pt z h)).finer 126
  have c : Bd 504 (1000 + 24) (z.2 - rise g x z.1) := (hz.vl z h).sub b
  exact c
theorem rise_sm {n : Nat} {g : List Row} {p q : Row} (hg : GOk n g) (hp : PtOk n p) (hq : PtOk n q) : Sm (rise g p q) := (rise_bd hg hp hq).sm'
end K17

end
section
set_option maxHeartbeats 4200000
/-! # Data in, data out: readings whose value is told as data, over the hand layer -/
namespace K17
open PySem PySem.Spec PyProof.Rows L2 Evl
section
variable {K : PySem.W.Frag} {H H' H1 H2 : Hp}
/-! ### data stay -/
mutual
theorem dp_ex (e : Ex H H') : ∀ (d : PyData) (v : V), Dp K H v d → Dp K H' v d
  | .none, _, h => by cases h; exact .non
  | .bool _, _, h => by cases h; exact .bl _
  | .int _, _, h => by cases h; exact .int _
  | .str _, _, h => by cases h; exact .str _
  | .list ds, _, h => by
    cases h with
    | lst h1 h2 => exact .lst (ex_l e h1) (dps_ex e ds _ h2)
  | .tuple ds, _, h => by
    cases h with
    | tup h1 h2 => exact .tup (ex_t e h1) (dps_ex e ds _ h2)
  | .dict _, _, h => by cases h
theorem dps_ex (e : Ex H H') : ∀ (ds : List PyData) (vs : List V), DpAll K H vs ds → DpAll K H' vs ds
  | [], _, h => by cases h; exact .nil
  | d :: ds, _, h => by
    cases h with
    | cons h1 h2 => exact .cons (dp_ex e d _ h1) (dps_ex e ds _ h2)
end
/-- no list within -/
def tupOnly : PyData → Bool
  | .int _ | .bool _ | .str _ | .none => true
  | .tuple ds => tupOnlys ds
  | _ => false
where tupOnlys : List PyData → Bool
  | [] => true
  | d :: ds => tupOnly d && tupOnlys ds
theorem tupOnlys_all : ∀ {ds : List PyData}, tupOnly.tupOnlys ds = true ↔ ∀ d ∈ ds, tupOnly d = true
  | [] => by simp [tupOnly.tupOnlys]
  | d :: ds => by simp [tupOnly.tupOnlys, tupOnlys_all (ds := ds)]
/-- what stands as a tuple (or is locked) in the one does so in the other -/
def Tups (H H' : Hp) : Prop := (∀ a xs, H a = some (.tup xs) → H' a = some (.tup xs)) ∧ ∀ a o xs, H a = some (.frz o (.tup xs)) → H' a = some (.frz o (.tup xs))
theorem Tups.of (e : Ex H H') : Tups H H' := ⟨fun _ _ h => e _ _ h, fun _ _ _ h => e _ _ h⟩
theorem Tups.refl (H : Hp) : Tups H H := .of (Ex.refl H)
theorem Tups.trans (a : Tups H H1) (b : Tups H1 H2) : Tups H H2 := ⟨fun _ _ h => b.1 _ _ (a.1 _ _ h), fun _ _ _ h => b.2 _ _ _ (a.2 _ _ _ h)⟩
/-- a list is written -/
theorem Tups.lst {l : Addr} {xs ys : List V} (h : H l = some (.lst xs)) : Tups H (upd H l (.lst ys)) :=
  ⟨fun a z q => by rw [upd_ne (ne_of q h (by intro e; cases e))]; exact q, fun a o z q => by rw [upd_ne (ne_of q h (by intro e; cases e))]; exact q⟩
theorem tups_t (e : Tups H H') {a : Addr} {xs : List V} (h : SqT K H a xs) : SqT K H' a xs := by
  rcases h with ((h | ⟨o, h⟩) | h)
  · exact .inl (.inl (e.1 _ _ h))
  · exact .inl (.inr ⟨o, e.2 _ _ _ h⟩)
  · exact .inr h
mutual
theorem dp_tups (e : Tups H H') : ∀ (d : PyData) (v : V), tupOnly d = true → Dp K H v d → Dp K H' v d
  | .none, _, _, h => by cases h; exact .non
  | .bool _, _, _, h => by cases h; exact .bl _
  | .int _, _, _, h => by cases h; exact .int _
  | .str _, _, _, h => by cases h; exact .str _
  | .list ds, _, q, h => by simp [tupOnly] at q
  | .tuple ds, _, q, h => by
    cases h with
    | tup h1 h2 => exact .tup (tups_t e h1) (dps_tups e ds _ (by simpa [tupOnly] using q) h2)
  | .dict _, _, _, h => by cases h
theorem dps_tups (e : Tups H H') : ∀ (ds : List PyData) (vs : List V), tupOnly.tupOnlys ds = true → DpAll K H vs ds → DpAll K H' vs ds
  | [], _, _, h => by cases h; exact .nil
  | d :: ds, _, q, h => by
    cases h with
    | cons h1 h2 =>
      have z : tupOnly d = true ∧ tupOnly.tupOnlys ds = true := by simpa [tupOnly.tupOnlys] using q
      exact .cons (dp_tups e d _ z.1 h1) (dps_tups e ds _ z.2 h2)
end
/-! ### lists of data -/
theorem dps_len : ∀ {vs : List V} {ds : List PyData}, DpAll K H vs ds → vs.length = ds.length
  | _, _, .nil => rfl
  | _, _, .cons _ t => by rw [List.length_cons, List.length_cons, dps_len t]
theorem dps_get : ∀ {vs : List V} {ds : List PyData} {i : Nat} {v : V}, DpAll K H vs ds → vs[i]? = some v → ∃ d, ds[i]? = some d ∧ Dp K H v d
  | _, _, _, _, .nil, h => by simp at h
  | _, _, 0, v, .cons h1 _, h => by
    simp at h
    subst h
    exact ⟨_, rfl, h1⟩
  | _, _, i + 1, v, .cons _ t, h => by
    obtain ⟨d, h1, h2⟩ := dps_get (i := i) t (by simpa using h)
    exact ⟨d, by simpa using h1, h2⟩
theorem dps_at : ∀ {vs : List V} {ds : List PyData} {i : Nat} {d : PyData}, DpAll K H vs ds → ds[i]? = some d → ∃ v, vs[i]? = some v ∧ Dp K H v d
  | _, _, _, _, .nil, h => by simp at h
  | _, _, 0, v, .cons h1 _, h => by
    simp at h
    subst h
    exact ⟨_, rfl, h1⟩
  | _, _, i + 1, v, .cons _ t, h => by
    obtain ⟨d, h1, h2⟩ := dps_at (i := i) t (by simpa using h)
    exact ⟨d, by simpa using h1, h2⟩
theorem dps_snoc : ∀ {vs : List V} {ds : List PyData} {v : V} {d : PyData}, DpAll K H vs ds → Dp K H v d → DpAll K H (vs ++ [v]) (ds ++ [d])
  | _, _, _, _, .nil, hl => .cons hl .nil
  | _, _, _, _, .cons h1 t, h => .cons h1 (dps_snoc t h)
theorem dps_app : ∀ {vs ws : List V} {ds es : List PyData}, DpAll K H vs ds → DpAll K H ws es → DpAll K H (vs ++ ws) (ds ++ es)
  | _, _, _, _, .nil, h => h
  | _, _, _, _, .cons h1 t, h => .cons h1 (dps_app t h)
theorem dp_ref_tup {v : V} {ds : List PyData} (h : Dp K H v (.tuple ds)) : ∃ a xs, v = .ref a ∧ SqT K H a xs ∧ DpAll K H xs ds := by
  cases h with
  | tup h1 h2 => exact ⟨_, _, rfl, h1, h2⟩
theorem dp_ref_lst {v : V} {ds : List PyData} (h : Dp K H v (.list ds)) : ∃ a xs, v = .ref a ∧ SqL K H a xs ∧ DpAll K H xs ds := by
  cases h with
  | lst h1 h2 => exact ⟨_, _, rfl, h1, h2⟩
theorem dp_int {v : V} {i : Int} (h : Dp K H v (.int i)) : v = .int i := by cases h; rfl
theorem dp_bool {v : V} {i : Bool} (h : Dp K H v (.bool i)) : v = .bl i := by cases h; rfl
theorem dp_str {v : V} {i : Str} (h : Dp K H v (.str i)) : v = .str i := by cases h; rfl
theorem dp_none {v : V} (h : Dp K H v .none) : v = .non := by cases h; rfl
end

/-! ### readings -/
section
variable (K : PySem.W.Frag)
def RetD (d : PyData) (H : Hp) (Q : VK) : Prop := ∀ v H', Ex H H' → Dp K H' v d → Q v H'
def EvD (te : TE) (σ : L2.St) (H : Hp) (d : PyData) : Prop := ∀ H1, Ex H H1 → ∀ Q : VK, RetD K d H1 Q → te σ H1 Q
def EvAD (ta : TA) (σ : L2.St) (H : Hp) (ds : List PyData) : Prop := ∀ H1, Ex H H1 → ∀ Q : List V → Hp → Prop, (∀ vs H2, Ex H1 H2 → DpAll K H2 vs ds → Q vs H2) → ta σ H1 Q
/-- the promise of a def that makes of data ds the datum d wherever R ds d -/
def SpD (R : List PyData → PyData → Prop) : Sp := fun vs H Q _ => ∃ ds d, DpAll K H vs ds ∧ R ds d ∧ RetD K d H Q
end
section
variable {K : PySem.W.Frag} {σ : L2.St} {H H' : Hp} {ta tb te tx ti : TE} {t u : TT} {x y z v : V} {r : R2} {d d1 d2 : PyData} {ds es : List PyData}
theorem RetD.go {Q : VK} (k : RetD K d H Q) (e : Ex H H') : RetD K d H' Q := fun v H2 e2 h => k v H2 (e.trans e2) h
theorem EvD.mono (e : Ex H H') (h : EvD K te σ H d) : EvD K te σ H' d := fun H1 e1 Q k => h H1 (e.trans e1) Q k
theorem d_var {i : Nat} (h : σ[i]? = some (some v)) (hd : Dp K H v d) : EvD K (tVar i) σ H d := fun H1 e Q k => ⟨v, h, k v H1 (Ex.refl _) (dp_ex e _ _ hd)⟩
theorem d_of (h : Ev te σ H v) (hd : Dp K H v d) : EvD K te σ H d := fun H1 e Q k => h H1 e Q fun H2 e2 => k v H2 e2 (dp_ex (e.trans e2) _ _ hd)
theorem d_is (h : EvD K te σ H d1) (e : d1 = d2) : EvD K te σ H d2 := e ▸ h
theorem ev_int {i : Int} (h : EvD K te σ H (.int i)) : Ev te σ H (.int i) := fun H1 e Q k => h H1 e Q fun v H2 e2 hd => by rw [dp_int hd]; exact k H2 e2
theorem ev_bool {i : Bool} (h : EvD K te σ H (.bool i)) : Ev te σ H (.bl i) := fun H1 e Q k => h H1 e Q fun v H2 e2 hd => by rw [dp_bool hd]; exact k H2 e2
theorem ev_str {i : Str} (h : EvD K te σ H (.str i)) : Ev te σ H (.str i) := fun H1 e Q k => h H1 e Q fun v H2 e2 hd => by rw [dp_str hd]; exact k H2 e2
theorem ev_none (h : EvD K te σ H .none) : Ev te σ H .non := fun H1 e Q k => h H1 e Q fun v H2 e2 hd => by rw [dp_none hd]; exact k H2 e2
theorem d_int {i : Int} (h : Ev te σ H (.int i)) : EvD K te σ H (.int i) := d_of h (.int i)
theorem d_bool {i : Bool} (h : Ev te σ H (.bl i)) : EvD K te σ H (.bool i) := d_of h (.bl i)
theorem d_ci {i : Int} : EvD K (tC (.int i)) σ H (.int i) := d_of ev_c (.int i)
theorem d_cb {i : Bool} : EvD K (tC (.bl i)) σ H (.bool i) := d_of ev_c (.bl i)
theorem d_cs {i : Str} : EvD K (tC (.str i)) σ H (.str i) := d_of ev_c (.str i)
theorem d_cn : EvD K (tC .non) σ H .none := d_of ev_c .non
/-- two ints, an int -/
theorem d_opI {g : Int → Int → Int} {i j : Int} (ha : EvD K ta σ H (.int i)) (hb : EvD K tb σ H (.int j)) : EvD K (tOp (rI0 fun i j => .int (g i j)) ta tb) σ H (.int (g i j)) :=
  d_int (ev_op (ev_int ha) (ev_int hb) rv_I0)
theorem d_opIC {C : Int → Int → Prop} {g : Int → Int → Int} {i j : Int} (ha : EvD K ta σ H (.int i)) (hb : EvD K tb σ H (.int j)) (hc : C i j) : EvD K (tOp (rI C fun i j => .int (g i j)) ta tb) σ H (.int (g i j)) :=
  d_int (ev_op (ev_int ha) (ev_int hb) (rv_I hc))
theorem d_opIB {g : Int → Int → Bool} {i j : Int} (ha : EvD K ta σ H (.int i)) (hb : EvD K tb σ H (.int j)) : EvD K (tOp (rI0 fun i j => .bl (g i j)) ta tb) σ H (.bool (g i j)) :=
  d_bool (ev_op (ev_int ha) (ev_int hb) rv_I0)
theorem d_unI {g : Int → Int} {i : Int} (ha : EvD K ta σ H (.int i)) : EvD K (tUn (rU fun i => .int (g i)) ta) σ H (.int (g i)) :=
  d_int (ev_un (ev_int ha) fun H1 _ Q k => ⟨i, rfl, k H1 (Ex.refl _)⟩)
/-- == of ints, bools -/
theorem d_eqI {i j : Int} (ha : EvD K ta σ H (.int i)) (hb : EvD K tb σ H (.int j)) : EvD K (tOp rEq ta tb) σ H (.bool (decide (i = j))) :=
  d_bool (ev_is (ev_op (ev_int ha) (ev_int hb) (rv_eq rfl)) (by simp))
theorem d_neI {i j : Int} (ha : EvD K ta σ H (.int i)) (hb : EvD K tb σ H (.int j)) : EvD K (tOp rNe ta tb) σ H (.bool (!decide (i = j))) :=
  d_bool (ev_is (ev_op (ev_int ha) (ev_int hb) (rv_ne rfl)) (by simp))
theorem d_neB {i j : Bool} (ha : EvD K ta σ H (.bool i)) (hb : EvD K tb σ H (.bool j)) : EvD K (tOp rNe ta tb) σ H (.bool (!decide (i = j))) :=
  d_bool (ev_is (ev_op (ev_bool ha) (ev_bool hb) (rv_ne rfl)) (by simp))
theorem d_eqB {i j : Bool} (ha : EvD K ta σ H (.bool i)) (hb : EvD K tb σ H (.bool j)) : EvD K (tOp rEq ta tb) σ H (.bool (decide (i = j))) :=
  d_bool (ev_is (ev_op (ev_bool ha) (ev_bool hb) (rv_eq rfl)) (by simp))
/-- is None -/
def isNone : PyData → Bool
  | .none => true
  | _ => false
theorem dp_isNone {v : V} {d : PyData} (h : Dp K H v d) : decide (v = .non) = isNone d := by
  cases h <;> simp [isNone]
theorem d_isN (ha : EvD K ta σ H d) : EvD K (tIsN ta) σ H (.bool (isNone d)) := fun H1 e Q k => ha H1 e _ fun v H2 e2 hd => by
  rw [dp_isNone hd]
  exact k _ _ e2 (.bl _)
theorem d_notN (ha : EvD K ta σ H d) : EvD K (tNotN ta) σ H (.bool (!isNone d)) := fun H1 e Q k => ha H1 e _ fun v H2 e2 hd => by
  rw [dp_isNone hd]
  exact k _ _ e2 (.bl _)
/-- an item -/
theorem d_ixT {n : Nat} (ha : EvD K ta σ H (.tuple ds)) (hi : EvD K ti σ H (.int (n : Int))) (h : ds[n]? = some d) : EvD K (tOp (rIx K) ta ti) σ H d := fun H1 e Q k => ha H1 e _ fun v H2 e2 hd => by
  obtain ⟨a, xs, rfl, hs, hx⟩ := dp_ref_tup hd
  obtain ⟨w, hw, hwd⟩ := dps_at hx h
  refine hi H2 (e.trans e2) _ fun y H3 e3 hy => ?_
  rw [dp_int hy]
  exact .inr (.inl ⟨a, xs, n, w, rfl, rfl, ex_t e3 hs, atI_nat hw, k w H3 (e2.trans e3) (dp_ex e3 _ _ hwd)⟩)
theorem d_ixL {n : Nat} (ha : EvD K ta σ H (.list ds)) (hi : EvD K ti σ H (.int (n : Int))) (h : ds[n]? = some d) : EvD K (tOp (rIx K) ta ti) σ H d := fun H1 e Q k => ha H1 e _ fun v H2 e2 hd => by
  obtain ⟨a, xs, rfl, hs, hx⟩ := dp_ref_lst hd
  obtain ⟨w, hw, hwd⟩ := dps_at hx h
  refine hi H2 (e.trans e2) _ fun y H3 e3 hy => ?_
  rw [dp_int hy]
  exact .inl ⟨a, xs, n, w, rfl, rfl, ex_l e3 hs, atI_nat hw, k w H3 (e2.trans e3) (dp_ex e3 _ _ hwd)⟩
/-! ### arguments, displays, calls -/
theorem a_nil : EvAD K tNil σ H [] := fun H1 e Q k => k [] H1 (Ex.refl _) .nil
theorem a_cons {tr : TA} (h : EvD K ta σ H d) (hr : EvAD K tr σ H ds) : EvAD K (tCons ta tr) σ H (d :: ds) := fun H1 e Q k => h H1 e _ fun v H2 e2 hd =>
  hr H2 (e.trans e2) _ fun vs H3 e3 hs => k (v :: vs) H3 (e2.trans e3) (.cons (dp_ex e3 _ _ hd) hs)
theorem d_tup {ta : TA} (h : EvAD K ta σ H ds) (hl : ds.length ≤ 100000) : EvD K (tTup ta) σ H (.tuple ds) := fun H1 e Q k => h H1 e _ fun vs H2 e2 hd =>
  ⟨sz_of (by rw [dps_len hd]; exact hl), fun p hp => k (.ref p) _ (e2.trans (Ex.new hp)) (.tup (.of upd_same) (dps_ex (Ex.new hp) _ _ hd))⟩
theorem d_lst {ta : TA} (h : EvAD K ta σ H ds) (hl : ds.length ≤ 100000) : EvD K (tLst ta) σ H (.list ds) := fun H1 e Q k => h H1 e _ fun vs H2 e2 hd =>
  ⟨sz_of (by rw [dps_len hd]; exact hl), fun p hp => k (.ref p) _ (e2.trans (Ex.new hp)) (.lst (.of upd_same) (dps_ex (Ex.new hp) _ _ hd))⟩
theorem d_call {R : List PyData → PyData → Prop} {E : XK} {ta : TA} (h : EvAD K ta σ H ds) (hR : R ds d) : EvD K (tCall (SpD K R) [] E ta) σ H d := fun H1 e Q k => h H1 e _ fun vs H2 e2 hd => by
  rw [List.append_nil]
  exact ⟨ds, d, hd, hR, k.go e2⟩
def rTupS (K : PySem.W.Frag) : List V → Hp → VK → Prop := fun xs H Q => ∃ p ys, xs = [.ref p] ∧ ((SqL K H p ys ∧ ∀ l, H l = none → Q (.ref l) (upd H l (.tup ys))) ∨ (SqT K H p ys ∧ Q (.ref p) H))
theorem d_tupleOf (h : EvD K ta σ H (.list ds)) : EvD K (tCB (rTupS K) (tCons ta tNil)) σ H (.tuple ds) := fun H1 e Q k => h H1 e _ fun v H2 e2 hd => by
  obtain ⟨a, xs, rfl, hs, hx⟩ := dp_ref_lst hd
  exact ⟨a, xs, rfl, .inl ⟨hs, fun l hl => k (.ref l) _ (e2.trans (Ex.new hl)) (.tup (.of upd_same) (dps_ex (Ex.new hl) _ _ hx))⟩⟩
theorem d_listOfT (h : EvD K ta σ H (.tuple ds)) : EvD K (tCB (rListS K) (tCons ta tNil)) σ H (.list ds) := fun H1 e Q k => h H1 e _ fun v H2 e2 hd => by
  obtain ⟨a, xs, rfl, hs, hx⟩ := dp_ref_tup hd
  exact ⟨a, xs, rfl, .inr hs, fun l hl => k (.ref l) _ (e2.trans (Ex.new hl)) (.lst (.of upd_same) (dps_ex (Ex.new hl) _ _ hx))⟩
theorem d_lenT (h : EvD K ta σ H (.tuple ds)) : EvD K (tCB (rLenS K) (tCons ta tNil)) σ H (.int (ds.length : Int)) := fun H1 e Q k => h H1 e _ fun v H2 e2 hd => by
  obtain ⟨a, xs, rfl, hs, hx⟩ := dp_ref_tup hd
  exact ⟨a, xs, rfl, .inr hs, by rw [dps_len hx]; exact k _ _ e2 (.int _)⟩
theorem d_lenL (h : EvD K ta σ H (.list ds)) : EvD K (tCB (rLenS K) (tCons ta tNil)) σ H (.int (ds.length : Int)) := fun H1 e Q k => h H1 e _ fun v H2 e2 hd => by
  obtain ⟨a, xs, rfl, hs, hx⟩ := dp_ref_lst hd
  exact ⟨a, xs, rfl, .inl hs, by rw [dps_len hx]; exact k _ _ e2 (.int _)⟩
/-- a comparison of data at any depth -/
theorem d_eqD (ha : EvD K ta σ H d1) (hb : EvD K tb σ H d2) (h1 : SeqAt.shaped d1 = true) (h2 : SeqAt.shaped d2 = true) : EvD K (tOp (rEqD K) ta tb) σ H (.bool (PyData.eqv d1 d2)) := fun H1 e Q k => ha H1 e _ fun v H2 e2 hd =>
  hb H2 (e.trans e2) _ fun w H3 e3 hd' => ⟨d1, d2, dp_ex e3 _ _ hd, hd', h1, h2, k _ _ (e2.trans e3) (.bl _)⟩
theorem d_neD (ha : EvD K ta σ H d1) (hb : EvD K tb σ H d2) (h1 : SeqAt.shaped d1 = true) (h2 : SeqAt.shaped d2 = true) : EvD K (tOp (rNeD K) ta tb) σ H (.bool (!PyData.eqv d1 d2)) := fun H1 e Q k => ha H1 e _ fun v H2 e2 hd =>
  hb H2 (e.trans e2) _ fun w H3 e3 hd' => ⟨d1, d2, dp_ex e3 _ _ hd, hd', h1, h2, k _ _ (e2.trans e3) (.bl _)⟩
/-! ### tests -/
theorem t_test {b : Bool} (h : EvD K te σ H (.bool b)) : EvT (tTest te) σ H b := et_test (ev_bool h)
theorem t_B {b : Bool} (h : EvD K te σ H (.bool b)) : EvT (tB te) σ H b := et_B (ev_bool h)
theorem d_if {b : Bool} (h : EvT t σ H b) (h1 : b = true → EvD K ta σ H d) (h2 : b = false → EvD K tb σ H d) : EvD K (tIf t ta tb) σ H d := fun H1 e Q k => h H1 e _ fun H2 e2 => by
  cases b with
  | true => exact iteT (h1 rfl H2 (e.trans e2) Q (k.go e2))
  | false => exact iteF (h2 rfl H2 (e.trans e2) Q (k.go e2))
theorem d_andV {a b : Bool} (h1 : EvD K ta σ H (.bool a)) (h2 : a = true → EvD K tb σ H (.bool b)) : EvD K (tAndV ta tb) σ H (.bool (a && b)) := d_bool (ev_andV (ev_bool h1) fun e => ev_bool (h2 e))
theorem d_orV {a b : Bool} (h1 : EvD K ta σ H (.bool a)) (h2 : a = false → EvD K tb σ H (.bool b)) : EvD K (tOrV ta tb) σ H (.bool (a || b)) := d_bool (ev_orV (ev_bool h1) fun e => ev_bool (h2 e))
theorem d_notV {a : Bool} (h1 : EvD K ta σ H (.bool a)) : EvD K (tNotV ta) σ H (.bool (!a)) := d_bool (ev_notV (ev_bool h1))
/-! ### statements -/
variable {D : Ends} {tu tw tz : TS} {g : TG}
theorem s_asgD {i : Nat} (h : EvD K te σ H d) (k : ∀ v H1, Ex H H1 → Dp K H1 v d → D.nx (σ.set i (some v)) H1) : tAsg te (gName i) D σ H := h H (Ex.refl _) _ fun v H1 e hd => k v H1 e hd
theorem q_asgD {i : Nat} (h : EvD K te σ H d) (k : ∀ v H1, Ex H H1 → Dp K H1 v d → tz D (σ.set i (some v)) H1) : tSeq (tAsg te (gName i)) tz D σ H := h H (Ex.refl _) _ fun v H1 e hd => k v H1 e hd
theorem s_retD (h : EvD K te σ H d) (k : RetD K d H D.rt) : tRet te D σ H := h H (Ex.refl _) _ fun v H1 e hd => k v H1 e hd
/-- a, b = e1, e2 -/
theorem q_parD {i j : Nat} {ta : TA} (h : EvAD K ta σ H [d1, d2]) (k : ∀ v w H1, Ex H H1 → Dp K H1 v d1 → Dp K H1 w d2 → tz D ((σ.set i (some v)).set j (some w)) H1) : tSeq (tPar i j ta) tz D σ H := h H (Ex.refl _) _ fun vs H1 e hd => by
  cases hd with
  | cons h1 t =>
    cases t with
    | cons h2 t =>
      cases t
      exact ⟨_, _, rfl, k _ _ H1 e h1 h2⟩
theorem s_parD {i j : Nat} {ta : TA} (h : EvAD K ta σ H [d1, d2]) (k : ∀ v w H1, Ex H H1 → Dp K H1 v d1 → Dp K H1 w d2 → D.nx ((σ.set i (some v)).set j (some w)) H1) : tPar i j ta D σ H := h H (Ex.refl _) _ fun vs H1 e hd => by
  cases hd with
  | cons h1 t =>
    cases t with
    | cons h2 t =>
      cases t
      exact ⟨_, _, rfl, k _ _ H1 e h1 h2⟩
theorem q_seq (h : tu { D with nx := tz D } σ H) : tSeq tu tz D σ H := h
end

/-! ### what is walked -/
section
variable (K : PySem.W.Frag)
/-- the items x of the walked thing: from the heap H on, the i-th is Y i -/
def WalkD (J : It) (H : Hp) (n : Nat) (Y : Nat → Hp → V → Hp → Prop) : Prop := Walk J n (fun H1 => Ex H H1) Y
/-- items that stand already, told as data -/
def YD (H : Hp) (ds : List PyData) : Nat → Hp → V → Hp → Prop := fun i H1 x H2 => H2 = H1 ∧ ∃ d, ds[i]? = some d ∧ Dp K H x d
/-- new pairs of items that stand already -/
def YP (H : Hp) (ps : List (PyData × PyData)) : Nat → Hp → V → Hp → Prop := fun i H1 v H2 => ∃ T x y p, v = .ref T ∧ H1 T = none ∧ H2 = upd H1 T (.tup [x, y]) ∧ ps[i]? = some p ∧ Dp K H x p.1 ∧ Dp K H y p.2
/-- an iterable that gives so -/
def SrcD (wi : TI) (σ : L2.St) (H : Hp) (n : Nat) (Y : Nat → Hp → V → Hp → Prop) : Prop := ∀ H1, Ex H H1 → ∀ R : It → Hp → Prop, (∀ J H2, Ex H1 H2 → Walk J n (fun H3 => Ex H H3) Y → R J H2) → wi σ H1 R
/-- a list or a tuple, whichever it is -/
def iSeq (te : TE) : TI := fun σ H R => iList K te σ H R ∨ iTup K te σ H R
end
section
variable {K : PySem.W.Frag} {σ : L2.St} {H H' : Hp} {ta tb te tx ti : TE} {t u : TT} {x y z v : V} {d d1 d2 : PyData} {ds es : List PyData}
theorem src_tup {a : Addr} {xs : List V} (h : Ev te σ H (.ref a)) (hs : SqT K H a xs) (hx : DpAll K H xs ds) : SrcD (iTup K te) σ H ds.length (YD K H ds) := fun H1 e R k => h H1 e _ fun H2 e2 =>
  ⟨a, rfl, ⟨xs, ex_t (e.trans e2) hs⟩, k _ _ e2 (by
    rw [← dps_len hx]
    exact (walk_tup (K := K) (a := a) (xs := xs)).mono (fun H3 e3 => ex_t e3 hs) fun i H3 w H4 hi _ ⟨e1, hw⟩ => ⟨e1, dps_get hx hw⟩)⟩
theorem src_lst {a : Addr} {xs : List V} (h : Ev te σ H (.ref a)) (hs : SqL K H a xs) (hx : DpAll K H xs ds) : SrcD (iList K te) σ H ds.length (YD K H ds) := fun H1 e R k => h H1 e _ fun H2 e2 =>
  ⟨a, rfl, ⟨xs, ex_l (e.trans e2) hs⟩, k _ _ e2 (by
    rw [← dps_len hx]
    exact (walk_list (K := K) (a := a) (xs := xs)).mono (fun H3 e3 => ex_l e3 hs) fun i H3 w H4 hi _ ⟨e1, hw⟩ => ⟨e1, dps_get hx hw⟩)⟩
/-- a name that holds a tuple, a list -/
theorem src_vt {i : Nat} (h : σ[i]? = some (some v)) (hd : Dp K H v (.tuple ds)) : SrcD (iTup K (tVar i)) σ H ds.length (YD K H ds) := by
  obtain ⟨a, xs, rfl, hs, hx⟩ := dp_ref_tup hd
  exact src_tup (ev_var h) hs hx
theorem src_vl {i : Nat} (h : σ[i]? = some (some v)) (hd : Dp K H v (.list ds)) : SrcD (iList K (tVar i)) σ H ds.length (YD K H ds) := by
  obtain ⟨a, xs, rfl, hs, hx⟩ := dp_ref_lst hd
  exact src_lst (ev_var h) hs hx
theorem src_st {i : Nat} (h : σ[i]? = some (some v)) (hd : Dp K H v (.tuple ds)) : SrcD (iSeq K (tVar i)) σ H ds.length (YD K H ds) := fun H1 e R k => .inr (src_vt h hd H1 e R k)
theorem src_sl {i : Nat} (h : σ[i]? = some (some v)) (hd : Dp K H v (.list ds)) : SrcD (iSeq K (tVar i)) σ H ds.length (YD K H ds) := fun H1 e R k => .inl (src_vl h hd H1 e R k)
/-- range(n) -/
theorem src_range {n : Int} (h : EvD K ta σ H (.int n)) (h0 : 0 ≤ n) (h1 : n ≤ 100000) : SrcD (iRng1 (tCons ta tNil)) σ H n.toNat (fun i H1 x H2 => H2 = H1 ∧ x = .int (i : Nat)) := fun H1 e R k => h H1 e _ fun v H2 e2 hd => by
  rw [dp_int hd]
  refine ⟨n, rfl, by omega, by omega, k _ _ e2 ?_⟩
  exact (walk_range (lo := 0) (n := n.toNat)).mono (fun _ _ => trivial) fun i H3 w H4 hi _ ⟨e1, hw⟩ => ⟨e1, by
    rw [hw]
    show V.int (0 + ((i : Nat) : Int)) = _
    rw [Int.zero_add]⟩
/-- zip of two names that hold tuples, or lists -/
theorem walk_zipT {a b : Addr} {xs ys : List V} {n : Nat} (hn : n = min xs.length ys.length) : Walk (RZ.ItzT K a b) n (fun H => SqT K H a xs ∧ SqT K H b ys) (YPair (fun i => xs[i]?) (fun i => ys[i]?)) where
  goes := fun i H hi ⟨h1, h2⟩ => ⟨xs, ys, xs[i]'(by omega), ys[i]'(by omega), h1, h2, List.getElem?_eq_getElem _, List.getElem?_eq_getElem _⟩
  stops := fun H ⟨h1, h2⟩ => ⟨xs, ys, h1, h2, by omega⟩
  yields := fun i H x H' hi ⟨h1, h2⟩ ⟨T, x1, y1, e1, e2, e3, f1, f2⟩ => ⟨T, x1, y1, e1, e2, e3, f1 _ h1, f2 _ h2⟩
theorem src_zip2 {i j : Nat} {w : V} (h1 : σ[i]? = some (some v)) (h2 : σ[j]? = some (some w)) (hd1 : Dp K H v (.tuple ds)) (hd2 : Dp K H w (.tuple es)) :
    SrcD (RZ.iZipA K (tCons (tVar i) (tCons (tVar j) tNil))) σ H (ds.zip es).length (YP K H (ds.zip es)) := fun H1 e R k => by
  obtain ⟨a, xs, rfl, hs, hx⟩ := dp_ref_tup hd1
  obtain ⟨b, ys, rfl, ht, hy⟩ := dp_ref_tup hd2
  refine ⟨.ref a, h1, .ref b, h2, a, b, xs, ys, rfl, .inr ⟨ex_t e hs, ex_t e ht, k _ _ (Ex.refl _) ?_⟩⟩
  refine (walk_zipT (K := K) (a := a) (b := b) (xs := xs) (ys := ys) (n := (ds.zip es).length) (by rw [List.length_zip, dps_len hx, dps_len hy])).mono (fun H3 e3 => ⟨ex_t e3 hs, ex_t e3 ht⟩) ?_
  rintro n H3 x H4 hn e3 ⟨T, x1, y1, e1, e2, e4, f1, f2⟩
  obtain ⟨d, q1, q2⟩ := dps_get hx f1
  obtain ⟨d', q3, q4⟩ := dps_get hy f2
  exact ⟨T, x1, y1, (d, d'), e1, e2, e4, List.getElem?_zip_eq_some.mpr ⟨q1, q3⟩, q2, q4⟩
theorem src_zip2L {i j : Nat} {w : V} (h1 : σ[i]? = some (some v)) (h2 : σ[j]? = some (some w)) (hd1 : Dp K H v (.list ds)) (hd2 : Dp K H w (.list es)) :
    SrcD (RZ.iZipA K (tCons (tVar i) (tCons (tVar j) tNil))) σ H (ds.zip es).length (YP K H (ds.zip es)) := fun H1 e R k => by
  obtain ⟨a, xs, rfl, hs, hx⟩ := dp_ref_lst hd1
  obtain ⟨b, ys, rfl, ht, hy⟩ := dp_ref_lst hd2
  refine ⟨.ref a, h1, .ref b, h2, a, b, xs, ys, rfl, .inl ⟨ex_l e hs, ex_l e ht, k _ _ (Ex.refl _) ?_⟩⟩
  refine (walk_zip (K := K) (a := a) (b := b) (xs := xs) (ys := ys) (n := (ds.zip es).length) (by rw [List.length_zip, dps_len hx, dps_len hy])).mono (fun H3 e3 => ⟨ex_l e3 hs, ex_l e3 ht⟩) ?_
  rintro n H3 x H4 hn e3 ⟨T, x1, y1, e1, e2, e4, f1, f2⟩
  obtain ⟨d, q1, q2⟩ := dps_get hx f1
  obtain ⟨d', q3, q4⟩ := dps_get hy f2
  exact ⟨T, x1, y1, (d, d'), e1, e2, e4, List.getElem?_zip_eq_some.mpr ⟨q1, q3⟩, q2, q4⟩

/-! ### comprehensions: the new list at D holds data without lists -/
/-- behind i turns: what stood stands, the list at D holds fs's first i -/
def Cmp (K : PySem.W.Frag) (H : Hp) (fs : List PyData) (D : Addr) (i : Nat) (H' : Hp) : Prop := H D = none ∧ Ex H H' ∧ ∃ acc, H' D = some (.lst acc) ∧ DpAll K H' acc (fs.take i)
theorem Cmp.turn {fs : List PyData} {D : Addr} {i : Nat} {H1 H2 : Hp} {f : PyData} (p : Cmp K H fs D i H1) (hf : fs[i]? = some f) (ht : tupOnly.tupOnlys fs = true) (e : Ex H1 H2) (hn : fs.length ≤ 100000) {y : V} (hy : Dp K H2 y f) :
    ∃ acc, H2 D = some (.lst acc) ∧ acc.length < sizeLine ∧ Cmp K H fs D (i + 1) (upd H2 D (.lst (acc ++ [y]))) := by
  obtain ⟨p1, p2, acc, p3, p4⟩ := p
  have hD : H2 D = some (.lst acc) := e _ _ p3
  have hi : i < fs.length := (List.getElem?_eq_some_iff.mp hf).1
  have hl : acc.length = i := by rw [dps_len p4, List.length_take]; omega
  have all := tupOnlys_all.mp ht
  have tu : Tups H2 (upd H2 D (.lst (acc ++ [y]))) := .lst hD
  refine ⟨acc, hD, sz_lt (by omega), p1, Ex.mut (p2.trans e) p1, acc ++ [y], upd_same, ?_⟩
  rw [List.take_succ, hf]
  refine dps_snoc (dps_tups tu _ _ (tupOnlys_all.mpr fun d hd => all d (List.mem_of_mem_take hd)) (dps_ex e _ _ p4)) (dp_tups tu _ _ (all f (List.mem_of_getElem? hf)) hy)
/-- [e for target in source], each item's element by a step of the reader's own -/
theorem d_lc {wi : TI} {g : TG} {vs : List Nat} {n : Nat} {Y : Nat → Hp → V → Hp → Prop} (fs : List PyData) (hs : SrcD wi σ H n Y) (hn : fs.length = n) (hz : n ≤ 40000) (ht : tupOnly.tupOnlys fs = true)
    (he : ∀ (i : Nat) f x H1 H2, fs[i]? = some f → Ex H H1 → Y i H1 x H2 → ∀ Q : L2.St → Hp → Prop, (∀ σ2 H3, Ex H1 H3 → Ex H H3 → wipe σ2 vs = wipe σ vs → EvD K te σ2 H3 f → Q σ2 H3) → g x (wipe σ vs) H2 Q) : EvD K (tLc wi g tYes te vs) σ H (.list fs) := by
  intro H1 e Q k
  refine hs H1 e _ fun J H2 e2 w D hD => ?_
  have hD0 : H D = none := fresh_back e (fresh_back e2 hD)
  have hD1 : H1 D = none := fresh_back e2 hD
  refine lc_it w (Pv := fun i H' => Ex H1 H' ∧ Cmp K H fs D i H') ⟨e2.trans (Ex.new hD), hD0, (e.trans e2).trans (Ex.new hD), [], upd_same, by rw [List.take_zero]; exact .nil⟩ (fun i H' _ p => p.2.2.1) ?_ ?_
  · rintro i x H3 H4 hi ⟨q0, p⟩ hy
    obtain ⟨f, hf⟩ : ∃ f, fs[i]? = some f := ⟨fs[i]'(by omega), List.getElem?_eq_getElem _⟩
    refine he i f x H3 H4 hf p.2.1 hy _ fun σ2 H5 e5 e6 hw hev => ⟨hw, ?_⟩
    dsimp only [tYes]
    rw [if_pos rfl]
    refine hev H5 (Ex.refl _) _ fun y H6 e7 hyd => ?_
    obtain ⟨acc, a1, a2, a3⟩ := p.turn hf ht (e5.trans e7) (by omega) hyd
    exact ⟨acc, a1, a2, Ex.mut (q0.trans (e5.trans e7)) hD1, a3⟩
  · rintro H3 ⟨q0, _, p2, acc, p3, p4⟩
    rw [← hn, List.take_length] at p4
    exact k (.ref D) H3 q0 (.lst (.of p3) p4)
/-- the target a name; the items stand already -/
theorem d_lcN {wi : TI} {j : Nat} {vs : List Nat} (f : PyData → PyData) (hs : SrcD wi σ H ds.length (YD K H ds)) (hz : ds.length ≤ 40000) (ht : ∀ d ∈ ds, tupOnly (f d) = true) (hw : ∀ x, wipe ((wipe σ vs).set j (some x)) vs = wipe σ vs)
    (he : ∀ d ∈ ds, ∀ x H1, Ex H H1 → Dp K H1 x d → EvD K te ((wipe σ vs).set j (some x)) H1 (f d)) : EvD K (tLc wi (gName j) tYes te vs) σ H (.list (ds.map f)) := by
  refine d_lc (ds.map f) hs (by simp) hz (tupOnlys_all.mpr fun d hd => ?_) ?_
  · obtain ⟨z, hz, rfl⟩ := List.mem_map.mp hd
    exact ht z hz
  · rintro i f' x H1 H2 hf e ⟨rfl, d, hd, hx⟩ Q k
    rw [List.getElem?_map, hd] at hf
    obtain rfl : f d = f' := Option.some.inj hf
    exact k _ H2 (Ex.refl _) e (hw x) (he d (List.mem_of_getElem? hd) x H2 e (dp_ex e _ _ hx))
/-- the target two names, the items new pairs -/
theorem d_lcP {wi : TI} {i j : Nat} {vs : List Nat} {ps : List (PyData × PyData)} (f : PyData × PyData → PyData) (hs : SrcD wi σ H ps.length (YP K H ps)) (hz : ps.length ≤ 40000) (ht : ∀ d ∈ ps, tupOnly (f d) = true)
    (hw : ∀ x y, wipe (((wipe σ vs).set i (some x)).set j (some y)) vs = wipe σ vs)
    (he : ∀ d ∈ ps, ∀ x y H1, Ex H H1 → Dp K H1 x d.1 → Dp K H1 y d.2 → EvD K te (((wipe σ vs).set i (some x)).set j (some y)) H1 (f d)) : EvD K (tLc wi (gTup K 2 (gCons (gName i) (gCons (gName j) gNil))) tYes te vs) σ H (.list (ps.map f)) := by
  refine d_lc (ps.map f) hs (by simp) hz (tupOnlys_all.mpr fun d hd => ?_) ?_
  · obtain ⟨z, hz, rfl⟩ := List.mem_map.mp hd
    exact ht z hz
  · rintro n f' v H1 H2 hf e ⟨T, x, y, p, rfl, hT, rfl, hp, hx, hy⟩ Q k
    rw [List.getElem?_map, hp] at hf
    obtain rfl : f p = f' := Option.some.inj hf
    have e1 : Ex H1 (upd H1 T (.tup [x, y])) := Ex.new hT
    exact ⟨T, [x, y], rfl, .of upd_same, rfl, x, [y], rfl, y, [], rfl, rfl, k _ _ e1 (e.trans e1) (hw x y) (he p (List.mem_of_getElem? hp) x y _ (e.trans e1) (dp_ex (e.trans e1) _ _ hx) (dp_ex (e.trans e1) _ _ hy))⟩
/-! ### loops -/
variable {D : Ends} {tu tw tz : TS} {g : TG}
theorem s_forN {wi : TI} {j : Nat} (hs : SrcD wi σ H ds.length (YD K H ds)) (Pv : Nat → L2.St → Hp → Prop) (h0 : ∀ H1, Ex H H1 → Pv 0 σ H1) (hE : ∀ i σ' H', Pv i σ' H' → Ex H H')
    (ht : ∀ i d x σ' H', ds[i]? = some d → Dp K H' x d → Pv i σ' H' → tu { D with nx := Pv (i + 1), ct := Pv (i + 1), bk := D.nx } (σ'.set j (some x)) H') (hd : ∀ σ' H', Pv ds.length σ' H' → D.nx σ' H') : tFor wi (gName j) tu D σ H := by
  refine hs H (Ex.refl _) _ fun J H2 e2 w => ?_
  refine for_it w Pv (h0 H2 e2) (fun i σ' H' _ p => hE i σ' H' p) ?_ hd
  rintro i x σ' H3 H4 hi p ⟨rfl, d, hd', hx⟩
  exact ht i d x σ' H4 hd' (dp_ex (hE _ _ _ p) _ _ hx) p
theorem s_forP {wi : TI} {i j : Nat} {ps : List (PyData × PyData)} (hs : SrcD wi σ H ps.length (YP K H ps)) (Pv : Nat → L2.St → Hp → Prop) (h0 : ∀ H1, Ex H H1 → Pv 0 σ H1) (hE : ∀ n σ' H', Pv n σ' H' → Ex H H')
    (hm : ∀ n σ' H1 H2, Ex H1 H2 → Pv n σ' H1 → Pv n σ' H2)
    (ht : ∀ n p x y σ' H', ps[n]? = some p → Dp K H' x p.1 → Dp K H' y p.2 → Pv n σ' H' → tu { D with nx := Pv (n + 1), ct := Pv (n + 1), bk := D.nx } ((σ'.set i (some x)).set j (some y)) H') (hd : ∀ σ' H', Pv ps.length σ' H' → D.nx σ' H') :
    tFor wi (gTup K 2 (gCons (gName i) (gCons (gName j) gNil))) tu D σ H := by
  refine hs H (Ex.refl _) _ fun J H2 e2 w => ?_
  refine for_it w Pv (h0 H2 e2) (fun n σ' H' _ p => hE n σ' H' p) ?_ hd
  rintro n v σ' H3 H4 hi p ⟨T, x, y, q, rfl, hT, rfl, hp, hx, hy⟩
  have e1 : Ex H3 (upd H3 T (.tup [x, y])) := Ex.new hT
  have e3 := (hE _ _ _ p).trans e1
  exact ⟨T, [x, y], rfl, .of upd_same, rfl, x, [y], rfl, y, [], rfl, rfl, ht n q x y σ' _ hp (dp_ex e3 _ _ hx) (dp_ex e3 _ _ hy) (hm _ _ _ _ e1 p)⟩
end
section
variable {X : Cx} {tg : Expr}
theorem pi_seq {l : Expr} {tl : TE} (hl : PE X l tl) : PI X tg l (iSeq X.K tl) := ⟨fun pins s σ H R I h => h.elim ((pi_list hl).run pins s σ H R I) ((pi_tup hl).run pins s σ H R I)⟩
end
end K17

end
section
set_option maxHeartbeats 4200000
/-! # The defs of the text, by name; how a def's promise is called and kept -/
namespace K17
open PySem PySem.Spec PyProof.Rows L2 Evl
def topS (i : Nat) : Stmt := PySem.Challenge.pw_lawsunseen_k17_whole_laws_walked_and_tol.main.body.getD i (.Pass ⟨0, 0, 0, 0⟩)
abbrev s_tupled : Stmt := topS 5
abbrev n_tupled : List Str := ["thing", "part"]
abbrev p_tupled : List Str := ["thing"]
theorem sc_tupled : FnScope n_tupled p_tupled (defScope s_tupled) := ⟨rfl, rfl, rfl, by decide +kernel, rfl, by decide +kernel, by decide +kernel⟩
abbrev s_part_of : Stmt := topS 6
abbrev n_part_of : List Str := ["top", "bottom", "common"]
abbrev p_part_of : List Str := ["top", "bottom"]
theorem sc_part_of : FnScope n_part_of p_part_of (defScope s_part_of) := ⟨rfl, rfl, rfl, by decide +kernel, rfl, by decide +kernel, by decide +kernel⟩
abbrev s_part_plus : Stmt := topS 7
abbrev n_part_plus : List Str := ["one", "other"]
abbrev p_part_plus : List Str := ["one", "other"]
theorem sc_part_plus : FnScope n_part_plus p_part_plus (defScope s_part_plus) := ⟨rfl, rfl, rfl, by decide +kernel, rfl, by decide +kernel, by decide +kernel⟩
abbrev s_part_minus : Stmt := topS 8
abbrev n_part_minus : List Str := ["one"]
abbrev p_part_minus : List Str := ["one"]
theorem sc_part_minus : FnScope n_part_minus p_part_minus (defScope s_part_minus) := ⟨rfl, rfl, rfl, by decide +kernel, rfl, by decide +kernel, by decide +kernel⟩
abbrev s_part_less : Stmt := topS 9
abbrev n_part_less : List Str := ["one", "other"]
abbrev p_part_less : List Str := ["one", "other"]
theorem sc_part_less : FnScope n_part_less p_part_less (defScope s_part_less) := ⟨rfl, rfl, rfl, by decide +kernel, rfl, by decide +kernel, by decide +kernel⟩
abbrev s_part_times : Stmt := topS 10
abbrev n_part_times : List Str := ["one", "other"]
abbrev p_part_times : List Str := ["one", "other"]
theorem sc_part_times : FnScope n_part_times p_part_times (defScope s_part_times) := ⟨rfl, rfl, rfl, by decide +kernel, rfl, by decide +kernel, by decide +kernel⟩
abbrev s_part_below : Stmt := topS 11
abbrev n_part_below : List Str := ["one", "other"]
abbrev p_part_below : List Str := ["one", "other"]
theorem sc_part_below : FnScope n_part_below p_part_below (defScope s_part_below) := ⟨rfl, rfl, rfl, by decide +kernel, rfl, by decide +kernel, by decide +kernel⟩
abbrev s_part_sum : Stmt := topS 12
abbrev n_part_sum : List Str := ["parts", "found", "part"]
abbrev p_part_sum : List Str := ["parts"]
theorem sc_part_sum : FnScope n_part_sum p_part_sum (defScope s_part_sum) := ⟨rfl, rfl, rfl, by decide +kernel, rfl, by decide +kernel, by decide +kernel⟩
abbrev s_cells_dot : Stmt := topS 13
abbrev n_cells_dot : List Str := ["row", "other", "near", "far"]
abbrev p_cells_dot : List Str := ["row", "other"]
theorem sc_cells_dot : FnScope n_cells_dot p_cells_dot (defScope s_cells_dot) := ⟨rfl, rfl, rfl, by decide +kernel, rfl, by decide +kernel, by decide +kernel⟩
abbrev s_cells_plus : Stmt := topS 14
abbrev n_cells_plus : List Str := ["row", "other", "near", "far"]
abbrev p_cells_plus : List Str := ["row", "other"]
theorem sc_cells_plus : FnScope n_cells_plus p_cells_plus (defScope s_cells_plus) := ⟨rfl, rfl, rfl, by decide +kernel, rfl, by decide +kernel, by decide +kernel⟩
abbrev s_cells_times : Stmt := topS 15
abbrev n_cells_times : List Str := ["row", "much", "part"]
abbrev p_cells_times : List Str := ["row", "much"]
theorem sc_cells_times : FnScope n_cells_times p_cells_times (defScope s_cells_times) := ⟨rfl, rfl, rfl, by decide +kernel, rfl, by decide +kernel, by decide +kernel⟩
abbrev s_cells_made : Stmt := topS 16
abbrev n_cells_made : List Str := ["rows", "row", "own"]
abbrev p_cells_made : List Str := ["rows", "row"]
theorem sc_cells_made : FnScope n_cells_made p_cells_made (defScope s_cells_made) := ⟨rfl, rfl, rfl, by decide +kernel, rfl, by decide +kernel, by decide +kernel⟩
abbrev s_greatest_part : Stmt := topS 18
abbrev n_greatest_part : List Str := ["parts", "found", "part"]
abbrev p_greatest_part : List Str := ["parts"]
theorem sc_greatest_part : FnScope n_greatest_part p_greatest_part (defScope s_greatest_part) := ⟨rfl, rfl, rfl, by decide +kernel, rfl, by decide +kernel, by decide +kernel⟩
abbrev s_least_part : Stmt := topS 19
abbrev n_least_part : List Str := ["parts", "found", "part"]
abbrev p_least_part : List Str := ["parts"]
theorem sc_least_part : FnScope n_least_part p_least_part (defScope s_least_part) := ⟨rfl, rfl, rfl, by decide +kernel, rfl, by decide +kernel, by decide +kernel⟩
abbrev s_cost : Stmt := topS 20
abbrev n_cost : List Str := ["growth", "row"]
abbrev p_cost : List Str := ["growth", "row"]
theorem sc_cost : FnScope n_cost p_cost (defScope s_cost) := ⟨rfl, rfl, rfl, by decide +kernel, rfl, by decide +kernel, by decide +kernel⟩
abbrev s_cost_between : Stmt := topS 23
abbrev n_cost_between : List Str := ["growth", "near", "far"]
abbrev p_cost_between : List Str := ["growth", "near", "far"]
theorem sc_cost_between : FnScope n_cost_between p_cost_between (defScope s_cost_between) := ⟨rfl, rfl, rfl, by decide +kernel, rfl, by decide +kernel, by decide +kernel⟩
abbrev s_broken_pair : Stmt := topS 24
abbrev n_broken_pair : List Str := ["growth", "points", "values", "rows", "own", "first", "near", "second", "far", "rise"]
abbrev p_broken_pair : List Str := ["growth", "points", "values"]
theorem sc_broken_pair : FnScope n_broken_pair p_broken_pair (defScope s_broken_pair) := ⟨rfl, rfl, rfl, by decide +kernel, rfl, by decide +kernel, by decide +kernel⟩
abbrev s_is_let : Stmt := topS 25
abbrev n_is_let : List Str := ["growth", "points", "values"]
abbrev p_is_let : List Str := ["growth", "points", "values"]
theorem sc_is_let : FnScope n_is_let p_is_let (defScope s_is_let) := ⟨rfl, rfl, rfl, by decide +kernel, rfl, by decide +kernel, by decide +kernel⟩
abbrev s_sure_let : Stmt := topS 26
abbrev n_sure_let : List Str := ["growth", "points", "values"]
abbrev p_sure_let : List Str := ["growth", "points", "values"]
theorem sc_sure_let : FnScope n_sure_let p_sure_let (defScope s_sure_let) := ⟨rfl, rfl, rfl, by decide +kernel, rfl, by decide +kernel, by decide +kernel⟩
abbrev s_shown_from : Stmt := topS 27
abbrev n_shown_from : List Str := ["growth", "points", "values", "place", "point", "value"]
abbrev p_shown_from : List Str := ["growth", "points", "values", "place"]
theorem sc_shown_from : FnScope n_shown_from p_shown_from (defScope s_shown_from) := ⟨rfl, rfl, rfl, by decide +kernel, rfl, by decide +kernel, by decide +kernel⟩
abbrev s_law_at : Stmt := topS 28
abbrev n_law_at : List Str := ["growth", "points", "values", "place", "rows", "own"]
abbrev p_law_at : List Str := ["growth", "points", "values", "place"]
theorem sc_law_at : FnScope n_law_at p_law_at (defScope s_law_at) := ⟨rfl, rfl, rfl, by decide +kernel, rfl, by decide +kernel, by decide +kernel⟩
abbrev s_least_law_at : Stmt := topS 29
abbrev n_least_law_at : List Str := ["growth", "points", "values", "place", "rows", "own", "at", "point", "value"]
abbrev p_least_law_at : List Str := ["growth", "points", "values", "place"]
theorem sc_least_law_at : FnScope n_least_law_at p_least_law_at (defScope s_least_law_at) := ⟨rfl, rfl, rfl, by decide +kernel, rfl, by decide +kernel, by decide +kernel⟩
abbrev s_with_point : Stmt := topS 30
abbrev n_with_point : List Str := ["growth", "points", "values", "place", "value", "rows", "own", "at", "found", "point", "_", "part"]
abbrev p_with_point : List Str := ["growth", "points", "values", "place", "value"]
theorem sc_with_point : FnScope n_with_point p_with_point (defScope s_with_point) := ⟨rfl, rfl, rfl, by decide +kernel, rfl, by decide +kernel, by decide +kernel⟩
abbrev s_l_box : Stmt := topS 32
abbrev n_l_box : List Str := ["_law_script", "_law_k", "_law_cell_so"]
abbrev p_l_box : List Str := ["_law_script", "_law_k"]
theorem sc_l_box : FnScope n_l_box p_l_box (defScope s_l_box) := ⟨rfl, rfl, rfl, by decide +kernel, rfl, by decide +kernel, by decide +kernel⟩
abbrev s_l_take : Stmt := topS 33
abbrev n_l_take : List Str := ["_law_tin", "_law_below_so", "_law_drawn", "_law_once_so", "_law_wide_so", "_law_twice_so"]
abbrev p_l_take : List Str := ["_law_tin", "_law_below_so"]
theorem sc_l_take : FnScope n_l_take p_l_take (defScope s_l_take) := ⟨rfl, rfl, rfl, by decide +kernel, rfl, by decide +kernel, by decide +kernel⟩
abbrev s_l_cells : Stmt := topS 34
abbrev n_l_cells : List Str := ["_law_script", "_law_most_so", "_law_cells_so", "_law_k", "_law_cell_so", "_law_at_so"]
abbrev p_l_cells : List Str := ["_law_script", "_law_most_so"]
theorem sc_l_cells : FnScope n_l_cells p_l_cells (defScope s_l_cells) := ⟨rfl, rfl, rfl, by decide +kernel, rfl, by decide +kernel, by decide +kernel⟩
abbrev s_l_of : Stmt := topS 35
abbrev n_l_of : List Str := ["_law_tin", "_law_goods_so"]
abbrev p_l_of : List Str := ["_law_tin", "_law_goods_so"]
theorem sc_l_of : FnScope n_l_of p_l_of (defScope s_l_of) := ⟨rfl, rfl, rfl, by decide +kernel, rfl, by decide +kernel, by decide +kernel⟩
abbrev s_l_lists : Stmt := topS 36
abbrev n_l_lists : List Str := ["_law_matter", "_law_bit"]
abbrev p_l_lists : List Str := ["_law_matter"]
theorem sc_l_lists : FnScope n_l_lists p_l_lists (defScope s_l_lists) := ⟨rfl, rfl, rfl, by decide +kernel, rfl, by decide +kernel, by decide +kernel⟩
abbrev s_l_same : Stmt := topS 37
abbrev n_l_same : List Str := ["_law_got", "_law_due", "_law_mine", "_law_its"]
abbrev p_l_same : List Str := ["_law_got", "_law_due"]
theorem sc_l_same : FnScope n_l_same p_l_same (defScope s_l_same) := ⟨rfl, rfl, rfl, by decide +kernel, rfl, by decide +kernel, by decide +kernel⟩
abbrev s_l_gcd : Stmt := topS 38
abbrev n_l_gcd : List Str := ["_law_one_so", "_law_two_so"]
abbrev p_l_gcd : List Str := ["_law_one_so", "_law_two_so"]
theorem sc_l_gcd : FnScope n_l_gcd p_l_gcd (defScope s_l_gcd) := ⟨rfl, rfl, rfl, by decide +kernel, rfl, by decide +kernel, by decide +kernel⟩
abbrev s_l_fr : Stmt := topS 39
abbrev n_l_fr : List Str := ["_law_top_so", "_law_base_so", "_law_deep_so"]
abbrev p_l_fr : List Str := ["_law_top_so", "_law_base_so"]
theorem sc_l_fr : FnScope n_l_fr p_l_fr (defScope s_l_fr) := ⟨rfl, rfl, rfl, by decide +kernel, rfl, by decide +kernel, by decide +kernel⟩
abbrev s_l_sum : Stmt := topS 40
abbrev n_l_sum : List Str := ["_law_one_so", "_law_two_so"]
abbrev p_l_sum : List Str := ["_law_one_so", "_law_two_so"]
theorem sc_l_sum : FnScope n_l_sum p_l_sum (defScope s_l_sum) := ⟨rfl, rfl, rfl, by decide +kernel, rfl, by decide +kernel, by decide +kernel⟩
abbrev s_l_less_by : Stmt := topS 41
abbrev n_l_less_by : List Str := ["_law_one_so", "_law_two_so"]
abbrev p_l_less_by : List Str := ["_law_one_so", "_law_two_so"]
theorem sc_l_less_by : FnScope n_l_less_by p_l_less_by (defScope s_l_less_by) := ⟨rfl, rfl, rfl, by decide +kernel, rfl, by decide +kernel, by decide +kernel⟩
abbrev s_l_mul : Stmt := topS 42
abbrev n_l_mul : List Str := ["_law_one_so", "_law_two_so"]
abbrev p_l_mul : List Str := ["_law_one_so", "_law_two_so"]
theorem sc_l_mul : FnScope n_l_mul p_l_mul (defScope s_l_mul) := ⟨rfl, rfl, rfl, by decide +kernel, rfl, by decide +kernel, by decide +kernel⟩
abbrev s_l_dot : Stmt := topS 43
abbrev n_l_dot : List Str := ["_law_one_so", "_law_two_so", "_law_found", "_law_near_so", "_law_far_so"]
abbrev p_l_dot : List Str := ["_law_one_so", "_law_two_so"]
theorem sc_l_dot : FnScope n_l_dot p_l_dot (defScope s_l_dot) := ⟨rfl, rfl, rfl, by decide +kernel, rfl, by decide +kernel, by decide +kernel⟩
abbrev s_l_many : Stmt := topS 44
abbrev n_l_many : List Str := ["_law_row_so", "_law_part_so", "_law_bit"]
abbrev p_l_many : List Str := ["_law_row_so", "_law_part_so"]
theorem sc_l_many : FnScope n_l_many p_l_many (defScope s_l_many) := ⟨rfl, rfl, rfl, by decide +kernel, rfl, by decide +kernel, by decide +kernel⟩
abbrev s_l_idle : Stmt := topS 45
abbrev n_l_idle : List Str := ["_law_size_so"]
abbrev p_l_idle : List Str := ["_law_size_so"]
theorem sc_l_idle : FnScope n_l_idle p_l_idle (defScope s_l_idle) := ⟨rfl, rfl, rfl, by decide +kernel, rfl, by decide +kernel, by decide +kernel⟩
abbrev s_l_less_rows : Stmt := topS 46
abbrev n_l_less_rows : List Str := ["_law_one_so", "_law_two_so", "_law_near_so", "_law_far_so"]
abbrev p_l_less_rows : List Str := ["_law_one_so", "_law_two_so"]
theorem sc_l_less_rows : FnScope n_l_less_rows p_l_less_rows (defScope s_l_less_rows) := ⟨rfl, rfl, rfl, by decide +kernel, rfl, by decide +kernel, by decide +kernel⟩
abbrev s_l_lower : Stmt := topS 47
abbrev n_l_lower : List Str := ["_law_one_so", "_law_two_so"]
abbrev p_l_lower : List Str := ["_law_one_so", "_law_two_so"]
theorem sc_l_lower : FnScope n_l_lower p_l_lower (defScope s_l_lower) := ⟨rfl, rfl, rfl, by decide +kernel, rfl, by decide +kernel, by decide +kernel⟩
abbrev s_l_lowest : Stmt := topS 48
abbrev n_l_lowest : List Str := ["_law_parts_so", "_law_found", "_law_own"]
abbrev p_l_lowest : List Str := ["_law_parts_so"]
theorem sc_l_lowest : FnScope n_l_lowest p_l_lowest (defScope s_l_lowest) := ⟨rfl, rfl, rfl, by decide +kernel, rfl, by decide +kernel, by decide +kernel⟩
abbrev s_l_highest : Stmt := topS 49
abbrev n_l_highest : List Str := ["_law_parts_so", "_law_found", "_law_own"]
abbrev p_l_highest : List Str := ["_law_parts_so"]
theorem sc_l_highest : FnScope n_l_highest p_l_highest (defScope s_l_highest) := ⟨rfl, rfl, rfl, by decide +kernel, rfl, by decide +kernel, by decide +kernel⟩
abbrev s_l_cost : Stmt := topS 50
abbrev n_l_cost : List Str := ["_law_growth_so", "_law_row_so", "_law_corner_so"]
abbrev p_l_cost : List Str := ["_law_growth_so", "_law_row_so"]
theorem sc_l_cost : FnScope n_l_cost p_l_cost (defScope s_l_cost) := ⟨rfl, rfl, rfl, by decide +kernel, rfl, by decide +kernel, by decide +kernel⟩
abbrev s_l_rise_cost : Stmt := topS 51
abbrev n_l_rise_cost : List Str := ["_law_growth_so", "_law_near_so", "_law_far_so"]
abbrev p_l_rise_cost : List Str := ["_law_growth_so", "_law_near_so", "_law_far_so"]
theorem sc_l_rise_cost : FnScope n_l_rise_cost p_l_rise_cost (defScope s_l_rise_cost) := ⟨rfl, rfl, rfl, by decide +kernel, rfl, by decide +kernel, by decide +kernel⟩
abbrev s_l_settled : Stmt := topS 52
abbrev n_l_settled : List Str := ["_law_rows_so"]
abbrev p_l_settled : List Str := ["_law_rows_so"]
theorem sc_l_settled : FnScope n_l_settled p_l_settled (defScope s_l_settled) := ⟨rfl, rfl, rfl, by decide +kernel, rfl, by decide +kernel, by decide +kernel⟩
abbrev s_l_is_let : Stmt := topS 53
abbrev n_l_is_let : List Str := ["_law_growth_so", "_law_points_so", "_law_values_so", "_law_near_so", "_law_low_so", "_law_far_so", "_law_high_so"]
abbrev p_l_is_let : List Str := ["_law_growth_so", "_law_points_so", "_law_values_so"]
theorem sc_l_is_let : FnScope n_l_is_let p_l_is_let (defScope s_l_is_let) := ⟨rfl, rfl, rfl, by decide +kernel, rfl, by decide +kernel, by decide +kernel⟩
abbrev s_l_made : Stmt := topS 54
abbrev n_l_made : List Str := ["_law_growth_so", "_law_points_so", "_law_values_so", "_law_place_so", "_law_found", "_law_own", "_law_value_so"]
abbrev p_l_made : List Str := ["_law_growth_so", "_law_points_so", "_law_values_so", "_law_place_so"]
theorem sc_l_made : FnScope n_l_made p_l_made (defScope s_l_made) := ⟨rfl, rfl, rfl, by decide +kernel, rfl, by decide +kernel, by decide +kernel⟩
abbrev s_l_slope : Stmt := topS 55
abbrev n_l_slope : List Str := ["_law_tin"]
abbrev p_l_slope : List Str := ["_law_tin"]
theorem sc_l_slope : FnScope n_l_slope p_l_slope (defScope s_l_slope) := ⟨rfl, rfl, rfl, by decide +kernel, rfl, by decide +kernel, by decide +kernel⟩
abbrev s_l_growth : Stmt := topS 56
abbrev n_l_growth : List Str := ["_law_tin", "_law_size_so", "_law_kind_so", "_law_first_so", "_law_found", "_law_lap", "_law_k"]
abbrev p_l_growth : List Str := ["_law_tin", "_law_size_so"]
theorem sc_l_growth : FnScope n_l_growth p_l_growth (defScope s_l_growth) := ⟨rfl, rfl, rfl, by decide +kernel, rfl, by decide +kernel, by decide +kernel⟩
abbrev s_l_place : Stmt := topS 57
abbrev n_l_place : List Str := ["_law_tin", "_law_size_so", "_law_k"]
abbrev p_l_place : List Str := ["_law_tin", "_law_size_so"]
theorem sc_l_place : FnScope n_l_place p_l_place (defScope s_l_place) := ⟨rfl, rfl, rfl, by decide +kernel, rfl, by decide +kernel, by decide +kernel⟩
abbrev s_l_points : Stmt := topS 58
abbrev n_l_points : List Str := ["_law_tin", "_law_size_so", "_law_many_so", "_law_k"]
abbrev p_l_points : List Str := ["_law_tin", "_law_size_so", "_law_many_so"]
theorem sc_l_points : FnScope n_l_points p_l_points (defScope s_l_points) := ⟨rfl, rfl, rfl, by decide +kernel, rfl, by decide +kernel, by decide +kernel⟩
abbrev s_l_small : Stmt := topS 59
abbrev n_l_small : List Str := ["_law_tin"]
abbrev p_l_small : List Str := ["_law_tin"]
theorem sc_l_small : FnScope n_l_small p_l_small (defScope s_l_small) := ⟨rfl, rfl, rfl, by decide +kernel, rfl, by decide +kernel, by decide +kernel⟩
abbrev s_l_let : Stmt := topS 60
abbrev n_l_let : List Str := ["_law_tin", "_law_growth_so", "_law_points_so", "_law_numbers_so", "_law_own"]
abbrev p_l_let : List Str := ["_law_tin", "_law_growth_so", "_law_points_so"]
theorem sc_l_let : FnScope n_l_let p_l_let (defScope s_l_let) := ⟨rfl, rfl, rfl, by decide +kernel, rfl, by decide +kernel, by decide +kernel⟩
abbrev s_l_least_made : Stmt := topS 61
abbrev n_l_least_made : List Str := ["_law_growth_so", "_law_points_so", "_law_values_so", "_law_place_so", "_law_own", "_law_value_so"]
abbrev p_l_least_made : List Str := ["_law_growth_so", "_law_points_so", "_law_values_so", "_law_place_so"]
theorem sc_l_least_made : FnScope n_l_least_made p_l_least_made (defScope s_l_least_made) := ⟨rfl, rfl, rfl, by decide +kernel, rfl, by decide +kernel, by decide +kernel⟩
abbrev s_l_pair_of : Stmt := topS 62
abbrev n_l_pair_of : List Str := ["_law_growth_so", "_law_points_so", "_law_values_so", "_law_j", "_law_near_so", "_law_k", "_law_far_so"]
abbrev p_l_pair_of : List Str := ["_law_growth_so", "_law_points_so", "_law_values_so"]
theorem sc_l_pair_of : FnScope n_l_pair_of p_l_pair_of (defScope s_l_pair_of) := ⟨rfl, rfl, rfl, by decide +kernel, rfl, by decide +kernel, by decide +kernel⟩
abbrev s_l_put_in : Stmt := topS 63
abbrev n_l_put_in : List Str := ["_law_points_so", "_law_values_so", "_law_place_so", "_law_value_so", "_law_found", "_law_own"]
abbrev p_l_put_in : List Str := ["_law_points_so", "_law_values_so", "_law_place_so", "_law_value_so"]
theorem sc_l_put_in : FnScope n_l_put_in p_l_put_in (defScope s_l_put_in) := ⟨rfl, rfl, rfl, by decide +kernel, rfl, by decide +kernel, by decide +kernel⟩
abbrev s_l_heard : Stmt := topS 64
abbrev n_l_heard : List Str := ["_law_growth_so", "_law_points_so", "_law_values_so", "_law_place_so", "_law_value_so", "_law_caught", "_law_told_so", "error_so"]
abbrev p_l_heard : List Str := ["_law_growth_so", "_law_points_so", "_law_values_so", "_law_place_so", "_law_value_so"]
theorem sc_l_heard : FnScope n_l_heard p_l_heard (defScope s_l_heard) := ⟨rfl, rfl, rfl, by decide +kernel, rfl, by decide +kernel, by decide +kernel⟩
abbrev s_l_walked_right : Stmt := topS 65
abbrev n_l_walked_right : List Str := ["_law_growth_so", "_law_places_so", "_law_values_so"]
abbrev p_l_walked_right : List Str := ["_law_growth_so", "_law_places_so", "_law_values_so"]
theorem sc_l_walked_right : FnScope n_l_walked_right p_l_walked_right (defScope s_l_walked_right) := ⟨rfl, rfl, rfl, by decide +kernel, rfl, by decide +kernel, by decide +kernel⟩
abbrev s_l_right : Stmt := topS 66
abbrev n_l_right : List Str := ["_law_tin", "_law_size_so", "_law_growth_so", "_law_points_so", "_law_rough_so", "_law_pair_so", "_law_got", "_law_values_so", "_law_places_so", "_law_highs_so", "_law_lows_so", "_law_dues_so", "_law_place_so", "_law_high_so", "_law_low_so", "_law_part_so", "_law_value_so", "_law_due", "_law_told_so", "_law_own"]
abbrev p_l_right : List Str := ["_law_tin"]
theorem sc_l_right : FnScope n_l_right p_l_right (defScope s_l_right) := ⟨rfl, rfl, rfl, by decide +kernel, rfl, by decide +kernel, by decide +kernel⟩
abbrev s_l_by_hand_right : Stmt := topS 67
abbrev n_l_by_hand_right : List Str := ["_law_o", "_law_i", "_law_two", "_law_three", "_law_rise_so", "_law_far_so", "_law_got", "_law_own"]
abbrev p_l_by_hand_right : List Str := []
theorem sc_l_by_hand_right : FnScope n_l_by_hand_right p_l_by_hand_right (defScope s_l_by_hand_right) := ⟨rfl, rfl, rfl, by decide +kernel, rfl, by decide +kernel, by decide +kernel⟩
abbrev s_law : Stmt := topS 68
abbrev n_law : List Str := ["_law_script", "_law_cells_so", "_law_k", "_law_own"]
abbrev p_law : List Str := ["_law_script"]
theorem sc_law : FnScope n_law p_law (defScope s_law) := ⟨rfl, rfl, rfl, by decide +kernel, rfl, by decide +kernel, by decide +kernel⟩
/-- a def of the text stands under its own name -/
structure Dfn (K : PySem.W.Frag) (mg : Str → Option Value) (name : Str) (st : Stmt) (ps : List Str) : Prop where
  ex : ∃ (f : Addr) (fd : FuncData), Fun K name name st f fd ∧ mg name = some (.ref f) ∧ Binds K fd ps []
/-- a def that may be called by its name, by its promise -/
structure Cal (P : Program) (w : World) (K : PySem.W.Frag) (mg : Str → Option Value) (base : Heap) (CX : CXT) (k : Nat) (name : Str) (ps : List Str) (sp : Sp) : Prop where
  ex : ∃ (f : Addr) (fd : FuncData), FnOk P w K mg base CX k f fd ps sp ∧ mg name = some (.ref f) ∧ PySem.W.keepIn K (.ref f) = true ∧ Binds K fd ps []
/-- what the top holds besides -/
structure Txt (K : PySem.W.Frag) (mg : Str → Option Value) (aN aL : Addr) : Prop where
  n_isinstance : mg "isinstance" = none
  n_list : mg "list" = none
  n_tuple : mg "tuple" = none
  n_zip : mg "zip" = none
  n_enumerate : mg "enumerate" = none
  n_len : mg "len" = none
  n_sorted : mg "sorted" = none
  n_set : mg "set" = none
  n_abs : mg "abs" = none
  n_int : mg "int" = none
  n_all : mg "all" = none
  n_range : mg "range" = none
  n_ValueError : mg "ValueError" = none
  n_bool : mg "bool" = none
  n_str : mg "str" = none
  ggcd : mg "gcd" = some (.builtin "math.gcd")
  gNONE : mg "NONE" = some (.ref aN)
  gLESS : mg "LESS" = some (.ref aL)
  dNONE : ∀ H, Dp K H (.ref aN) (.tuple [.int 0, .int 1])
  dLESS : ∀ H, Dp K H (.ref aL) (.tuple [.int (-1), .int 1])
section
variable {X : Cx} {k : Nat} {x : Str} {ps : List Str} {sp : Sp} {p pos : Pos} {e : Expr} {es : List Expr} {t : TA}
theorem pe_cal (C : Cal X.prog X.w X.K X.mg X.base CX0 k x ps sp) (hr : Room k X.A) (ha : PA X (e :: es) t) (hg : Gl X x := by rfl) (hdb : (x == ("__debug__" : Str)) = false := by decide)
    (he : starEach (e :: es) X.env = (false, eval e X.env) :: starEach es X.env := by rfl)
    (hb : (backTo pos (starEach es X.env)).any (·.1) = false := by rfl) :
    PE X (.Call (.Name x p) (e :: es) [] pos) (tCall sp [] E0 t) := by
  obtain ⟨f, fd, F, m, kp, b⟩ := C.ex
  exact pe_call F hr hg m kp b .nil pass0 ha hdb he hb
theorem pe_cal0 (C : Cal X.prog X.w X.K X.mg X.base CX0 k x ps sp) (hr : Room k X.A) (hg : Gl X x := by rfl) (hdb : (x == ("__debug__" : Str)) = false := by decide) :
    PE X (.Call (.Name x p) [] [] pos) (tCall sp [] E0 tNil) := by
  obtain ⟨f, fd, F, m, kp, b⟩ := C.ex
  exact pe_call0 F hr hg m kp b .nil pass0 hdb
end
section
variable {P : Program} {w : World} {K : PySem.W.Frag} {mg : Str → Option Value} {base : Heap} {name : Str} {st : Stmt} {ps N : List Str} {k : Nat}
theorem Dfn.ok {sp : Sp} (D : Dfn K mg name st ps) (S : FnScope N ps (defScope st)) (len : ∀ vs H Q E, sp vs H Q E → vs.length = ps.length)
    (hbody : ∀ (f : Addr) (cdv : Value) (A : Around) (outer : List Env) (s : Shared) (H : Hp) (vs : List V) (Q : VK) (E : XK), Room k (A.deeper (envOfC name (defScope st) s.heap.objs.size f cdv)) → sp vs H Q E →
      ∃ t, PSs (cxOf CX0 P w K mg base N name (defScope st) f cdv A outer s H E).nox (defBody st) t ∧ t { nx := fun _ H' => Q .non H', rt := Q } (start N vs) H) : Cal P w K mg base CX0 (k + 1) name ps sp := by
  obtain ⟨f, fd, F, m, b⟩ := D.ex
  exact ⟨f, fd, F.ok S len fun cdv A outer s H vs Q E hr h => hbody f cdv A outer s H vs Q E hr h, m, F.kp, b⟩
theorem Dfn.data {R : List PyData → PyData → Prop} (D : Dfn K mg name st ps) (S : FnScope N ps (defScope st)) (hR : ∀ ds d, R ds d → ds.length = ps.length)
    (hbody : ∀ (f : Addr) (cdv : Value) (A : Around) (outer : List Env) (s : Shared) (H : Hp) (vs : List V) (E : XK), Room k (A.deeper (envOfC name (defScope st) s.heap.objs.size f cdv)) → ∀ ds d, R ds d → DpAll K H vs ds →
      ∃ t, PSs (cxOf CX0 P w K mg base N name (defScope st) f cdv A outer s H E).nox (defBody st) t ∧ ∀ Q : VK, RetD K d H Q → t { nx := fun _ H' => Q .non H', rt := Q } (start N vs) H) : Cal P w K mg base CX0 (k + 1) name ps (SpD K R) :=
  D.ok S (fun vs H Q E ⟨ds, d, h1, h2, _⟩ => (dps_len h1).trans (hR ds d h2)) fun f cdv A outer s H vs Q E hr ⟨ds, d, h1, h2, h3⟩ => by
    obtain ⟨t, h4, h5⟩ := hbody f cdv A outer s H vs E hr ds d h2 h1
    exact ⟨t, h4, h5 Q h3⟩
theorem Cal.imp {sp sp' : Sp} (C : Cal P w K mg base CX0 k name ps sp) (h : ∀ vs H Q E, sp' vs H Q E → sp vs H Q E) : Cal P w K mg base CX0 k name ps sp' := by
  obtain ⟨f, fd, F, r⟩ := C.ex
  exact ⟨f, fd, F.imp h, r⟩
theorem Cal.up {sp : Sp} {j : Nat} (C : Cal P w K mg base CX0 j name ps sp) (h : j ≤ k) : Cal P w K mg base CX0 k name ps sp := by
  obtain ⟨f, fd, F, r⟩ := C.ex
  exact ⟨f, fd, F.mono h, r⟩
end
section
variable {K : PySem.W.Frag} {H : Hp} {vs : List V} {d1 d2 d3 d4 d5 : PyData}
theorem dps1 (h : DpAll K H vs [d1]) : ∃ v1, vs = [v1] ∧ Dp K H v1 d1 := by
  cases h with
  | cons h1 t => cases t; exact ⟨_, rfl, h1⟩
theorem dps2 (h : DpAll K H vs [d1, d2]) : ∃ v1 v2, vs = [v1, v2] ∧ Dp K H v1 d1 ∧ Dp K H v2 d2 := by
  cases h with
  | cons h1 t => obtain ⟨v2, rfl, h2⟩ := dps1 t; exact ⟨_, _, rfl, h1, h2⟩
theorem dps3 (h : DpAll K H vs [d1, d2, d3]) : ∃ v1 v2 v3, vs = [v1, v2, v3] ∧ Dp K H v1 d1 ∧ Dp K H v2 d2 ∧ Dp K H v3 d3 := by
  cases h with
  | cons h1 t => obtain ⟨v2, v3, rfl, h2⟩ := dps2 t; exact ⟨_, _, _, rfl, h1, h2⟩
theorem dps4 (h : DpAll K H vs [d1, d2, d3, d4]) : ∃ v1 v2 v3 v4, vs = [v1, v2, v3, v4] ∧ Dp K H v1 d1 ∧ Dp K H v2 d2 ∧ Dp K H v3 d3 ∧ Dp K H v4 d4 := by
  cases h with
  | cons h1 t => obtain ⟨v2, v3, v4, rfl, h2⟩ := dps3 t; exact ⟨_, _, _, _, rfl, h1, h2⟩
theorem dps5 (h : DpAll K H vs [d1, d2, d3, d4, d5]) : ∃ v1 v2 v3 v4 v5, vs = [v1, v2, v3, v4, v5] ∧ Dp K H v1 d1 ∧ Dp K H v2 d2 ∧ Dp K H v3 d3 ∧ Dp K H v4 d4 ∧ Dp K H v5 d5 := by
  cases h with
  | cons h1 t => obtain ⟨v2, v3, v4, v5, rfl, h2⟩ := dps4 t; exact ⟨_, _, _, _, _, rfl, h1, h2⟩
end
end K17

end
section
set_option maxHeartbeats 4200000
/-! # Slots told as data: what an expression comes to, what a statement leaves, whatever the state is -/
namespace K17
open PySem PySem.Spec PyProof.Rows L2 Evl
abbrev Dt := List (Option PyData)
section
variable (K : PySem.W.Frag)
/-- the slots hold the data Δ tells -/
structure Sl (σ : L2.St) (H : Hp) (Δ : Dt) : Prop where
  len : σ.length = Δ.length
  at_ : ∀ (i : Nat) d, Δ[i]? = some (some d) → ∃ v, σ[i]? = some (some v) ∧ Dp K H v d
def EV (te : TE) (Δ : Dt) (d : PyData) : Prop := ∀ σ H, Sl K σ H Δ → EvD K te σ H d
def EA (ta : TA) (Δ : Dt) (ds : List PyData) : Prop := ∀ σ H, Sl K σ H Δ → EvAD K ta σ H ds
def ET (tt : TT) (Δ : Dt) (b : Bool) : Prop := ∀ σ H, Sl K σ H Δ → EvT tt σ H b
/-- a statement goes on with Δ' -/
def SN (tu : TS) (Δ Δ' : Dt) : Prop := ∀ D σ H, Sl K σ H Δ → (∀ σ' H', Ex H H' → Sl K σ' H' Δ' → D.nx σ' H') → tu D σ H
/-- a statement hands back d -/
def SR (tu : TS) (Δ : Dt) (d : PyData) : Prop := ∀ D σ H, Sl K σ H Δ → RetD K d H D.rt → tu D σ H
end
def wipeD (Δ : Dt) : List Nat → Dt
  | [] => Δ
  | v :: vs => (wipeD Δ vs).set v none
section
variable {K : PySem.W.Frag} {σ : L2.St} {H H' : Hp} {Δ Δ1 Δ2 : Dt} {ta tb te ti : TE} {t u : TT} {d d1 d2 d3 : PyData} {ds es : List PyData}
theorem Sl.ex (s : Sl K σ H Δ) (e : Ex H H') : Sl K σ H' Δ := ⟨s.len, fun i d h => by
  obtain ⟨v, h1, h2⟩ := s.at_ i d h
  exact ⟨v, h1, dp_ex e _ _ h2⟩⟩
theorem Sl.put (s : Sl K σ H Δ) (i : Nat) {v : V} (h : Dp K H v d) : Sl K (σ.set i (some v)) H (Δ.set i (some d)) := ⟨by simp [s.len], fun j d' hj => by
  by_cases e : i = j
  · subst e
    have hl : i < Δ.length := by
      have := (List.getElem?_eq_some_iff.mp hj).1
      simpa using this
    rw [List.getElem?_set_self hl] at hj
    have e2 : d = d' := by simpa using hj
    subst e2
    exact ⟨v, List.getElem?_set_self (by rw [s.len]; exact hl), h⟩
  · rw [List.getElem?_set_ne e] at hj
    obtain ⟨w, h1, h2⟩ := s.at_ j d' hj
    exact ⟨w, by rw [List.getElem?_set_ne e]; exact h1, h2⟩⟩
theorem Sl.drop (s : Sl K σ H Δ) (i : Nat) (o : Option V) : Sl K (σ.set i o) H (Δ.set i none) := ⟨by simp [s.len], fun j d' hj => by
  by_cases e : i = j
  · subst e
    have hl : i < Δ.length := by
      have := (List.getElem?_eq_some_iff.mp hj).1
      simpa using this
    rw [List.getElem?_set_self hl] at hj
    simp at hj
  · rw [List.getElem?_set_ne e] at hj
    obtain ⟨w, h1, h2⟩ := s.at_ j d' hj
    exact ⟨w, by rw [List.getElem?_set_ne e]; exact h1, h2⟩⟩
theorem Sl.wipe (s : Sl K σ H Δ) : ∀ vs : List Nat, Sl K (wipe σ vs) H (wipeD Δ vs)
  | [] => s
  | v :: vs => (s.wipe vs).drop v none
theorem Sl.weak (s : Sl K σ H Δ) (hl : Δ1.length = Δ.length) (h : ∀ (i : Nat) d, Δ1[i]? = some (some d) → Δ[i]? = some (some d)) : Sl K σ H Δ1 := ⟨s.len.trans hl.symm, fun i d hi => s.at_ i d (h i d hi)⟩
theorem wipe_at (σ : L2.St) : ∀ (vs : List Nat) (k : Nat), (wipe σ vs)[k]? = if k ∈ vs ∧ k < σ.length then some none else σ[k]?
  | [], k => by simp [wipe]
  | v :: vs, k => by
    show ((wipe σ vs).set v none)[k]? = _
    by_cases e : v = k
    · subst e
      by_cases hl : v < σ.length
      · rw [List.getElem?_set_self (by rw [wipe_length]; exact hl)]
        simp [hl]
      · rw [List.getElem?_eq_none (by simp [wipe_length]; omega)]
        simp [hl]
    · rw [List.getElem?_set_ne e, wipe_at σ vs k]
      have : k ∈ v :: vs ↔ k ∈ vs := by
        constructor
        · intro h
          rcases List.mem_cons.mp h with h | h
          · exact absurd h.symm e
          · exact h
        · exact List.mem_cons_of_mem _
      simp only [this]
theorem wipe_put {vs : List Nat} {j : Nat} (h : j ∈ vs) (τ : L2.St) (x : Option V) : wipe (τ.set j x) vs = wipe τ vs := by
  apply List.ext_getElem?
  intro k
  rw [wipe_at, wipe_at, List.length_set]
  by_cases e : j = k
  · subst e
    by_cases hl : j < τ.length
    · simp [h, hl]
    · rw [List.getElem?_eq_none (by simp; omega), List.getElem?_eq_none (by omega)]
  · rw [List.getElem?_set_ne e]
theorem wipe_wipe (τ : L2.St) (vs : List Nat) : wipe (wipe τ vs) vs = wipe τ vs := by
  apply List.ext_getElem?
  intro k
  rw [wipe_at, wipe_length, wipe_at]
  split <;> rfl
theorem wipe_one {vs : List Nat} {j : Nat} (h : j ∈ vs) (x : Option V) : wipe ((wipe σ vs).set j x) vs = wipe σ vs := by rw [wipe_put h, wipe_wipe]
theorem wipe_two {vs : List Nat} {i j : Nat} (hi : i ∈ vs) (h : j ∈ vs) (x y : Option V) : wipe (((wipe σ vs).set i x).set j y) vs = wipe σ vs := by rw [wipe_put h, wipe_put hi, wipe_wipe]

/-! ### expressions -/
theorem v_var {i : Nat} (h : Δ[i]? = some (some d)) : EV K (tVar i) Δ d := fun σ H s => by
  obtain ⟨v, h1, h2⟩ := s.at_ i d h
  exact d_var h1 h2
theorem v_of {v : V} (h : ∀ H, Dp K H v d) : EV K (tC v) Δ d := fun σ H s => d_of ev_c (h H)
theorem v_is (h : EV K te Δ d1) (e : d1 = d2) : EV K te Δ d2 := e ▸ h
theorem v_ci {i : Int} : EV K (tC (.int i)) Δ (.int i) := fun _ _ _ => d_ci
theorem v_cb {i : Bool} : EV K (tC (.bl i)) Δ (.bool i) := fun _ _ _ => d_cb
theorem v_cs {i : Str} : EV K (tC (.str i)) Δ (.str i) := fun _ _ _ => d_cs
theorem v_cn : EV K (tC .non) Δ .none := fun _ _ _ => d_cn
theorem v_opI {g : Int → Int → Int} {i j : Int} (ha : EV K ta Δ (.int i)) (hb : EV K tb Δ (.int j)) : EV K (tOp (rI0 fun i j => .int (g i j)) ta tb) Δ (.int (g i j)) := fun σ H s => d_opI (ha σ H s) (hb σ H s)
theorem v_opIC {C : Int → Int → Prop} {g : Int → Int → Int} {i j : Int} (ha : EV K ta Δ (.int i)) (hb : EV K tb Δ (.int j)) (hc : C i j) : EV K (tOp (rI C fun i j => .int (g i j)) ta tb) Δ (.int (g i j)) := fun σ H s => d_opIC (ha σ H s) (hb σ H s) hc
theorem v_opIB {g : Int → Int → Bool} {i j : Int} (ha : EV K ta Δ (.int i)) (hb : EV K tb Δ (.int j)) : EV K (tOp (rI0 fun i j => .bl (g i j)) ta tb) Δ (.bool (g i j)) := fun σ H s => d_opIB (ha σ H s) (hb σ H s)
theorem v_unI {g : Int → Int} {i : Int} (ha : EV K ta Δ (.int i)) : EV K (tUn (rU fun i => .int (g i)) ta) Δ (.int (g i)) := fun σ H s => d_unI (ha σ H s)
theorem v_eqI {i j : Int} (ha : EV K ta Δ (.int i)) (hb : EV K tb Δ (.int j)) : EV K (tOp rEq ta tb) Δ (.bool (decide (i = j))) := fun σ H s => d_eqI (ha σ H s) (hb σ H s)
theorem v_neI {i j : Int} (ha : EV K ta Δ (.int i)) (hb : EV K tb Δ (.int j)) : EV K (tOp rNe ta tb) Δ (.bool (!decide (i = j))) := fun σ H s => d_neI (ha σ H s) (hb σ H s)
theorem v_eqB {i j : Bool} (ha : EV K ta Δ (.bool i)) (hb : EV K tb Δ (.bool j)) : EV K (tOp rEq ta tb) Δ (.bool (decide (i = j))) := fun σ H s => d_eqB (ha σ H s) (hb σ H s)
theorem v_neB {i j : Bool} (ha : EV K ta Δ (.bool i)) (hb : EV K tb Δ (.bool j)) : EV K (tOp rNe ta tb) Δ (.bool (!decide (i = j))) := fun σ H s => d_neB (ha σ H s) (hb σ H s)
theorem v_isN (ha : EV K ta Δ d) : EV K (tIsN ta) Δ (.bool (isNone d)) := fun σ H s => d_isN (ha σ H s)
theorem v_notN (ha : EV K ta Δ d) : EV K (tNotN ta) Δ (.bool (!isNone d)) := fun σ H s => d_notN (ha σ H s)
theorem v_ixT {n : Nat} (ha : EV K ta Δ (.tuple ds)) (hi : EV K ti Δ (.int (n : Int))) (h : ds[n]? = some d) : EV K (tOp (rIx K) ta ti) Δ d := fun σ H s => d_ixT (ha σ H s) (hi σ H s) h
theorem v_ixL {n : Nat} (ha : EV K ta Δ (.list ds)) (hi : EV K ti Δ (.int (n : Int))) (h : ds[n]? = some d) : EV K (tOp (rIx K) ta ti) Δ d := fun σ H s => d_ixL (ha σ H s) (hi σ H s) h
theorem v_nil : EA K tNil Δ [] := fun _ _ _ => a_nil
theorem v_cons {tr : TA} (h : EV K ta Δ d) (hr : EA K tr Δ ds) : EA K (tCons ta tr) Δ (d :: ds) := fun σ H s => a_cons (h σ H s) (hr σ H s)
theorem v_tup {ta : TA} (h : EA K ta Δ ds) (hl : ds.length ≤ 100000 := by simp) : EV K (tTup ta) Δ (.tuple ds) := fun σ H s => d_tup (h σ H s) hl
theorem v_lst {ta : TA} (h : EA K ta Δ ds) (hl : ds.length ≤ 100000 := by simp) : EV K (tLst ta) Δ (.list ds) := fun σ H s => d_lst (h σ H s) hl
theorem v_call {R : List PyData → PyData → Prop} {ta : TA} (h : EA K ta Δ ds) (hR : R ds d) : EV K (tCall (SpD K R) [] E0 ta) Δ d := fun σ H s => d_call (h σ H s) hR
theorem v_tupleOf (h : EV K ta Δ (.list ds)) : EV K (tCB (rTupS K) (tCons ta tNil)) Δ (.tuple ds) := fun σ H s => d_tupleOf (h σ H s)
theorem v_listOfT (h : EV K ta Δ (.tuple ds)) : EV K (tCB (rListS K) (tCons ta tNil)) Δ (.list ds) := fun σ H s => d_listOfT (h σ H s)
theorem v_lenT (h : EV K ta Δ (.tuple ds)) : EV K (tCB (rLenS K) (tCons ta tNil)) Δ (.int (ds.length : Int)) := fun σ H s => d_lenT (h σ H s)
theorem v_lenL (h : EV K ta Δ (.list ds)) : EV K (tCB (rLenS K) (tCons ta tNil)) Δ (.int (ds.length : Int)) := fun σ H s => d_lenL (h σ H s)
theorem v_eqD (ha : EV K ta Δ d1) (hb : EV K tb Δ d2) (h1 : SeqAt.shaped d1 = true) (h2 : SeqAt.shaped d2 = true) : EV K (tOp (rEqD K) ta tb) Δ (.bool (PyData.eqv d1 d2)) := fun σ H s => d_eqD (ha σ H s) (hb σ H s) h1 h2
theorem v_neD (ha : EV K ta Δ d1) (hb : EV K tb Δ d2) (h1 : SeqAt.shaped d1 = true) (h2 : SeqAt.shaped d2 = true) : EV K (tOp (rNeD K) ta tb) Δ (.bool (!PyData.eqv d1 d2)) := fun σ H s => d_neD (ha σ H s) (hb σ H s) h1 h2
/-- a built-in on ints -/
theorem v_cbI {r : List V → Hp → VK → Prop} {ta : TA} {i : Int} (h : EA K ta Δ ds) (hr : ∀ vs H Q, DpAll K H vs ds → Q (.int i) H → r vs H Q) : EV K (tCB r ta) Δ (.int i) := fun σ H s H1 e Q k =>
  h σ H s H1 e _ fun vs H2 e2 hd => hr vs H2 Q hd (k _ _ e2 (.int i))
theorem v_cbB {r : List V → Hp → VK → Prop} {ta : TA} {i : Bool} (h : EA K ta Δ ds) (hr : ∀ vs H Q, DpAll K H vs ds → Q (.bl i) H → r vs H Q) : EV K (tCB r ta) Δ (.bool i) := fun σ H s H1 e Q k =>
  h σ H s H1 e _ fun vs H2 e2 hd => hr vs H2 Q hd (k _ _ e2 (.bl i))
/-- int(n), int(flag), abs(n) -/
theorem v_int1 {i : Int} (h : EV K te Δ (.int i)) : EV K (tCB (fun xs H Q => (∃ i, xs = [.int i] ∧ Q (.int i) H) ∨ ∃ k, xs = [.bl k] ∧ Q (.int (if k then 1 else 0)) H) (tCons te tNil)) Δ (.int i) := v_cbI (v_cons h v_nil) fun vs H Q hd q => by
  cases hd with
  | cons h1 t =>
    cases t
    rw [dp_int h1]
    exact .inl ⟨i, rfl, q⟩
theorem v_intB {b : Bool} (h : EV K te Δ (.bool b)) : EV K (tCB (fun xs H Q => (∃ i, xs = [.int i] ∧ Q (.int i) H) ∨ ∃ k, xs = [.bl k] ∧ Q (.int (if k then 1 else 0)) H) (tCons te tNil)) Δ (.int (if b then 1 else 0)) := v_cbI (v_cons h v_nil) fun vs H Q hd q => by
  cases hd with
  | cons h1 t =>
    cases t
    rw [dp_bool h1]
    exact .inr ⟨b, rfl, q⟩
theorem v_abs {i : Int} (h : EV K te Δ (.int i)) : EV K (tCB (fun xs H Q => ∃ i, xs = [.int i] ∧ Q (.int (if i < 0 then -i else i)) H) (tCons te tNil)) Δ (.int (if i < 0 then -i else i)) := v_cbI (v_cons h v_nil) fun vs H Q hd q => by
  cases hd with
  | cons h1 t =>
    cases t
    rw [dp_int h1]
    exact ⟨i, rfl, q⟩
theorem v_if {b : Bool} (h : ET K t Δ b) (h1 : b = true → EV K ta Δ d) (h2 : b = false → EV K tb Δ d) : EV K (tIf t ta tb) Δ d := fun σ H s => d_if (h σ H s) (fun e => h1 e σ H s) (fun e => h2 e σ H s)
theorem v_andV {a b : Bool} (h1 : EV K ta Δ (.bool a)) (h2 : a = true → EV K tb Δ (.bool b)) : EV K (tAndV ta tb) Δ (.bool (a && b)) := fun σ H s => d_andV (h1 σ H s) fun e => h2 e σ H s
theorem v_orV {a b : Bool} (h1 : EV K ta Δ (.bool a)) (h2 : a = false → EV K tb Δ (.bool b)) : EV K (tOrV ta tb) Δ (.bool (a || b)) := fun σ H s => d_orV (h1 σ H s) fun e => h2 e σ H s
theorem v_notV {a : Bool} (h1 : EV K ta Δ (.bool a)) : EV K (tNotV ta) Δ (.bool (!a)) := fun σ H s => d_notV (h1 σ H s)
/-! ### tests -/
theorem b_test {b : Bool} (h : EV K te Δ (.bool b)) : ET K (tTest te) Δ b := fun σ H s => t_test (h σ H s)
theorem b_B {b : Bool} (h : EV K te Δ (.bool b)) : ET K (tB te) Δ b := fun σ H s => t_B (h σ H s)
theorem b_and {a b : Bool} (h1 : ET K t Δ a) (h2 : a = true → ET K u Δ b) : ET K (tAnd t u) Δ (a && b) := fun σ H s => et_and (h1 σ H s) fun e => h2 e σ H s
theorem b_or {a b : Bool} (h1 : ET K t Δ a) (h2 : a = false → ET K u Δ b) : ET K (tOr t u) Δ (a || b) := fun σ H s => et_or (h1 σ H s) fun e => h2 e σ H s
theorem b_not {a : Bool} (h1 : ET K t Δ a) : ET K (tNot t) Δ (!a) := fun σ H s => et_not (h1 σ H s)
theorem b_is {a b : Bool} (h : ET K t Δ a) (e : a = b) : ET K t Δ b := e ▸ h
/-! ### isinstance(x, (list, tuple)) -/
def tyName : PyData → String
  | .none => "NoneType"
  | .bool _ => "bool"
  | .int _ => "int"
  | .str _ => "str"
  | .list _ => "list"
  | .tuple _ => "tuple"
  | .dict _ => "dict"
theorem tyx_of {v : V} {d : PyData} (h : Dp K H v d) : TyX K H v (.type (tyName d)) := by
  cases h with
  | non => exact .base .non
  | bl b => exact .base (.bl b)
  | int i => exact .base (.int i)
  | str x => exact .base (.str x)
  | lst h1 h2 =>
    rcases h1 with (h1 | ⟨o, h1⟩) | ⟨o, its, n, h1, h2, _⟩
    · exact .base (.lst h1)
    · exact .base (.frz h1)
    · exact .kList h1 h2
  | tup h1 h2 =>
    rcases h1 with (h1 | ⟨o, h1⟩) | ⟨o, its, n, h1, h2, _⟩
    · exact .base (.tup h1)
    · exact .fTuple h1
    · exact .kTuple h1 h2
def isSeq : PyData → Bool
  | .list _ => true
  | .tuple _ => true
  | _ => false
theorem kit_flat {n : String} (h1 : kitB n "list" = some false) (h2 : kitB n "tuple" = some false) : PySem.W.kitAny K (.type n) [.type "list", .type "tuple"] = some false :=
  kitAny_cons (kit_ty h1) (fun _ => kitAny_cons (kit_ty h2) (fun _ => kitAny_nil) (fun e => nomatch e)) (fun e => nomatch e)
theorem kit_list : PySem.W.kitAny K (.type "list") [.type "list", .type "tuple"] = some true := kitAny_cons (kit_ty (r := true) (by decide +kernel)) (fun e => nomatch e) (fun _ => rfl)
theorem kit_tuple : PySem.W.kitAny K (.type "tuple") [.type "list", .type "tuple"] = some true :=
  kitAny_cons (kit_ty (r := false) (by decide +kernel)) (fun _ => kitAny_cons (kit_ty (r := true) (by decide +kernel)) (fun e => nomatch e) (fun _ => rfl)) (fun e => nomatch e)
theorem kit_seq {v : V} {d : PyData} (h : Dp K H v d) : PySem.W.kitAny K (.type (tyName d)) [.type "list", .type "tuple"] = some (isSeq d) := by
  cases h with
  | non => exact kit_flat (n := "NoneType") (by decide +kernel) (by decide +kernel)
  | bl b => exact kit_flat (n := "bool") (by decide +kernel) (by decide +kernel)
  | int i => exact kit_flat (n := "int") (by decide +kernel) (by decide +kernel)
  | str x => exact kit_flat (n := "str") (by decide +kernel) (by decide +kernel)
  | lst h1 h2 => exact kit_list
  | tup h1 h2 => exact kit_tuple
theorem v_isSeq (h : EV K te Δ d) : EV K (tCB (rIsiT K) (tCons te (tCons (tTup (tCons (tC (.ty "list")) (tCons (tC (.ty "tuple")) tNil))) tNil))) Δ (.bool (isSeq d)) := fun σ H s H1 e Q k => h σ H s H1 e _ fun v H2 e2 hd => by
  refine ⟨sz_of (by decide), fun p hp => ?_⟩
  have e3 := Ex.new (o := .tup [.ty "list", .ty "tuple"]) hp
  have hd' := dp_ex e3 _ _ hd
  exact ⟨v, p, [.ty "list", .ty "tuple"], _, [.type "list", .type "tuple"], isSeq d, rfl, upd_same, .cons (.ty _) (.cons (.ty _) .nil), tyx_of hd', kit_seq hd', k _ _ (e2.trans e3) (.bl _)⟩
/-! ### comprehensions -/
section
variable {α β : Type} {i j k : Nat} {vs : List Nat}
theorem v_src (wi : TI) (hs : ∀ σ H, Sl K σ H Δ → SrcD wi σ H ds.length (YD K H ds)) (f : PyData → PyData) (hz : ds.length ≤ 40000) (ht : ∀ d ∈ ds, tupOnly (f d) = true) (hj : j ∈ vs)
    (he : ∀ d ∈ ds, EV K te ((wipeD Δ vs).set j (some d)) (f d)) : EV K (tLc wi (gName j) tYes te vs) Δ (.list (ds.map f)) := fun σ H s =>
  d_lcN f (hs σ H s) hz ht (fun x => wipe_one hj _) fun d hd x H1 e hx => he d hd _ _ (((s.ex e).wipe vs).put j hx)
/-- [e for x in a tuple that a name holds], item by item -/
theorem v_lcT (xs : List α) (enc f : α → PyData) (h : Δ[i]? = some (some (.tuple (xs.map enc)))) (hz : xs.length ≤ 40000) (ht : ∀ a ∈ xs, tupOnly (f a) = true) (hj : j ∈ vs)
    (he : ∀ a ∈ xs, EV K te ((wipeD Δ vs).set j (some (enc a))) (f a)) : EV K (tLc (iTup K (tVar i)) (gName j) tYes te vs) Δ (.list (xs.map f)) := fun σ H s => by
  obtain ⟨v, h1, h2⟩ := s.at_ i _ h
  refine d_lc (xs.map f) (src_vt h1 h2) (by simp) (by simpa using hz) (tupOnlys_all.mpr fun d hd => ?_) ?_
  · obtain ⟨a, ha, rfl⟩ := List.mem_map.mp hd
    exact ht a ha
  · rintro n f' x H1 H2 hf e ⟨rfl, d, hd, hx⟩ Q q
    rw [List.getElem?_map] at hd hf
    cases ha : xs[n]? with
    | none => rw [ha] at hd; cases hd
    | some a =>
      rw [ha] at hd hf
      obtain rfl : enc a = d := Option.some.inj hd
      obtain rfl : f a = f' := Option.some.inj hf
      exact q _ H2 (Ex.refl _) e (wipe_one hj _) (he a (List.mem_of_getElem? ha) _ _ (((s.ex e).wipe vs).put j (dp_ex e _ _ hx)))
theorem v_lcL (xs : List α) (enc f : α → PyData) (h : Δ[i]? = some (some (.list (xs.map enc)))) (hz : xs.length ≤ 40000) (ht : ∀ a ∈ xs, tupOnly (f a) = true) (hj : j ∈ vs)
    (he : ∀ a ∈ xs, EV K te ((wipeD Δ vs).set j (some (enc a))) (f a)) : EV K (tLc (iList K (tVar i)) (gName j) tYes te vs) Δ (.list (xs.map f)) := fun σ H s => by
  obtain ⟨v, h1, h2⟩ := s.at_ i _ h
  refine d_lc (xs.map f) (src_vl h1 h2) (by simp) (by simpa using hz) (tupOnlys_all.mpr fun d hd => ?_) ?_
  · obtain ⟨a, ha, rfl⟩ := List.mem_map.mp hd
    exact ht a ha
  · rintro n f' x H1 H2 hf e ⟨rfl, d, hd, hx⟩ Q q
    rw [List.getElem?_map] at hd hf
    cases ha : xs[n]? with
    | none => rw [ha] at hd; cases hd
    | some a =>
      rw [ha] at hd hf
      obtain rfl : enc a = d := Option.some.inj hd
      obtain rfl : f a = f' := Option.some.inj hf
      exact q _ H2 (Ex.refl _) e (wipe_one hj _) (he a (List.mem_of_getElem? ha) _ _ (((s.ex e).wipe vs).put j (dp_ex e _ _ hx)))
/-- [e for x, y in zip(a, b)], a and b names of tuples -/
theorem v_lcZ {i1 i2 : Nat} (xs : List α) (ys : List β) (enc : α → PyData) (enc2 : β → PyData) (f : α → β → PyData) (h1 : Δ[i1]? = some (some (.tuple (xs.map enc)))) (h2 : Δ[i2]? = some (some (.tuple (ys.map enc2)))) (hz : xs.length ≤ 40000)
    (ht : ∀ p ∈ xs.zip ys, tupOnly (f p.1 p.2) = true) (hj : j ∈ vs) (hk : k ∈ vs) (he : ∀ p ∈ xs.zip ys, EV K te (((wipeD Δ vs).set j (some (enc p.1))).set k (some (enc2 p.2))) (f p.1 p.2)) :
    EV K (tLc (RZ.iZipA K (tCons (tVar i1) (tCons (tVar i2) tNil))) (gTup K 2 (gCons (gName j) (gCons (gName k) gNil))) tYes te vs) Δ (.list ((xs.zip ys).map fun p => f p.1 p.2)) := fun σ H s => by
  obtain ⟨v, a1, a2⟩ := s.at_ _ _ h1
  obtain ⟨w, b1, b2⟩ := s.at_ _ _ h2
  have hzip : (xs.map enc).zip (ys.map enc2) = (xs.zip ys).map fun p => (enc p.1, enc2 p.2) := by rw [List.zip_map]; rfl
  have src := src_zip2 a1 b1 a2 b2
  rw [hzip] at src
  refine d_lc ((xs.zip ys).map fun p => f p.1 p.2) src (by simp) (by simp; omega) (tupOnlys_all.mpr fun d hd => ?_) ?_
  · obtain ⟨p, hp, rfl⟩ := List.mem_map.mp hd
    exact ht p hp
  · rintro n f' v H1 H2 hf e ⟨T, x, y, q, rfl, hT, rfl, hp, hx, hy⟩ Q go
    rw [List.getElem?_map] at hp hf
    cases ha : (xs.zip ys)[n]? with
    | none => rw [ha] at hp; cases hp
    | some p =>
      rw [ha] at hp hf
      obtain rfl : (enc p.1, enc2 p.2) = q := Option.some.inj hp
      obtain rfl : f p.1 p.2 = f' := Option.some.inj hf
      have e1 : Ex H1 (upd H1 T (.tup [x, y])) := Ex.new hT
      have e2 := e.trans e1
      exact ⟨T, [x, y], rfl, .of upd_same, rfl, x, [y], rfl, y, [], rfl, rfl, go _ _ e1 e2 (wipe_two hj hk _ _) (he p (List.mem_of_getElem? ha) _ _ ((((s.ex e2).wipe vs).put j (dp_ex e2 _ _ hx)).put k (dp_ex e2 _ _ hy)))⟩
end
/-! ### statements -/
variable {D : Ends} {tu tw tz : TS}
theorem n_asg {i : Nat} (h : EV K te Δ d) : SN K (tAsg te (gName i)) Δ (Δ.set i (some d)) := fun D σ H s k => s_asgD (h σ H s) fun v H1 e hd => k _ H1 e ((s.ex e).put i hd)
theorem n_par {i j : Nat} {ta : TA} (h : EA K ta Δ [d1, d2]) : SN K (tPar i j ta) Δ ((Δ.set i (some d1)).set j (some d2)) := fun D σ H s k => s_parD (h σ H s) fun v w H1 e h1 h2 => k _ H1 e (((s.ex e).put i h1).put j h2)
theorem n_if {b : Bool} (h : ET K t Δ b) (h1 : b = true → SN K tu Δ Δ1) (h2 : b = false → SN K tw Δ Δ1) : SN K (tIfS t tu tw) Δ Δ1 := fun D σ H s k => s_if (h σ H s) (fun e H1 e1 => h1 e D σ H1 (s.ex e1) fun σ' H' e2 s' => k σ' H' (e1.trans e2) s') (fun e H1 e1 => h2 e D σ H1 (s.ex e1) fun σ' H' e2 s' => k σ' H' (e1.trans e2) s')
theorem Sl.forget (s : Sl K σ H Δ) (i : Nat) : Sl K σ H (Δ.set i none) := s.weak (by simp) fun j d h => by
  by_cases e : i = j
  · subst e
    have hl : i < Δ.length := by
      have := (List.getElem?_eq_some_iff.mp h).1
      simpa using this
    rw [List.getElem?_set_self hl] at h
    simp at h
  · rwa [List.getElem?_set_ne e] at h
/-- a slot is told no more -/
theorem n_forget (i : Nat) (h : SN K tu Δ Δ1) : SN K tu Δ (Δ1.set i none) := fun D σ H s k => h D σ H s fun σ' H' e s' => k σ' H' e (s'.forget i)
theorem n_next : SN K tNext Δ Δ := fun D σ H s k => k σ H (Ex.refl _) s
theorem n_seq (h1 : SN K tu Δ Δ1) (h2 : SN K tz Δ1 Δ2) : SN K (tSeq tu tz) Δ Δ2 := fun D σ H s k => h1 _ σ H s fun σ' H' e s' => h2 D σ' H' s' fun σ2 H2 e2 s2 => k σ2 H2 (e.trans e2) s2
theorem r_seq (h1 : SN K tu Δ Δ1) (h2 : SR K tz Δ1 d) : SR K (tSeq tu tz) Δ d := fun D σ H s k => h1 _ σ H s fun σ' H' e s' => h2 D σ' H' s' (k.go e)
theorem r_now (h1 : SR K tu Δ d) : SR K (tSeq tu tz) Δ d := fun D σ H s k => h1 { D with nx := tz D } σ H s k
theorem r_ret (h : EV K te Δ d) : SR K (tRet te) Δ d := fun D σ H s k => s_retD (h σ H s) k
theorem r_if {b : Bool} (h : ET K t Δ b) (h1 : b = true → SR K tu Δ d) (h2 : b = false → SR K tw Δ d) : SR K (tIfS t tu tw) Δ d := fun D σ H s k => s_if (h σ H s) (fun e H1 e1 => h1 e D σ H1 (s.ex e1) (k.go e1)) (fun e H1 e1 => h2 e D σ H1 (s.ex e1) (k.go e1))
/-- if c: return e; then the rest -/
theorem r_when {b : Bool} (h : ET K t Δ b) (h1 : b = true → SR K tu Δ d) (h2 : b = false → SR K tz Δ d) : SR K (tSeq (tIfS t tu tNext) tz) Δ d := fun D σ H s k => q_when (h σ H s) (fun e H1 e1 => h1 e _ σ H1 (s.ex e1) (k.go e1)) (fun e H1 e1 => h2 e D σ H1 (s.ex e1) (k.go e1))
theorem r_weak (hl : Δ1.length = Δ.length) (h : ∀ (i : Nat) d, Δ1[i]? = some (some d) → Δ[i]? = some (some d)) (q : SR K tu Δ1 d) : SR K tu Δ d := fun D σ H s k => q D σ H (s.weak hl h) k
/-- a loop over a name's tuple (list): behind i turns the slots are Ψ i -/
theorem n_for {wi : TI} {j : Nat} (Ψ : Nat → Dt) (hs : ∀ σ H, Sl K σ H Δ → SrcD wi σ H ds.length (YD K H ds)) (h0 : Ψ 0 = Δ) (ht : ∀ i d, ds[i]? = some d → SN K tu ((Ψ i).set j (some d)) (Ψ (i + 1))) (he : Ψ ds.length = Δ1) : SN K (tFor wi (gName j) tu) Δ Δ1 := fun D σ H s k => by
  refine s_forN (hs σ H s) (fun i σ' H' => Ex H H' ∧ Sl K σ' H' (Ψ i)) (fun H1 e => ⟨e, by rw [h0]; exact s.ex e⟩) (fun i σ' H' p => p.1) ?_ (fun σ' H' p => k σ' H' p.1 (by rw [← he]; exact p.2))
  rintro i d x σ' H' hd hx ⟨e, s'⟩
  exact ht i d hd _ _ _ (s'.put j hx) fun σ2 H2 e2 s2 => ⟨e.trans e2, s2⟩
theorem n_forP {wi : TI} {i j : Nat} {ps : List (PyData × PyData)} (Ψ : Nat → Dt) (hs : ∀ σ H, Sl K σ H Δ → SrcD wi σ H ps.length (YP K H ps)) (h0 : Ψ 0 = Δ) (ht : ∀ n p, ps[n]? = some p → SN K tu (((Ψ n).set i (some p.1)).set j (some p.2)) (Ψ (n + 1))) (he : Ψ ps.length = Δ1) :
    SN K (tFor wi (gTup K 2 (gCons (gName i) (gCons (gName j) gNil))) tu) Δ Δ1 := fun D σ H s k => by
  refine s_forP (hs σ H s) (fun n σ' H' => Ex H H' ∧ Sl K σ' H' (Ψ n)) (fun H1 e => ⟨e, by rw [h0]; exact s.ex e⟩) (fun n σ' H' p => p.1) (fun n σ' H1 H2 e p => ⟨p.1.trans e, p.2.ex e⟩) ?_ (fun σ' H' p => k σ' H' p.1 (by rw [← he]; exact p.2))
  rintro n p x y σ' H' hd hx hy ⟨e, s'⟩
  exact ht n p hd _ _ _ ((s'.put i hx).put j hy) fun σ2 H2 e2 s2 => ⟨e.trans e2, s2⟩
/-- while: the states are I a, the good ones; each turn lowers μ -/
theorem n_while {α : Type} (I : α → Dt) (G : α → Prop) (μ : α → Nat) (a0 : α) (h0 : I a0 = Δ) (g0 : G a0)
    (hs : ∀ a, G a → ∃ b, ET K t (I a) b ∧ (b = true → ∃ a', G a' ∧ μ a' < μ a ∧ SN K tu (I a) (I a')) ∧ (b = false → I a = Δ1)) : SN K (tWhile t tu) Δ Δ1 := fun D σ H s k => by
  refine s_while (fun m σ' H' => ∃ a, μ a = m ∧ G a ∧ Ex H H' ∧ Sl K σ' H' (I a)) (μ a0) ⟨a0, rfl, g0, Ex.refl _, by rw [h0]; exact s⟩ ?_
  rintro m σ' H' ⟨a, rfl, g, e, s'⟩
  obtain ⟨b, t1, t2, t3⟩ := hs a g
  refine ⟨b, t1 σ' H' s', fun eb H1 e1 => ?_, fun eb H1 e1 => k σ' H1 (e.trans e1) (by rw [← t3 eb]; exact s'.ex e1)⟩
  obtain ⟨a', g', lt, sn⟩ := t2 eb
  exact ⟨fun σ2 H2 => Ex H H2 ∧ Sl K σ2 H2 (I a'), fun σ2 H2 p => ⟨μ a', lt, a', rfl, g', p.1, p.2⟩, sn _ σ' H1 (s'.ex e1) fun σ2 H2 e2 s2 => ⟨(e.trans e1).trans e2, s2⟩⟩
theorem e_vt {i : Nat} (h : Δ[i]? = some (some (.tuple ds))) : ∀ σ H, Sl K σ H Δ → SrcD (iTup K (tVar i)) σ H ds.length (YD K H ds) := fun σ H s => by
  obtain ⟨v, h1, h2⟩ := s.at_ i _ h
  exact src_vt h1 h2
theorem e_vl {i : Nat} (h : Δ[i]? = some (some (.list ds))) : ∀ σ H, Sl K σ H Δ → SrcD (iList K (tVar i)) σ H ds.length (YD K H ds) := fun σ H s => by
  obtain ⟨v, h1, h2⟩ := s.at_ i _ h
  exact src_vl h1 h2
theorem e_st {i : Nat} (h : Δ[i]? = some (some (.tuple ds))) : ∀ σ H, Sl K σ H Δ → SrcD (iSeq K (tVar i)) σ H ds.length (YD K H ds) := fun σ H s => by
  obtain ⟨v, h1, h2⟩ := s.at_ i _ h
  exact src_st h1 h2
theorem e_sl {i : Nat} (h : Δ[i]? = some (some (.list ds))) : ∀ σ H, Sl K σ H Δ → SrcD (iSeq K (tVar i)) σ H ds.length (YD K H ds) := fun σ H s => by
  obtain ⟨v, h1, h2⟩ := s.at_ i _ h
  exact src_sl h1 h2
theorem e_zip {i j : Nat} (h1 : Δ[i]? = some (some (.tuple ds))) (h2 : Δ[j]? = some (some (.tuple es))) : ∀ σ H, Sl K σ H Δ → SrcD (RZ.iZipA K (tCons (tVar i) (tCons (tVar j) tNil))) σ H (ds.zip es).length (YP K H (ds.zip es)) := fun σ H s => by
  obtain ⟨v, a1, a2⟩ := s.at_ _ _ h1
  obtain ⟨w, b1, b2⟩ := s.at_ _ _ h2
  exact src_zip2 a1 b1 a2 b2
end
/-- the slots at a def's entry -/
def startD (N : List Str) (ds : List PyData) : Dt := ds.map some ++ List.replicate (N.length - ds.length) none
theorem sl_start {K : PySem.W.Frag} {H : Hp} {N : List Str} {vs : List V} {ds : List PyData} (h : DpAll K H vs ds) : Sl K (L2.start N vs) H (startD N ds) := by
  have hl := dps_len h
  refine ⟨by simp [L2.start, startD, hl], fun i d hi => ?_⟩
  unfold startD at hi
  by_cases hlt : i < ds.length
  · rw [List.getElem?_append_left (by simpa using hlt), List.getElem?_map] at hi
    cases hd : ds[i]? with
    | none => rw [hd] at hi; cases hi
    | some d' =>
      rw [hd] at hi
      obtain rfl : d' = d := by simpa using hi
      obtain ⟨v, h1, h2⟩ := dps_at h hd
      refine ⟨v, ?_, h2⟩
      unfold L2.start
      rw [List.getElem?_append_left (by simp; omega), List.getElem?_map, h1]
      rfl
  · rw [List.getElem?_append_right (by simp; omega)] at hi
    rw [List.getElem?_replicate] at hi
    split at hi
    · simp at hi
    · cases hi
section
variable {P : Program} {w : World} {K : PySem.W.Frag} {mg : Str → Option Value} {base : Heap} {name : Str} {st : Stmt} {ps N : List Str} {k : Nat}
/-- A DEF by its body, data in, data out -/
theorem Dfn.sr {R : List PyData → PyData → Prop} (D : Dfn K mg name st ps) (S : FnScope N ps (defScope st)) (hR : ∀ ds d, R ds d → ds.length = ps.length)
    (hbody : ∀ (f : Addr) (cdv : Value) (A : Around) (outer : List Env) (s : Shared) (H : Hp) (E : XK), Room k (A.deeper (envOfC name (defScope st) s.heap.objs.size f cdv)) → ∀ ds d, R ds d →
      ∃ t, PSs (cxOf CX0 P w K mg base N name (defScope st) f cdv A outer s H E).nox (defBody st) t ∧ SR K t (startD N ds) d) : Cal P w K mg base CX0 (k + 1) name ps (SpD K R) :=
  D.data S hR fun f cdv A outer s H vs E hr ds d h1 h2 => by
    obtain ⟨t, h4, h5⟩ := hbody f cdv A outer s H E hr ds d h1
    exact ⟨t, h4, fun Q q => h5 _ _ H (sl_start h2) q⟩
end
end K17

end
section
set_option maxHeartbeats 4200000
/-! # The fractions' defs -/
namespace K17
open PySem PySem.Spec PyProof.Rows L2 Evl
def frD (q : Rat) : PyData := .tuple [.int q.num, .int (q.den : Int)]
theorem fr0 {q : Rat} : ([PyData.int q.num, PyData.int (q.den : Int)])[0]? = some (.int q.num) := rfl
theorem fr1 {q : Rat} : ([PyData.int q.num, PyData.int (q.den : Int)])[1]? = some (.int (q.den : Int)) := rfl
theorem frD_of {q : Rat} {n d : Int} (h : q.num = n) (g : (q.den : Int) = d) : frD q = .tuple [.int n, .int d] := by rw [← h, ← g]; rfl
theorem fr_tup (q : Rat) : tupOnly (frD q) = true := rfl
inductive R_part_of : List PyData → PyData → Prop
  | mk (t b : Int) : 0 < b → b < 1073741824 → R_part_of [.int t, .int b] (frD (mkRat t b.toNat))
inductive R_two (f : Rat → Rat → Rat) : List PyData → PyData → Prop
  | mk (q r : Rat) : Sm q → Sm r → R_two f [frD q, frD r] (frD (f q r))
inductive R_part_minus : List PyData → PyData → Prop
  | mk (q : Rat) : R_part_minus [frD q] (frD (-q))
inductive R_below : List PyData → PyData → Prop
  | mk (q r : Rat) : Sm q → Sm r → R_below [frD q, frD r] (.bool (decide (q < r)))
section
variable {P : Program} {w : World} {K : PySem.W.Frag} {mg : Str → Option Value} {base : Heap} {aN aL : Addr}
theorem c_part_of (T : Txt K mg aN aL) (D : Dfn K mg "part_of" s_part_of p_part_of) : Cal P w K mg base CX0 1 "part_of" p_part_of (SpD K R_part_of) := by
  refine D.sr sc_part_of (fun _ _ h => by cases h; rfl) fun f cdv A outer s H E hr ds d hR => ?_
  cases hR with
  | mk t b hb hb2 =>
    refine ⟨_, (pss_cons (ps_set (i := 2) sc_part_of.nd rfl (.inl rfl) (pe_callBfun cr_gcd (by rfl) T.ggcd (pa_cons (pv 0) (pa_cons (pv 1) pa_nil))))
      (pss_cons (ps_if (pt_cmpR op_lt (pv 1) pe_int (nomark _)) (pss_one (ps_set (i := 2) sc_part_of.nd rfl (.inl rfl) (pe_un un_neg (pv 2)))) pss_nil)
      (pss_one (ps_ret (pe_tup (pa_cons (pe_op op_fdiv (pv 0) (pv 2)) (pa_cons (pe_op op_fdiv (pv 1) (pv 2)) pa_nil))))))), ?_⟩
    refine r_seq (n_asg (v_cbI (i := ((Nat.gcd t.natAbs b.natAbs : Nat) : Int)) (v_cons (v_var rfl) (v_cons (v_var rfl) v_nil)) fun vs H Q hd q => ?_)) ?_
    · obtain ⟨v1, v2, rfl, h1, h2⟩ := dps2 hd
      exact ⟨t, b, by rw [dp_int h1, dp_int h2], q⟩
    refine r_seq (n_if (b_is (b_test (v_opIB (v_var rfl) v_ci)) (decide_eq_false (by omega))) (fun e => nomatch e) fun _ => n_next) ?_
    have hg := gcd_pos (t := t) hb
    have hl := gcd_le (t := t) hb
    refine r_ret (v_is (v_tup (v_cons (v_opIC (v_var rfl) (v_var rfl) ⟨hg, by omega⟩) (v_cons (v_opIC (v_var rfl) (v_var rfl) ⟨hg, by omega⟩) v_nil))) ?_)
    exact (frD_of (fr_of t b hb).1.symm (fr_of t b hb).2.symm).symm
theorem c_part_plus (T : Txt K mg aN aL) (D : Dfn K mg "part_plus" s_part_plus p_part_plus) (C_part_of : Cal P w K mg base CX0 1 "part_of" p_part_of (SpD K R_part_of)) : Cal P w K mg base CX0 2 "part_plus" p_part_plus (SpD K (R_two fun q r => q + r)) := by
  refine D.sr sc_part_plus (fun _ _ h => by cases h; rfl) fun f cdv A outer s H E hr ds d hR => ?_
  cases hR with
  | mk q r hq hqr =>
    refine ⟨_, (pss_cons (ps_if (PW.pt (pw_and (pt_cmpR op_eq (pe_ix ix_seq (pv 0) pe_int (fun _ _ => rfl)) pe_int (nomark _)) (pw_and1 (pt_cmpR op_eq (pe_ix ix_seq (pv 1) pe_int (fun _ _ => rfl)) pe_int (nomark _))))) (pss_one (ps_ret (pe_tup (pa_cons (pe_op op_add (pe_ix ix_seq (pv 0) pe_int (fun _ _ => rfl)) (pe_ix ix_seq (pv 1) pe_int (fun _ _ => rfl))) (pa_cons pe_int pa_nil))))) pss_nil)
      (pss_one (ps_ret (pe_cal C_part_of (hr.mono (by decide)) (pa_cons (pe_op op_add (pe_op op_mul (pe_ix ix_seq (pv 0) pe_int (fun _ _ => rfl)) (pe_ix ix_seq (pv 1) pe_int (fun _ _ => rfl))) (pe_op op_mul (pe_ix ix_seq (pv 1) pe_int (fun _ _ => rfl)) (pe_ix ix_seq (pv 0) pe_int (fun _ _ => rfl)))) (pa_cons (pe_op op_mul (pe_ix ix_seq (pv 0) pe_int (fun _ _ => rfl)) (pe_ix ix_seq (pv 1) pe_int (fun _ _ => rfl))) pa_nil)))))), ?_⟩
    have qd := hq.den
    have rd := hqr.den
    have dd := hq.dd hqr
    refine r_when (b_and (b_test (v_eqI (v_ixT (v_var rfl) v_ci fr1) v_ci)) fun _ => b_test (v_eqI (v_ixT (v_var rfl) v_ci fr1) v_ci)) (fun e => ?_) fun e => ?_
    · rw [Bool.and_eq_true, decide_eq_true_eq, decide_eq_true_eq] at e
      have z := add_whole (den_int.mp e.1) (den_int.mp e.2)
      refine r_ret (v_is (v_tup (v_cons (v_opI (v_ixT (v_var rfl) v_ci fr0) (v_ixT (v_var rfl) v_ci fr0)) (v_cons v_ci v_nil))) ?_)
      exact (frD_of z.1 (by rw [z.2] <;> rfl)).symm
    · refine r_ret (v_call (v_cons (v_opI (v_opIC (v_ixT (v_var rfl) v_ci fr0) (v_ixT (v_var rfl) v_ci fr1) (.inr ⟨by omega, by omega⟩)) (v_opIC (v_ixT (v_var rfl) v_ci fr0) (v_ixT (v_var rfl) v_ci fr1) (.inr ⟨by omega, by omega⟩))) (v_cons (v_opIC (v_ixT (v_var rfl) v_ci fr1) (v_ixT (v_var rfl) v_ci fr1) (.inr ⟨by omega, by omega⟩)) v_nil)) ?_)
      have m := R_part_of.mk (q.num * r.den + r.num * q.den) (q.den * r.den) dd.1 (by omega)
      rw [add_mk] at m
      exact m
theorem c_part_minus (T : Txt K mg aN aL) (D : Dfn K mg "part_minus" s_part_minus p_part_minus) : Cal P w K mg base CX0 1 "part_minus" p_part_minus (SpD K R_part_minus) := by
  refine D.sr sc_part_minus (fun _ _ h => by cases h; rfl) fun f cdv A outer s H E hr ds d hR => ?_
  cases hR with
  | mk q =>
    refine ⟨_, (pss_one (ps_ret (pe_tup (pa_cons (pe_un un_neg (pe_ix ix_seq (pv 0) pe_int (fun _ _ => rfl))) (pa_cons (pe_ix ix_seq (pv 0) pe_int (fun _ _ => rfl)) pa_nil))))), ?_⟩
    exact r_ret (v_is (v_tup (v_cons (v_unI (v_ixT (v_var rfl) v_ci fr0)) (v_cons (v_ixT (v_var rfl) v_ci fr1) v_nil))) (frD_of (Rat.neg_num q) (by rw [Rat.neg_den])).symm)
theorem Sm.neg {q : Rat} (h : Sm q) : Sm (-q) := ⟨by rw [Rat.neg_den]; exact h.1, by rw [Rat.neg_num, Int.natAbs_neg]; exact h.2⟩
theorem c_part_less (T : Txt K mg aN aL) (D : Dfn K mg "part_less" s_part_less p_part_less) (C_part_plus : Cal P w K mg base CX0 2 "part_plus" p_part_plus (SpD K (R_two fun q r => q + r)))
    (C_part_minus : Cal P w K mg base CX0 1 "part_minus" p_part_minus (SpD K R_part_minus)) : Cal P w K mg base CX0 3 "part_less" p_part_less (SpD K (R_two fun q r => q - r)) := by
  refine D.sr sc_part_less (fun _ _ h => by cases h; rfl) fun f cdv A outer s H E hr ds d hR => ?_
  cases hR with
  | mk q r hq hqr =>
    refine ⟨_, (pss_one (ps_ret (pe_cal C_part_plus (hr.mono (by decide)) (pa_cons (pv 0) (pa_cons (pe_cal C_part_minus (hr.mono (by decide)) (pa_cons (pv 1) pa_nil)) pa_nil))))), ?_⟩
    refine r_ret (v_call (v_cons (v_var rfl) (v_cons (v_call (v_cons (v_var rfl) v_nil) (.mk r)) v_nil)) ?_)
    rw [Rat.sub_eq_add_neg]
    exact R_two.mk (f := fun q r => q + r) q (-r) hq hqr.neg
theorem c_part_times (T : Txt K mg aN aL) (D : Dfn K mg "part_times" s_part_times p_part_times) (C_part_of : Cal P w K mg base CX0 1 "part_of" p_part_of (SpD K R_part_of)) : Cal P w K mg base CX0 2 "part_times" p_part_times (SpD K (R_two fun q r => q * r)) := by
  refine D.sr sc_part_times (fun _ _ h => by cases h; rfl) fun f cdv A outer s H E hr ds d hR => ?_
  cases hR with
  | mk q r hq hqr =>
    refine ⟨_, (pss_cons (ps_if (PW.pt (pw_and (pt_cmpR op_eq (pe_ix ix_seq (pv 0) pe_int (fun _ _ => rfl)) pe_int (nomark _)) (pw_and1 (pt_cmpR op_eq (pe_ix ix_seq (pv 1) pe_int (fun _ _ => rfl)) pe_int (nomark _))))) (pss_one (ps_ret (pe_tup (pa_cons (pe_op op_mul (pe_ix ix_seq (pv 0) pe_int (fun _ _ => rfl)) (pe_ix ix_seq (pv 1) pe_int (fun _ _ => rfl))) (pa_cons pe_int pa_nil))))) pss_nil)
      (pss_one (ps_ret (pe_cal C_part_of (hr.mono (by decide)) (pa_cons (pe_op op_mul (pe_ix ix_seq (pv 0) pe_int (fun _ _ => rfl)) (pe_ix ix_seq (pv 1) pe_int (fun _ _ => rfl))) (pa_cons (pe_op op_mul (pe_ix ix_seq (pv 0) pe_int (fun _ _ => rfl)) (pe_ix ix_seq (pv 1) pe_int (fun _ _ => rfl))) pa_nil)))))), ?_⟩
    have qd := hq.den
    have rd := hqr.den
    have qn := hq.num
    have rn := hqr.num
    have dd := hq.dd hqr
    refine r_when (b_and (b_test (v_eqI (v_ixT (v_var rfl) v_ci fr1) v_ci)) fun _ => b_test (v_eqI (v_ixT (v_var rfl) v_ci fr1) v_ci)) (fun e => ?_) fun e => ?_
    · rw [Bool.and_eq_true, decide_eq_true_eq, decide_eq_true_eq] at e
      have z := mul_whole (den_int.mp e.1) (den_int.mp e.2)
      refine r_ret (v_is (v_tup (v_cons (v_opIC (v_ixT (v_var rfl) v_ci fr0) (v_ixT (v_var rfl) v_ci fr0) (.inr ⟨by omega, by omega⟩)) (v_cons v_ci v_nil))) ?_)
      exact (frD_of z.1 (by rw [z.2] <;> rfl)).symm
    · refine r_ret (v_call (v_cons (v_opIC (v_ixT (v_var rfl) v_ci fr0) (v_ixT (v_var rfl) v_ci fr0) (.inr ⟨by omega, by omega⟩)) (v_cons (v_opIC (v_ixT (v_var rfl) v_ci fr1) (v_ixT (v_var rfl) v_ci fr1) (.inr ⟨by omega, by omega⟩)) v_nil)) ?_)
      have m := R_part_of.mk (q.num * r.num) (q.den * r.den) dd.1 (by omega)
      rw [mul_mk] at m
      exact m
theorem c_part_below (T : Txt K mg aN aL) (D : Dfn K mg "part_below" s_part_below p_part_below) : Cal P w K mg base CX0 1 "part_below" p_part_below (SpD K R_below) := by
  refine D.sr sc_part_below (fun _ _ h => by cases h; rfl) fun f cdv A outer s H E hr ds d hR => ?_
  cases hR with
  | mk q r hq hqr =>
    refine ⟨_, (pss_one (ps_ret (pe_cmpR op_lt (pe_op op_mul (pe_ix ix_seq (pv 0) pe_int (fun _ _ => rfl)) (pe_ix ix_seq (pv 1) pe_int (fun _ _ => rfl))) (pe_op op_mul (pe_ix ix_seq (pv 1) pe_int (fun _ _ => rfl)) (pe_ix ix_seq (pv 0) pe_int (fun _ _ => rfl))) (nomark _)))), ?_⟩
    have qd := hq.den
    have rd := hqr.den
    refine r_ret (v_is (v_opIB (v_opIC (v_ixT (v_var rfl) v_ci fr0) (v_ixT (v_var rfl) v_ci fr1) (.inr ⟨by omega, by omega⟩)) (v_opIC (v_ixT (v_var rfl) v_ci fr0) (v_ixT (v_var rfl) v_ci fr1) (.inr ⟨by omega, by omega⟩))) ?_)
    congr 1
    exact decide_eq_decide.mpr (Rat.lt_iff q r).symm
/-! ### the law's own -/
inductive R_gcd : List PyData → PyData → Prop
  | mk (t b : Int) : 0 < b → R_gcd [.int t, .int b] (.int ((Nat.gcd t.natAbs b.natAbs : Nat) : Int))
theorem gcd_step {a b : Int} (h : 0 < b) : Nat.gcd b.natAbs (a % b).natAbs = Nat.gcd a.natAbs b.natAbs := by
  have e : a = b * (a / b) + a % b := (Int.mul_ediv_add_emod a b).symm
  have e2 : a % b = a - b * (a / b) := by omega
  apply Nat.dvd_antisymm
  · have h1 : ((Nat.gcd b.natAbs (a % b).natAbs : Nat) : Int) ∣ b := Int.ofNat_dvd_left.mpr (Nat.gcd_dvd_left _ _)
    have h2 : ((Nat.gcd b.natAbs (a % b).natAbs : Nat) : Int) ∣ a % b := Int.ofNat_dvd_left.mpr (Nat.gcd_dvd_right _ _)
    refine Nat.dvd_gcd (Int.ofNat_dvd_left.mp ?_) (Nat.gcd_dvd_left _ _)
    have := Int.dvd_add (Int.dvd_mul_of_dvd_left (c := a / b) h1) h2
    rwa [← e] at this
  · have h1 : ((Nat.gcd a.natAbs b.natAbs : Nat) : Int) ∣ b := Int.ofNat_dvd_left.mpr (Nat.gcd_dvd_right _ _)
    have h2 : ((Nat.gcd a.natAbs b.natAbs : Nat) : Int) ∣ a := Int.ofNat_dvd_left.mpr (Nat.gcd_dvd_left _ _)
    refine Nat.dvd_gcd (Nat.gcd_dvd_right _ _) (Int.ofNat_dvd_left.mp ?_)
    rw [e2]
    exact Int.dvd_sub h2 (Int.dvd_mul_of_dvd_left (c := a / b) h1)
theorem c_l_gcd (T : Txt K mg aN aL) (D : Dfn K mg "_law_gcd" s_l_gcd p_l_gcd) : Cal P w K mg base CX0 1 "_law_gcd" p_l_gcd (SpD K R_gcd) := by
  refine D.sr sc_l_gcd (fun _ _ h => by cases h; rfl) fun f cdv A outer s H E hr ds d hR => ?_
  cases hR with
  | mk t b hb =>
    refine ⟨_, (pss_cons (ps_while PassesOwn.never (pt_cmpR op_ne (pv 1) pe_int (nomark _)) (pss_one (ps_par (i := 0) (j := 1) rfl sc_l_gcd.nd rfl rfl (by decide) rfl rfl (pa_cons (pv 1) (pa_cons (pe_op op_mod (pe_callTy call_int1 (by rfl) T.n_int (by decide +kernel) (pa_cons (pv 0) pa_nil)) (pv 1)) pa_nil)) (by rfl))))
      (pss_one (ps_ret (pe_callB call_abs (by rfl) T.n_abs (by decide +kernel) (pa_cons (pv 0) pa_nil))))), ?_⟩
    refine r_seq (n_while (α := Int × Int) (fun p => [some (.int p.1), some (.int p.2)]) (fun p => Nat.gcd p.1.natAbs p.2.natAbs = Nat.gcd t.natAbs b.natAbs ∧ 0 ≤ p.2 ∧ (p.2 = 0 → 0 ≤ p.1)) (fun p => p.2.toNat) (t, b) rfl ⟨rfl, by show 0 ≤ b; omega, by intro e; have e : b = 0 := e; omega⟩
      (Δ1 := [some (.int ((Nat.gcd t.natAbs b.natAbs : Nat) : Int)), some (.int 0)]) ?_) (r_ret (v_is (v_abs (v_var rfl)) ?_))
    · rintro ⟨x, y⟩ ⟨g1, g2, g3⟩
      dsimp only at g1 g2 g3
      refine ⟨_, b_test (v_neI (v_var rfl) v_ci), fun e => ?_, fun e => ?_⟩
      · have hy : y ≠ 0 := by simpa using e
        have hp : 0 < y := by omega
        have hm := Int.emod_nonneg x hy
        have hl := Int.emod_lt_of_pos x hp; exact ⟨(y, x % y), ⟨by show Nat.gcd y.natAbs (x % y).natAbs = _; rw [gcd_step hp, g1], hm, fun _ => by show 0 ≤ y; omega⟩, by show (x % y).toNat < y.toNat; omega, n_par (v_cons (v_var rfl) (v_cons (v_opIC (v_int1 (v_var rfl)) (v_var rfl) hp) v_nil))⟩
      · have hy : y = 0 := by simpa using e
        subst hy
        have hx := g3 rfl
        have e1 : ((Nat.gcd t.natAbs b.natAbs : Nat) : Int) = x := by
          rw [← g1]
          simp
          omega
        show [some (PyData.int x), some (PyData.int 0)] = _
        rw [e1]
    · congr 1
theorem c_l_fr (T : Txt K mg aN aL) (D : Dfn K mg "_law_fr" s_l_fr p_l_fr) (C_l_gcd : Cal P w K mg base CX0 1 "_law_gcd" p_l_gcd (SpD K R_gcd)) : Cal P w K mg base CX0 2 "_law_fr" p_l_fr (SpD K R_part_of) := by
  refine D.sr sc_l_fr (fun _ _ h => by cases h; rfl) fun f cdv A outer s H E hr ds d hR => ?_
  cases hR with
  | mk t b hb hb2 =>
    refine ⟨_, (pss_cons (ps_set (i := 2) sc_l_fr.nd rfl (.inl rfl) (pe_cal C_l_gcd (hr.mono (by decide)) (pa_cons (pv 0) (pa_cons (pv 1) pa_nil))))
      (pss_one (ps_ret (pe_tup (pa_cons (pe_op op_fdiv (pv 0) (pv 2)) (pa_cons (pe_op op_fdiv (pv 1) (pv 2)) pa_nil)))))), ?_⟩
    have hg := gcd_pos (t := t) hb
    have hl := gcd_le (t := t) hb
    refine r_seq (n_asg (v_call (v_cons (v_var rfl) (v_cons (v_var rfl) v_nil)) (.mk t b hb))) (r_ret (v_is (v_tup (v_cons (v_opIC (v_var rfl) (v_var rfl) ⟨hg, by omega⟩) (v_cons (v_opIC (v_var rfl) (v_var rfl) ⟨hg, by omega⟩) v_nil))) ?_))
    exact (frD_of (fr_of t b hb).1.symm (fr_of t b hb).2.symm).symm
theorem c_l_sum (T : Txt K mg aN aL) (D : Dfn K mg "_law_sum" s_l_sum p_l_sum) (C_l_fr : Cal P w K mg base CX0 2 "_law_fr" p_l_fr (SpD K R_part_of)) : Cal P w K mg base CX0 3 "_law_sum" p_l_sum (SpD K (R_two fun q r => q + r)) := by
  refine D.sr sc_l_sum (fun _ _ h => by cases h; rfl) fun f cdv A outer s H E hr ds d hR => ?_
  cases hR with
  | mk q r hq hqr =>
    refine ⟨_, (pss_one (ps_ret (pe_cal C_l_fr (hr.mono (by decide)) (pa_cons (pe_op op_add (pe_op op_mul (pe_ix ix_seq (pv 0) pe_int (fun _ _ => rfl)) (pe_ix ix_seq (pv 1) pe_int (fun _ _ => rfl))) (pe_op op_mul (pe_ix ix_seq (pv 1) pe_int (fun _ _ => rfl)) (pe_ix ix_seq (pv 0) pe_int (fun _ _ => rfl)))) (pa_cons (pe_op op_mul (pe_ix ix_seq (pv 0) pe_int (fun _ _ => rfl)) (pe_ix ix_seq (pv 1) pe_int (fun _ _ => rfl))) pa_nil))))), ?_⟩
    have qd := hq.den
    have rd := hqr.den
    have dd := hq.dd hqr
    refine r_ret (v_call (v_cons (v_opI (v_opIC (v_ixT (v_var rfl) v_ci fr0) (v_ixT (v_var rfl) v_ci fr1) (.inr ⟨by omega, by omega⟩)) (v_opIC (v_ixT (v_var rfl) v_ci fr0) (v_ixT (v_var rfl) v_ci fr1) (.inr ⟨by omega, by omega⟩))) (v_cons (v_opIC (v_ixT (v_var rfl) v_ci fr1) (v_ixT (v_var rfl) v_ci fr1) (.inr ⟨by omega, by omega⟩)) v_nil)) ?_)
    have m := R_part_of.mk (q.num * r.den + r.num * q.den) (q.den * r.den) dd.1 (by omega)
    rw [add_mk] at m
    exact m
theorem c_l_less_by (T : Txt K mg aN aL) (D : Dfn K mg "_law_less_by" s_l_less_by p_l_less_by) (C_l_fr : Cal P w K mg base CX0 2 "_law_fr" p_l_fr (SpD K R_part_of)) : Cal P w K mg base CX0 3 "_law_less_by" p_l_less_by (SpD K (R_two fun q r => q - r)) := by
  refine D.sr sc_l_less_by (fun _ _ h => by cases h; rfl) fun f cdv A outer s H E hr ds d hR => ?_
  cases hR with
  | mk q r hq hqr =>
    refine ⟨_, (pss_one (ps_ret (pe_cal C_l_fr (hr.mono (by decide)) (pa_cons (pe_op op_sub (pe_op op_mul (pe_ix ix_seq (pv 0) pe_int (fun _ _ => rfl)) (pe_ix ix_seq (pv 1) pe_int (fun _ _ => rfl))) (pe_op op_mul (pe_ix ix_seq (pv 1) pe_int (fun _ _ => rfl)) (pe_ix ix_seq (pv 0) pe_int (fun _ _ => rfl)))) (pa_cons (pe_op op_mul (pe_ix ix_seq (pv 0) pe_int (fun _ _ => rfl)) (pe_ix ix_seq (pv 1) pe_int (fun _ _ => rfl))) pa_nil))))), ?_⟩
    have qd := hq.den
    have rd := hqr.den
    have dd := hq.dd hqr
    refine r_ret (v_call (v_cons (v_opI (v_opIC (v_ixT (v_var rfl) v_ci fr0) (v_ixT (v_var rfl) v_ci fr1) (.inr ⟨by omega, by omega⟩)) (v_opIC (v_ixT (v_var rfl) v_ci fr0) (v_ixT (v_var rfl) v_ci fr1) (.inr ⟨by omega, by omega⟩))) (v_cons (v_opIC (v_ixT (v_var rfl) v_ci fr1) (v_ixT (v_var rfl) v_ci fr1) (.inr ⟨by omega, by omega⟩)) v_nil)) ?_)
    have m := R_part_of.mk (q.num * r.den - r.num * q.den) (q.den * r.den) dd.1 (by omega)
    rw [sub_mk] at m
    exact m
theorem c_l_mul (T : Txt K mg aN aL) (D : Dfn K mg "_law_mul" s_l_mul p_l_mul) (C_l_fr : Cal P w K mg base CX0 2 "_law_fr" p_l_fr (SpD K R_part_of)) : Cal P w K mg base CX0 3 "_law_mul" p_l_mul (SpD K (R_two fun q r => q * r)) := by
  refine D.sr sc_l_mul (fun _ _ h => by cases h; rfl) fun f cdv A outer s H E hr ds d hR => ?_
  cases hR with
  | mk q r hq hqr =>
    refine ⟨_, (pss_one (ps_ret (pe_cal C_l_fr (hr.mono (by decide)) (pa_cons (pe_op op_mul (pe_ix ix_seq (pv 0) pe_int (fun _ _ => rfl)) (pe_ix ix_seq (pv 1) pe_int (fun _ _ => rfl))) (pa_cons (pe_op op_mul (pe_ix ix_seq (pv 0) pe_int (fun _ _ => rfl)) (pe_ix ix_seq (pv 1) pe_int (fun _ _ => rfl))) pa_nil))))), ?_⟩
    have qd := hq.den
    have rd := hqr.den
    have qn := hq.num
    have rn := hqr.num
    have dd := hq.dd hqr
    refine r_ret (v_call (v_cons (v_opIC (v_ixT (v_var rfl) v_ci fr0) (v_ixT (v_var rfl) v_ci fr0) (.inr ⟨by omega, by omega⟩)) (v_cons (v_opIC (v_ixT (v_var rfl) v_ci fr1) (v_ixT (v_var rfl) v_ci fr1) (.inr ⟨by omega, by omega⟩)) v_nil)) ?_)
    have m := R_part_of.mk (q.num * r.num) (q.den * r.den) dd.1 (by omega)
    rw [mul_mk] at m
    exact m
theorem c_l_lower (T : Txt K mg aN aL) (D : Dfn K mg "_law_lower" s_l_lower p_l_lower) : Cal P w K mg base CX0 1 "_law_lower" p_l_lower (SpD K R_below) := by
  refine D.sr sc_l_lower (fun _ _ h => by cases h; rfl) fun f cdv A outer s H E hr ds d hR => ?_
  cases hR with
  | mk q r hq hqr =>
    refine ⟨_, (pss_one (ps_ret (pe_cmpR op_lt (pe_op op_mul (pe_ix ix_seq (pv 0) pe_int (fun _ _ => rfl)) (pe_ix ix_seq (pv 1) pe_int (fun _ _ => rfl))) (pe_op op_mul (pe_ix ix_seq (pv 1) pe_int (fun _ _ => rfl)) (pe_ix ix_seq (pv 0) pe_int (fun _ _ => rfl))) (nomark _)))), ?_⟩
    have qd := hq.den
    have rd := hqr.den
    refine r_ret (v_is (v_opIB (v_opIC (v_ixT (v_var rfl) v_ci fr0) (v_ixT (v_var rfl) v_ci fr1) (.inr ⟨by omega, by omega⟩)) (v_opIC (v_ixT (v_var rfl) v_ci fr0) (v_ixT (v_var rfl) v_ci fr1) (.inr ⟨by omega, by omega⟩))) ?_)
    congr 1
    exact decide_eq_decide.mpr (Rat.lt_iff q r).symm
end
end K17

end
section
set_option maxHeartbeats 4200000
/-! # The rows' defs -/
namespace K17
open PySem PySem.Spec PyProof.Rows L2 Evl
def rowD (r : Row) : PyData := .tuple (r.map frD)
def rowsD (g : List Row) : PyData := .tuple (g.map rowD)
theorem row_tup (r : Row) : tupOnly (rowD r) = true := by
  show tupOnly.tupOnlys _ = true
  refine tupOnlys_all.mpr fun d hd => ?_
  obtain ⟨q, _, rfl⟩ := List.mem_map.mp hd
  exact fr_tup q
inductive R_sum : List PyData → PyData → Prop
  | mk (qs : List Rat) : (∀ q ∈ qs, Sm q) → (∀ i, Sm (sumL (qs.take i))) → qs.length ≤ 40000 → R_sum [.list (qs.map frD)] (frD (sumL qs))
inductive R_dot : List PyData → PyData → Prop
  | mk (c r : Row) : DotOk c r → c.length ≤ 40000 → R_dot [rowD c, rowD r] (frD (dotR c r))
inductive R_plus : List PyData → PyData → Prop
  | mk (a b : Row) : (∀ q ∈ a, Sm q) → (∀ q ∈ b, Sm q) → a.length ≤ 40000 → R_plus [rowD a, rowD b] (rowD (addR a b))
inductive R_times : List PyData → PyData → Prop
  | mk (a : Row) (m : Rat) : (∀ q ∈ a, Sm q) → Sm m → a.length ≤ 40000 → R_times [rowD a, frD m] (rowD (a.map fun q => q * m))
inductive R_made : List PyData → PyData → Prop
  | mk (g : List Row) (r : Row) : (∀ c ∈ g, DotOk c r ∧ c.length ≤ 40000) → g.length ≤ 40000 → R_made [rowsD g, rowD r] (.tuple ((g.map fun c => dotR c r).map frD))
inductive R_most (f : List Rat → Rat) : List PyData → PyData → Prop
  | tup (qs : List Rat) : qs ≠ [] → (∀ q ∈ qs, Sm q) → R_most f [.tuple (qs.map frD)] (frD (f qs))
  | lst (qs : List Rat) : qs ≠ [] → (∀ q ∈ qs, Sm q) → R_most f [.list (qs.map frD)] (frD (f qs))
inductive R_mostL (f : List Rat → Rat) : List PyData → PyData → Prop
  | lst (qs : List Rat) : qs ≠ [] → (∀ q ∈ qs, Sm q) → R_mostL f [.list (qs.map frD)] (frD (f qs))
inductive R_less_rows : List PyData → PyData → Prop
  | mk (a b : Row) : (∀ q ∈ a, Sm q) → (∀ q ∈ b, Sm q) → a.length ≤ 40000 → R_less_rows [rowD a, rowD b] (rowD (subR a b))
theorem getD_map {α : Type} {f : α → PyData} {l : List α} {i : Nat} {d : PyData} (h : (l.map f)[i]? = some d) : ∃ a, l[i]? = some a ∧ d = f a := by
  rw [List.getElem?_map] at h
  cases e : l[i]? with
  | none => rw [e] at h; exact nomatch h
  | some a => rw [e] at h; exact ⟨a, rfl, (Option.some.inj h).symm⟩
theorem fold_sm {f : Rat → Rat → Rat} (hf : ∀ a b, f a b = a ∨ f a b = b) {l : List Rat} {h : Rat} (hl : ∀ q ∈ l, Sm q) (hh : Sm h) : Sm (l.foldl f h) := by
  rcases fold_mem hf l h with e | e
  · rw [e]; exact hh
  · exact hl _ e
section
variable {P : Program} {w : World} {K : PySem.W.Frag} {mg : Str → Option Value} {base : Heap} {aN aL : Addr}
theorem c_part_sum (T : Txt K mg aN aL) (D : Dfn K mg "part_sum" s_part_sum p_part_sum) (C_part_plus : Cal P w K mg base CX0 2 "part_plus" p_part_plus (SpD K (R_two fun q r => q + r))) : Cal P w K mg base CX0 3 "part_sum" p_part_sum (SpD K R_sum) := by
  refine D.sr sc_part_sum (fun _ _ h => by cases h; rfl) fun f cdv A outer s H E hr ds d hR => ?_
  cases hR with
  | mk qs h1 h2 h3 =>
    refine ⟨_, (pss_cons (ps_set (i := 1) sc_part_sum.nd rfl (.inl rfl) (pe_glob (v := .ref aN) (by rfl) T.gNONE rfl))
      (pss_cons (ps_for PassesOwn.never rfl (pi_list (pv 0)) (pg_name (i := 2) sc_part_sum.nd rfl (.inl rfl)) (pss_one (ps_set (i := 1) sc_part_sum.nd rfl (.inl rfl) (pe_cal C_part_plus (hr.mono (by decide)) (pa_cons (pv 1) (pa_cons (pv 2) pa_nil))))))
      (pss_one (ps_ret (pv 1))))), ?_⟩
    refine r_seq (n_asg (v_of T.dNONE)) (r_seq (n_for (fun i => [some (.list (qs.map frD)), some (frD (sumL (qs.take i))), none]) (e_vl rfl) rfl ?_ rfl) (r_ret (v_var ?_)))
    · intro i d hd
      obtain ⟨q, hq, rfl⟩ := getD_map hd
      have hs := n_forget 2 (n_asg (i := 1) (v_call (R := R_two fun q r => q + r) (v_cons (v_var (K := K) (Δ := [some (.list (qs.map frD)), some (frD (sumL (qs.take i))), some (frD q)]) (i := 1) rfl) (v_cons (v_var (i := 2) rfl) v_nil)) (.mk _ _ (h2 i) (h1 q (List.mem_of_getElem? hq)))))
      rw [← sumL_snoc hq] at hs
      exact hs
    · show some (some (frD (sumL (qs.take (qs.map frD).length)))) = _
      rw [List.length_map]; rw [List.take_length]
theorem c_cells_dot (T : Txt K mg aN aL) (D : Dfn K mg "cells_dot" s_cells_dot p_cells_dot) (C_part_sum : Cal P w K mg base CX0 3 "part_sum" p_part_sum (SpD K R_sum)) (C_part_times : Cal P w K mg base CX0 2 "part_times" p_part_times (SpD K (R_two fun q r => q * r))) :
    Cal P w K mg base CX0 4 "cells_dot" p_cells_dot (SpD K R_dot) := by
  refine D.sr sc_cells_dot (fun _ _ h => by cases h; rfl) fun f cdv A outer s H E hr ds d hR => ?_
  cases hR with
  | mk c r h1 h2 =>
    refine ⟨_, (pss_one (ps_ret (pe_cal C_part_sum (hr.mono (by decide)) (pa_cons (pe_lc (own := [("near", 2), ("far", 3)]) (g := (gTup K 2 (gCons (gName 2) (gCons (gName 3) gNil)))) (tt := tYes) (by rfl) sc_cells_dot.nd (RZ.pi_zipA (by rfl) T.n_zip (pa_cons (pv 0) (pa_cons (pv 1) pa_nil))) (blkOk_by (own := [("near", 2), ("far", 3)]) (N := n_cells_dot) (sc := defScope s_cells_dot) (by decide +kernel)) (fun _ _ _ _ _ => (pg_tup (n := 2) rfl (pgs_cons (pg_name (i := 2) sc_cells_dot.nd rfl (.inl rfl) (.inr rfl)) (pgs_cons (pg_name (i := 3) sc_cells_dot.nd rfl (.inl rfl) (.inr rfl)) pgs_nil)))) (fun _ _ _ _ _ => pts_nil) (fun _ _ _ _ _ => (pe_cal C_part_times (hr.mono (by decide)) (pa_cons (pv 2) (pa_cons (pv 3) pa_nil))))) pa_nil)))), ?_⟩
    rw [← dot_prods]
    refine r_ret (v_call (v_cons (v_lcZ c r frD frD (fun a b => frD (a * b)) rfl rfl h2 (fun p _ => fr_tup _) (by decide) (by decide) fun p hp => ?_) v_nil) ?_)
    · exact v_call (v_cons (v_var rfl) (v_cons (v_var rfl) v_nil)) (R_two.mk (f := fun q r => q * r) p.1 p.2 (h1.oc _ (List.of_mem_zip hp).1) (h1.or _ (List.of_mem_zip hp).2))
    · have m := R_sum.mk (prods c r) h1.op h1.os (Nat.le_trans (prods_len c r) h2)
      unfold prods at m
      rw [List.map_map] at m
      exact m
theorem c_cells_plus (T : Txt K mg aN aL) (D : Dfn K mg "cells_plus" s_cells_plus p_cells_plus) (C_part_plus : Cal P w K mg base CX0 2 "part_plus" p_part_plus (SpD K (R_two fun q r => q + r))) : Cal P w K mg base CX0 3 "cells_plus" p_cells_plus (SpD K R_plus) := by
  refine D.sr sc_cells_plus (fun _ _ h => by cases h; rfl) fun f cdv A outer s H E hr ds d hR => ?_
  cases hR with
  | mk a b h1 h2 h3 =>
    refine ⟨_, (pss_one (ps_ret (pe_callTy call_tuple_of (by rfl) T.n_tuple (by decide +kernel) (pa_cons (pe_lc (own := [("near", 2), ("far", 3)]) (g := (gTup K 2 (gCons (gName 2) (gCons (gName 3) gNil)))) (tt := tYes) (by rfl) sc_cells_plus.nd (RZ.pi_zipA (by rfl) T.n_zip (pa_cons (pv 0) (pa_cons (pv 1) pa_nil))) (blkOk_by (own := [("near", 2), ("far", 3)]) (N := n_cells_plus) (sc := defScope s_cells_plus) (by decide +kernel)) (fun _ _ _ _ _ => (pg_tup (n := 2) rfl (pgs_cons (pg_name (i := 2) sc_cells_plus.nd rfl (.inl rfl) (.inr rfl)) (pgs_cons (pg_name (i := 3) sc_cells_plus.nd rfl (.inl rfl) (.inr rfl)) pgs_nil)))) (fun _ _ _ _ _ => pts_nil) (fun _ _ _ _ _ => (pe_cal C_part_plus (hr.mono (by decide)) (pa_cons (pv 2) (pa_cons (pv 3) pa_nil))))) pa_nil)))), ?_⟩
    refine r_ret (v_is (v_tupleOf (v_lcZ a b frD frD (fun a b => frD (a + b)) rfl rfl h3 (fun p _ => fr_tup _) (by decide) (by decide) fun p hp => ?_)) ?_)
    · exact v_call (v_cons (v_var rfl) (v_cons (v_var rfl) v_nil)) (R_two.mk (f := fun q r => q + r) p.1 p.2 (h1 _ (List.of_mem_zip hp).1) (h2 _ (List.of_mem_zip hp).2))
    · rw [← zip_add]
      unfold rowD
      rw [List.map_map]
      rfl
theorem c_cells_times (T : Txt K mg aN aL) (D : Dfn K mg "cells_times" s_cells_times p_cells_times) (C_part_times : Cal P w K mg base CX0 2 "part_times" p_part_times (SpD K (R_two fun q r => q * r))) : Cal P w K mg base CX0 3 "cells_times" p_cells_times (SpD K R_times) := by
  refine D.sr sc_cells_times (fun _ _ h => by cases h; rfl) fun f cdv A outer s H E hr ds d hR => ?_
  cases hR with
  | mk a m h1 h2 h3 =>
    refine ⟨_, (pss_one (ps_ret (pe_callTy call_tuple_of (by rfl) T.n_tuple (by decide +kernel) (pa_cons (pe_lc (own := [("part", 2)]) (g := (gName 2)) (tt := tYes) (by rfl) sc_cells_times.nd (pi_tup (pv 0)) (blkOk_by (own := [("part", 2)]) (N := n_cells_times) (sc := defScope s_cells_times) (by decide +kernel)) (fun _ _ _ _ _ => (pg_name (i := 2) sc_cells_times.nd rfl (.inl rfl) (.inr rfl))) (fun _ _ _ _ _ => pts_nil) (fun _ _ _ _ _ => (pe_cal C_part_times (hr.mono (by decide)) (pa_cons (pv 2) (pa_cons (pv 1) pa_nil))))) pa_nil)))), ?_⟩
    refine r_ret (v_is (v_tupleOf (v_lcT a frD (fun q => frD (q * m)) rfl h3 (fun p _ => fr_tup _) (by decide) fun q hq => ?_)) ?_)
    · exact v_call (v_cons (v_var rfl) (v_cons (v_var rfl) v_nil)) (R_two.mk (f := fun q r => q * r) q m (h1 q hq) h2)
    · unfold rowD
      rw [List.map_map]
      rfl
theorem c_cells_made (T : Txt K mg aN aL) (D : Dfn K mg "cells_made" s_cells_made p_cells_made) (C_cells_dot : Cal P w K mg base CX0 4 "cells_dot" p_cells_dot (SpD K R_dot)) : Cal P w K mg base CX0 5 "cells_made" p_cells_made (SpD K R_made) := by
  refine D.sr sc_cells_made (fun _ _ h => by cases h; rfl) fun f cdv A outer s H E hr ds d hR => ?_
  cases hR with
  | mk g r h1 h2 =>
    refine ⟨_, (pss_one (ps_ret (pe_callTy call_tuple_of (by rfl) T.n_tuple (by decide +kernel) (pa_cons (pe_lc (own := [("own", 2)]) (g := (gName 2)) (tt := tYes) (by rfl) sc_cells_made.nd (pi_tup (pv 0)) (blkOk_by (own := [("own", 2)]) (N := n_cells_made) (sc := defScope s_cells_made) (by decide +kernel)) (fun _ _ _ _ _ => (pg_name (i := 2) sc_cells_made.nd rfl (.inl rfl) (.inr rfl))) (fun _ _ _ _ _ => pts_nil) (fun _ _ _ _ _ => (pe_cal C_cells_dot (hr.mono (by decide)) (pa_cons (pv 2) (pa_cons (pv 1) pa_nil))))) pa_nil)))), ?_⟩
    refine r_ret (v_is (v_tupleOf (v_lcT g rowD (fun c => frD (dotR c r)) rfl h2 (fun p _ => fr_tup _) (by decide) fun c hc => ?_)) ?_)
    · exact v_call (v_cons (v_var rfl) (v_cons (v_var rfl) v_nil)) (.mk c r (h1 c hc).1 (h1 c hc).2)
    · rw [List.map_map]
      rfl
theorem most_ix {qs : List Rat} {x : Rat} {t : List Rat} (e : qs = x :: t) : (qs.map frD)[0]? = some (frD x) := by rw [e]; rfl
theorem most_turn {f : Rat → Rat → Rat} (hf : ∀ a b, f a b = a ∨ f a b = b) {x0 : Rat} {qs : List Rat} {b : Rat → Rat → Bool} (hb : ∀ u v, f u v = if b u v = true then v else u) {d0 : PyData} (hx : Sm x0) (hq : ∀ q ∈ qs, Sm q) {i : Nat} {q : Rat} (h : qs[i]? = some q) {tt : TT}
    (ht : ∀ u v, Sm u → Sm v → ET K tt [some d0, some (frD u), some (frD v)] (b u v)) :
    SN K (tIfS tt (tAsg (tVar 2) (gName 1)) tNext) [some d0, some (frD ((qs.take i).foldl f x0)), some (frD q)] [some d0, some (frD ((qs.take (i + 1)).foldl f x0)), none] := by
  have hm := List.mem_of_getElem? h
  have hs : Sm ((qs.take i).foldl f x0) := fold_sm hf (fun p hp => hq p (List.mem_of_mem_take hp)) hx
  rw [foldl_snoc f x0 h, hb]
  refine n_forget 2 (Δ1 := [some d0, some (frD (if b ((qs.take i).foldl f x0) q = true then q else (qs.take i).foldl f x0)), some (frD q)]) (n_if (ht _ _ hs (hq q hm)) (fun e => ?_) fun e => ?_)
  · rw [if_pos e]
    exact n_asg (v_var rfl)
  · rw [if_neg (by rw [e]; decide)]
    exact n_next
theorem c_greatest_part (T : Txt K mg aN aL) (D : Dfn K mg "greatest_part" s_greatest_part p_greatest_part) (C_part_below : Cal P w K mg base CX0 1 "part_below" p_part_below (SpD K R_below)) : Cal P w K mg base CX0 2 "greatest_part" p_greatest_part (SpD K (R_most maxL)) := by
  refine D.sr sc_greatest_part (fun _ _ h => by cases h <;> rfl) fun f cdv A outer s H E hr ds d hR => ?_
  refine ⟨_, (pss_cons (ps_set (i := 1) sc_greatest_part.nd rfl (.inl rfl) (pe_ix ix_seq (pv 0) pe_int (fun _ _ => rfl)))
      (pss_cons (ps_for PassesOwn.never rfl (pi_seq (pv 0)) (pg_name (i := 2) sc_greatest_part.nd rfl (.inl rfl)) (pss_one (ps_if (pt_val (pe_cal C_part_below (hr.mono (by decide)) (pa_cons (pv 1) (pa_cons (pv 2) pa_nil)))) (pss_one (ps_set (i := 1) sc_greatest_part.nd rfl (.inl rfl) (pv 2))) pss_nil)))
      (pss_one (ps_ret (pv 1))))), ?_⟩
  have tst : ∀ (d0 : PyData) u v, Sm u → Sm v → ET K (tB (tCall (SpD K R_below) [] E0 (tCons (tVar 1) (tCons (tVar 2) tNil)))) [some d0, some (frD u), some (frD v)] (decide (u < v)) := fun d0 u v hu hv =>
    b_B (v_call (v_cons (v_var rfl) (v_cons (v_var rfl) v_nil)) (.mk u v hu hv))
  cases hR with
  | tup qs h1 h2 =>
    obtain ⟨x, t, rfl⟩ := List.exists_cons_of_ne_nil h1
    refine r_seq (n_asg (v_ixT (v_var rfl) v_ci rfl)) (r_seq (n_for (fun i => [some (.tuple ((x :: t).map frD)), some (frD (((x :: t).take i).foldl fmax x)), none]) (e_st rfl) rfl ?_ rfl) (r_ret (v_var ?_)))
    · intro i d hd
      obtain ⟨q, hq, rfl⟩ := getD_map hd
      exact most_turn fmax_or (b := fun u v => decide (u < v)) (fun u v => by unfold fmax; simp) (h2 x List.mem_cons_self) h2 hq (tst _)
    · show some (some (frD (((x :: t).take ((x :: t).map frD).length).foldl fmax x))) = _
      rw [List.length_map, List.take_length, maxL_fold]
  | lst qs h1 h2 =>
    obtain ⟨x, t, rfl⟩ := List.exists_cons_of_ne_nil h1
    refine r_seq (n_asg (v_ixL (v_var rfl) v_ci rfl)) (r_seq (n_for (fun i => [some (.list ((x :: t).map frD)), some (frD (((x :: t).take i).foldl fmax x)), none]) (e_sl rfl) rfl ?_ rfl) (r_ret (v_var ?_)))
    · intro i d hd
      obtain ⟨q, hq, rfl⟩ := getD_map hd
      exact most_turn fmax_or (b := fun u v => decide (u < v)) (fun u v => by unfold fmax; simp) (h2 x List.mem_cons_self) h2 hq (tst _)
    · show some (some (frD (((x :: t).take ((x :: t).map frD).length).foldl fmax x))) = _
      rw [List.length_map, List.take_length, maxL_fold]
theorem c_least_part (T : Txt K mg aN aL) (D : Dfn K mg "least_part" s_least_part p_least_part) (C_part_below : Cal P w K mg base CX0 1 "part_below" p_part_below (SpD K R_below)) : Cal P w K mg base CX0 2 "least_part" p_least_part (SpD K (R_mostL minL)) := by
  refine D.sr sc_least_part (fun _ _ h => by cases h <;> rfl) fun f cdv A outer s H E hr ds d hR => ?_
  refine ⟨_, (pss_cons (ps_set (i := 1) sc_least_part.nd rfl (.inl rfl) (pe_ix ix_seq (pv 0) pe_int (fun _ _ => rfl)))
      (pss_cons (ps_for PassesOwn.never rfl (pi_list (pv 0)) (pg_name (i := 2) sc_least_part.nd rfl (.inl rfl)) (pss_one (ps_if (pt_val (pe_cal C_part_below (hr.mono (by decide)) (pa_cons (pv 2) (pa_cons (pv 1) pa_nil)))) (pss_one (ps_set (i := 1) sc_least_part.nd rfl (.inl rfl) (pv 2))) pss_nil)))
      (pss_one (ps_ret (pv 1))))), ?_⟩
  have tst : ∀ (d0 : PyData) u v, Sm u → Sm v → ET K (tB (tCall (SpD K R_below) [] E0 (tCons (tVar 2) (tCons (tVar 1) tNil)))) [some d0, some (frD u), some (frD v)] (decide (v < u)) := fun d0 u v hu hv =>
    b_B (v_call (v_cons (v_var rfl) (v_cons (v_var rfl) v_nil)) (.mk v u hv hu))
  cases hR with
  | lst qs h1 h2 =>
    obtain ⟨x, t, rfl⟩ := List.exists_cons_of_ne_nil h1
    refine r_seq (n_asg (v_ixL (v_var rfl) v_ci rfl)) (r_seq (n_for (fun i => [some (.list ((x :: t).map frD)), some (frD (((x :: t).take i).foldl fmin x)), none]) (e_vl rfl) rfl ?_ rfl) (r_ret (v_var ?_)))
    · intro i d hd
      obtain ⟨q, hq, rfl⟩ := getD_map hd
      exact most_turn fmin_or (b := fun u v => decide (v < u)) (fun u v => by unfold fmin; simp) (h2 x List.mem_cons_self) h2 hq (tst _)
    · show some (some (frD (((x :: t).take ((x :: t).map frD).length).foldl fmin x))) = _
      rw [List.length_map, List.take_length, minL_fold]
end
end K17

end
section
set_option maxHeartbeats 4200000
/-! # tupled, what a growth costs; the law's own cost -/
namespace K17
open PySem PySem.Spec PyProof.Rows L2 Evl
mutual
def tupD : PyData → PyData
  | .list xs => .tuple (tupDs xs)
  | .tuple xs => .tuple (tupDs xs)
  | .none => .none
  | .bool b => .bool b
  | .int i => .int i
  | .str x => .str x
  | .dict kvs => .dict kvs
def tupDs : List PyData → List PyData
  | [] => []
  | x :: xs => tupD x :: tupDs xs
end
mutual
def lstD : PyData → PyData
  | .list xs => .list (lstDs xs)
  | .tuple xs => .list (lstDs xs)
  | .none => .none
  | .bool b => .bool b
  | .int i => .int i
  | .str x => .str x
  | .dict kvs => .dict kvs
def lstDs : List PyData → List PyData
  | [] => []
  | x :: xs => lstD x :: lstDs xs
end
mutual
def okD : PyData → Bool
  | .list xs => decide (xs.length ≤ 1000) && okDs xs
  | .tuple xs => decide (xs.length ≤ 1000) && okDs xs
  | .dict _ => false
  | _ => true
def okDs : List PyData → Bool
  | [] => true
  | x :: xs => okD x && okDs xs
end
theorem tupDs_map : ∀ xs, tupDs xs = xs.map tupD
  | [] => rfl
  | x :: xs => by rw [tupDs, tupDs_map xs]; rfl
theorem lstDs_map : ∀ xs, lstDs xs = xs.map lstD
  | [] => rfl
  | x :: xs => by rw [lstDs, lstDs_map xs]; rfl
theorem okDs_mem : ∀ {xs : List PyData}, okDs xs = true → ∀ x ∈ xs, okD x = true
  | [], _, _, h => nomatch h
  | y :: ys, h, x, hx => by
    rw [okDs, Bool.and_eq_true] at h
    rcases List.eq_or_mem_of_mem_cons hx with e | hx
    · rw [e]; exact h.1
    · exact okDs_mem h.2 x hx
mutual
theorem tup_only : ∀ d, okD d = true → tupOnly (tupD d) = true
  | .list xs, h => by rw [tupD]; rw [okD, Bool.and_eq_true] at h; exact tups_only xs h.2
  | .tuple xs, h => by rw [tupD]; rw [okD, Bool.and_eq_true] at h; exact tups_only xs h.2
  | .none, _ => rfl
  | .bool _, _ => rfl
  | .int _, _ => rfl
  | .str _, _ => rfl
  | .dict _, h => by simp [okD] at h
theorem tups_only : ∀ ds, okDs ds = true → tupOnly.tupOnlys (tupDs ds) = true
  | [], _ => rfl
  | d :: ds, h => by
    rw [okDs, Bool.and_eq_true] at h
    rw [tupDs, tupOnly.tupOnlys, tup_only d h.1, tups_only ds h.2]
    rfl
end
mutual
theorem tup_same : ∀ d, tupOnly d = true → tupD d = d
  | .list xs, h => by simp [tupOnly] at h
  | .tuple xs, h => by rw [tupD, tups_same xs (by simpa [tupOnly] using h)]
  | .none, _ => rfl
  | .bool _, _ => rfl
  | .int _, _ => rfl
  | .str _, _ => rfl
  | .dict _, h => by simp [tupOnly] at h
theorem tups_same : ∀ ds, tupOnly.tupOnlys ds = true → tupDs ds = ds
  | [], _ => rfl
  | d :: ds, h => by
    rw [tupOnly.tupOnlys, Bool.and_eq_true] at h
    rw [tupDs, tup_same d h.1, tups_same ds h.2]
end
mutual
theorem tup_lst : ∀ d, tupD (lstD d) = tupD d
  | .list xs => by rw [lstD, tupD, tupD, tups_lst xs]
  | .tuple xs => by rw [lstD, tupD, tupD, tups_lst xs]
  | .none => rfl
  | .bool _ => rfl
  | .int _ => rfl
  | .str _ => rfl
  | .dict _ => rfl
theorem tups_lst : ∀ ds, tupDs (lstDs ds) = tupDs ds
  | [] => rfl
  | d :: ds => by rw [lstDs, tupDs, tupDs, tup_lst d, tups_lst ds]
end
mutual
theorem ok_tup : ∀ d, okD (tupD d) = okD d
  | .list xs => by rw [tupD, okD, okD, oks_tup xs, tupDs_map, List.length_map]
  | .tuple xs => by rw [tupD, okD, okD, oks_tup xs, tupDs_map, List.length_map]
  | .none => rfl
  | .bool _ => rfl
  | .int _ => rfl
  | .str _ => rfl
  | .dict _ => rfl
theorem oks_tup : ∀ ds, okDs (tupDs ds) = okDs ds
  | [] => rfl
  | d :: ds => by rw [tupDs, okDs, okDs, ok_tup d, oks_tup ds]
end
mutual
theorem depth_tup : ∀ d, (tupD d).depth = d.depth
  | .list xs => by rw [tupD, PyData.depth, PyData.depth, depths_tup xs]
  | .tuple xs => by rw [tupD, PyData.depth, PyData.depth, depths_tup xs]
  | .none => rfl
  | .bool _ => rfl
  | .int _ => rfl
  | .str _ => rfl
  | .dict _ => rfl
theorem depths_tup : ∀ ds, PyData.depthAll (tupDs ds) = PyData.depthAll ds
  | [] => rfl
  | d :: ds => by rw [tupDs, PyData.depthAll, PyData.depthAll, depth_tup d, depths_tup ds]
end
theorem depth_mem : ∀ {xs : List PyData} {x : PyData}, x ∈ xs → x.depth ≤ PyData.depthAll xs
  | y :: ys, x, h => by
    rw [PyData.depthAll]
    rcases List.eq_or_mem_of_mem_cons h with e | h
    · rw [e]; exact Nat.le_max_left _ _
    · exact Nat.le_trans (depth_mem h) (Nat.le_max_right _ _)
theorem depths_le {xs : List PyData} {n : Nat} (h : ∀ x ∈ xs, x.depth ≤ n) : PyData.depthAll xs ≤ n := by
  induction xs with
  | nil => exact Nat.zero_le _
  | cons y ys ih =>
    rw [PyData.depthAll]
    exact Nat.max_le.mpr ⟨h y List.mem_cons_self, ih fun x hx => h x (List.mem_cons_of_mem _ hx)⟩
theorem okDs_of {xs : List PyData} (h : ∀ x ∈ xs, okD x = true) : okDs xs = true := by
  induction xs with
  | nil => rfl
  | cons y ys ih => rw [okDs, h y List.mem_cons_self, ih fun x hx => h x (List.mem_cons_of_mem _ hx)]; rfl
theorem fr_ok (q : Rat) : okD (frD q) = true := rfl
theorem fr_depth (q : Rat) : (frD q).depth = 1 := rfl
theorem row_ok {r : Row} (hl : r.length ≤ 1000) : okD (rowD r) = true := by
  show (decide ((r.map frD).length ≤ 1000) && okDs _) = true
  rw [List.length_map, decide_eq_true hl, Bool.true_and]
  refine okDs_of fun d hd => ?_
  obtain ⟨q, _, rfl⟩ := List.mem_map.mp hd
  exact fr_ok q
theorem row_depth (r : Row) : (rowD r).depth ≤ 2 := by
  show PyData.depthAll _ + 1 ≤ 2
  have := depths_le (xs := r.map frD) (n := 1) fun d hd => by
    obtain ⟨q, _, rfl⟩ := List.mem_map.mp hd
    exact Nat.le_of_eq (fr_depth q)
  omega
theorem rows_ok {g : List Row} (hl : g.length ≤ 1000) (h : ∀ r ∈ g, r.length ≤ 1000) : okD (rowsD g) = true := by
  show (decide ((g.map rowD).length ≤ 1000) && okDs _) = true
  rw [List.length_map, decide_eq_true hl, Bool.true_and]
  refine okDs_of fun d hd => ?_
  obtain ⟨q, hq, rfl⟩ := List.mem_map.mp hd; exact row_ok (h q hq)
theorem rows_depth (g : List Row) : (rowsD g).depth ≤ 3 := by
  show PyData.depthAll _ + 1 ≤ 3
  have := depths_le (xs := g.map rowD) (n := 2) fun d hd => by
    obtain ⟨q, _, rfl⟩ := List.mem_map.mp hd
    exact row_depth q
  omega
theorem rows_tup (g : List Row) : tupOnly (rowsD g) = true := by
  show tupOnly.tupOnlys _ = true
  refine tupOnlys_all.mpr fun d hd => ?_
  obtain ⟨q, _, rfl⟩ := List.mem_map.mp hd
  exact row_tup q
/-- what tupled is asked of: nested so deep -/
inductive R_tup (k : Nat) : List PyData → PyData → Prop
  | mk (x : PyData) : okD x = true → x.depth < k → R_tup k [x] (tupD x)
theorem R_tup.of {dg d : PyData} {k : Nat} (h : tupD dg = d) (ho : okD d = true) (hk : d.depth < k) : R_tup k [dg] d := by
  rw [← h] at ho hk ⊢
  rw [depth_tup] at hk
  rw [ok_tup] at ho
  exact .mk dg ho hk
theorem R_tup.rows {dg : PyData} {g : List Row} {k : Nat} (h : tupD dg = rowsD g) (hl : g.length ≤ 1000) (hr : ∀ r ∈ g, r.length ≤ 1000) (hk : 4 ≤ k) : R_tup k [dg] (rowsD g) :=
  .of h (rows_ok hl hr) (Nat.lt_of_le_of_lt (rows_depth g) hk)
theorem R_tup.row {dg : PyData} {g : Row} {k : Nat} (h : tupD dg = rowD g) (hl : g.length ≤ 1000) (hk : 4 ≤ k) : R_tup k [dg] (rowD g) :=
  .of h (row_ok hl) (Nat.lt_of_le_of_lt (row_depth g) (by omega))
theorem R_tup.fr {dg : PyData} {q : Rat} {k : Nat} (h : tupD dg = frD q) (hk : 4 ≤ k) : R_tup k [dg] (frD q) :=
  .of h (fr_ok q) (by rw [fr_depth]; omega)
section
variable {P : Program} {w : World} {K : PySem.W.Frag} {mg : Str → Option Value} {base : Heap} {aN aL : Addr} {n : Nat}
/-- a promise that is never called on -/
theorem Dfn.never {name : Str} {st : Stmt} {ps : List Str} {sp : Sp} (D : Dfn K mg name st ps) (h : ∀ vs H Q E, ¬ sp vs H Q E) : Cal P w K mg base CX0 0 name ps sp := by
  obtain ⟨f, fd, F, m, b⟩ := D.ex
  exact ⟨f, fd, ⟨fun vs H Q E z => absurd z (h vs H Q E), fun A outer s H args us vs Q E _ _ _ _ z => absurd z (h vs H Q E)⟩, m, F.kp, b⟩
theorem c_tupled (T : Txt K mg aN aL) (D : Dfn K mg "tupled" s_tupled p_tupled) : ∀ k, Cal P w K mg base CX0 k "tupled" p_tupled (SpD K (R_tup k))
  | 0 => D.never fun vs H Q E ⟨ds, d, h1, h2, h3⟩ => by
    cases h2 with
    | mk x h4 h5 => omega
  | k + 1 => by
    have C_tupled := c_tupled T D k
    refine D.sr sc_tupled (fun _ _ h => by cases h; rfl) fun f cdv A outer s H E hr ds d hR => ?_
    cases hR with
    | mk x h1 h2 =>
      refine ⟨_, (pss_one (ps_ret (pe_ifExp (pt_val (pe_callB call_isiT (by rfl) T.n_isinstance (by decide +kernel) (pa_cons (pv 0) (pa_cons (pe_tup (pa_cons (pe_bltn (v := .ty "list") (by rfl) T.n_list (by decide +kernel) rfl) (pa_cons (pe_bltn (v := .ty "tuple") (by rfl) T.n_tuple (by decide +kernel) rfl) pa_nil))) pa_nil)))) (pe_callTy call_tuple_of (by rfl) T.n_tuple (by decide +kernel) (pa_cons (pe_lc (own := [("part", 1)]) (g := (gName 1)) (tt := tYes) (by rfl) sc_tupled.nd (pi_seq (pv 0)) (blkOk_by (own := [("part", 1)]) (N := n_tupled) (sc := defScope s_tupled) (by decide +kernel)) (fun _ _ _ _ _ => (pg_name (i := 1) sc_tupled.nd rfl (.inl rfl) (.inr rfl))) (fun _ _ _ _ _ => pts_nil) (fun _ _ _ _ _ => (pe_cal C_tupled hr (pa_cons (pv 1) pa_nil)))) pa_nil)) (pv 0)))), ?_⟩
      refine r_ret (v_if (b_B (v_isSeq (v_var rfl))) (fun e => ?_) fun e => ?_)
      · have go : ∀ xs : List PyData, tupD x = .tuple (tupDs xs) → (decide (xs.length ≤ 1000) && okDs xs) = true → PyData.depthAll xs + 1 < k + 1 → (x = .tuple xs ∨ x = .list xs) →
            EV K (tCB (rTupS K) (tCons (tLc (iSeq K (tVar 0)) (gName 1) tYes (tCall (SpD K (R_tup k)) [] E0 (tCons (tVar 1) tNil)) [1]) tNil)) [some x, none] (tupD x) := fun xs e1 e2 e3 e5 => by
          rw [Bool.and_eq_true, decide_eq_true_eq] at e2
          rw [e1, tupDs_map]
          refine v_tupleOf (v_src (ds := xs) _ (fun σ H s => e5.elim (fun z => e_st (by rw [z]; rfl) σ H s) fun z => e_sl (by rw [z]; rfl) σ H s) tupD (by omega) (fun d hd => tup_only d (okDs_mem e2.2 d hd)) (by decide) fun d hd => ?_)
          exact v_call (v_cons (v_var rfl) v_nil) (.mk d (okDs_mem e2.2 d hd) (by have := depth_mem hd; omega))
        cases x with
        | list xs => exact go xs (by rw [tupD]) h1 h2 (.inr rfl)
        | tuple xs => exact go xs (by rw [tupD]) h1 h2 (.inl rfl)
        | none => exact nomatch e
        | bool b => exact nomatch e
        | int i => exact nomatch e
        | str i => exact nomatch e
        | dict i => exact nomatch e
      · cases x with
        | list xs => exact nomatch e
        | tuple xs => exact nomatch e
        | none => exact v_var rfl
        | bool b => exact v_var rfl
        | int i => exact v_var rfl
        | str i => exact v_var rfl
        | dict i => simp [okD] at h1
end
end K17

end
section
set_option maxHeartbeats 4200000
/-! # What a growth costs: the program's way and the law's own -/
namespace K17
open PySem PySem.Spec PyProof.Rows L2 Evl
inductive R_cost : List PyData → PyData → Prop
  | mk (n : Nat) (g : List Row) (r : Row) (dg dr : PyData) : tupD dg = rowsD g → tupD dr = rowD r → GOk n g → RowBd 2 6 r → r.length ≤ 2 → R_cost [dg, dr] (frD (costR g r))
inductive R_rise : List PyData → PyData → Prop
  | mk (n : Nat) (g : List Row) (p q : Row) (dg : PyData) : tupD dg = rowsD g → GOk n g → PtOk n p → PtOk n q → R_rise [dg, rowD p, rowD q] (frD (rise g p q))
theorem GOk.rl {n : Nat} {g : List Row} (h : GOk n g) : ∀ r ∈ g, r.length ≤ 1000 := fun r hr => by
  have := h.len r hr
  have := h.n1
  omega
theorem GOk.tup {n k : Nat} {g : List Row} {dg : PyData} (h : GOk n g) (e : tupD dg = rowsD g) (hk : 4 ≤ k) : R_tup k [dg] (rowsD g) := .rows e (by have := h.few; omega) h.rl hk
theorem GOk.dot {n : Nat} {g : List Row} {r : Row} (h : GOk n g) (hr : RowBd 2 6 r) : ∀ c ∈ g, DotOk c r ∧ c.length ≤ 40000 := fun c hc =>
  ⟨dotOk (h.bd c hc) hr (by rw [h.len c hc]; exact h.n1), by have := h.len c hc; have := h.n1; omega⟩
theorem GOk.dots {n : Nat} {g : List Row} {r : Row} (h : GOk n g) (hr : RowBd 2 6 r) : ∀ q ∈ g.map (fun c => dotR c r), Sm q := fun q hq => by
  obtain ⟨c, hc, rfl⟩ := List.mem_map.mp hq
  exact (dot_bd (h.bd c hc) hr (by rw [h.len c hc]; exact h.n1)).sm'
theorem PtOk.sm {n : Nat} {p : Row} (h : PtOk n p) : ∀ q ∈ p, Sm q := fun q hq => (h.bd q hq).sm'
theorem bd_less {r : Row} {D B : Nat} (h : RowBd D B r) : RowBd D B (r.map fun q => q * (-1)) := fun q hq => by
  obtain ⟨p, hp, rfl⟩ := List.mem_map.mp hq; have e : p * (-1) = -p := by grind
  rw [e]
  exact (h p hp).neg
theorem subR_len : ∀ (a b : Row) (n : Nat), a.length = n → b.length = n → (subR a b).length = n := fun a b n h g => by
  unfold subR
  rw [List.length_zipWith]
  omega
theorem pt_sub {n : Nat} {p q : Row} (hp : PtOk n p) (hq : PtOk n q) : RowBd 2 6 (subR q p) := sub_bd hq.bd hp.bd
section
variable {P : Program} {w : World} {K : PySem.W.Frag} {mg : Str → Option Value} {base : Heap} {aN aL : Addr}
theorem c_cost (T : Txt K mg aN aL) (D : Dfn K mg "cost" s_cost p_cost) (C_tupled : Cal P w K mg base CX0 4 "tupled" p_tupled (SpD K (R_tup 4))) (C_greatest_part : Cal P w K mg base CX0 2 "greatest_part" p_greatest_part (SpD K (R_most maxL)))
    (C_cells_made : Cal P w K mg base CX0 5 "cells_made" p_cells_made (SpD K R_made)) : Cal P w K mg base CX0 6 "cost" p_cost (SpD K R_cost) := by
  refine D.sr sc_cost (fun _ _ h => by cases h; rfl) fun f cdv A outer s H E hr ds d hR => ?_
  cases hR with
  | mk n g r dg dr h1 h2 h3 h4 h5 =>
    refine ⟨_, (pss_one (ps_ret (pe_cal C_greatest_part (hr.mono (by decide)) (pa_cons (pe_cal C_cells_made (hr.mono (by decide)) (pa_cons (pe_cal C_tupled (hr.mono (by decide)) (pa_cons (pv 0) pa_nil)) (pa_cons (pe_cal C_tupled (hr.mono (by decide)) (pa_cons (pv 1) pa_nil)) pa_nil))) pa_nil)))), ?_⟩
    refine r_ret (v_call (v_cons (v_call (v_cons (v_call (v_cons (v_var rfl) v_nil) (h3.tup h1 (by decide))) (v_cons (v_call (v_cons (v_var rfl) v_nil) (.row h2 (by omega) (by decide))) v_nil)) (.mk g r (h3.dot h4) (by have := h3.few; omega))) v_nil) ?_)
    exact .tup _ (by simpa using h3.ne) (h3.dots h4)
theorem c_cost_between (T : Txt K mg aN aL) (D : Dfn K mg "cost_between" s_cost_between p_cost_between) (C_cost : Cal P w K mg base CX0 6 "cost" p_cost (SpD K R_cost)) (C_cells_plus : Cal P w K mg base CX0 3 "cells_plus" p_cells_plus (SpD K R_plus))
    (C_cells_times : Cal P w K mg base CX0 3 "cells_times" p_cells_times (SpD K R_times)) : Cal P w K mg base CX0 7 "cost_between" p_cost_between (SpD K R_rise) := by
  refine D.sr sc_cost_between (fun _ _ h => by cases h; rfl) fun f cdv A outer s H E hr ds d hR => ?_
  cases hR with
  | mk n g p q dg h1 h2 h3 h4 =>
    refine ⟨_, (pss_one (ps_ret (pe_cal C_cost (hr.mono (by decide)) (pa_cons (pv 0) (pa_cons (pe_cal C_cells_plus (hr.mono (by decide)) (pa_cons (pv 2) (pa_cons (pe_cal C_cells_times (hr.mono (by decide)) (pa_cons (pv 1) (pa_cons (pe_glob (v := .ref aL) (by rfl) T.gLESS rfl) pa_nil))) pa_nil))) pa_nil))))), ?_⟩
    have pl := h3.len
    have ql := h4.len
    have n2 := h2.n1
    show SR K _ _ (frD (costR g (subR q p)))
    rw [← add_less]
    refine r_ret (v_call (v_cons (v_var rfl) (v_cons (v_call (v_cons (v_var rfl) (v_cons (v_call (v_cons (v_var rfl) (v_cons (v_of T.dLESS) v_nil)) (.mk p (-1) h3.sm (by unfold Sm; decide +kernel) (by omega))) v_nil)) (.mk q _ h4.sm (fun z hz => (bd_less h3.bd z hz).sm') (by omega))) v_nil)) ?_)
    refine .mk n g _ dg _ h1 (tup_same _ (row_tup _)) h2 ?_ ?_
    · rw [add_less]; exact pt_sub h3 h4
    · rw [add_less, subR_len q p n ql pl]; exact n2
/-! ### the law's own -/
inductive R_dotL : List PyData → PyData → Prop
  | mk (c r : Row) : DotOk c r → R_dotL [rowD c, rowD r] (frD (dotR c r))
theorem take_prods (c r : Row) {i : Nat} {a b : Rat} (h1 : c[i]? = some a) (h2 : r[i]? = some b) : (prods c r)[i]? = some (a * b) := by
  unfold prods
  have z : (c.zip r)[i]? = some (a, b) := List.getElem?_zip_eq_some.mpr ⟨h1, h2⟩
  rw [List.getElem?_map, z]
  rfl
theorem c_l_dot (T : Txt K mg aN aL) (D : Dfn K mg "_law_dot" s_l_dot p_l_dot) (C_l_sum : Cal P w K mg base CX0 3 "_law_sum" p_l_sum (SpD K (R_two fun q r => q + r))) (C_l_mul : Cal P w K mg base CX0 3 "_law_mul" p_l_mul (SpD K (R_two fun q r => q * r))) :
    Cal P w K mg base CX0 4 "_law_dot" p_l_dot (SpD K R_dotL) := by
  refine D.sr sc_l_dot (fun _ _ h => by cases h; rfl) fun f cdv A outer s H E hr ds d hR => ?_
  cases hR with
  | mk c r h =>
    refine ⟨_, (pss_cons (ps_set (i := 2) sc_l_dot.nd rfl (.inl rfl) (pe_tup (pa_cons pe_int (pa_cons pe_int pa_nil))))
      (pss_cons (ps_for PassesOwn.never rfl (RZ.pi_zipA (by rfl) T.n_zip (pa_cons (pv 0) (pa_cons (pv 1) pa_nil))) (pg_tup (n := 2) rfl (pgs_cons (pg_name (i := 3) sc_l_dot.nd rfl (.inl rfl)) (pgs_cons (pg_name (i := 4) sc_l_dot.nd rfl (.inl rfl)) pgs_nil))) (pss_one (ps_if (PW.pt (pw_and (pt_cmpR op_ne (pe_ix ix_seq (pv 3) pe_int (fun _ _ => rfl)) pe_int (nomark _)) (pw_and1 (pt_cmpR op_ne (pe_ix ix_seq (pv 4) pe_int (fun _ _ => rfl)) pe_int (nomark _))))) (pss_one (ps_set (i := 2) sc_l_dot.nd rfl (.inl rfl) (pe_cal C_l_sum (hr.mono (by decide)) (pa_cons (pv 2) (pa_cons (pe_cal C_l_mul (hr.mono (by decide)) (pa_cons (pv 3) (pa_cons (pv 4) pa_nil))) pa_nil))))) pss_nil)))
      (pss_one (ps_ret (pv 2))))), ?_⟩
    refine r_seq (n_asg (v_is (v_tup (v_cons v_ci (v_cons v_ci v_nil))) (show _ = frD (sumL ((prods c r).take 0)) from rfl))) (r_seq (n_forP (ps := (c.map frD).zip (r.map frD)) (fun i => [some (rowD c), some (rowD r), some (frD (sumL ((prods c r).take i))), none, none]) (e_zip rfl rfl) rfl ?_ rfl) (r_ret (v_var ?_)))
    · intro i p hp
      obtain ⟨h1, h2⟩ := List.getElem?_zip_eq_some.mp hp
      obtain ⟨a, ha, e1⟩ := getD_map h1
      obtain ⟨b, hb, e2⟩ := getD_map h2
      obtain ⟨p1, p2⟩ := p
      dsimp only at e1 e2
      subst e1
      subst e2
      have hm := take_prods c r ha hb
      have sa := h.oc a (List.mem_of_getElem? ha)
      have sb := h.or b (List.mem_of_getElem? hb)
      have sp := h.op _ (List.mem_of_getElem? hm)
      rw [sumL_snoc hm]
      refine n_forget 4 (Δ1 := [some (rowD c), some (rowD r), some (frD (sumL ((prods c r).take i) + a * b)), none, some (frD b)]) (n_forget 3 (Δ1 := [some (rowD c), some (rowD r), some (frD (sumL ((prods c r).take i) + a * b)), some (frD a), some (frD b)]) ?_)
      refine n_if (b_and (b_test (v_neI (v_ixT (v_var rfl) v_ci fr0) v_ci)) fun _ => b_test (v_neI (v_ixT (v_var rfl) v_ci fr0) v_ci)) (fun e => ?_) fun e => ?_
      · exact n_asg (v_call (v_cons (v_var rfl) (v_cons (v_call (v_cons (v_var rfl) (v_cons (v_var rfl) v_nil)) (R_two.mk (f := fun q r => q * r) a b sa sb)) v_nil)) (R_two.mk (f := fun q r => q + r) _ _ (h.os i) sp))
      · have z : a * b = 0 := by
          rw [Bool.and_eq_false_iff] at e
          rcases e with e | e
          · have : a.num = 0 := by simpa using e
            rw [Rat.num_eq_zero.mp this]; grind
          · have : b.num = 0 := by simpa using e
            rw [Rat.num_eq_zero.mp this]; grind
        rw [z, Rat.add_zero]
        exact n_next
    · have e : ((c.map frD).zip (r.map frD)).length = (prods c r).length := by simp [prods]
      show some (some (frD (sumL ((prods c r).take ((c.map frD).zip (r.map frD)).length)))) = _
      rw [e, List.take_length, dot_prods]
theorem c_l_many (T : Txt K mg aN aL) (D : Dfn K mg "_law_many" s_l_many p_l_many) (C_l_mul : Cal P w K mg base CX0 3 "_law_mul" p_l_mul (SpD K (R_two fun q r => q * r))) : Cal P w K mg base CX0 4 "_law_many" p_l_many (SpD K R_times) := by
  refine D.sr sc_l_many (fun _ _ h => by cases h; rfl) fun f cdv A outer s H E hr ds d hR => ?_
  cases hR with
  | mk a m h1 h2 h3 =>
    refine ⟨_, (pss_one (ps_ret (pe_callTy call_tuple_of (by rfl) T.n_tuple (by decide +kernel) (pa_cons (pe_lc (own := [("_law_bit", 2)]) (g := (gName 2)) (tt := tYes) (by rfl) sc_l_many.nd (pi_tup (pv 0)) (blkOk_by (own := [("_law_bit", 2)]) (N := n_l_many) (sc := defScope s_l_many) (by decide +kernel)) (fun _ _ _ _ _ => (pg_name (i := 2) sc_l_many.nd rfl (.inl rfl) (.inr rfl))) (fun _ _ _ _ _ => pts_nil) (fun _ _ _ _ _ => (pe_cal C_l_mul (hr.mono (by decide)) (pa_cons (pv 2) (pa_cons (pv 1) pa_nil))))) pa_nil)))), ?_⟩
    refine r_ret (v_is (v_tupleOf (v_lcT a frD (fun q => frD (q * m)) rfl h3 (fun p _ => fr_tup _) (by decide) fun q hq => ?_)) ?_)
    · exact v_call (v_cons (v_var rfl) (v_cons (v_var rfl) v_nil)) (R_two.mk (f := fun q r => q * r) q m (h1 q hq) h2)
    · unfold rowD
      rw [List.map_map]
      rfl
theorem c_l_less_rows (T : Txt K mg aN aL) (D : Dfn K mg "_law_less_rows" s_l_less_rows p_l_less_rows) (C_l_less_by : Cal P w K mg base CX0 3 "_law_less_by" p_l_less_by (SpD K (R_two fun q r => q - r))) : Cal P w K mg base CX0 4 "_law_less_rows" p_l_less_rows (SpD K R_less_rows) := by
  refine D.sr sc_l_less_rows (fun _ _ h => by cases h; rfl) fun f cdv A outer s H E hr ds d hR => ?_
  cases hR with
  | mk a b h1 h2 h3 =>
    refine ⟨_, (pss_one (ps_ret (pe_callTy call_tuple_of (by rfl) T.n_tuple (by decide +kernel) (pa_cons (pe_lc (own := [("_law_near_so", 2), ("_law_far_so", 3)]) (g := (gTup K 2 (gCons (gName 2) (gCons (gName 3) gNil)))) (tt := tYes) (by rfl) sc_l_less_rows.nd (RZ.pi_zipA (by rfl) T.n_zip (pa_cons (pv 0) (pa_cons (pv 1) pa_nil))) (blkOk_by (own := [("_law_near_so", 2), ("_law_far_so", 3)]) (N := n_l_less_rows) (sc := defScope s_l_less_rows) (by decide +kernel)) (fun _ _ _ _ _ => (pg_tup (n := 2) rfl (pgs_cons (pg_name (i := 2) sc_l_less_rows.nd rfl (.inl rfl) (.inr rfl)) (pgs_cons (pg_name (i := 3) sc_l_less_rows.nd rfl (.inl rfl) (.inr rfl)) pgs_nil)))) (fun _ _ _ _ _ => pts_nil) (fun _ _ _ _ _ => (pe_cal C_l_less_by (hr.mono (by decide)) (pa_cons (pv 2) (pa_cons (pv 3) pa_nil))))) pa_nil)))), ?_⟩
    refine r_ret (v_is (v_tupleOf (v_lcZ a b frD frD (fun a b => frD (a - b)) rfl rfl h3 (fun p _ => fr_tup _) (by decide) (by decide) fun p hp => ?_)) ?_)
    · exact v_call (v_cons (v_var rfl) (v_cons (v_var rfl) v_nil)) (R_two.mk (f := fun q r => q - r) p.1 p.2 (h1 _ (List.of_mem_zip hp).1) (h2 _ (List.of_mem_zip hp).2))
    · rw [← zip_sub]
      unfold rowD
      rw [List.map_map]
      rfl
/-- what is found behind i items: nothing, or the fold from the first on -/
def got (f : Rat → Rat → Rat) (qs : List Rat) (x : Rat) : Nat → PyData
  | 0 => .none
  | i + 1 => frD ((qs.take (i + 1)).foldl f x)
theorem found_turn {f : Rat → Rat → Rat} (hf : ∀ a b, f a b = a ∨ f a b = b) (hs : ∀ a, f a a = a) {x : Rat} {t : List Rat} {b : Rat → Rat → Bool} (hb : ∀ u v, f u v = if b u v = true then v else u) (hq : ∀ q ∈ x :: t, Sm q) {i : Nat} {q : Rat} (h : (x :: t)[i]? = some q) {te : TE} {d0 : PyData}
    (ht : ∀ u v, Sm u → Sm v → EV K te [some d0, some (frD u), some (frD v)] (.bool (b u v))) :
    SN K (tAsg (tIf (tOr (tB (tIsN (tVar 1))) (tB te)) (tVar 2) (tVar 1)) (gName 1)) [some d0, some (got f (x :: t) x i), some (frD q)] [some d0, some (got f (x :: t) x (i + 1)), none] := by
  have hm := List.mem_of_getElem? h
  cases i with
  | zero =>
    have e : q = x := by simpa using h.symm
    subst e
    refine n_forget 2 (Δ1 := [some d0, some (got f (q :: t) q 1), some (frD q)]) (n_asg (v_if (b := isNone .none || true) (b_or (b_B (v_isN (v_var rfl))) fun e => nomatch e) (fun _ => ?_) fun e => nomatch e))
    have e : got f (q :: t) q 1 = frD q := by
      show frD ((List.take 1 (q :: t)).foldl f q) = _
      rw [List.take_succ_cons, List.take_zero, List.foldl_cons, List.foldl_nil, hs]
    rw [e]
    exact v_var rfl
  | succ i =>
    have s1 : Sm (((x :: t).take (i + 1)).foldl f x) := fold_sm hf (fun p hp => hq p (List.mem_of_mem_take hp)) (hq x List.mem_cons_self)
    have e : got f (x :: t) x (i + 1 + 1) = frD (if b (((x :: t).take (i + 1)).foldl f x) q = true then q else ((x :: t).take (i + 1)).foldl f x) := by
      show frD (((x :: t).take (i + 1 + 1)).foldl f x) = _
      rw [foldl_snoc f x h, hb]
    rw [e]
    refine n_forget 2 (Δ1 := [some d0, some (frD (if b (((x :: t).take (i + 1)).foldl f x) q = true then q else ((x :: t).take (i + 1)).foldl f x)), some (frD q)]) (n_asg (v_if (b_or (b_B (v_isN (v_var rfl))) fun _ => b_B (ht _ _ s1 (hq q hm))) (fun e => ?_) fun e => ?_))
    · have e' : b (((x :: t).take (i + 1)).foldl f x) q = true := by simpa [isNone, got, frD] using e
      rw [if_pos e']
      exact v_var rfl
    · have e' : b (((x :: t).take (i + 1)).foldl f x) q = false := by simpa [isNone, got, frD] using e
      rw [if_neg (by rw [e']; decide)]
      exact v_var rfl
theorem c_l_highest (T : Txt K mg aN aL) (D : Dfn K mg "_law_highest" s_l_highest p_l_highest) (C_l_lower : Cal P w K mg base CX0 1 "_law_lower" p_l_lower (SpD K R_below)) : Cal P w K mg base CX0 2 "_law_highest" p_l_highest (SpD K (R_mostL maxL)) := by
  refine D.sr sc_l_highest (fun _ _ h => by cases h <;> rfl) fun f cdv A outer s H E hr ds d hR => ?_
  refine ⟨_, (pss_cons (ps_set (i := 1) sc_l_highest.nd rfl (.inl rfl) pe_non)
      (pss_cons (ps_for PassesOwn.never rfl (pi_list (pv 0)) (pg_name (i := 2) sc_l_highest.nd rfl (.inl rfl)) (pss_one (ps_set (i := 1) sc_l_highest.nd rfl (.inl rfl) (pe_ifExp (PW.pt (pw_or (pt_cmp (pc_isN (pv 1))) (pw_or1 (pt_val (pe_cal C_l_lower (hr.mono (by decide)) (pa_cons (pv 1) (pa_cons (pv 2) pa_nil))))))) (pv 2) (pv 1)))))
      (pss_one (ps_ret (pv 1))))), ?_⟩
  cases hR with
  | lst qs h1 h2 =>
    obtain ⟨x, t, rfl⟩ := List.exists_cons_of_ne_nil h1
    refine r_seq (n_asg v_cn) (r_seq (n_for (fun i => [some (.list ((x :: t).map frD)), some (got fmax (x :: t) x i), none]) (e_vl rfl) rfl ?_ rfl) (r_ret (v_var ?_)))
    · intro i d hd
      obtain ⟨q, hq, rfl⟩ := getD_map hd
      exact found_turn fmax_or (fun a => by unfold fmax; split <;> rfl) (b := fun u v => decide (u < v)) (fun u v => by unfold fmax; simp) h2 hq fun u v hu hv => v_call (v_cons (v_var rfl) (v_cons (v_var rfl) v_nil)) (.mk u v hu hv)
    · show some (some (frD (((x :: t).take ((x :: t).map frD).length).foldl fmax x))) = _
      rw [List.length_map, List.take_length, maxL_fold]
theorem c_l_lowest (T : Txt K mg aN aL) (D : Dfn K mg "_law_lowest" s_l_lowest p_l_lowest) (C_l_lower : Cal P w K mg base CX0 1 "_law_lower" p_l_lower (SpD K R_below)) : Cal P w K mg base CX0 2 "_law_lowest" p_l_lowest (SpD K (R_mostL minL)) := by
  refine D.sr sc_l_lowest (fun _ _ h => by cases h <;> rfl) fun f cdv A outer s H E hr ds d hR => ?_
  refine ⟨_, (pss_cons (ps_set (i := 1) sc_l_lowest.nd rfl (.inl rfl) pe_non)
      (pss_cons (ps_for PassesOwn.never rfl (pi_list (pv 0)) (pg_name (i := 2) sc_l_lowest.nd rfl (.inl rfl)) (pss_one (ps_set (i := 1) sc_l_lowest.nd rfl (.inl rfl) (pe_ifExp (PW.pt (pw_or (pt_cmp (pc_isN (pv 1))) (pw_or1 (pt_val (pe_cal C_l_lower (hr.mono (by decide)) (pa_cons (pv 2) (pa_cons (pv 1) pa_nil))))))) (pv 2) (pv 1)))))
      (pss_one (ps_ret (pv 1))))), ?_⟩
  cases hR with
  | lst qs h1 h2 =>
    obtain ⟨x, t, rfl⟩ := List.exists_cons_of_ne_nil h1
    refine r_seq (n_asg v_cn) (r_seq (n_for (fun i => [some (.list ((x :: t).map frD)), some (got fmin (x :: t) x i), none]) (e_vl rfl) rfl ?_ rfl) (r_ret (v_var ?_)))
    · intro i d hd
      obtain ⟨q, hq, rfl⟩ := getD_map hd
      exact found_turn fmin_or (fun a => by unfold fmin; split <;> rfl) (b := fun u v => decide (v < u)) (fun u v => by unfold fmin; simp) h2 hq fun u v hu hv => v_call (v_cons (v_var rfl) (v_cons (v_var rfl) v_nil)) (.mk v u hv hu)
    · show some (some (frD (((x :: t).take ((x :: t).map frD).length).foldl fmin x))) = _
      rw [List.length_map, List.take_length, minL_fold]
inductive R_costL : List PyData → PyData → Prop
  | mk (n : Nat) (g : List Row) (r : Row) : GOk n g → RowBd 2 6 r → R_costL [rowsD g, rowD r] (frD (costR g r))
theorem c_l_cost (T : Txt K mg aN aL) (D : Dfn K mg "_law_cost" s_l_cost p_l_cost) (C_l_highest : Cal P w K mg base CX0 2 "_law_highest" p_l_highest (SpD K (R_mostL maxL))) (C_l_dot : Cal P w K mg base CX0 4 "_law_dot" p_l_dot (SpD K R_dotL)) : Cal P w K mg base CX0 5 "_law_cost" p_l_cost (SpD K R_costL) := by
  refine D.sr sc_l_cost (fun _ _ h => by cases h; rfl) fun f cdv A outer s H E hr ds d hR => ?_
  cases hR with
  | mk n g r h1 h2 =>
    refine ⟨_, (pss_one (ps_ret (pe_cal C_l_highest (hr.mono (by decide)) (pa_cons (pe_lc (own := [("_law_corner_so", 2)]) (g := (gName 2)) (tt := tYes) (by rfl) sc_l_cost.nd (pi_tup (pv 0)) (blkOk_by (own := [("_law_corner_so", 2)]) (N := n_l_cost) (sc := defScope s_l_cost) (by decide +kernel)) (fun _ _ _ _ _ => (pg_name (i := 2) sc_l_cost.nd rfl (.inl rfl) (.inr rfl))) (fun _ _ _ _ _ => pts_nil) (fun _ _ _ _ _ => (pe_cal C_l_dot (hr.mono (by decide)) (pa_cons (pv 2) (pa_cons (pv 1) pa_nil))))) pa_nil)))), ?_⟩
    refine r_ret (v_call (v_cons (v_lcT g rowD (fun c => frD (dotR c r)) rfl (by have := h1.few; omega) (fun p _ => fr_tup _) (by decide) fun c hc => ?_) v_nil) ?_)
    · exact v_call (v_cons (v_var rfl) (v_cons (v_var rfl) v_nil)) (.mk c r (h1.dot h2 c hc).1)
    · have m := R_mostL.lst (f := maxL) (g.map fun c => dotR c r) (by simpa using h1.ne) (h1.dots h2)
      rw [List.map_map] at m
      exact m
inductive R_riseL : List PyData → PyData → Prop
  | mk (n : Nat) (g : List Row) (p q : Row) : GOk n g → PtOk n p → PtOk n q → R_riseL [rowsD g, rowD p, rowD q] (frD (rise g p q))
theorem c_l_rise_cost (T : Txt K mg aN aL) (D : Dfn K mg "_law_rise_cost" s_l_rise_cost p_l_rise_cost) (C_l_cost : Cal P w K mg base CX0 5 "_law_cost" p_l_cost (SpD K R_costL)) (C_l_less_rows : Cal P w K mg base CX0 4 "_law_less_rows" p_l_less_rows (SpD K R_less_rows)) :
    Cal P w K mg base CX0 6 "_law_rise_cost" p_l_rise_cost (SpD K R_riseL) := by
  refine D.sr sc_l_rise_cost (fun _ _ h => by cases h; rfl) fun f cdv A outer s H E hr ds d hR => ?_
  cases hR with
  | mk n g p q h1 h2 h3 =>
    refine ⟨_, (pss_one (ps_ret (pe_cal C_l_cost (hr.mono (by decide)) (pa_cons (pv 0) (pa_cons (pe_cal C_l_less_rows (hr.mono (by decide)) (pa_cons (pv 2) (pa_cons (pv 1) pa_nil))) pa_nil))))), ?_⟩
    have ql := h3.len
    have n2 := h1.n1
    exact r_ret (v_call (v_cons (v_var rfl) (v_cons (v_call (v_cons (v_var rfl) (v_cons (v_var rfl) v_nil)) (.mk q p h3.sm h2.sm (by omega))) v_nil)) (.mk n g _ h1 (pt_sub h2 h3)))
end
end K17

end
section
set_option maxHeartbeats 4200000
/-! # enumerate of a tuple, walked -/
namespace K17
open PySem PySem.Spec PyProof.Rows L2 Evl
/-- enumerate(v), one argument, whatever begins v's iterator -/
theorem enum1_new {v : Value} {ob : Obj} {G : Heap → Prop} (B : Begins v ob G) :
    Meets (Builtin.«enumerate.__new__» ⟨[.type "enumerate", v], []⟩) (fun _ R s => G s.heap ∧
      R (.ok (.ret (.ref (s.heap.push ob).objs.size))) { s with heap := (s.heap.push ob).push { cls := .type "enumerate", data := .fields #[.none, .bool false, .ref s.heap.objs.size, rawInt 0, .none, .none] } }) :=
  .of_wp fun prg wd Ar Rr st hh => by
    obtain ⟨hp0, gg, dd, tt, oo⟩ := st
    obtain ⟨hG, hR⟩ := hh
    have hse := sub_enumerate
    have it1 : ∀ {Ar' : Around} {E : Value → Shared → Prop} {Q : Value → Shared → Prop}, Q (.ref hp0.objs.size) ⟨hp0.push ob, gg, dd, tt, oo⟩ → wpAny (model prg wd) Ar' (pyIter v) Q E ⟨hp0, gg, dd, tt, oo⟩ :=
      fun q => B.iter prg wd _ _ ⟨hp0, gg, dd, tt, oo⟩ _ hG q
    wp_walk using it1
    refine wpAny_stack_any fun stk => wpAny_pure ?_
    split
    · rename_i cc _ _ _ _ _
      rcases hce : (cc == Value.type "enumerate") with _ | _ <;>
        (wp_walk using it1; exact ⟨_, rfl, hR⟩)
    · wp_walk using it1
      exact ⟨_, rfl, hR⟩
section
variable {s : Shared} {prog : Program} {w : World} {A : Around} {E : Value → Shared → Prop}
theorem enum1_call {v : Value} {ob : Obj} {G : Heap → Prop} {Q : Value → Shared → Prop} (B : Begins v ob G) (hG : G s.heap)
    (k : ∀ h', IsEnum h' (s.heap.objs.size + 1) s.heap.objs.size 0 .none → h'.get? s.heap.objs.size = some ob → (∀ b o, s.heap.get? b = some o → h'.get? b = some o) → Q (.ref (s.heap.objs.size + 1)) { s with heap := h' }) :
    wpAny (model prog w) A (call (.type "enumerate") [v]) Q E s := by
  have sz : (s.heap.push ob).objs.size = s.heap.objs.size + 1 := Heap.size_push ..
  have top := Heap.get?_push_size (s.heap.push ob) (o := { cls := .type "enumerate", data := .fields #[.none, .bool false, .ref s.heap.objs.size, rawInt 0, .none, .none] }) rfl
  rw [sz] at top
  refine callType_new F.called_enumerate (by decide) (F.typeCall_enumerate_1 _) (F.newCall_enumerate_1 _) (fun self => F.args_object_init_2 self _) F.entry_enumerate_new (enum1_new B) ⟨hG, ?_⟩
  show _ ∧ _
  rw [sz]
  exact ⟨⟨_, top, rfl⟩, k _ top (Heap.get?_push_of_some _ (Heap.get?_push_size _ B.free)) fun b o e => Heap.get?_push_of_some _ (Heap.get?_push_of_some _ e)⟩
end
/-- the tuple at a as it stands at each turn, each item in a new pair with its number -/
def ItEt (K : PySem.W.Frag) (a : Addr) : It :=
  ⟨fun i H => ∃ (xs : List V) (x : V), SqT K H a xs ∧ xs[i]? = some x, fun i H v H' => ∃ p x, v = .ref p ∧ H p = none ∧ H' = upd H p (.tup [.int (i : Nat), x]) ∧ ∀ xs, SqT K H a xs → xs[i]? = some x, fun i H => ∃ xs : List V, SqT K H a xs ∧ xs.length ≤ i⟩
theorem mem2 {b e it : Addr} : b ∈ [e, it] ↔ b = e ∨ b = it := by simp
theorem turn_enumT {P : Program} {w : World} {K : PySem.W.Frag} {elts : List Expr} {kk : Nat} {tpos : Pos} (a e it : Addr) :
    Turn P w K (.Tuple elts kk tpos) (ItEt K a) [e, it] e (fun i h => (∃ old, IsEnum h e it ((i : Nat) : Int) old) ∧ h.IsTupleIter it a i ∧ e ≠ it ∧ e ≠ a ∧ a ≠ it) where
  mem := List.mem_cons_self
  obj := fun i h ⟨⟨old, en⟩, ⟨o, ho, _, hdt⟩, _⟩ b hb => by
    rcases mem2.mp hb with rfl | rfl
    · exact ⟨_, en, fun v q => nomatch q⟩
    · exact ⟨o, ho, fun v q => by rw [hdt] at q; cases q⟩
  keep := fun i h h' ⟨⟨old, en⟩, ti, ne⟩ k => ⟨⟨old, k e (mem2.mpr (.inl rfl)) _ en⟩, ti.at fun o q => k it (mem2.mpr (.inr rfl)) o q, ne⟩
  item := by
    intro X hP hw hK hc i pn s σ H E I hf ⟨⟨old, en⟩, ti, ne1, ne2, ne3⟩ ⟨xs, x, hq, hx⟩
    subst hP hw hK
    obtain ⟨its, rv, pt, _⟩ := I.tuple hq
    obtain ⟨u, hu, ru⟩ := rv.get hx; have le : e < s.heap.objs.size := Heap.lt_size en
    have li : it < s.heap.objs.size := by
      obtain ⟨_, q, _⟩ := ti
      exact Heap.lt_size q
    have clt : i < its.toArray.size := by
      have := (List.getElem?_eq_some_iff.mp hu).1
      simpa using this
    have dr : Draws X.prog X.w X.A.in1 it [it, a] its.toArray.size (fun i v => its.toArray[i]? = some v) (fun i h => h.IsTupleIter it a i ∧ h.IsTuple a its.toArray) :=
      Draws.tuple (by show X.A.handled = none; exact I.ok.hd hc) it a ne3 its.toArray
    refine wpAny_pyNext_enum_itemD dr en ⟨ti, pt⟩ clt ne1 (by simp [ne1, ne2]) fun y h' tk hy out ⟨ti', _⟩ hT hsz hk => ?_
    have ey : y = u := by
      have q : its.toArray[i]? = some u := by simpa using hu
      exact Option.some.inj (hy.symm.trans q)
    subst ey
    refine ⟨_, rfl, wpAny_letOwnedTupleGo_enum (s := { s with heap := h', toks := tk + 1 }) out fun h2 en2 sb => ?_⟩
    have hT2 : h2.get? s.heap.objs.size = some { cls := .type "tuple", data := .seq #[.int i tk, y] } := (sb.2 _ (Nat.ne_of_gt le)).trans hT
    have fresh : ObjOk X.prog X.w (upd H s.heap.objs.size (.tup [.int (i : Nat), x])) h2 s.heap.objs.size (.tup [.int (i : Nat), x]) :=
      ⟨sz_of (by show 2 ≤ 100000; decide), [.int i tk, y], .cons ⟨_, rfl⟩ (.cons ru .nil), ⟨_, hT2, rfl, _, rfl⟩⟩
    have J := I.turnedNew (t' := tk + 1) (ch := [e, it]) (fun b o hb q => (sb.2 b fun z => hb (mem2.mpr (.inl z))).trans (hk b o (fun z => hb (mem2.mpr (.inl z))) (fun z => hb (mem2.mpr (.inr z))) q)) hf (Nat.le_refl _) fresh
    refine ⟨.ref s.heap.objs.size, _, J, rfl, ⟨_, x, rfl, I.hok.fresh (Nat.le_refl _), rfl, fun ys hy => by rw [I.tuple_inj hy hq]; exact hx⟩, ⟨⟨y, ?_⟩, ti'.at fun o q => (sb.2 it (Ne.symm ne1)).trans q, ne1, ne2, ne3⟩, fun b hb => ?_⟩
    · (have e1 : ((i + 1 : Nat) : Int) = (i : Int) + 1 := by omega); rw [e1]
      exact en2
    · have hb' : b ≠ s.heap.objs.size := by
        rcases mem2.mp hb with rfl | rfl
        · exact Nat.ne_of_lt le
        · exact Nat.ne_of_lt li
      rw [upd_ne hb']
      exact (hf b hb).1
  done := by
    intro X hP hw hK hc i pn s σ H E I hf ⟨⟨old, en⟩, ti, ne1, ne2, ne3⟩ ⟨xs, hq, hx⟩
    subst hP hw hK
    obtain ⟨its, rv, pt, _⟩ := I.tuple hq
    obtain ⟨f0, f1, f2, f3, f4, f5⟩ := hf it (mem2.mpr (.inr rfl))
    have hl := rv.length
    unfold pyNext
    refine wpAny_bind (wpAny_attempt (wpAny_callSpecial?_slot (name := Str.ofString "__next__") ⟨_, en, rfl⟩ F.slot_enumerate_next (wpAny_call_entry F.slot_enumerate_next ⟨_, en, rfl⟩ F.entry_enumerate_next ?_ (F.args_enumerate_next_1 _))))
    show wpAny _ _ (field (.ref e) 2 >>= _) _ _ _; refine wpAny_bind (wpAny_field en rfl (x := .ref it) rfl ?_)
    refine wpAny_bind (wpAny_nextOf_tuple_end (by show X.A.handled = none; exact I.ok.hd hc) ti pt (by simp; omega) fun h' x eb ⟨o, ho, hco⟩ => ?_)
    refine wpAny_bind (wpAny_isInstance (T := "StopIteration") (b := true) ⟨o, ho, hco⟩ isSubtype_stop ?_)
    exact wpAny_pure ⟨rfl, I.turned (t' := s.toks) (fun b o hb q => eb b o hb q) f0 f1 f3 f4 f5⟩
  self := fun A i s Q E ⟨⟨_, en⟩, _⟩ h => wpAny_pyIter_enum en h
def iEnumT (K : PySem.W.Frag) (ta : TA) : TI := fun σ H R => ta σ H fun vs H1 => ∃ a xs, vs = [.ref a] ∧ SqT K H1 a xs ∧ R (ItEt K a) H1
theorem pi_enumT {X : Cx} {e : Expr} {ta : TA} {p pos tpos : Pos} {elts : List Expr} {kk : Nat} (hg : Gl X "enumerate") (hm : X.mg "enumerate" = none) (ha : PA X [e] ta) (hs : starEach [e] X.env = [(false, eval e X.env)] := by rfl) :
    PI X (.Tuple elts kk tpos) (.Call (.Name "enumerate" p) [e] [] pos) (iEnumT X.K ta) := by
  refine ⟨fun pn s σ H R I h => ?_⟩
  refine Call_ (ld_blt I hg hm boot_enumerate (PyProof.Rows.callWith_type1 (thn (ha.run pos pn s σ H _ I h) fun us s1 ⟨vs, H1, J1, r1, a, xs, ev, hq, q⟩ => ?_) hs rfl))
  subst ev
  cases r1 with
  | cons r rr =>
    cases rr
    obtain rfl : _ = Value.ref a := r
    obtain ⟨its, rv, pt, _⟩ := J1.tuple hq
    have la : a < s1.heap.objs.size := pt.lt
    refine enum1_call (begins_tuple a its.toArray) pt fun h' en hit hk => wpAny_pyIter_enum en ?_
    have J2 : Inv X pn σ H1 { s1 with heap := h' } := J1.kept (t' := s1.toks) hk
    refine ⟨s1.heap.objs.size + 1, [s1.heap.objs.size + 1, s1.heap.objs.size], _, _, H1, rfl, J2, turn_enumT a (s1.heap.objs.size + 1) s1.heap.objs.size, ⟨⟨.none, en⟩, ⟨_, hit, rfl, rfl⟩, Nat.succ_ne_self _, Nat.ne_of_gt (Nat.lt_succ_of_lt la), Nat.ne_of_lt la⟩, fun b hb => ?_, q⟩
    have cle : s1.heap.objs.size ≤ b := by
      rcases mem2.mp hb with z | z
      · rw [z]; apply Nat.le_add_right
      · rw [z]; exact Nat.le_refl _
    exact J1.fpOk cle (J1.hok.fresh cle)
/-- the walk: number and item -/
theorem walk_enumT {K : PySem.W.Frag} {a : Addr} {xs : List V} : Walk (ItEt K a) xs.length (fun H => SqT K H a xs) (YPair (fun i => some (.int (i : Nat))) (fun i => xs[i]?)) where
  goes := fun i H hi h => ⟨xs, xs[i], h, List.getElem?_eq_getElem _⟩
  stops := fun H h => ⟨xs, h, Nat.le_refl _⟩
  yields := fun i H x H' hi h ⟨p, x1, e1, e2, e3, f⟩ => ⟨p, .int (i : Nat), x1, e1, e2, e3, rfl, f xs h⟩
/-- items with their numbers, as data -/
def numbered (ds : List PyData) : List (PyData × PyData) := ds.mapIdx fun i d => (.int (i : Nat), d)
theorem numbered_at {ds : List PyData} {i : Nat} {p : PyData × PyData} : (numbered ds)[i]? = some p ↔ ∃ d, ds[i]? = some d ∧ p = (.int (i : Nat), d) := by
  unfold numbered
  rw [List.getElem?_mapIdx]
  cases ds[i]? with
  | none => simp
  | some d => simp [eq_comm]
section
variable {K : PySem.W.Frag} {Δ : Dt} {ds : List PyData}
theorem e_enumT {i : Nat} (h : Δ[i]? = some (some (.tuple ds))) : ∀ σ H, Sl K σ H Δ → SrcD (iEnumT K (tCons (tVar i) tNil)) σ H (numbered ds).length (YP K H (numbered ds)) := fun σ H s H1 e R k => by
  obtain ⟨v, a1, a2⟩ := s.at_ _ _ h
  obtain ⟨a, xs, rfl, hs, hx⟩ := dp_ref_tup a2
  refine ⟨.ref a, a1, a, xs, rfl, ex_t e hs, k _ _ (Ex.refl _) ?_⟩
  have hl : (numbered ds).length = xs.length := by rw [numbered, List.length_mapIdx, dps_len hx]
  rw [hl]
  refine (walk_enumT (K := K) (a := a) (xs := xs)).mono (fun H3 e3 => ex_t e3 hs) ?_
  rintro n H3 x H4 hn e3 ⟨p, x1, y1, e1, e2, e4, f1, f2⟩
  obtain ⟨d, q1, q2⟩ := dps_get hx f2
  have ex1 : x1 = .int (n : Nat) := (Option.some.inj f1).symm
  subst ex1
  exact ⟨p, _, y1, (.int (n : Nat), d), e1, e2, e4, numbered_at.mpr ⟨d, q1, rfl⟩, .int _, q2⟩
theorem e_enumL {i : Nat} (h : Δ[i]? = some (some (.list ds))) : ∀ σ H, Sl K σ H Δ → SrcD (iEnum K (tCons (tVar i) tNil)) σ H (numbered ds).length (YP K H (numbered ds)) := fun σ H s H1 e R k => by
  obtain ⟨v, a1, a2⟩ := s.at_ _ _ h
  obtain ⟨a, xs, rfl, hs, hx⟩ := dp_ref_lst a2
  refine ⟨.ref a, a1, a, xs, rfl, ex_l e hs, k _ _ (Ex.refl _) ?_⟩
  have hl : (numbered ds).length = xs.length := by rw [numbered, List.length_mapIdx, dps_len hx]
  rw [hl]
  refine (walk_enum (K := K) (a := a) (xs := xs)).mono (fun H3 e3 => ex_l e3 hs) ?_
  rintro n H3 x H4 hn e3 ⟨p, x1, y1, e1, e2, e4, f1, f2⟩
  obtain ⟨d, q1, q2⟩ := dps_get hx f2
  have ex1 : x1 = .int (n : Nat) := (Option.some.inj f1).symm
  subst ex1
  exact ⟨p, _, y1, (.int (n : Nat), d), e1, e2, e4, numbered_at.mpr ⟨d, q1, rfl⟩, .int _, q2⟩
end
end K17

end
section
set_option maxHeartbeats 4200000
/-! # Loops that may hand back on the way; a list filled turn by turn; targets of pairs -/
namespace K17
open PySem PySem.Spec PyProof.Rows L2 Evl
section
variable (K : PySem.W.Frag)
/-- hands back d (r = some d), or goes on with Δ' -/
def SX (tu : TS) (Δ : Dt) (r : Option PyData) (Δ' : Dt) : Prop := ∀ D σ H, Sl K σ H Δ → (∀ d, r = some d → RetD K d H D.rt) → (r = none → ∀ σ' H', Ex H H' → Sl K σ' H' Δ' → D.nx σ' H') → tu D σ H
end
section
variable {K : PySem.W.Frag} {σ : L2.St} {H H' : Hp} {Δ Δ1 Δ2 : Dt} {ta tb te ti : TE} {t u : TT} {d d1 d2 d3 : PyData} {ds es : List PyData} {tu tw tz : TS} {r : Option PyData}
theorem x_of_sn (h : SN K tu Δ Δ1) : SX K tu Δ none Δ1 := fun D σ H s k1 k2 => h D σ H s (k2 rfl)
theorem x_of_sr (h : SR K tu Δ d) : SX K tu Δ (some d) Δ1 := fun D σ H s k1 k2 => h D σ H s (k1 d rfl)
theorem x_seq (h1 : SX K tu Δ r Δ1) (h2 : r = none → SR K tz Δ1 d) (h3 : ∀ d', r = some d' → d' = d) : SR K (tSeq tu tz) Δ d := fun D σ H s k => h1 { D with nx := tz D } σ H s (fun d' e => by rw [h3 d' e]; exact k) fun e σ' H' ex s' => h2 e D σ' H' s' (k.go ex)
theorem x_sn (h : SN K tu Δ Δ1) (h2 : SX K tz Δ1 r Δ2) : SX K (tSeq tu tz) Δ r Δ2 := fun D σ H s k1 k2 => h _ σ H s fun σ' H' e s' => h2 D σ' H' s' (fun d' e' => (k1 d' e').go e) fun e' σ2 H2 e2 s2 => k2 e' σ2 H2 (e.trans e2) s2
theorem x_if {b : Bool} (h : ET K t Δ b) (h1 : b = true → SX K tu Δ r Δ1) (h2 : b = false → SX K tw Δ r Δ1) : SX K (tIfS t tu tw) Δ r Δ1 := fun D σ H s k1 k2 =>
  s_if (h σ H s) (fun e H1 e1 => h1 e D σ H1 (s.ex e1) (fun d' e' => (k1 d' e').go e1) fun e' σ' H' e2 s' => k2 e' σ' H' (e1.trans e2) s') (fun e H1 e1 => h2 e D σ H1 (s.ex e1) (fun d' e' => (k1 d' e').go e1) fun e' σ' H' e2 s' => k2 e' σ' H' (e1.trans e2) s')
theorem x_forget (i : Nat) (h : SX K tu Δ r Δ1) : SX K tu Δ r (Δ1.set i none) := fun D σ H s k1 k2 => h D σ H s k1 fun e σ' H' ex s' => k2 e σ' H' ex (s'.forget i)
/-- a loop over pairs, each turn with its own answer -/
theorem x_forP {wi : TI} {i j : Nat} {ps : List (PyData × PyData)} (Ψ : Nat → Dt) (r : Nat → Option PyData) (hs : ∀ σ H, Sl K σ H Δ → SrcD wi σ H ps.length (YP K H ps)) (h0 : Ψ 0 = Δ)
    (ht : ∀ n p, ps[n]? = some p → SX K tu (((Ψ n).set i (some p.1)).set j (some p.2)) (r n) (Ψ (n + 1))) (he : Ψ ps.length = Δ1) :
    SX K (tFor wi (gTup K 2 (gCons (gName i) (gCons (gName j) gNil))) tu) Δ ((List.range ps.length).findSome? r) Δ1 := fun D σ H s k1 k2 => by
  refine s_forP (hs σ H s) (fun n σ' H' => Ex H H' ∧ Sl K σ' H' (Ψ n) ∧ ∀ m, m < n → r m = none) (fun H1 e => ⟨e, by rw [h0]; exact s.ex e, fun m hm => absurd hm (Nat.not_lt_zero m)⟩) (fun n σ' H' p => p.1) (fun n σ' H1 H2 e p => ⟨p.1.trans e, p.2.1.ex e, p.2.2⟩) ?_ (fun σ' H' p => ?_)
  · rintro n p x y σ' H' hp hx hy ⟨e, s', hr⟩
    have hn : n < ps.length := (List.getElem?_eq_some_iff.mp hp).1
    refine ht n p hp _ _ _ ((s'.put i hx).put j hy) (fun d' e' => ?_) fun e' σ2 H2 e2 s2 => ⟨e.trans e2, s2, fun m hm => ?_⟩
    · refine (k1 d' ?_).go e
      rw [List.findSome?_eq_some_iff]
      refine ⟨List.range n, n, (List.range (ps.length - n - 1)).map fun z => n + 1 + z, ?_, e', fun z hz => hr z (List.mem_range.mp hz)⟩
      have q : List.range (n + (1 + (ps.length - n - 1))) = List.range ps.length := by congr 1; omega
      rw [← q, List.range_add, List.range_add]
      simp [Function.comp_def, Nat.add_assoc]
    · rcases Nat.lt_succ_iff_lt_or_eq.mp hm with z | z
      · exact hr m z
      · rw [z]; exact e'
  · refine k2 ?_ σ' H' p.1 (by rw [← he]; exact p.2.1)
    rw [List.findSome?_eq_none_iff]
    exact fun z hz => p.2.2 z (List.mem_range.mp hz)
/-- a, b = a pair -/
theorem n_asgP {i j : Nat} (h : EV K te Δ (.tuple [d1, d2])) : SN K (tAsg te (gTup K 2 (gCons (gName i) (gCons (gName j) gNil)))) Δ ((Δ.set i (some d1)).set j (some d2)) := fun D σ H s k => h σ H s H (Ex.refl _) _ fun v H1 e hd => by
  obtain ⟨a, xs, rfl, hs, hx⟩ := dp_ref_tup hd
  cases hx with
  | cons h1 t =>
    cases t with
    | cons h2 t =>
      cases t
      exact ⟨a, _, rfl, hs, rfl, _, _, rfl, _, [], rfl, rfl, k _ H1 e (((s.ex e).put i h1).put j h2)⟩
/-- (a, b), c = a pair with a pair -/
theorem n_asgPP {i j l : Nat} (h : EV K te Δ (.tuple [.tuple [d1, d2], d3])) : SN K (tAsg te (gTup K 2 (gCons (gTup K 2 (gCons (gName i) (gCons (gName j) gNil))) (gCons (gName l) gNil)))) Δ (((Δ.set i (some d1)).set j (some d2)).set l (some d3)) := fun D σ H s k => h σ H s H (Ex.refl _) _ fun v H1 e hd => by
  obtain ⟨a, xs, rfl, hs, hx⟩ := dp_ref_tup hd
  cases hx with
  | cons h1 t =>
    cases t with
    | cons h2 t =>
      cases t
      obtain ⟨b, ys, rfl, ht, hy⟩ := dp_ref_tup h1
      cases hy with
      | cons g1 u =>
        cases u with
        | cons g2 u =>
          cases u
          exact ⟨a, _, rfl, hs, rfl, _, _, rfl, ⟨b, _, rfl, ht, rfl, _, _, rfl, _, [], rfl, rfl, _, [], rfl, rfl, k _ H1 e ((((s.ex e).put i g1).put j g2).put l h2)⟩⟩
/-- xs = []; for x, y in pairs: xs.append(e); then the rest -/
theorem r_fill {wi : TI} {i j l : Nat} {ps : List (PyData × PyData)} {Δ0 : Dt} (fs : List PyData) (hfl : fs.length = ps.length) (hΔ : Δ0 = ((Δ.set l none).set i none).set j none) (hl : l < Δ.length) (hli : l ≠ i) (hlj : l ≠ j)
    (hs : ∀ σ H, Sl K σ H Δ0 → SrcD wi σ H ps.length (YP K H ps)) (hz : ps.length ≤ 40000) (hall : tupOnly.tupOnlys fs = true)
    (he : ∀ (n : Nat) (p : PyData × PyData) (f : PyData), ps[n]? = some p → fs[n]? = some f → EV K te ((Δ0.set i (some p.1)).set j (some p.2)) f) (hr : SR K tz (Δ0.set l (some (.list fs))) d) :
    SR K (tSeq (tAsg (tLst tNil) (gName l)) (tSeq (tFor wi (gTup K 2 (gCons (gName i) (gCons (gName j) gNil))) (tDrop (tBM K "list" rAppend (tVar l) (tCons te tNil)))) tz)) Δ d := fun D σ H s k => by
  refine ⟨Nat.zero_le _, fun p hp => ?_⟩
  have e1 : Ex H (upd H p (.lst [])) := Ex.new hp
  have s0 : Sl K (σ.set l (some (.ref p))) H Δ0 := by
    rw [hΔ]
    exact (((s.drop l (some (.ref p))).forget i).forget j)
  have at_l : (σ.set l (some (.ref p)))[l]? = some (some (.ref p)) := List.getElem?_set_self (by rw [s.len]; exact hl)
  refine hs _ H s0 _ e1 _ fun J H2 e2 w => ?_
  refine for_it w (fun n σ' H' => Cmp K H fs p n H' ∧ Sl K σ' H Δ0 ∧ σ'[l]? = some (some (.ref p))) ⟨⟨hp, e1.trans e2, [], e2 _ _ upd_same, by rw [List.take_zero]; exact .nil⟩, s0, at_l⟩ (fun n σ' H' _ q => q.1.2.1) ?_ ?_
  · rintro n v σ' H3 H4 hn ⟨c, s', al⟩ ⟨T, x, y, q, rfl, hT, rfl, hq, hx, hy⟩
    have e3 : Ex H3 (upd H3 T (.tup [x, y])) := Ex.new hT
    have e4 := c.2.1.trans e3
    obtain ⟨fv, hfv⟩ : ∃ fv, fs[n]? = some fv := ⟨fs[n]'(by omega), List.getElem?_eq_getElem _⟩
    refine ⟨T, [x, y], rfl, .of upd_same, rfl, x, [y], rfl, y, [], rfl, rfl, ?_⟩
    have s2 : Sl K ((σ'.set i (some x)).set j (some y)) H ((Δ0.set i (some q.1)).set j (some q.2)) := (s'.put i hx).put j hy
    have al2 : ((σ'.set i (some x)).set j (some y))[l]? = some (some (.ref p)) := by
      rw [List.getElem?_set_ne (Ne.symm hlj), List.getElem?_set_ne (Ne.symm hli)]
      exact al
    refine ⟨.ref p, al2, .inl ⟨rfl, ?_⟩, ?_⟩
    · obtain ⟨_, _, acc, c3, _⟩ := c
      exact ⟨acc, .inl (.inl (e3 _ _ c3))⟩
    · refine he n q fv hq hfv _ _ (s2.ex e4) _ (Ex.refl _) _ fun u H5 e5 hu => ?_
      obtain ⟨acc, a1, a2, a3⟩ := c.turn hfv hall (e3.trans e5) (by omega) hu
      have s3 : Sl K ((σ'.set i (some x)).set j (some y)) H Δ0 := by
        have z := (s2.forget i).forget j
        refine z.weak (by rw [hΔ]; simp) fun m d' hm' => ?_
        have hij : m ≠ i ∧ m ≠ j := by
          rw [hΔ] at hm'
          constructor
          · intro e
            subst e
            by_cases ej : j = m
            · subst ej
              rw [List.getElem?_set] at hm'
              split at hm'
              · split at hm' <;> simp at hm'
              · omega
            · rw [List.getElem?_set_ne ej, List.getElem?_set] at hm'
              split at hm'
              · split at hm' <;> simp at hm'
              · omega
          · intro e
            subst e
            rw [List.getElem?_set] at hm'
            split at hm'
            · split at hm' <;> simp at hm'
            · omega
        rw [List.getElem?_set_ne (Ne.symm hij.2), List.getElem?_set_ne (Ne.symm hij.1), List.getElem?_set_ne (Ne.symm hij.2), List.getElem?_set_ne (Ne.symm hij.1)]
        exact hm'
      exact ⟨p, acc, u, rfl, rfl, a1, a2, a3, s3, al2⟩
  · rintro σ' H3 ⟨⟨_, c2, acc, c3, c4⟩, s', al⟩
    have hd : Dp K H3 (.ref p) (.list fs) := by
      rw [← hfl, List.take_length] at c4
      exact .lst (.of c3) c4
    have eσ : σ'.set l (some (.ref p)) = σ' := by
      apply List.ext_getElem?
      intro m
      by_cases e : l = m
      · subst e
        have hlt := (List.getElem?_eq_some_iff.mp al).1
        rw [List.getElem?_set_self hlt, al]
      · rw [List.getElem?_set_ne e]
    have s4 := (s'.ex c2).put l hd
    rw [eσ] at s4
    exact hr D σ' H3 s4 (k.go c2)
end
end K17

end
section
set_option maxHeartbeats 4200000
/-! # Values that are let: the program's defs and the law's own -/
namespace K17
open PySem PySem.Spec PyProof.Rows L2 Evl
def ptsD (zs : List PV) : PyData := rowsD (zs.map (·.1))
def valsD (zs : List PV) : PyData := rowD (zs.map (·.2))
def pairD : Option (Nat × Nat) → PyData
  | none => .none
  | some p => .tuple [.int (p.1 : Int), .int (p.2 : Int)]
theorem pts_at {zs : List PV} {i : Nat} {z : PV} (h : zs[i]? = some z) : (((zs.map (·.1))).map rowD)[i]? = some (rowD z.1) := by simp [h]
theorem vals_at {zs : List PV} {i : Nat} {z : PV} (h : zs[i]? = some z) : (((zs.map (·.2))).map frD)[i]? = some (frD z.2) := by simp [h]
theorem pts_of {zs : List PV} {i : Nat} {d : PyData} (h : (((zs.map (·.1))).map rowD)[i]? = some d) : ∃ z, zs[i]? = some z ∧ d = rowD z.1 := by
  obtain ⟨r, h1, rfl⟩ := getD_map h
  rw [List.getElem?_map] at h1
  cases e : zs[i]? with
  | none => rw [e] at h1; cases h1
  | some z => rw [e] at h1; exact ⟨z, rfl, by rw [← Option.some.inj h1]⟩
theorem ZOk.sm {n : Nat} {zs : List PV} (h : ZOk n zs) {z : PV} (hz : z ∈ zs) : Sm z.2 := (h.vl z hz).sm'
theorem ZOk.tupP {n k : Nat} {zs : List PV} {dp : PyData} (h : ZOk n zs) (hn : n ≤ 2) (e : tupD dp = ptsD zs) (hk : 4 ≤ k) : R_tup k [dp] (ptsD zs) := .rows e (by rw [List.length_map]; have := h.few; omega) (fun r hr => by
  obtain ⟨z, hz, rfl⟩ := List.mem_map.mp hr
  rw [(h.pt z hz).len]
  omega) hk
theorem ZOk.tupV {n k : Nat} {zs : List PV} {dv : PyData} (h : ZOk n zs) (e : tupD dv = valsD zs) (hk : 4 ≤ k) : R_tup k [dv] (valsD zs) := .row e (by rw [List.length_map]; have := h.few; omega) hk
theorem pts_tup (zs : List PV) : tupOnly (ptsD zs) = true := rows_tup _
theorem vals_tup (zs : List PV) : tupOnly (valsD zs) = true := row_tup _
inductive R_broken : List PyData → PyData → Prop
  | mk (n : Nat) (g : List Row) (zs : List PV) (dg dp dv : PyData) : tupD dg = rowsD g → tupD dp = ptsD zs → tupD dv = valsD zs → GOk n g → ZOk n zs → R_broken [dg, dp, dv] (pairD (brokenP g zs))
inductive R_isLet : List PyData → PyData → Prop
  | mk (n : Nat) (g : List Row) (zs : List PV) (dg dp dv : PyData) : tupD dg = rowsD g → tupD dp = ptsD zs → tupD dv = valsD zs → GOk n g → ZOk n zs → R_isLet [dg, dp, dv] (.bool (brokenP g zs).isNone)
theorem isNone_pair (o : Option (Nat × Nat)) : isNone (pairD o) = o.isNone := by cases o <;> rfl
theorem bp_map (g : List Row) (zs : List PV) : ((List.range zs.length).findSome? fun i => (List.range zs.length).findSome? fun j => if brk g zs i j = true then some (PyData.tuple [.int (i : Int), .int (j : Int)]) else none) = (brokenP g zs).map fun p => .tuple [.int (p.1 : Int), .int (p.2 : Int)] := by
  unfold brokenP first2
  rw [List.map_findSome?]
  congr 1
  funext i
  show _ = Option.map _ _
  rw [List.map_findSome?]
  congr 1
  funext j
  show (if brk g zs i j = true then _ else _) = Option.map _ (if brk g zs i j = true then some (i, j) else none)
  cases brk g zs i j <;> rfl
section
variable {P : Program} {w : World} {K : PySem.W.Frag} {mg : Str → Option Value} {base : Heap} {aN aL : Addr}
theorem c_broken_pair (T : Txt K mg aN aL) (D : Dfn K mg "broken_pair" s_broken_pair p_broken_pair) (C_tupled : Cal P w K mg base CX0 4 "tupled" p_tupled (SpD K (R_tup 4))) (C_part_less : Cal P w K mg base CX0 3 "part_less" p_part_less (SpD K (R_two fun q r => q - r)))
    (C_part_below : Cal P w K mg base CX0 1 "part_below" p_part_below (SpD K R_below)) (C_cost_between : Cal P w K mg base CX0 7 "cost_between" p_cost_between (SpD K R_rise)) : Cal P w K mg base CX0 8 "broken_pair" p_broken_pair (SpD K R_broken) := by
  refine D.sr sc_broken_pair (fun _ _ h => by cases h; rfl) fun f cdv A outer s H E hr ds d hR => ?_
  cases hR with
  | mk n g zs dg dp dv h1 h2 h3 h4 h5 =>
    refine ⟨_, (pss_cons (ps_par (i := 3) (j := 4) rfl sc_broken_pair.nd rfl rfl (by decide) rfl rfl (pa_cons (pe_cal C_tupled (hr.mono (by decide)) (pa_cons (pv 1) pa_nil)) (pa_cons (pe_cal C_tupled (hr.mono (by decide)) (pa_cons (pv 2) pa_nil)) pa_nil)) (by rfl))
      (pss_cons (ps_for PassesOwn.never rfl (pi_enumT (by rfl) T.n_enumerate (pa_cons (pv 3) pa_nil)) (pg_tup (n := 2) rfl (pgs_cons (pg_name (i := 5) sc_broken_pair.nd rfl (.inl rfl)) (pgs_cons (pg_name (i := 6) sc_broken_pair.nd rfl (.inl rfl)) pgs_nil))) (pss_one (ps_for PassesOwn.never rfl (pi_enumT (by rfl) T.n_enumerate (pa_cons (pv 3) pa_nil)) (pg_tup (n := 2) rfl (pgs_cons (pg_name (i := 7) sc_broken_pair.nd rfl (.inl rfl)) (pgs_cons (pg_name (i := 8) sc_broken_pair.nd rfl (.inl rfl)) pgs_nil))) (pss_cons (ps_set (i := 9) sc_broken_pair.nd rfl (.inl rfl) (pe_cal C_part_less (hr.mono (by decide)) (pa_cons (pe_ix ix_seq (pv 4) (pv 7) (fun _ _ => rfl)) (pa_cons (pe_ix ix_seq (pv 4) (pv 5) (fun _ _ => rfl)) pa_nil))))
      (pss_one (ps_if (PW.pt (pw_and (pt_cmpR op_ne (pv 5) (pv 7) (nomark _)) (pw_and1 (pt_val (pe_cal C_part_below (hr.mono (by decide)) (pa_cons (pe_cal C_cost_between (hr.mono (by decide)) (pa_cons (pv 0) (pa_cons (pv 6) (pa_cons (pv 8) pa_nil)))) (pa_cons (pv 9) pa_nil))))))) (pss_one (ps_ret (pe_tup (pa_cons (pv 5) (pa_cons (pv 7) pa_nil))))) pss_nil))))))
      (pss_one (ps_ret pe_non)))), ?_⟩
    have n2 := h4.n1
    refine r_seq (n_par (v_cons (v_call (v_cons (v_var rfl) v_nil) (h5.tupP n2 h2 (by decide))) (v_cons (v_call (v_cons (v_var rfl) v_nil) (h5.tupV h3 (by decide))) v_nil))) ?_
    let Ψ : Nat → Dt := fun _ => [some dg, some dp, some dv, some (ptsD zs), some (valsD zs), none, none, none, none, none]
    have hlen : (numbered ((zs.map (·.1)).map rowD)).length = zs.length := by rw [numbered, List.length_mapIdx, List.length_map, List.length_map]
    refine x_seq (r := (brokenP g zs).map fun p => .tuple [.int (p.1 : Int), .int (p.2 : Int)]) (Δ1 := Ψ 0) ?_ (fun e => ?_) fun d' e => ?_
    · rw [← bp_map, ← hlen]
      refine x_forP (i := 5) (j := 6) Ψ _ (e_enumT rfl) rfl (fun i p hp => ?_) rfl
      obtain ⟨di, hdi, rfl⟩ := numbered_at.mp hp
      obtain ⟨zi, hzi, rfl⟩ := pts_of hdi
      refine x_forget 6 (Δ1 := [some dg, some dp, some dv, some (ptsD zs), some (valsD zs), none, some (rowD zi.1), none, none, none]) (x_forget 5 (Δ1 := [some dg, some dp, some dv, some (ptsD zs), some (valsD zs), some (.int (i : Int)), some (rowD zi.1), none, none, none]) ?_)
      refine x_forP (i := 7) (j := 8) (fun _ => [some dg, some dp, some dv, some (ptsD zs), some (valsD zs), some (.int (i : Int)), some (rowD zi.1), none, none, none]) _ (e_enumT rfl) rfl (fun j p hp => ?_) rfl
      obtain ⟨dj, hdj, rfl⟩ := numbered_at.mp hp
      obtain ⟨zj, hzj, rfl⟩ := pts_of hdj
      have mi := List.mem_of_getElem? hzi
      have mj := List.mem_of_getElem? hzj
      refine x_forget 9 (Δ1 := [some dg, some dp, some dv, some (ptsD zs), some (valsD zs), some (.int (i : Int)), some (rowD zi.1), none, none, some (frD (zj.2 - zi.2))]) (x_forget 8 (Δ1 := [some dg, some dp, some dv, some (ptsD zs), some (valsD zs), some (.int (i : Int)), some (rowD zi.1), none, some (rowD zj.1), some (frD (zj.2 - zi.2))]) (x_forget 7 (Δ1 := [some dg, some dp, some dv, some (ptsD zs), some (valsD zs), some (.int (i : Int)), some (rowD zi.1), some (.int (j : Int)), some (rowD zj.1), some (frD (zj.2 - zi.2))]) ?_))
      refine x_sn (n_asg (v_call (v_cons (v_ixT (v_var rfl) (v_var rfl) (vals_at hzj)) (v_cons (v_ixT (v_var rfl) (v_var rfl) (vals_at hzi)) v_nil)) (R_two.mk (f := fun q r => q - r) _ _ (h5.sm mj) (h5.sm mi)))) ?_
      have hb := brk_at (g := g) hzi hzj
      have sr : Sm (zj.2 - zi.2) := by
        have b : Bd 504 (1000 + 1000) (zj.2 - zi.2) := (h5.vl _ mj).sub (h5.vl _ mi)
        exact b.sm'
      refine x_if (b := decide ((i : Int) ≠ j) && decide (rise g zi.1 zj.1 < zj.2 - zi.2)) (b_is (b_and (b_test (v_neI (v_var rfl) (v_var rfl))) fun _ => b_B (v_call (v_cons (v_call (v_cons (v_var rfl) (v_cons (v_var rfl) (v_cons (v_var rfl) v_nil))) (.mk n g zi.1 zj.1 dg h1 h4 (h5.pt _ mi) (h5.pt _ mj))) (v_cons (v_var rfl) v_nil)) (.mk _ _ (rise_sm h4 (h5.pt _ mi) (h5.pt _ mj)) sr))) (by simp)) (fun e => ?_) fun e => ?_
      · rw [Bool.and_eq_true] at e
        rw [if_pos (by rw [hb]; exact e.2)]
        exact x_of_sr (r_ret (v_tup (v_cons (v_var rfl) (v_cons (v_var rfl) v_nil))))
      · have hn : brk g zs i j = false := by
          rw [Bool.and_eq_false_iff] at e
          rcases e with e | e
          · have ij : i = j := by
              have := of_decide_eq_false e
              omega
            rw [ij]
            exact brk_self h4.ne zs j
          · rw [hb]; exact e
        rw [if_neg (by rw [hn]; decide)]
        exact x_of_sn n_next
    · cases hb : brokenP g zs with
      | none => exact r_ret v_cn
      | some p => rw [hb] at e; cases e
    · cases hb : brokenP g zs with
      | none => rw [hb] at e; cases e
      | some p => rw [hb] at e; exact (Option.some.inj e).symm
theorem c_is_let (T : Txt K mg aN aL) (D : Dfn K mg "is_let" s_is_let p_is_let) (C_broken_pair : Cal P w K mg base CX0 8 "broken_pair" p_broken_pair (SpD K R_broken)) : Cal P w K mg base CX0 9 "is_let" p_is_let (SpD K R_isLet) := by
  refine D.sr sc_is_let (fun _ _ h => by cases h; rfl) fun f cdv A outer s H E hr ds d hR => ?_
  cases hR with
  | mk n g zs dg dp dv h1 h2 h3 h4 h5 =>
    refine ⟨_, (pss_one (ps_ret (pe_cmp (pc_isN (pe_cal C_broken_pair (hr.mono (by decide)) (pa_cons (pv 0) (pa_cons (pv 1) (pa_cons (pv 2) pa_nil))))) rfl))), ?_⟩
    rw [← isNone_pair]
    exact r_ret (v_isN (v_call (v_cons (v_var rfl) (v_cons (v_var rfl) (v_cons (v_var rfl) v_nil))) (.mk n g zs dg dp dv h1 h2 h3 h4 h5)))
inductive R_shown : List PyData → PyData → Prop
  | mk (n : Nat) (g : List Row) (zs : List PV) (x : Row) (dg : PyData) : tupD dg = rowsD g → GOk n g → ZOk n zs → PtOk n x → R_shown [dg, ptsD zs, valsD zs, rowD x] (.list ((zs.map fun z => z.2 + rise g z.1 x).map frD))
theorem mem_zip_pv {zs : List PV} {p : Row × Rat} (h : p ∈ (zs.map (·.1)).zip (zs.map (·.2))) : p ∈ zs := by rwa [zip_fst_snd] at h
theorem c_shown_from (T : Txt K mg aN aL) (D : Dfn K mg "shown_from" s_shown_from p_shown_from) (C_part_plus : Cal P w K mg base CX0 2 "part_plus" p_part_plus (SpD K (R_two fun q r => q + r)))
    (C_cost_between : Cal P w K mg base CX0 7 "cost_between" p_cost_between (SpD K R_rise)) : Cal P w K mg base CX0 8 "shown_from" p_shown_from (SpD K R_shown) := by
  refine D.sr sc_shown_from (fun _ _ h => by cases h; rfl) fun f cdv A outer s H E hr ds d hR => ?_
  cases hR with
  | mk n g zs x dg h1 h2 h3 h4 =>
    refine ⟨_, (pss_one (ps_ret (pe_lc (own := [("point", 4), ("value", 5)]) (g := (gTup K 2 (gCons (gName 4) (gCons (gName 5) gNil)))) (tt := tYes) (by rfl) sc_shown_from.nd (RZ.pi_zipA (by rfl) T.n_zip (pa_cons (pv 1) (pa_cons (pv 2) pa_nil))) (blkOk_by (own := [("point", 4), ("value", 5)]) (N := n_shown_from) (sc := defScope s_shown_from) (by decide +kernel)) (fun _ _ _ _ _ => (pg_tup (n := 2) rfl (pgs_cons (pg_name (i := 4) sc_shown_from.nd rfl (.inl rfl) (.inr rfl)) (pgs_cons (pg_name (i := 5) sc_shown_from.nd rfl (.inl rfl) (.inr rfl)) pgs_nil)))) (fun _ _ _ _ _ => pts_nil) (fun _ _ _ _ _ => (pe_cal C_part_plus (hr.mono (by decide)) (pa_cons (pv 5) (pa_cons (pe_cal C_cost_between (hr.mono (by decide)) (pa_cons (pv 0) (pa_cons (pv 4) (pa_cons (pv 3) pa_nil)))) pa_nil))))))), ?_⟩
    refine r_ret (v_is (v_lcZ (zs.map (·.1)) (zs.map (·.2)) rowD frD (fun p v => frD (v + rise g p x)) rfl rfl (by rw [List.length_map]; have := h3.few; omega) (fun p _ => fr_tup _) (by decide) (by decide) fun p hp => ?_) ?_)
    · have hm := mem_zip_pv hp
      exact v_call (v_cons (v_var rfl) (v_cons (v_call (v_cons (v_var rfl) (v_cons (v_var rfl) (v_cons (v_var rfl) v_nil))) (.mk n g p.1 x dg h1 h2 (h3.pt _ hm) h4)) v_nil)) (R_two.mk (f := fun q r => q + r) _ _ (h3.sm hm) (rise_sm h2 (h3.pt _ hm) h4))
    · rw [zip_fst_snd, List.map_map]
      rfl
/-! ### the law's own -/
inductive R_isLetL : List PyData → PyData → Prop
  | mk (n : Nat) (g : List Row) (zs : List PV) : GOk n g → ZOk n zs → Let g zs → R_isLetL [rowsD g, ptsD zs, valsD zs] (.bool true)
theorem zip_at {zs : List PV} {i : Nat} {p : PyData × PyData} (h : (((zs.map (·.1)).map rowD).zip ((zs.map (·.2)).map frD))[i]? = some p) : ∃ z, zs[i]? = some z ∧ p = (rowD z.1, frD z.2) := by
  obtain ⟨h1, h2⟩ := List.getElem?_zip_eq_some.mp h
  obtain ⟨z, hz, e1⟩ := pts_of h1
  rw [vals_at hz] at h2
  exact ⟨z, hz, Prod.ext e1 (Option.some.inj h2).symm⟩
theorem c_l_is_let (T : Txt K mg aN aL) (D : Dfn K mg "_law_is_let" s_l_is_let p_l_is_let) (C_l_lower : Cal P w K mg base CX0 1 "_law_lower" p_l_lower (SpD K R_below)) (C_l_rise_cost : Cal P w K mg base CX0 6 "_law_rise_cost" p_l_rise_cost (SpD K R_riseL))
    (C_l_less_by : Cal P w K mg base CX0 3 "_law_less_by" p_l_less_by (SpD K (R_two fun q r => q - r))) : Cal P w K mg base CX0 7 "_law_is_let" p_l_is_let (SpD K R_isLetL) := by
  refine D.sr sc_l_is_let (fun _ _ h => by cases h; rfl) fun f cdv A outer s H E hr ds d hR => ?_
  cases hR with
  | mk n g zs h1 h2 h3 =>
    refine ⟨_, (pss_cons (ps_for PassesOwn.never rfl (RZ.pi_zipA (by rfl) T.n_zip (pa_cons (pv 1) (pa_cons (pv 2) pa_nil))) (pg_tup (n := 2) rfl (pgs_cons (pg_name (i := 3) sc_l_is_let.nd rfl (.inl rfl)) (pgs_cons (pg_name (i := 4) sc_l_is_let.nd rfl (.inl rfl)) pgs_nil))) (pss_one (ps_for PassesOwn.never rfl (RZ.pi_zipA (by rfl) T.n_zip (pa_cons (pv 1) (pa_cons (pv 2) pa_nil))) (pg_tup (n := 2) rfl (pgs_cons (pg_name (i := 5) sc_l_is_let.nd rfl (.inl rfl)) (pgs_cons (pg_name (i := 6) sc_l_is_let.nd rfl (.inl rfl)) pgs_nil))) (pss_one (ps_if (pt_val (pe_cal C_l_lower (hr.mono (by decide)) (pa_cons (pe_cal C_l_rise_cost (hr.mono (by decide)) (pa_cons (pv 0) (pa_cons (pv 3) (pa_cons (pv 5) pa_nil)))) (pa_cons (pe_cal C_l_less_by (hr.mono (by decide)) (pa_cons (pv 6) (pa_cons (pv 4) pa_nil))) pa_nil)))) (pss_one (ps_ret pe_bl)) pss_nil))))) (pss_one (ps_ret pe_bl))), ?_⟩
    refine r_seq (n_forP (fun _ => [some (rowsD g), some (ptsD zs), some (valsD zs), none, none, none, none]) (e_zip rfl rfl) rfl (fun i p hp => ?_) rfl) (r_ret v_cb)
    obtain ⟨a, ha, rfl⟩ := zip_at hp
    refine n_forget 4 (Δ1 := [some (rowsD g), some (ptsD zs), some (valsD zs), none, some (frD a.2), none, none]) (n_forget 3 (Δ1 := [some (rowsD g), some (ptsD zs), some (valsD zs), some (rowD a.1), some (frD a.2), none, none]) ?_)
    refine n_forP (fun _ => [some (rowsD g), some (ptsD zs), some (valsD zs), some (rowD a.1), some (frD a.2), none, none]) (e_zip rfl rfl) rfl (fun j p hp => ?_) rfl
    obtain ⟨b, hb, rfl⟩ := zip_at hp
    have ma := List.mem_of_getElem? ha
    have mb := List.mem_of_getElem? hb
    refine n_forget 6 (Δ1 := [some (rowsD g), some (ptsD zs), some (valsD zs), some (rowD a.1), some (frD a.2), none, some (frD b.2)]) (n_forget 5 (Δ1 := [some (rowsD g), some (ptsD zs), some (valsD zs), some (rowD a.1), some (frD a.2), some (rowD b.1), some (frD b.2)]) ?_)
    have sr : Sm (b.2 - a.2) := by
      have q : Bd 504 (1000 + 1000) (b.2 - a.2) := (h2.vl _ mb).sub (h2.vl _ ma)
      exact q.sm'
    refine n_if (b_is (b_B (v_call (v_cons (v_call (v_cons (v_var rfl) (v_cons (v_var rfl) (v_cons (v_var rfl) v_nil))) (.mk n g a.1 b.1 h1 (h2.pt _ ma) (h2.pt _ mb))) (v_cons (v_call (v_cons (v_var rfl) (v_cons (v_var rfl) v_nil)) (R_two.mk (f := fun q r => q - r) _ _ (h2.sm mb) (h2.sm ma))) v_nil)) (.mk _ _ (rise_sm h1 (h2.pt _ ma) (h2.pt _ mb)) sr))) (b := false) (decide_eq_false ?_)) (fun e => nomatch e) fun _ => n_next
    have := h3 a ma b mb
    grind
inductive R_madeL (F : List Row → List PV → Row → Rat) : List PyData → PyData → Prop
  | mk (n : Nat) (g : List Row) (zs : List PV) (x : Row) : GOk n g → ZOk n zs → PtOk n x → R_madeL F [rowsD g, ptsD zs, valsD zs, rowD x] (frD (F g zs x))
theorem c_l_made (T : Txt K mg aN aL) (D : Dfn K mg "_law_made" s_l_made p_l_made) (C_l_lowest : Cal P w K mg base CX0 2 "_law_lowest" p_l_lowest (SpD K (R_mostL minL))) (C_l_rise_cost : Cal P w K mg base CX0 6 "_law_rise_cost" p_l_rise_cost (SpD K R_riseL))
    (C_l_sum : Cal P w K mg base CX0 3 "_law_sum" p_l_sum (SpD K (R_two fun q r => q + r))) : Cal P w K mg base CX0 7 "_law_made" p_l_made (SpD K (R_madeL made)) := by
  refine D.sr sc_l_made (fun _ _ h => by cases h; rfl) fun f cdv A outer s H E hr ds d hR => ?_
  cases hR with
  | mk n g zs x h1 h2 h3 =>
    refine ⟨_, (pss_cons (ps_set (i := 4) sc_l_made.nd rfl (.inl rfl) (pe_lst pa_nil))
      (pss_cons (ps_for PassesOwn.never rfl (RZ.pi_zipA (by rfl) T.n_zip (pa_cons (pv 1) (pa_cons (pv 2) pa_nil))) (pg_tup (n := 2) rfl (pgs_cons (pg_name (i := 5) sc_l_made.nd rfl (.inl rfl)) (pgs_cons (pg_name (i := 6) sc_l_made.nd rfl (.inl rfl)) pgs_nil))) (pss_one (ps_expr (pe_bm PySem.F.plainAttrs_list PySem.F.slot_list_append PySem.F.type_list_append mt_append (pv 4) (pa_cons (pe_cal C_l_sum (hr.mono (by decide)) (pa_cons (pv 6) (pa_cons (pe_cal C_l_rise_cost (hr.mono (by decide)) (pa_cons (pv 0) (pa_cons (pv 5) (pa_cons (pv 3) pa_nil)))) pa_nil))) pa_nil)))))
      (pss_one (ps_ret (pe_cal C_l_lowest (hr.mono (by decide)) (pa_cons (pv 4) pa_nil)))))), ?_⟩
    have hl : zs.length ≤ 6 := h2.few
    refine r_fill (i := 5) (j := 6) (l := 4) (ps := ((zs.map (·.1)).map rowD).zip ((zs.map (·.2)).map frD)) ((zs.map fun z => z.2 + rise g z.1 x).map frD) (by simp) rfl (by show 4 < 7; decide) (by decide) (by decide) (e_zip rfl rfl) (by simp; omega) (tupOnlys_all.mpr fun d hd => ?_) (fun i p f hp hf => ?_) (r_ret (v_call (v_cons (v_var rfl) v_nil) (.lst (zs.map fun z => z.2 + rise g z.1 x) (by simpa using h2.ne) fun q hq => (made_sm h1 h2 h3 q hq).sm')))
    · obtain ⟨q, _, rfl⟩ := List.mem_map.mp hd
      exact fr_tup q
    · obtain ⟨z, hz, rfl⟩ := zip_at hp
      have mz := List.mem_of_getElem? hz
      have ef : f = frD (z.2 + rise g z.1 x) := by
        rw [List.getElem?_map, List.getElem?_map, hz] at hf
        exact (Option.some.inj hf).symm
      rw [ef]
      exact v_call (v_cons (v_var rfl) (v_cons (v_call (v_cons (v_var rfl) (v_cons (v_var rfl) (v_cons (v_var rfl) v_nil))) (.mk n g z.1 x h1 (h2.pt _ mz) h3)) v_nil)) (R_two.mk (f := fun q r => q + r) _ _ (h2.sm mz) (rise_sm h1 (h2.pt _ mz) h3))
theorem c_l_least_made (T : Txt K mg aN aL) (D : Dfn K mg "_law_least_made" s_l_least_made p_l_least_made) (C_l_highest : Cal P w K mg base CX0 2 "_law_highest" p_l_highest (SpD K (R_mostL maxL))) (C_l_rise_cost : Cal P w K mg base CX0 6 "_law_rise_cost" p_l_rise_cost (SpD K R_riseL))
    (C_l_less_by : Cal P w K mg base CX0 3 "_law_less_by" p_l_less_by (SpD K (R_two fun q r => q - r))) : Cal P w K mg base CX0 7 "_law_least_made" p_l_least_made (SpD K (R_madeL least)) := by
  refine D.sr sc_l_least_made (fun _ _ h => by cases h; rfl) fun f cdv A outer s H E hr ds d hR => ?_
  cases hR with
  | mk n g zs x h1 h2 h3 =>
    refine ⟨_, (pss_one (ps_ret (pe_cal C_l_highest (hr.mono (by decide)) (pa_cons (pe_lc (own := [("_law_own", 4), ("_law_value_so", 5)]) (g := (gTup K 2 (gCons (gName 4) (gCons (gName 5) gNil)))) (tt := tYes) (by rfl) sc_l_least_made.nd (RZ.pi_zipA (by rfl) T.n_zip (pa_cons (pv 1) (pa_cons (pv 2) pa_nil))) (blkOk_by (own := [("_law_own", 4), ("_law_value_so", 5)]) (N := n_l_least_made) (sc := defScope s_l_least_made) (by decide +kernel)) (fun _ _ _ _ _ => (pg_tup (n := 2) rfl (pgs_cons (pg_name (i := 4) sc_l_least_made.nd rfl (.inl rfl) (.inr rfl)) (pgs_cons (pg_name (i := 5) sc_l_least_made.nd rfl (.inl rfl) (.inr rfl)) pgs_nil)))) (fun _ _ _ _ _ => pts_nil) (fun _ _ _ _ _ => (pe_cal C_l_less_by (hr.mono (by decide)) (pa_cons (pv 5) (pa_cons (pe_cal C_l_rise_cost (hr.mono (by decide)) (pa_cons (pv 0) (pa_cons (pv 3) (pa_cons (pv 4) pa_nil)))) pa_nil))))) pa_nil)))), ?_⟩
    refine r_ret (v_call (v_cons (v_is (v_lcZ (zs.map (·.1)) (zs.map (·.2)) rowD frD (fun p v => frD (v - rise g x p)) rfl rfl (by rw [List.length_map]; have := h2.few; omega) (fun p _ => fr_tup _) (by decide) (by decide) fun p hp => ?_) (d2 := .list ((zs.map fun z => z.2 - rise g x z.1).map frD)) ?_) v_nil) (.lst _ (by simpa using h2.ne) fun q hq => (least_sm h1 h2 h3 q hq).sm'))
    · have hm := mem_zip_pv hp
      exact v_call (v_cons (v_var rfl) (v_cons (v_call (v_cons (v_var rfl) (v_cons (v_var rfl) (v_cons (v_var rfl) v_nil))) (.mk n g x p.1 h1 h3 (h2.pt _ hm))) v_nil)) (R_two.mk (f := fun q r => q - r) _ _ (h2.sm hm) (rise_sm h1 h3 (h2.pt _ hm)))
    · rw [zip_fst_snd, List.map_map]
      rfl
inductive R_pairL : List PyData → PyData → Prop
  | mk (n : Nat) (g : List Row) (zs : List PV) : GOk n g → ZOk n zs → R_pairL [rowsD g, ptsD zs, valsD zs] (pairD (brokenP g zs))
theorem c_l_pair_of (T : Txt K mg aN aL) (D : Dfn K mg "_law_pair_of" s_l_pair_of p_l_pair_of) (C_l_lower : Cal P w K mg base CX0 1 "_law_lower" p_l_lower (SpD K R_below)) (C_l_rise_cost : Cal P w K mg base CX0 6 "_law_rise_cost" p_l_rise_cost (SpD K R_riseL))
    (C_l_less_by : Cal P w K mg base CX0 3 "_law_less_by" p_l_less_by (SpD K (R_two fun q r => q - r))) : Cal P w K mg base CX0 7 "_law_pair_of" p_l_pair_of (SpD K R_pairL) := by
  refine D.sr sc_l_pair_of (fun _ _ h => by cases h; rfl) fun f cdv A outer s H E hr ds d hR => ?_
  cases hR with
  | mk n g zs h4 h5 =>
    refine ⟨_, (pss_cons (ps_for PassesOwn.never rfl (pi_enumT (by rfl) T.n_enumerate (pa_cons (pv 1) pa_nil)) (pg_tup (n := 2) rfl (pgs_cons (pg_name (i := 3) sc_l_pair_of.nd rfl (.inl rfl)) (pgs_cons (pg_name (i := 4) sc_l_pair_of.nd rfl (.inl rfl)) pgs_nil))) (pss_one (ps_for PassesOwn.never rfl (pi_enumT (by rfl) T.n_enumerate (pa_cons (pv 1) pa_nil)) (pg_tup (n := 2) rfl (pgs_cons (pg_name (i := 5) sc_l_pair_of.nd rfl (.inl rfl)) (pgs_cons (pg_name (i := 6) sc_l_pair_of.nd rfl (.inl rfl)) pgs_nil))) (pss_one (ps_if (pt_val (pe_cal C_l_lower (hr.mono (by decide)) (pa_cons (pe_cal C_l_rise_cost (hr.mono (by decide)) (pa_cons (pv 0) (pa_cons (pv 4) (pa_cons (pv 6) pa_nil)))) (pa_cons (pe_cal C_l_less_by (hr.mono (by decide)) (pa_cons (pe_ix ix_seq (pv 2) (pv 5) (fun _ _ => rfl)) (pa_cons (pe_ix ix_seq (pv 2) (pv 3) (fun _ _ => rfl)) pa_nil))) pa_nil)))) (pss_one (ps_ret (pe_tup (pa_cons (pv 3) (pa_cons (pv 5) pa_nil))))) pss_nil)))))
      (pss_one (ps_ret pe_non))), ?_⟩
    let Ψ : Nat → Dt := fun _ => [some (rowsD g), some (ptsD zs), some (valsD zs), none, none, none, none]
    have hlen : (numbered ((zs.map (·.1)).map rowD)).length = zs.length := by rw [numbered, List.length_mapIdx, List.length_map, List.length_map]
    refine x_seq (r := (brokenP g zs).map fun p => .tuple [.int (p.1 : Int), .int (p.2 : Int)]) (Δ1 := Ψ 0) ?_ (fun e => ?_) fun d' e => ?_
    · rw [← bp_map, ← hlen]
      refine x_forP (i := 3) (j := 4) Ψ _ (e_enumT rfl) rfl (fun i p hp => ?_) rfl
      obtain ⟨di, hdi, rfl⟩ := numbered_at.mp hp
      obtain ⟨zi, hzi, rfl⟩ := pts_of hdi
      refine x_forget 4 (Δ1 := [some (rowsD g), some (ptsD zs), some (valsD zs), none, some (rowD zi.1), none, none]) (x_forget 3 (Δ1 := [some (rowsD g), some (ptsD zs), some (valsD zs), some (.int (i : Int)), some (rowD zi.1), none, none]) ?_)
      refine x_forP (i := 5) (j := 6) (fun _ => [some (rowsD g), some (ptsD zs), some (valsD zs), some (.int (i : Int)), some (rowD zi.1), none, none]) _ (e_enumT rfl) rfl (fun j p hp => ?_) rfl
      obtain ⟨dj, hdj, rfl⟩ := numbered_at.mp hp
      obtain ⟨zj, hzj, rfl⟩ := pts_of hdj
      have mi := List.mem_of_getElem? hzi
      have mj := List.mem_of_getElem? hzj
      have hb := brk_at (g := g) hzi hzj
      have sr : Sm (zj.2 - zi.2) := by
        have b : Bd 504 (1000 + 1000) (zj.2 - zi.2) := (h5.vl _ mj).sub (h5.vl _ mi)
        exact b.sm'
      refine x_forget 6 (Δ1 := [some (rowsD g), some (ptsD zs), some (valsD zs), some (.int (i : Int)), some (rowD zi.1), none, some (rowD zj.1)]) (x_forget 5 (Δ1 := [some (rowsD g), some (ptsD zs), some (valsD zs), some (.int (i : Int)), some (rowD zi.1), some (.int (j : Int)), some (rowD zj.1)]) ?_)
      refine x_if (b := brk g zs i j) (b_is (b_B (v_call (v_cons (v_call (v_cons (v_var rfl) (v_cons (v_var rfl) (v_cons (v_var rfl) v_nil))) (.mk n g zi.1 zj.1 h4 (h5.pt _ mi) (h5.pt _ mj))) (v_cons (v_call (v_cons (v_ixT (v_var rfl) (v_var rfl) (vals_at hzj)) (v_cons (v_ixT (v_var rfl) (v_var rfl) (vals_at hzi)) v_nil)) (R_two.mk (f := fun q r => q - r) _ _ (h5.sm mj) (h5.sm mi))) v_nil)) (.mk _ _ (rise_sm h4 (h5.pt _ mi) (h5.pt _ mj)) sr))) hb.symm) (fun e => ?_) fun e => ?_
      · rw [if_pos e]
        exact x_of_sr (r_ret (v_tup (v_cons (v_var rfl) (v_cons (v_var rfl) v_nil))))
      · rw [if_neg (by rw [e]; decide)]
        exact x_of_sn n_next
    · cases hb : brokenP g zs with
      | none => exact r_ret v_cn
      | some p => rw [hb] at e; cases e
    · cases hb : brokenP g zs with
      | none => rw [hb] at e; cases e
      | some p => rw [hb] at e; exact (Option.some.inj e).symm
inductive R_walked : List PyData → PyData → Prop
  | mk (n : Nat) (g : List Row) (zs : List PV) : GOk n g → ZOk n zs → Let g zs → R_walked [rowsD g, ptsD zs, valsD zs] (.bool true)
theorem c_l_walked_right (T : Txt K mg aN aL) (D : Dfn K mg "_law_walked_right" s_l_walked_right p_l_walked_right) (C_l_is_let : Cal P w K mg base CX0 7 "_law_is_let" p_l_is_let (SpD K R_isLetL)) : Cal P w K mg base CX0 8 "_law_walked_right" p_l_walked_right (SpD K R_isLetL) := by
  refine D.sr sc_l_walked_right (fun _ _ h => by cases h; rfl) fun f cdv A outer s H E hr ds d hR => ?_
  cases hR with
  | mk n g zs h1 h2 h3 =>
    refine ⟨_, (pss_one (ps_ret (pe_cal C_l_is_let (hr.mono (by decide)) (pa_cons (pv 0) (pa_cons (pv 1) (pa_cons (pv 2) pa_nil)))))), ?_⟩
    exact r_ret (v_call (v_cons (v_var rfl) (v_cons (v_var rfl) (v_cons (v_var rfl) v_nil))) (.mk n g zs h1 h2 h3))
end
end K17

end
section
set_option maxHeartbeats 4200000
/-! # The laws made of values that are let -/
namespace K17
open PySem PySem.Spec PyProof.Rows L2 Evl
inductive R_sure : List PyData → PyData → Prop
  | mk (n : Nat) (g : List Row) (zs : List PV) (dg dp dv : PyData) : tupD dg = rowsD g → tupD dp = ptsD zs → tupD dv = valsD zs → GOk n g → ZOk n zs → Let g zs → R_sure [dg, dp, dv] (.tuple [ptsD zs, valsD zs])
inductive R_lawAt (F : List Row → List PV → Row → Rat) : List PyData → PyData → Prop
  | mk (n : Nat) (g : List Row) (zs : List PV) (x : Row) (dg dp dv dx : PyData) : tupD dg = rowsD g → tupD dp = ptsD zs → tupD dv = valsD zs → tupD dx = rowD x → GOk n g → ZOk n zs → PtOk n x → Let g zs → R_lawAt F [dg, dp, dv, dx] (frD (F g zs x))
theorem PtOk.tup {n k : Nat} {x : Row} {dx : PyData} (h : PtOk n x) (hn : n ≤ 2) (e : tupD dx = rowD x) (hk : 4 ≤ k) : R_tup k [dx] (rowD x) := .row e (by rw [h.len]; omega) hk
section
variable {P : Program} {w : World} {K : PySem.W.Frag} {mg : Str → Option Value} {base : Heap} {aN aL : Addr}
theorem c_sure_let (T : Txt K mg aN aL) (D : Dfn K mg "sure_let" s_sure_let p_sure_let) (C_is_let : Cal P w K mg base CX0 9 "is_let" p_is_let (SpD K R_isLet)) (C_tupled : Cal P w K mg base CX0 4 "tupled" p_tupled (SpD K (R_tup 4))) :
    Cal P w K mg base CX0 10 "sure_let" p_sure_let (SpD K R_sure) := by
  refine D.sr sc_sure_let (fun _ _ h => by cases h; rfl) fun f cdv A outer s H E hr ds d hR => ?_
  cases hR with
  | mk n g zs dg dp dv h1 h2 h3 h4 h5 h6 =>
    refine ⟨_, (pss_cons (ps_if (pt_not (pt_val (pe_cal C_is_let (hr.mono (by decide)) (pa_cons (pv 0) (pa_cons (pv 1) (pa_cons (pv 2) pa_nil)))))) (pss_one ps_never) pss_nil)
      (pss_one (ps_ret (pe_tup (pa_cons (pe_cal C_tupled (hr.mono (by decide)) (pa_cons (pv 1) pa_nil)) (pa_cons (pe_cal C_tupled (hr.mono (by decide)) (pa_cons (pv 2) pa_nil)) pa_nil)))))), ?_⟩
    have n2 := h4.n1
    refine r_seq (n_if (b := false) (b_is (b_not (b_B (v_call (v_cons (v_var rfl) (v_cons (v_var rfl) (v_cons (v_var rfl) v_nil))) (.mk n g zs dg dp dv h1 h2 h3 h4 h5)))) ?_) (fun e => nomatch e) fun _ => n_next) (r_ret (v_tup (v_cons (v_call (v_cons (v_var rfl) v_nil) (h5.tupP n2 h2 (by decide))) (v_cons (v_call (v_cons (v_var rfl) v_nil) (h5.tupV h3 (by decide))) v_nil))))
    rw [broken_none.mpr h6]
    rfl
theorem c_law_at (T : Txt K mg aN aL) (D : Dfn K mg "law_at" s_law_at p_law_at) (C_sure_let : Cal P w K mg base CX0 10 "sure_let" p_sure_let (SpD K R_sure)) (C_tupled : Cal P w K mg base CX0 4 "tupled" p_tupled (SpD K (R_tup 4)))
    (C_least_part : Cal P w K mg base CX0 2 "least_part" p_least_part (SpD K (R_mostL minL))) (C_shown_from : Cal P w K mg base CX0 8 "shown_from" p_shown_from (SpD K R_shown)) : Cal P w K mg base CX0 11 "law_at" p_law_at (SpD K (R_lawAt made)) := by
  refine D.sr sc_law_at (fun _ _ h => by cases h; rfl) fun f cdv A outer s H E hr ds d hR => ?_
  cases hR with
  | mk n g zs x dg dp dv dx h1 h2 h3 hx h4 h5 h7 h6 =>
    refine ⟨_, (pss_cons (ps_asg (pe_cal C_sure_let (hr.mono (by decide)) (pa_cons (pv 0) (pa_cons (pv 1) (pa_cons (pv 2) pa_nil)))) (pg_tup (n := 2) rfl (pgs_cons (pg_name (i := 4) sc_law_at.nd rfl (.inl rfl)) (pgs_cons (pg_name (i := 5) sc_law_at.nd rfl (.inl rfl)) pgs_nil))))
      (pss_one (ps_ret (pe_cal C_least_part (hr.mono (by decide)) (pa_cons (pe_cal C_shown_from (hr.mono (by decide)) (pa_cons (pv 0) (pa_cons (pv 4) (pa_cons (pv 5) (pa_cons (pe_cal C_tupled (hr.mono (by decide)) (pa_cons (pv 3) pa_nil)) pa_nil))))) pa_nil))))), ?_⟩
    have n2 := h4.n1
    refine r_seq (n_asgP (v_call (v_cons (v_var rfl) (v_cons (v_var rfl) (v_cons (v_var rfl) v_nil))) (.mk n g zs dg dp dv h1 h2 h3 h4 h5 h6))) (r_ret (v_call (v_cons (v_call (v_cons (v_var rfl) (v_cons (v_var rfl) (v_cons (v_var rfl) (v_cons (v_call (v_cons (v_var rfl) v_nil) (h7.tup n2 hx (by decide))) v_nil)))) (.mk n g zs x dg h1 h4 h5 h7)) v_nil) ?_))
    exact .lst _ (by simpa using h5.ne) fun q hq => (made_sm h4 h5 h7 q hq).sm'
theorem c_least_law_at (T : Txt K mg aN aL) (D : Dfn K mg "least_law_at" s_least_law_at p_least_law_at) (C_sure_let : Cal P w K mg base CX0 10 "sure_let" p_sure_let (SpD K R_sure)) (C_tupled : Cal P w K mg base CX0 4 "tupled" p_tupled (SpD K (R_tup 4)))
    (C_greatest_part : Cal P w K mg base CX0 2 "greatest_part" p_greatest_part (SpD K (R_most maxL))) (C_part_less : Cal P w K mg base CX0 3 "part_less" p_part_less (SpD K (R_two fun q r => q - r))) (C_cost_between : Cal P w K mg base CX0 7 "cost_between" p_cost_between (SpD K R_rise)) :
    Cal P w K mg base CX0 11 "least_law_at" p_least_law_at (SpD K (R_lawAt least)) := by
  refine D.sr sc_least_law_at (fun _ _ h => by cases h; rfl) fun f cdv A outer s H E hr ds d hR => ?_
  cases hR with
  | mk n g zs x dg dp dv dx h1 h2 h3 hx h4 h5 h7 h6 =>
    refine ⟨_, (pss_cons (ps_asg (pe_tup (pa_cons (pe_cal C_sure_let (hr.mono (by decide)) (pa_cons (pv 0) (pa_cons (pv 1) (pa_cons (pv 2) pa_nil)))) (pa_cons (pe_cal C_tupled (hr.mono (by decide)) (pa_cons (pv 3) pa_nil)) pa_nil))) (pg_tup (n := 2) rfl (pgs_cons (pg_tup (n := 2) rfl (pgs_cons (pg_name (i := 4) sc_least_law_at.nd rfl (.inl rfl)) (pgs_cons (pg_name (i := 5) sc_least_law_at.nd rfl (.inl rfl)) pgs_nil))) (pgs_cons (pg_name (i := 6) sc_least_law_at.nd rfl (.inr rfl)) pgs_nil))))
      (pss_one (ps_ret (pe_cal C_greatest_part (hr.mono (by decide)) (pa_cons (pe_lc (own := [("point", 7), ("value", 8)]) (g := (gTup K 2 (gCons (gName 7) (gCons (gName 8) gNil)))) (tt := tYes) (by rfl) sc_least_law_at.nd (RZ.pi_zipA (by rfl) T.n_zip (pa_cons (pv 4) (pa_cons (pv 5) pa_nil))) (blkOk_by (own := [("point", 7), ("value", 8)]) (N := n_least_law_at) (sc := defScope s_least_law_at) (by decide +kernel)) (fun _ _ _ _ _ => (pg_tup (n := 2) rfl (pgs_cons (pg_name (i := 7) sc_least_law_at.nd rfl (.inl rfl) (.inr rfl)) (pgs_cons (pg_name (i := 8) sc_least_law_at.nd rfl (.inl rfl) (.inr rfl)) pgs_nil)))) (fun _ _ _ _ _ => pts_nil) (fun _ _ _ _ _ => (pe_cal C_part_less (hr.mono (by decide)) (pa_cons (pv 8) (pa_cons (pe_cal C_cost_between (hr.mono (by decide)) (pa_cons (pv 0) (pa_cons (pv 6) (pa_cons (pv 7) pa_nil)))) pa_nil))))) pa_nil))))), ?_⟩
    have n2 := h4.n1
    refine r_seq (n_asgPP (v_tup (v_cons (v_call (v_cons (v_var rfl) (v_cons (v_var rfl) (v_cons (v_var rfl) v_nil))) (.mk n g zs dg dp dv h1 h2 h3 h4 h5 h6)) (v_cons (v_call (v_cons (v_var rfl) v_nil) (h7.tup n2 hx (by decide))) v_nil)))) (r_ret (v_call (v_cons (v_is (v_lcZ (zs.map (·.1)) (zs.map (·.2)) rowD frD (fun p v => frD (v - rise g x p)) rfl rfl (by rw [List.length_map]; have := h5.few; omega) (fun p _ => fr_tup _) (by decide) (by decide) fun p hp => ?_) (d2 := .list ((zs.map fun z => z.2 - rise g x z.1).map frD)) ?_) v_nil) ?_))
    · have hm := mem_zip_pv hp
      exact v_call (v_cons (v_var rfl) (v_cons (v_call (v_cons (v_var rfl) (v_cons (v_var rfl) (v_cons (v_var rfl) v_nil))) (.mk n g x p.1 dg h1 h4 h7 (h5.pt _ hm))) v_nil)) (R_two.mk (f := fun q r => q - r) _ _ (h5.sm hm) (rise_sm h4 h7 (h5.pt _ hm)))
    · rw [zip_fst_snd, List.map_map]
      rfl
    · exact .lst _ (by simpa using h5.ne) fun q hq => (least_sm h4 h5 h7 q hq).sm'
end
end K17

end
section
set_option maxHeartbeats 4200000
/-! # _law_lists and _law_same, down to any told depth -/
namespace K17
open PySem PySem.Spec PyProof.Rows L2 Evl
section
variable {K : PySem.W.Frag} {Δ : Dt} {ta tb te : TE} {d : PyData} {ds es : List PyData}
theorem e_zipL {i j : Nat} (h1 : Δ[i]? = some (some (.list ds))) (h2 : Δ[j]? = some (some (.list es))) : ∀ σ H, Sl K σ H Δ → SrcD (RZ.iZipA K (tCons (tVar i) (tCons (tVar j) tNil))) σ H (ds.zip es).length (YP K H (ds.zip es)) := fun σ H s => by
  obtain ⟨v, a1, a2⟩ := s.at_ _ _ h1
  obtain ⟨w, b1, b2⟩ := s.at_ _ _ h2
  exact src_zip2L a1 b1 a2 b2
theorem v_srcP {wi : TI} {j k : Nat} {vs : List Nat} {ps : List (PyData × PyData)} (hs : ∀ σ H, Sl K σ H Δ → SrcD wi σ H ps.length (YP K H ps)) (fs : List PyData) (hfl : fs.length = ps.length) (hz : ps.length ≤ 40000) (ht : tupOnly.tupOnlys fs = true) (hj : j ∈ vs) (hk : k ∈ vs)
    (he : ∀ (n : Nat) (p : PyData × PyData) (f : PyData), ps[n]? = some p → fs[n]? = some f → EV K te (((wipeD Δ vs).set j (some p.1)).set k (some p.2)) f) : EV K (tLc wi (gTup K 2 (gCons (gName j) (gCons (gName k) gNil))) tYes te vs) Δ (.list fs) := fun σ H s => by
  refine d_lc fs (hs σ H s) hfl hz ht ?_
  rintro n f' v H1 H2 hf e ⟨T, x, y, q, rfl, hT, rfl, hp, hx, hy⟩ Q go
  have e1 : Ex H1 (upd H1 T (.tup [x, y])) := Ex.new hT
  have e2 := e.trans e1
  exact ⟨T, [x, y], rfl, .of upd_same, rfl, x, [y], rfl, y, [], rfl, rfl, go _ _ e1 e2 (wipe_two hj hk _ _) (he n q f' hp hf _ _ ((((s.ex e2).wipe vs).put j (dp_ex e2 _ _ hx)).put k (dp_ex e2 _ _ hy)))⟩
theorem v_isi {n : String} {b : Bool} (h : EV K te Δ d) (hb : kitB (tyName d) n = some b) : EV K (tCB (rIsi K) (tCons te (tCons (tC (.ty n)) tNil))) Δ (.bool b) := fun σ H s H1 e Q k => h σ H s H1 e _ fun v H2 e2 hd =>
  ⟨v, .ty n, _, _, b, rfl, .ty n, tyx_of hd, kit_ty hb, k _ _ e2 (.bl _)⟩
/-- isinstance(x, (C1, C2)) -/
theorem v_isT {n1 n2 : String} {b : Bool} (h : EV K te Δ d) (hk : PySem.W.kitAny K (.type (tyName d)) [.type n1, .type n2] = some b) : EV K (tCB (rIsiT K) (tCons te (tCons (tTup (tCons (tC (.ty n1)) (tCons (tC (.ty n2)) tNil))) tNil))) Δ (.bool b) := fun σ H s H1 e Q k => h σ H s H1 e _ fun v H2 e2 hd => by
  refine ⟨sz_of (by show 2 ≤ 100000; decide), fun p hp => ?_⟩
  have e3 := Ex.new (o := .tup [.ty n1, .ty n2]) hp
  have hd' := dp_ex e3 _ _ hd
  exact ⟨v, p, [.ty n1, .ty n2], _, [.type n1, .type n2], b, rfl, upd_same, .cons (.ty _) (.cons (.ty _) .nil), tyx_of hd', hk, k _ _ (e2.trans e3) (.bl _)⟩
theorem kit_no2 {n n1 n2 : String} (h1 : kitB n n1 = some false) (h2 : kitB n n2 = some false) : PySem.W.kitAny K (.type n) [.type n1, .type n2] = some false :=
  kitAny_cons (kit_ty h1) (fun _ => kitAny_cons (kit_ty h2) (fun _ => kitAny_nil) (fun e => nomatch e)) (fun e => nomatch e)
theorem kit_yes1 {n n1 n2 : String} (h1 : kitB n n1 = some true) : PySem.W.kitAny K (.type n) [.type n1, .type n2] = some true := kitAny_cons (kit_ty h1) (fun e => nomatch e) (fun _ => rfl)
theorem kit_yes2 {n n1 n2 : String} (h1 : kitB n n1 = some false) (h2 : kitB n n2 = some true) : PySem.W.kitAny K (.type n) [.type n1, .type n2] = some true :=
  kitAny_cons (kit_ty h1) (fun _ => kitAny_cons (kit_ty h2) (fun e => nomatch e) (fun _ => rfl)) (fun e => nomatch e)
def isFlat : PyData → Bool
  | .int _ | .bool _ | .str _ | .none => true
  | _ => false
theorem v_eqF (ha : EV K ta Δ d) (hb : EV K tb Δ d) (hf : isFlat d = true) : EV K (tOp rEq ta tb) Δ (.bool true) := fun σ H s => by
  cases d with
  | none => exact d_bool (ev_is (ev_op (ev_none (ha σ H s)) (ev_none (hb σ H s)) (rv_eq rfl)) (by simp))
  | bool b => exact d_bool (ev_is (ev_op (ev_bool (ha σ H s)) (ev_bool (hb σ H s)) (rv_eq rfl)) (by simp))
  | int i => exact d_bool (ev_is (ev_op (ev_int (ha σ H s)) (ev_int (hb σ H s)) (rv_eq rfl)) (by simp))
  | str x => exact d_bool (ev_is (ev_op (ev_str (ha σ H s)) (ev_str (hb σ H s)) (rv_eq rfl)) (by simp))
  | list xs => exact nomatch hf
  | tuple xs => exact nomatch hf
  | dict xs => exact nomatch hf
theorem dps_bls {H : Hp} : ∀ {bs : List Bool} {xs : List V}, DpAll K H xs (bs.map .bool) → xs = bs.map V.bl
  | [], _, h => by cases h; rfl
  | b :: bs, _, h => by
    cases h with
    | cons h1 h2 => rw [dp_bool h1, dps_bls h2]; rfl
theorem v_all {bs : List Bool} (h : EV K te Δ (.list (bs.map .bool))) : EV K (tCB (rAll K) (tCons te tNil)) Δ (.bool (bs.all id)) := fun σ H s H1 e Q k => h σ H s H1 e _ fun v H2 e2 hd => by
  obtain ⟨a, xs, rfl, hs, hx⟩ := dp_ref_lst hd
  rw [dps_bls hx] at hs
  exact ⟨a, bs, rfl, hs, k _ _ e2 (.bl _)⟩
end
theorem kb_ll : kitB "list" "list" = some true := by decide +kernel
theorem kb_lt : kitB "list" "tuple" = some false := by decide +kernel
theorem kb_tl : kitB "tuple" "list" = some false := by decide +kernel
theorem kb_tt : kitB "tuple" "tuple" = some true := by decide +kernel
inductive R_same (k : Nat) : List PyData → PyData → Prop
  | mk (d : PyData) : okD d = true → d.depth < k → R_same k [d, d] (.bool true)
section
variable {P : Program} {w : World} {K : PySem.W.Frag} {mg : Str → Option Value} {base : Heap} {aN aL : Addr}
theorem c_l_same (T : Txt K mg aN aL) (D : Dfn K mg "_law_same" s_l_same p_l_same) : ∀ k, Cal P w K mg base CX0 k "_law_same" p_l_same (SpD K (R_same k))
  | 0 => D.never fun vs H Q E ⟨ds, d, h1, h2, h3⟩ => by
    cases h2 with
    | mk x h4 h5 => omega
  | k + 1 => by
    have C_l_same := c_l_same T D k
    refine D.sr sc_l_same (fun _ _ h => by cases h; rfl) fun f cdv A outer s H E hr ds d hR => ?_
    cases hR with
    | mk d h1 h2 =>
      refine ⟨_, (pss_cons (ps_if (pt_val (pe_callB call_isiT (by rfl) T.n_isinstance (by decide +kernel) (pa_cons (pv 1) (pa_cons (pe_tup (pa_cons (pe_bltn (v := .ty "list") (by rfl) T.n_list (by decide +kernel) rfl) (pa_cons (pe_bltn (v := .ty "tuple") (by rfl) T.n_tuple (by decide +kernel) rfl) pa_nil))) pa_nil)))) (pss_cons (ps_if (PW.pt (pw_or (pt_cmpR op_ne (pe_callB call_isi (by rfl) T.n_isinstance (by decide +kernel) (pa_cons (pv 0) (pa_cons (pe_bltn (v := .ty "list") (by rfl) T.n_list (by decide +kernel) rfl) pa_nil))) (pe_callB call_isi (by rfl) T.n_isinstance (by decide +kernel) (pa_cons (pv 1) (pa_cons (pe_bltn (v := .ty "list") (by rfl) T.n_list (by decide +kernel) rfl) pa_nil))) (nomark _)) (pw_or1 (pt_cmpR op_ne (pe_callB call_isi (by rfl) T.n_isinstance (by decide +kernel) (pa_cons (pv 0) (pa_cons (pe_bltn (v := .ty "tuple") (by rfl) T.n_tuple (by decide +kernel) rfl) pa_nil))) (pe_callB call_isi (by rfl) T.n_isinstance (by decide +kernel) (pa_cons (pv 1) (pa_cons (pe_bltn (v := .ty "tuple") (by rfl) T.n_tuple (by decide +kernel) rfl) pa_nil))) (nomark _))))) (pss_one (ps_ret pe_bl)) pss_nil)
      (pss_one (ps_ret (pe_and (pe_cmpR op_eq (pe_callB call_len_seq (by rfl) T.n_len PySem.boot_len (pa_cons (pv 0) pa_nil)) (pe_callB call_len_seq (by rfl) T.n_len PySem.boot_len (pa_cons (pv 1) pa_nil)) (nomark _)) (pe_one (pe_callB (cr_all rfl) (by rfl) T.n_all (by decide +kernel) (pa_cons (pe_lc (own := [("_law_mine", 2), ("_law_its", 3)]) (g := (gTup K 2 (gCons (gName 2) (gCons (gName 3) gNil)))) (tt := tYes) (by rfl) sc_l_same.nd (RZ.pi_zipA (by rfl) T.n_zip (pa_cons (pv 0) (pa_cons (pv 1) pa_nil))) (blkOk_by (own := [("_law_mine", 2), ("_law_its", 3)]) (N := n_l_same) (sc := defScope s_l_same) (by decide +kernel)) (fun _ _ _ _ _ => (pg_tup (n := 2) rfl (pgs_cons (pg_name (i := 2) sc_l_same.nd rfl (.inl rfl) (.inr rfl)) (pgs_cons (pg_name (i := 3) sc_l_same.nd rfl (.inl rfl) (.inr rfl)) pgs_nil)))) (fun _ _ _ _ _ => pts_nil) (fun _ _ _ _ _ => (pe_cal C_l_same hr (pa_cons (pv 2) (pa_cons (pv 3) pa_nil))))) pa_nil))))))) pss_nil)
      (pss_cons (ps_if (PW.pt (pw_or (pt_cmp (pc_isN (pv 1))) (pw_or1 (pt_val (pe_callB call_isiT (by rfl) T.n_isinstance (by decide +kernel) (pa_cons (pv 1) (pa_cons (pe_tup (pa_cons (pe_bltn (v := .ty "bool") (by rfl) T.n_bool (by decide +kernel) rfl) (pa_cons (pe_bltn (v := .ty "str") (by rfl) T.n_str (by decide +kernel) rfl) pa_nil))) pa_nil))))))) (pss_one (ps_ret (pe_and (pe_cmpR op_eq (pv 0) (pv 1) (nomark _)) (pe_and (pe_cmpR op_eq (pe_callB call_isi (by rfl) T.n_isinstance (by decide +kernel) (pa_cons (pv 0) (pa_cons (pe_bltn (v := .ty "bool") (by rfl) T.n_bool (by decide +kernel) rfl) pa_nil))) (pe_callB call_isi (by rfl) T.n_isinstance (by decide +kernel) (pa_cons (pv 1) (pa_cons (pe_bltn (v := .ty "bool") (by rfl) T.n_bool (by decide +kernel) rfl) pa_nil))) (nomark _)) (pe_one (pe_cmpR op_eq (pe_cmp (pc_isN (pv 0)) rfl) (pe_cmp (pc_isN (pv 1)) rfl) (nomark _))))))) pss_nil)
      (pss_one (ps_ret (pe_and (pe_callB call_isi (by rfl) T.n_isinstance (by decide +kernel) (pa_cons (pv 0) (pa_cons (pe_bltn (v := .ty "int") (by rfl) T.n_int (by decide +kernel) rfl) pa_nil))) (pe_and (pe_not (pe_callB call_isi (by rfl) T.n_isinstance (by decide +kernel) (pa_cons (pv 0) (pa_cons (pe_bltn (v := .ty "bool") (by rfl) T.n_bool (by decide +kernel) rfl) pa_nil)))) (pe_one (pe_cmpR op_eq (pv 0) (pv 1) (nomark _))))))))), ?_⟩
      have seq : ∀ xs : List PyData, (decide (xs.length ≤ 1000) && okDs xs) = true → PyData.depthAll xs + 1 < k + 1 → ∀ {wi : TI} {e : PyData}, (∀ σ H, Sl K σ H [some e, some e, none, none] → SrcD wi σ H (xs.zip xs).length (YP K H (xs.zip xs))) →
          EV K (tCB (rAll K) (tCons (tLc wi (gTup K 2 (gCons (gName 2) (gCons (gName 3) gNil))) tYes (tCall (SpD K (R_same k)) [] E0 (tCons (tVar 2) (tCons (tVar 3) tNil))) [2, 3]) tNil)) [some e, some e, none, none] (.bool true) := fun xs e1 e2 wi e hs => by
        rw [Bool.and_eq_true, decide_eq_true_eq] at e1
        have hl : (xs.zip xs).length = xs.length := by simp
        refine v_is (v_all (bs := List.replicate xs.length true) (v_srcP hs ((List.replicate xs.length true).map .bool) (by simp) (by omega) (tupOnlys_all.mpr fun d hd => ?_) (by decide) (by decide) fun n p f hp hf => ?_)) (by simp)
        · obtain ⟨b, _, rfl⟩ := List.mem_map.mp hd
          rfl
        · obtain ⟨q1, q2⟩ := List.getElem?_zip_eq_some.mp hp
          have ef : f = .bool true := by
            rw [List.getElem?_map, List.getElem?_replicate] at hf
            split at hf
            · exact (Option.some.inj hf).symm
            · cases hf
          have ep : p.2 = p.1 := Option.some.inj (q2.symm.trans q1)
          have m1 := List.mem_of_getElem? q1
          rw [ef, ep]
          exact v_call (v_cons (v_var rfl) (v_cons (v_var rfl) v_nil)) (.mk p.1 (okDs_mem e1.2 _ m1) (by have := depth_mem m1; omega))
      cases d with
      | list xs =>
        refine r_when (b := true) (b_B (v_isSeq (d := .list xs) (v_var rfl))) (fun _ => ?_) (fun e => nomatch e)
        refine r_when (b := false) (b_is (b_or (b_test (v_neB (v_isi (d := .list xs) (v_var rfl) kb_ll) (v_isi (d := .list xs) (v_var rfl) kb_ll))) fun _ => b_test (v_neB (v_isi (d := .list xs) (v_var rfl) kb_lt) (v_isi (d := .list xs) (v_var rfl) kb_lt))) rfl) (fun e => nomatch e) (fun _ => ?_)
        exact r_ret (v_is (v_andV (v_eqI (v_lenL (v_var rfl)) (v_lenL (v_var rfl))) fun _ => seq xs h1 h2 (e_zipL rfl rfl)) (by simp))
      | tuple xs =>
        refine r_when (b := true) (b_B (v_isSeq (d := .tuple xs) (v_var rfl))) (fun _ => ?_) (fun e => nomatch e)
        refine r_when (b := false) (b_is (b_or (b_test (v_neB (v_isi (d := .tuple xs) (v_var rfl) kb_tl) (v_isi (d := .tuple xs) (v_var rfl) kb_tl))) fun _ => b_test (v_neB (v_isi (d := .tuple xs) (v_var rfl) kb_tt) (v_isi (d := .tuple xs) (v_var rfl) kb_tt))) rfl) (fun e => nomatch e) (fun _ => ?_)
        exact r_ret (v_is (v_andV (v_eqI (v_lenT (v_var rfl)) (v_lenT (v_var rfl))) fun _ => seq xs h1 h2 (e_zip rfl rfl)) (by simp))
      | none =>
        refine r_when (b := false) (b_B (v_isSeq (d := .none) (v_var rfl))) (fun e => nomatch e) (fun _ => ?_)
        refine r_when (b := true) (b_is (b_or (b := false) (b_B (v_isN (v_var rfl))) fun e => nomatch e) rfl) (fun _ => ?_) (fun e => nomatch e)
        exact r_ret (v_is (v_andV (v_eqF (v_var rfl) (v_var rfl) rfl) fun _ => v_andV (v_eqB (v_isi (v_var rfl) (b := false) (by decide +kernel)) (v_isi (v_var rfl) (b := false) (by decide +kernel))) fun _ => v_eqB (v_isN (v_var rfl)) (v_isN (v_var rfl))) rfl)
      | bool b =>
        refine r_when (b := false) (b_B (v_isSeq (d := .bool b) (v_var rfl))) (fun e => nomatch e) (fun _ => ?_)
        refine r_when (b := true) (b_is (b_or (b_B (v_isN (v_var rfl))) fun _ => b_B (v_isT (v_var rfl) (kit_yes1 (n := "bool") (by decide +kernel)))) rfl) (fun _ => ?_) (fun e => nomatch e)
        exact r_ret (v_is (v_andV (v_eqF (v_var rfl) (v_var rfl) rfl) fun _ => v_andV (v_eqB (v_isi (v_var rfl) (b := true) (show kitB "bool" "bool" = some true by decide +kernel)) (v_isi (v_var rfl) (b := true) (show kitB "bool" "bool" = some true by decide +kernel))) fun _ => v_eqB (v_isN (v_var rfl)) (v_isN (v_var rfl))) rfl)
      | str b =>
        refine r_when (b := false) (b_B (v_isSeq (d := .str b) (v_var rfl))) (fun e => nomatch e) (fun _ => ?_)
        refine r_when (b := true) (b_is (b_or (b_B (v_isN (v_var rfl))) fun _ => b_B (v_isT (v_var rfl) (kit_yes2 (n := "str") (by decide +kernel) (by decide +kernel)))) rfl) (fun _ => ?_) (fun e => nomatch e)
        exact r_ret (v_is (v_andV (v_eqF (v_var rfl) (v_var rfl) rfl) fun _ => v_andV (v_eqB (v_isi (v_var rfl) (b := false) (show kitB "str" "bool" = some false by decide +kernel)) (v_isi (v_var rfl) (b := false) (show kitB "str" "bool" = some false by decide +kernel))) fun _ => v_eqB (v_isN (v_var rfl)) (v_isN (v_var rfl))) rfl)
      | int b =>
        refine r_when (b := false) (b_B (v_isSeq (d := .int b) (v_var rfl))) (fun e => nomatch e) (fun _ => ?_)
        refine r_when (b := false) (b_is (b_or (b_B (v_isN (v_var rfl))) fun _ => b_B (v_isT (v_var rfl) (kit_no2 (n := "int") (by decide +kernel) (by decide +kernel)))) rfl) (fun e => nomatch e) (fun _ => ?_)
        exact r_ret (v_is (v_andV (v_isi (v_var rfl) (b := true) (show kitB "int" "int" = some true by decide +kernel)) fun _ => v_andV (v_notV (v_isi (v_var rfl) (b := false) (show kitB "int" "bool" = some false by decide +kernel))) fun _ => v_eqF (v_var rfl) (v_var rfl) rfl) rfl)
      | dict b => simp [okD] at h1
/-- what is new from H to H' stands in H2 -/
def Nw (H H' H2 : Hp) : Prop := ∀ a o, H a = none → H' a = some o → H2 a = some o
def SpLists (K : PySem.W.Frag) (k : Nat) : Sp := fun vs H Q _ => ∃ d, DpAll K H vs [d] ∧ okD d = true ∧ d.depth < k ∧ ∀ v H', Ex H H' → (∀ H2, Nw H H' H2 → Dp K H2 v (lstD d)) → Q v H'
theorem dp_flat {H H2 : Hp} {v : V} {d : PyData} (h : Dp K H v d) (hf : isSeq d = false) : Dp K H2 v d := by
  cases h with
  | non => exact .non
  | bl b => exact .bl b
  | int i => exact .int i
  | str x => exact .str x
  | lst _ _ => exact nomatch hf
  | tup _ _ => exact nomatch hf
theorem c_l_lists0 (T : Txt K mg aN aL) (D : Dfn K mg "_law_lists" s_l_lists p_l_lists) : ∀ k, Cal P w K mg base CX0 k "_law_lists" p_l_lists (SpLists K k)
  | 0 => D.never fun vs H Q E ⟨d, h1, h2, h3, h4⟩ => by omega
  | k + 1 => by
    have C_l_lists := c_l_lists0 T D k
    refine D.ok sc_l_lists (fun vs H Q E ⟨d, h1, _⟩ => dps_len h1) fun f cdv A outer s H vs Q E hr ⟨x, h1, h2, h3, q⟩ => ?_
    refine ⟨_, (pss_one (ps_ret (pe_ifExp (pt_val (pe_callB call_isiT (by rfl) T.n_isinstance (by decide +kernel) (pa_cons (pv 0) (pa_cons (pe_tup (pa_cons (pe_bltn (v := .ty "list") (by rfl) T.n_list (by decide +kernel) rfl) (pa_cons (pe_bltn (v := .ty "tuple") (by rfl) T.n_tuple (by decide +kernel) rfl) pa_nil))) pa_nil)))) (pe_lc (own := [("_law_bit", 1)]) (g := (gName 1)) (tt := tYes) (by rfl) sc_l_lists.nd (pi_seq (pv 0)) (blkOk_by (own := [("_law_bit", 1)]) (N := n_l_lists) (sc := defScope s_l_lists) (by decide +kernel)) (fun _ _ _ _ _ => (pg_name (i := 1) sc_l_lists.nd rfl (.inl rfl) (.inr rfl))) (fun _ _ _ _ _ => pts_nil) (fun _ _ _ _ _ => (pe_cal C_l_lists hr (pa_cons (pv 1) pa_nil)))) (pv 0)))), ?_⟩
    have st : Sl K (L2.start n_l_lists vs) H [some x, none] := sl_start h1
    refine b_B (v_isSeq (v_var rfl)) _ H st H (Ex.refl _) _ fun H1 e1 => ?_
    have go : ∀ xs : List PyData, lstD x = .list (lstDs xs) → (decide (xs.length ≤ 1000) && okDs xs) = true → PyData.depthAll xs + 1 < k + 1 → (x = .tuple xs ∨ x = .list xs) →
        tLc (iSeq K (tVar 0)) (gName 1) tYes (tCall (SpLists K k) [] E0 (tCons (tVar 1) tNil)) [1] (L2.start n_l_lists vs) H1 Q := fun xs e2 e3 e4 e5 => by
      rw [Bool.and_eq_true, decide_eq_true_eq] at e3
      have src : SrcD (iSeq K (tVar 0)) (L2.start n_l_lists vs) H xs.length (YD K H xs) := e5.elim (fun z => e_st (by rw [z]; rfl) _ _ st) fun z => e_sl (by rw [z]; rfl) _ _ st
      refine src H1 e1 _ fun J H2 e6 wk N hN => ?_
      have hN1 : H1 N = none := fresh_back e6 hN
      have hN0 : H N = none := fresh_back e1 hN1
      refine lc_it wk (Pv := fun i H' => Ex H1 H' ∧ ∃ acc, acc.length = i ∧ H' N = some (.lst acc) ∧ ∀ H3, (∀ a o, a ≠ N → H1 a = none → H' a = some o → H3 a = some o) → DpAll K H3 acc ((lstDs xs).take i))
        ⟨e6.trans (Ex.new hN), [], rfl, upd_same, fun H3 _ => by rw [List.take_zero]; exact .nil⟩ (fun i H' _ p => e1.trans p.1) ?_ ?_
      · rintro i y H3 H4 hi ⟨p1, acc, p2, p3, p4⟩ ⟨rfl, d, hd, hy⟩
        refine ⟨wipe_one (by decide) _, ?_⟩
        dsimp only [tYes]
        rw [if_pos rfl]
        have md := List.mem_of_getElem? hd
        refine ⟨y, ?_, d, .cons (dp_ex (e1.trans p1) _ _ hy) .nil, okDs_mem e3.2 _ md, by have := depth_mem md; omega, fun v H5 e7 hv => ?_⟩
        · have hl : 1 < (L2.start n_l_lists vs).length := by rw [st.len]; show 1 < 2; decide
          rw [List.getElem?_set_self (by rw [wipe_length]; exact hl)]
        · refine ⟨acc, e7 _ _ p3, sz_lt (by omega), Ex.mut (p1.trans e7) hN1, acc ++ [v], by rw [List.length_append, p2]; rfl, upd_same, fun H6 h6 => ?_⟩
          have et : (lstDs xs).take (i + 1) = (lstDs xs).take i ++ [lstD d] := by
            rw [List.take_succ, lstDs_map, List.getElem?_map, hd]
            rfl
          rw [et]
          refine dps_snoc (p4 H6 fun a o na h1a h3a => h6 a o na h1a ?_) (hv H6 fun a o h3a h5a => ?_)
          · rw [upd_ne na]
            exact e7 _ _ h3a
          · have na : a ≠ N := fun z => by rw [z, p3] at h3a; cases h3a
            refine h6 a o na ?_ (by rw [upd_ne na]; exact h5a)
            cases z : H1 a with
            | none => rfl
            | some o' => rw [p1 _ _ z] at h3a; cases h3a
      · rintro H3 ⟨p1, acc, p2, p3, p4⟩
        refine q (.ref N) H3 (e1.trans p1) fun H4 h4 => ?_
        rw [e2]
        have all := p4 H4 fun a o na h1a h3a => h4 a o (by
          cases z : H a with
          | none => rfl
          | some o' => rw [e1 _ _ z] at h1a; cases h1a) h3a
        have el : (lstDs xs).length = xs.length := by rw [lstDs_map, List.length_map]
        rw [← el, List.take_length] at all
        exact .lst (.of (h4 N _ hN0 p3)) all
    have flat : isSeq x = false → lstD x = x → tVar 0 (L2.start n_l_lists vs) H1 Q := fun e2 e3 => by
      obtain ⟨v, a1, a2⟩ := st.at_ 0 x rfl
      exact ⟨v, a1, q v H1 e1 fun H4 _ => by rw [e3]; exact dp_flat a2 e2⟩
    cases x with
    | list xs => exact iteT (go xs (by rw [lstD]) h2 h3 (.inr rfl))
    | tuple xs => exact iteT (go xs (by rw [lstD]) h2 h3 (.inl rfl))
    | none => exact iteF (flat rfl rfl)
    | bool b => exact iteF (flat rfl rfl)
    | int b => exact iteF (flat rfl rfl)
    | str b => exact iteF (flat rfl rfl)
    | dict b => simp [okD] at h2
inductive R_lists (k : Nat) : List PyData → PyData → Prop
  | mk (d : PyData) : okD d = true → d.depth < k → R_lists k [d] (lstD d)
theorem c_l_lists (T : Txt K mg aN aL) (D : Dfn K mg "_law_lists" s_l_lists p_l_lists) (k : Nat) : Cal P w K mg base CX0 k "_law_lists" p_l_lists (SpD K (R_lists k)) :=
  (c_l_lists0 T D k).imp fun vs H Q E ⟨ds, d, h1, h2, h3⟩ => by
    cases h2 with
    | mk x h4 h5 => exact ⟨x, h1, h4, h5, fun v H' e hv => h3 v H' e (hv H' fun _ _ _ z => z)⟩
end
end K17

end
section
set_option maxHeartbeats 8000000
/-! # set(rows) of at most four rows, and what sorted makes of it -/
namespace K17
open PySem PySem.Spec PyProof.Rows L2 Evl
/-! ### rows as keys -/
mutual
def nk : PyData → NestedKey
  | .int i => .num i
  | .bool b => .num (if b = true then 1 else 0)
  | .str x => .text x
  | .tuple xs => .tup (nks xs)
  | _ => .none
def nks : List PyData → List NestedKey
  | [] => []
  | x :: xs => nk x :: nks xs
end
mutual
theorem nk_depth : ∀ d, (nk d).depth ≤ d.depth
  | .int _ => Nat.zero_le _
  | .bool _ => Nat.zero_le _
  | .str _ => Nat.zero_le _
  | .none => Nat.zero_le _
  | .list _ => Nat.zero_le _
  | .dict _ => Nat.zero_le _
  | .tuple xs => by
    rw [nk, NestedKey.depth, PyData.depth]
    exact Nat.succ_le_succ (nks_depth xs)
theorem nks_depth : ∀ ds, NestedKey.depthAll (nks ds) ≤ PyData.depthAll ds
  | [] => Nat.zero_le _
  | d :: ds => by
    rw [nks, NestedKey.depthAll, PyData.depthAll]
    have h1 := nk_depth d
    have h2 := nks_depth ds
    omega
end
section
variable {s : Shared} {X : Cx} {H : Hp} {σ : L2.St} {pins : List (Addr × Obj)}
mutual
theorem nested_of (I : Inv X pins σ H s) : ∀ (d : PyData) (v : V) (u : Value), tupOnly d = true → Dp X.K H v d → RelV v u → NestedIs s.heap (nk d) u
  | .none, _, _, _, h, r => by cases h; cases r; exact .none
  | .bool b, _, _, _, h, r => by cases h; cases r; exact .bool rfl
  | .int i, _, _, _, h, r => by
    cases h
    obtain ⟨t, rfl⟩ := r
    exact .int i t
  | .str x, _, _, _, h, r => by
    cases h
    obtain ⟨t, rfl⟩ := r
    exact .text x t
  | .list _, _, _, q, _, _ => by simp [tupOnly] at q
  | .tuple ds, _, _, q, h, r => by
    cases h with
    | tup h1 h2 =>
      cases r
      obtain ⟨its, rv, ⟨o, ho, hc, n, hd⟩, _⟩ := I.tuple h1
      exact .tup ho hc hd (by simpa using nesteds_of I ds _ _ (by simpa [tupOnly] using q) h2 rv)
  | .dict _, _, _, _, h, _ => by cases h
theorem nesteds_of (I : Inv X pins σ H s) : ∀ (ds : List PyData) (vs : List V) (us : List Value), tupOnly.tupOnlys ds = true → DpAll X.K H vs ds → Vals vs us → NestedAll s.heap (nks ds) us
  | [], _, _, _, h, r => by cases h; cases r; exact .nil
  | d :: ds, _, _, q, h, r => by
    cases h with
    | cons h1 h2 =>
      cases r with
      | cons r1 r2 =>
        have z : tupOnly d = true ∧ tupOnly.tupOnlys ds = true := by simpa [tupOnly.tupOnlys] using q
        exact .cons (nested_of I d _ _ z.1 h1 r1) (nesteds_of I ds _ _ z.2 h2 r2)
end
end
/-- at a stands a tuple that is this key -/
def IsN (h : Heap) (k : NestedKey) (a : Addr) : Prop := NestedIs h k (.ref a) ∧ k.depth ≤ 8
theorem IsN.keep {h h' : Heap} {k : NestedKey} {a : Addr} (x : IsN h k a) (e : ∀ b o, h.get? b = some o → h'.get? b = some o) : IsN h' k a := ⟨NestedIs.at (fun b o _ _ q _ => e b o q) k _ x.1, x.2⟩
/-- writing a set leaves it -/
theorem IsN.past {h h' : Heap} {k : NestedKey} {a c : Addr} {o : Obj} {es : Array (Int × Value)} {ep : Nat} {t : SetTable} (x : IsN h k a) (ho : h.get? c = some o) (hd : o.data = .set es ep t) (sb : Heap.SameBut c h h') : IsN h' k a :=
  ⟨NestedIs.at (fun b ob vs n q hq => (sb.2 b fun z => by
    rw [z, ho] at q
    rw [← Option.some.inj q, hd] at hq
    cases hq).trans q) k _ x.1, x.2⟩
section
variable {s : Shared} {P : Program} {w : World} {A : Around} {E : Value → Shared → Prop}
/-! ### what is asked of such a tuple besides -/
def Plain (P : Program) (w : World) (n : Nat) (s : Shared) (v : Value) : Prop := ∀ (A : Around) (E : Value → Shared → Prop) (Q : Bool → Shared → Prop), (Q false s → wpAny (model P w) A (ofAClassStatement n v) Q E s) ∧ (Q true s → wpAny (model P w) A (hashByValue n v) Q E s)
theorem plain_flat {n : Nat} {v : Value} (h1 : ofAClassStatement n v = pure false) (h2 : hashByValue n v = pure true) : Plain P w n s v := fun A E Q => ⟨fun q => by rw [h1]; exact wpAny_pure q, fun q => by rw [h2]; exact wpAny_pure q⟩
theorem plain_tup {n : Nat} {a : Addr} {o : Obj} {vs : Array Value} {m : Nat} (ho : s.heap.get? a = some o) (hc : o.cls = .type "tuple") (hd : o.data = .seq vs m) (hv : ∀ v ∈ vs.toList, Plain P w n s v) : Plain P w (n + 1) s (.ref a) := fun A E Q => by
  have ty : s.TypeIs (.ref a) "tuple" := ⟨o, ho, hc⟩
  have tt : (("tuple" : String) == "tuple") = true := by decide
  constructor
  · intro q
    unfold ofAClassStatement
    refine wpAny_bind (wpAny_typeOf ty ?_)
    dsimp only
    simp only [tt, if_true, Bool.not_true, Bool.false_eq_true, if_false]
    (try refine wpAny_bind (wpAny_pure ?_)); try simp only [if_false, Bool.not_true, Bool.false_eq_true]
    refine wpAny_bind (m := seqItems? (.ref a)) (wpAny_seqItems ho hd ?_)
    dsimp only
    refine wpAny_bind (m := forIn vs _ _) ?_
    rw [← Array.forIn_toList]
    refine wpAny_forIn_list _ (fun left acc s2 => acc.1 = none ∧ s2 = s ∧ ∀ v ∈ left, Plain P w n s v) _ ?_ ?_ _ _ ⟨rfl, rfl, hv⟩
    · rintro v left acc s2 ⟨_, rfl, all⟩
      refine wpAny_bind ((all v List.mem_cons_self A _ _).1 ?_)
      simp only [if_false, Bool.false_eq_true]
      exact wpAny_pure ⟨rfl, rfl, fun u hu => all u (List.mem_cons_of_mem _ hu)⟩
    · rintro ⟨r1, r2⟩ s2 ⟨e1, rfl, _⟩
      dsimp only at e1
      subst e1
      exact wpAny_pure q
  · intro q
    unfold hashByValue
    refine wpAny_bind (wpAny_specialOf ty F.slot_tuple_hash.lookup ?_)
    refine wpAny_bind (m := seqItems? (.ref a)) (wpAny_seqItems ho hd ?_)
    refine wpAny_bind (m := forIn vs _ _) ?_
    rw [← Array.forIn_toList]
    refine wpAny_forIn_list _ (fun left acc s2 => acc.1 = none ∧ s2 = s ∧ ∀ v ∈ left, Plain P w n s v) _ ?_ ?_ _ _ ⟨rfl, rfl, hv⟩
    · rintro v left acc s2 ⟨_, rfl, all⟩
      refine wpAny_bind ((all v List.mem_cons_self A _ _).2 ?_)
      simp only [if_false, Bool.not_true, Bool.false_eq_true]
      exact wpAny_pure ⟨rfl, rfl, fun u hu => all u (List.mem_cons_of_mem _ hu)⟩
    · rintro ⟨r1, r2⟩ s2 ⟨e1, rfl, _⟩
      dsimp only at e1
      subst e1
      exact wpAny_pure q
/-- tuples of ints, nested: no text within -/
def noText : NestedKey → Bool
  | .text _ => false
  | .tup ks => noTexts ks
  | _ => true
where noTexts : List NestedKey → Bool
  | [] => true
  | k :: ks => noText k && noTexts ks
mutual
theorem plain_key : ∀ (k : NestedKey) (v : Value) (n : Nat), noText k = true → NestedIs s.heap k v → k.depth ≤ n → Plain P w n s v
  | .none, _, n, _, x, _ => by
    cases x
    exact plain_flat (by cases n <;> rfl) (by cases n <;> rfl)
  | .num i, _, n, _, x, _ => by
    cases x with
    | bool e => exact plain_flat (by cases n <;> rfl) (by cases n <;> rfl)
    | int i t => exact plain_flat (by cases n <;> rfl) (by cases n <;> rfl)
  | .text y, _, n, q, _, _ => by simp [noText] at q
  | .tup ks, _, n, q, x, hn => by
    cases x with
    | tup h1 h2 h3 h4 =>
      rw [NestedKey.depth] at hn
      cases n with
      | zero => omega
      | succ n => exact plain_tup h1 h2 h3 (plain_keys ks _ n (by simpa [noText] using q) h4 (by omega))
theorem plain_keys : ∀ (ks : List NestedKey) (vs : List Value) (n : Nat), noText.noTexts ks = true → NestedAll s.heap ks vs → NestedKey.depthAll ks ≤ n → ∀ v ∈ vs, Plain P w n s v
  | [], _, _, _, x, _, v, hv => by cases x; cases hv
  | k :: ks, _, n, q, x, hn, v, hv => by
    cases x with
    | cons x1 x2 =>
      rw [NestedKey.depthAll] at hn
      have z : noText k = true ∧ noText.noTexts ks = true := by simpa [noText.noTexts] using q
      rcases List.eq_or_mem_of_mem_cons hv with e | hv
      · rw [e]; exact plain_key k _ n z.1 x1 (by omega)
      · exact plain_keys ks _ n z.2 x2 (by omega) v hv
end
/-- a key tuple: told, and without texts -/
def Ky (h : Heap) (k : NestedKey) (a : Addr) : Prop := IsN h k a ∧ noText k = true
theorem Ky.plain {k : NestedKey} {a : Addr} (x : Ky s.heap k a) : Plain P w 8 s (.ref a) := plain_key k _ 8 x.2 x.1.1 x.1.2
theorem Ky.keep {h h' : Heap} {k : NestedKey} {a : Addr} (x : Ky h k a) (e : ∀ b o, h.get? b = some o → h'.get? b = some o) : Ky h' k a := ⟨x.1.keep e, x.2⟩
theorem Ky.past {h h' : Heap} {k : NestedKey} {a c : Addr} {o : Obj} {es : Array (Int × Value)} {ep : Nat} {t : SetTable} (x : Ky h k a) (ho : h.get? c = some o) (hd : o.data = .set es ep t) (sb : Heap.SameBut c h h') : Ky h' k a := ⟨x.1.past ho hd sb, x.2⟩
/-- looking among such tuples tells nobody -/
theorem unseen {k : NestedKey} {b : Addr} {Q : Bool → Shared → Prop} (hk : Ky s.heap k b) {ys : List Value} (hy : ∀ y ∈ ys, ∃ k' c, y = Value.ref c ∧ Ky s.heap k' c) (q : Q false s) : wpAny (model P w) A (searchCouldBeSeen (.ref b) ys) Q E s := by
  unfold searchCouldBeSeen
  refine wpAny_bind ?_
  refine wpAny_forIn_list _ (fun left acc s2 => acc.1 = none ∧ s2 = s ∧ ∀ y ∈ left, ∃ k' c, y = Value.ref c ∧ Ky s.heap k' c) _ ?_ ?_ _ _ ⟨rfl, rfl, hy⟩
  · rintro y left acc s2 ⟨_, rfl, all⟩
    obtain ⟨k', c, rfl, hc⟩ := all y List.mem_cons_self
    have tl : ∀ y ∈ left, ∃ k' c, y = Value.ref c ∧ Ky s2.heap k' c := fun u hu => all u (List.mem_cons_of_mem _ hu)
    dsimp only
    by_cases very : (b == c || (carriedByValue (.ref b) && carriedByValue (.ref c))) = true
    · exact wp_if_pos very (wpAny_pure ⟨rfl, rfl, tl⟩)
    · refine wp_if_neg very ?_
      refine wpAny_bind (quiet_key k _ 8 s2 hk.1.1 hk.1.2 A _ _ ?_)
      simp only [if_false, Bool.not_true, Bool.false_eq_true]
      refine wpAny_bind (quiet_key k' _ 8 s2 hc.1.1 hc.1.2 A _ _ ?_)
      simp only [if_false, Bool.not_true, Bool.false_eq_true]
      refine wpAny_bind ((hk.plain A _ _).1 ?_)
      simp only [if_false, Bool.false_eq_true]
      refine wpAny_bind ((hc.plain A _ _).1 ?_)
      simp only [if_false, Bool.false_eq_true]
      exact wpAny_pure ⟨rfl, rfl, tl⟩
  · rintro ⟨r1, r2⟩ s2 ⟨e1, rfl, _⟩
    dsimp only at e1
    subst e1
    exact wpAny_pure q
/-! ### the set -/
abbrev KA := Addr × NestedKey
/-- the set's own object: its entries are L -/
structure Ros (w : World) (h : Heap) (a : Addr) (L : List KA) (es : Array (Int × Value)) (ep : Nat) (t : SetTable) : Prop where
  obj : ∃ o, h.get? a = some o ∧ o.ExactSet ∧ o.data = .set es ep t
  ent : es.toList = L.map fun p => (p.2.hash w, Value.ref p.1)
  tab : TabOk t (L.map fun p => p.2.hash w)
  pln : t.plain = true
  led : (w.params.followText "set-order" = true) ∨ t.led = true
  msk : t.mask = 7
  few : L.length ≤ 4
variable {a : Addr} {L : List KA} {es : Array (Int × Value)} {ep : Nat} {t : SetTable}
theorem Ros.size (R : Ros w s.heap a L es ep t) : es.size = L.length := by
  rw [← Array.length_toList, R.ent, List.length_map]
theorem Ros.fits (R : Ros w s.heap a L es ep t) : t.fits es.size = true := by
  have z1 := R.tab.sz
  have z2 := R.size
  have z3 := R.msk
  have z4 := R.few
  rw [List.length_map] at z1
  unfold SetTable.fits SetTable.fill; rw [R.tab.dm, Bool.and_eq_true, beq_iff_eq, decide_eq_true_eq]
  show t.place.size = es.size ∧ t.place.size + 0 ≤ t.mask; omega
theorem Ros.at_ (R : Ros w s.heap a L es ep t) {i : Nat} {p : KA} (h : L[i]? = some p) : es[i]? = some (p.2.hash w, Value.ref p.1) := by
  rw [← Array.getElem?_toList, R.ent, List.getElem?_map, h]
  rfl
theorem Ros.live (R : Ros w s.heap a L es ep t) {i j : Nat} (h : t.place.toList[i]? = some j) : ∃ p, L[i]? = some p := by
  have z1 := R.tab.sz
  rw [List.length_map, ← Array.length_toList] at z1
  have := (List.getElem?_eq_some_iff.mp h).1
  exact ⟨L[i]'(by omega), List.getElem?_eq_getElem _⟩
abbrev prb (t : SetTable) (h : Int) : SetTable.Probe := runAt t.mask (SetTable.bits h % (t.mask + 1)) (SetTable.bits h)
theorem dummy_none (m : Nat) : ∀ (n : Nat) (p : SetTable.Probe), p.dummy = none → (nth m p n).dummy = none
  | 0, p, h => h
  | n + 1, p, h => dummy_none m n (adv m p) (by unfold adv; split <;> exact h)
/-- the search for adding, from the c-th step on: the tuple is found there, or the first free slot is -/
theorem look_from (R : Ros w s.heap a L es ep t) (hL : ∀ p ∈ L, Ky s.heap p.2 p.1) {x : Addr} {k : NestedKey} (hx : Ky s.heap k x) (hu : A.units + 8 < cLine) {K : Nat} (hK1 : K < 10 * SetTable.turns t.mask) (hK2 : way t.mask (k.hash w) K ∉ t.place.toList)
    (hK3 : ∀ c, c < K → way t.mask (k.hash w) c ∈ t.place.toList) {Q : SetFound → Shared → Prop} (yes : L ≠ [] → Q (.there none) s) (no : Q (.free (way t.mask (k.hash w) K) false) s) :
    ∀ (f c : Nat) (stand : Option SetTable.Probe), stand.getD (t.probeStart (k.hash w)) = nth t.mask (prb t (k.hash w)) c → c ≤ K → K - c < f → wpAny (model P w) A (setSearchFrom a (.ref x) (k.hash w) true f stand) Q E s
  | 0, _, _, _, _, hf => absurd hf (Nat.not_lt_zero _)
  | f + 1, c, stand, hst, hc, hf => by
    obtain ⟨o, ho, hex, hd⟩ := R.obj
    have gw : ¬ t.gaveWay = true := by
      unfold SetTable.gaveWay
      rw [R.msk]
      decide
    rw [setSearchFrom_succ]
    refine wpAny_bind (wpAny_setState_of ho hd R.fits ?_); dsimp only
    refine wp_if_neg gw ?_
    (try refine wpAny_bind (wpAny_pure ?_)); have step : ∀ q, nth t.mask (nth t.mask (prb t (k.hash w)) c) q = nth t.mask (prb t (k.hash w)) (c + q) := fun q => (nth_add t.mask c _ q).symm
    have stepj : ∀ q, (nth t.mask (nth t.mask (prb t (k.hash w)) c) q).j = way t.mask (k.hash w) (c + q) := fun q => congrArg SetTable.Probe.j (step q)
    have answer := go_spec t R.tab.ris R.tab.dm (fun i => (es[i]?.map (·.1)).getD 0) (k.hash w) (10 * SetTable.turns t.mask) (K - c) (nth t.mask (prb t (k.hash w)) c) (dummy_none _ c _ rfl) (by omega)
      (fun q hq => by rw [stepj]; exact hK3 _ (by omega)) (by rw [stepj, Nat.add_sub_cancel' hc]; exact hK2)
    rcases answer with ⟨q, i, hq, hi, _, _, pr⟩ | ⟨_, pr⟩
    · rw [step, step] at pr
      rw [stepj] at hi
      have pr2 : t.probe (fun i => (es[i]?.map (·.1)).getD 0) (k.hash w) (stand.getD (t.probeStart (k.hash w))) = some (.candidate (way t.mask (k.hash w) (c + q)) i (nth t.mask (prb t (k.hash w)) (c + (q + 1)))) := by
        rw [hst]
        exact pr
      rw [pr2]
      dsimp only
      obtain ⟨p, hp⟩ := R.live hi
      have hpm := List.mem_of_getElem? hp
      have after : wpAny (model P w) A (searchRest a (.ref x) (k.hash w) true f es t (way t.mask (k.hash w) (c + q)) i (nth t.mask (prb t (k.hash w)) (c + (q + 1)))) Q E s := by
        unfold searchRest
        rw [R.at_ hp]
        dsimp only
        refine wpAny_bind (wpAny_holding ((nestedKind P w).eqBool (x := p.2) (y := k) hu (hL p hpm).1 hx.1 ?_))
        refine wpAny_bind (wpAny_setState_of ho hd R.fits ?_); dsimp only
        by_cases same : p.2 = k
        · exact wp_if_pos (by simp [same]) (wpAny_pure (yes fun z => by rw [z] at hpm; cases hpm))
        · refine wp_if_neg (by simp [same]) ?_
          (try refine wpAny_bind (wpAny_pure ?_)); rw [sameMem]
          dsimp only
          have lv : t.slot (way t.mask (k.hash w) (c + q)) = .live i := slot_live R.tab.ris hi
          simp only [if_true, lv, R.at_ hp]
          refine wpAny_bind (wpAny_isSame_ref_self (wpAny_bind (wpAny_pure ?_))); simp only [if_true]
          exact wp_if_neg (by simp [same]) (look_from R hL hx hu hK1 hK2 hK3 yes no f (c + (q + 1)) _ rfl (by omega) (by omega))
      by_cases hl : t.led = true
      · (refine wp_if_neg (by simp [hl]) ?_); try refine wpAny_bind (wpAny_pure ?_)
        exact after
      · (refine wp_if_pos (by simp [hl]) ?_); refine wpAny_bind (unseen hx (fun y hy => ?_) ?_)
        · obtain ⟨e, he, ee⟩ := List.mem_map.mp hy; have he2 : e ∈ es.toList := by
            have : e ∈ es ∧ e.1 = k.hash w := by simpa using he
            simpa using this.1
          rw [R.ent] at he2
          obtain ⟨p2, hp2, e2⟩ := List.mem_map.mp he2; exact ⟨p2.2, p2.1, by rw [← ee, ← e2], hL p2 hp2⟩
        · (refine wp_if_neg (by decide) ?_); try refine wpAny_bind (wpAny_pure ?_)
          exact after
    · rw [stepj, Nat.add_sub_cancel' hc] at pr
      have pr2 : t.probe (fun i => (es[i]?.map (·.1)).getD 0) (k.hash w) (stand.getD (t.probeStart (k.hash w))) = some (.empty (way t.mask (k.hash w) K) none) := by
        rw [hst]
        exact pr
      rw [pr2]
      exact wpAny_pure no
/-- one more: at most four in all, so the table does not grow -/
theorem put_in (R : Ros w s.heap a L es ep t) (hL : ∀ p ∈ L, Ky s.heap p.2 p.1) {x : Addr} {k : NestedKey} (hx : Ky s.heap k x) (hu : A.units + 8 < cLine) (room : L.length + 1 ≤ 4) {Q : Bool → Shared → Prop}
    (q : ∀ b h' L' es' ep' t', Heap.SameBut a s.heap h' → Ros w h' a L' es' ep' t' → (L' = L ∧ L ≠ [] ∨ L'.Perm ((x, k) :: L)) → Q b { s with heap := h' }) : wpAny (model P w) A (setAddHashed a (.ref x) (k.hash w)) Q E s := by
  obtain ⟨o, ho, hex, hd⟩ := R.obj
  have hsz := R.size
  have hm := R.msk
  obtain ⟨K, k1, k2, k3⟩ := R.tab.first (by rw [List.length_map]; omega) (k.hash w)
  have kbig : K < 100000 := by
    have few_turns : 10 * SetTable.turns t.mask ≤ 1420 := by
      unfold SetTable.turns
      omega
    omega
  unfold setAddHashed
  refine wpAny_holding ?_
  rw [show (100000 : Nat) = 99999 + 1 from rfl, setAddHashedIn_succ]; refine wpAny_bind (wpAny_setState_of ho hd R.fits ?_)
  dsimp only
  (refine wp_if_neg (by simp [byScan, Value.scannable]) ?_); try refine wpAny_bind (wpAny_pure ?_)
  unfold setSearch
  refine wpAny_bind (look_from R hL hx hu k1 k2 k3 (fun hne => ?_) ?_ 100000 0 none rfl (Nat.zero_le _) (by omega))
  · dsimp only
    exact wpAny_pure (q false s.heap L es ep t (Heap.SameBut.refl a s.heap) R (.inl ⟨rfl, hne⟩))
  · dsimp only
    refine wpAny_bind (wpAny_setState_of ho hd R.fits ?_); dsimp only
    obtain ⟨p1, p2, p3, p4, p5, p6, _, _, p9⟩ := R.tab.put k2 k3
    have pl2 : (t.put (way t.mask (k.hash w) K)).1.plain = true := p6.trans R.pln
    generalize e0 : t.put (way t.mask (k.hash w) K) = made2 at p1 p3 p4 p5 p6 p9 pl2 ⊢
    obtain ⟨t2, pl⟩ := made2
    dsimp only at p1 p3 p4 p5 p6 p9 pl2 ⊢
    subst p1
    first
      | (refine wpAny_bind ?_; refine wp_if_pos pl2 ?_; refine (hx.plain A E _).2 ?_)
      | refine wp_if_pos pl2 (wpAny_bind ((hx.plain A E _).2 ?_))
    simp only [if_true]
    have ent2 : (SetTable.insertAt es (SetTable.below t.place (way t.mask (k.hash w) K)) (k.hash w, Value.ref x)).toList = (L.take (SetTable.below t.place (way t.mask (k.hash w) K)) ++ (x, k) :: L.drop (SetTable.below t.place (way t.mask (k.hash w) K))).map fun p => (p.2.hash w, Value.ref p.1) := by
      rw [SetTable.toList_insertAt, R.ent, List.map_append, List.map_cons, List.map_take, List.map_drop]
    generalize hp : SetTable.below t.place (way t.mask (k.hash w) K) = pl at p2 p3 ent2 ⊢
    have perm : (L.take pl ++ (x, k) :: L.drop pl).Perm ((x, k) :: L) := put_perm L pl (x, k)
    have hh : (L.take pl ++ (x, k) :: L.drop pl).map (fun p => p.2.hash w) = (L.map fun p => p.2.hash w).take pl ++ k.hash w :: (L.map fun p => p.2.hash w).drop pl := by
      rw [List.map_append, List.map_cons]; rw [List.map_take, List.map_drop]
    rw [← hh] at p3
    have ll : (L.take pl ++ (x, k) :: L.drop pl).length = L.length + 1 := perm.length_eq
    have es2 : (SetTable.insertAt es pl (k.hash w, Value.ref x)).size = L.length + 1 := by
      rw [← Array.length_toList, ent2, List.length_map, ll]
    generalize SetTable.insertAt es pl (k.hash w, Value.ref x) = en at ent2 es2 ⊢
    generalize L.take pl ++ (x, k) :: L.drop pl = L2 at perm ll p3 ent2
    refine wpAny_bind (wpAny_storeSet_of ho hd ?_ (by rw [es2, sizeLine_eq]; omega))
    have sb : Heap.SameBut a s.heap (s.heap.update a (Obj.putSet en t2)) := Heap.SameBut.update ..
    have ho2 := store_at (es' := en) (t' := t2) ho hd
    generalize s.heap.update a (Obj.putSet en t2) = h2 at sb ho2 ⊢
    have notFull : ¬ t2.tooFull = true := by
      unfold SetTable.tooFull
      rw [decide_eq_true_eq, p9, List.length_map, p4, hm]
      omega
    have fin : wpAny (model P w) A (pure true) Q E { s with heap := h2 } := wpAny_pure (q true h2 L2 en (ep + 1) t2 sb ⟨⟨_, ho2, ⟨hex.1, hex.2.1, hex.2.2⟩, rfl⟩, ent2, p3, pl2, by rw [p5]; exact R.led, by rw [p4]; exact hm, by rw [ll]; exact room⟩ (.inr perm))
    first
      | exact wp_if_neg (by simp [notFull]) fin
      | (refine wpAny_bind ?_; refine wp_if_neg (by simp [notFull]) ?_; exact wpAny_pure fin)
end
end K17

end
section
set_option maxHeartbeats 8000000
/-! # set(a list of rows), called; sorted(such a set) -/
namespace K17
open PySem PySem.Spec PyProof.Rows L2 Evl
section
variable {s : Shared} {P : Program} {w : World} {A : Around} {E : Value → Shared → Prop}
/-- an empty set's object -/
abbrev emptySet (w : World) : Obj := { cls := .type "set", dict := none, data := .set #[] 0 (.fresh 0 0 (!w.params.followText "set-order")) }
theorem ros_empty {h : Heap} {a : Addr} (ho : h.get? a = some (emptySet w)) : Ros w h a [] #[] 0 (.fresh 0 0 (!w.params.followText "set-order")) where
  obj := ⟨_, ho, ⟨rfl, rfl, rfl⟩, rfl⟩
  ent := rfl
  tab := ⟨List.Pairwise.nil, rfl, rfl, .inl rfl, fun _ hx => (nomatch hx), fun i h j hi => by simp at hi⟩
  pln := rfl
  led := by
    show _ ∨ (!(w.params.followText "set-order")) = true
    cases (w.params.followText "set-order")
    · exact .inr rfl
    · exact .inl rfl
  msk := rfl
  few := Nat.zero_le _
theorem Ros.keep {h h' : Heap} {a : Addr} {L : List KA} {es : Array (Int × Value)} {ep : Nat} {t : SetTable} (R : Ros w h a L es ep t) (k : ∀ o, h.get? a = some o → h'.get? a = some o) : Ros w h' a L es ep t := by
  obtain ⟨o, ho, r⟩ := R.obj
  exact ⟨⟨o, k o ho, r⟩, R.ent, R.tab, R.pln, R.led, R.msk, R.few⟩
/-- what stands in the set behind i items -/
structure Has (ks L : List KA) (i : Nat) : Prop where
  sub : ∀ p ∈ L, p ∈ ks
  len : L.length ≤ i
  some_ : 0 < i → L ≠ []
/-- the loop of set.update over a walk of at most four key tuples -/
theorem upd_loop {I : Addr} {fp wr : List Addr} {G : Array GenState → Array GenState → Prop} {n : Nat} {Pv : Nat → Value → Prop} {St : Nat → Shared → Prop} {R : Result → Shared → Prop} (W : WalksS P w A.in1 I fp wr G n Pv St) (S : Addr) (hS : S ∉ fp) (ks : List KA) (hn : n = ks.length) (h4 : ks.length ≤ 4)
    (hv : ∀ i v, Pv i v → ∃ p, ks[i]? = some p ∧ v = .ref p.1) (h0 : Heap) (hk : ∀ p ∈ ks, Ky h0 p.2 p.1) (hS0 : h0.get? S = none) (hw0 : ∀ b ∈ wr, h0.get? b = none) (hu : A.in1.units + 8 < cLine) :
    ∀ (m i : Nat) (s : Shared), n - i = m → i ≤ n → St i s → (∀ b o, h0.get? b = some o → s.heap.get? b = some o) → (∃ L es ep t, Ros w s.heap S L es ep t ∧ Has ks L i) →
      (∀ s' L es ep t, Moved (S :: wr) G s s' → Ros w s'.heap S L es ep t → Has ks L n → (∀ b o, h0.get? b = some o → s'.heap.get? b = some o) → R (.ok (.ret .none)) s') → codeAny (model P w) A (.builtin "set.update.loop" ⟨[.ref S, .ref I], []⟩) R s := by
  have apart : S ∉ wr := fun z => hS (W.sub _ z)
  have wide : ∀ b ∈ wr, b ∈ S :: wr := fun b hb => List.mem_cons_of_mem _ hb
  have old : ∀ {s s' : Shared}, Moved wr G s s' → (∀ b o, h0.get? b = some o → s.heap.get? b = some o) → ∀ b o, h0.get? b = some o → s'.heap.get? b = some o := fun mv k b o e =>
    mv.heap b o (fun hb => by rw [hw0 b hb] at e; cases e) (k b o e)
  intro m
  induction m with
  | zero =>
    intro i s hm hi st k ⟨L, es, ep, t, RS, hs⟩ fin
    obtain rfl : i = n := by omega
    refine codeAny_builtin F.entry_set_update_loop ?_; rw [Around.under_plainId F.plain_set_update_loop _]
    refine wpAny_bind (m := pyNext (.ref I)) (W.done s _ _ st fun s' mv => ?_)
    exact wpAny_pure (fin s' L es ep t (mv.mono wide) (RS.keep fun o e => mv.heap S o apart e) hs (old mv k))
  | succ m ih =>
    intro i s hm hi st k ⟨L, es, ep, t, RS, hs⟩ fin
    have lt : i < n := by omega
    refine codeAny_builtin F.entry_set_update_loop ?_; rw [Around.under_plainId F.plain_set_update_loop _]
    refine wpAny_bind (m := pyNext (.ref I)) (W.item i s _ _ lt st fun v s' pv st' mv => ?_)
    obtain ⟨p, hp, rfl⟩ := hv i v pv
    have k' := old mv k
    have RS' : Ros w s'.heap S L es ep t := RS.keep fun o e => mv.heap S o apart e
    have hpm := List.mem_of_getElem? hp
    have kx : Ky s'.heap p.2 p.1 := (hk p hpm).keep k'
    have kL : ∀ q ∈ L, Ky s'.heap q.2 q.1 := fun q hq => (hk q (hs.sub q hq)).keep k'
    refine wpAny_bind (m := holding [Value.ref p.1] (setAdd S (.ref p.1))) (wpAny_holding ?_)
    unfold setAdd
    refine wpAny_holding ?_
    refine wpAny_bind ((nestedKind P w).pyHash (k := p.2) hu kx.1 ?_)
    refine put_in (A := A.in1) (s := { s' with toks := s'.toks + p.2.draws }) RS' kL kx hu (by have := hs.len; omega) fun b h' L' es' ep' t' sb RS2 cs => ?_
    have hs' : Has ks L' (i + 1) := by
      rcases cs with ⟨rfl, ne⟩ | pm
      · exact ⟨hs.sub, Nat.le_succ_of_le hs.len, fun _ => ne⟩
      · refine ⟨fun q hq => ?_, by rw [pm.length_eq, List.length_cons]; exact Nat.succ_le_succ hs.len, fun _ z => by rw [z] at pm; exact absurd pm.length_eq (by simp)⟩
        rcases List.mem_cons.mp (pm.mem_iff.mp hq) with e | e
        · rw [e]; exact hpm
        · exact hs.sub q e
    have k2 : ∀ b o, h0.get? b = some o → h'.get? b = some o := fun b o e => (sb.2 b fun z => by rw [z, hS0] at e; cases e).trans (k' b o e)
    refine wpAny_pure ⟨plainId_quiet F.plain_set_update_loop _, ih (i + 1) _ (by omega) lt (W.frame _ s' _ _ st' (Nat.le_add_right _ _) fun b hb o e => ?_) k2 ⟨L', es', ep', t', RS2, hs'⟩ fun s2 L2 es2 ep2 t2 mv2 RS3 hs2 k3 => ?_⟩
    · exact (sb.2 b fun z => hS (z ▸ hb)).trans e
    · exact fin s2 L2 es2 ep2 t2 (Moved.trans W.gtrans ((mv.mono wide).then_heap (Nat.le_add_right _ _) fun b o hb e => (sb.2 b fun z => hb (by rw [z]; exact List.mem_cons_self)).trans e) mv2) RS3 hs2 k3
/-- set(xs), xs a list of one to four key tuples -/
theorem call_set_rows {l : Addr} {its : Array Value} (ks : List KA) {Q : Value → Shared → Prop} (hh : A.handled = none) (hl : s.heap.IsList l its) (hit : its.toList = ks.map fun p => Value.ref p.1) (hk : ∀ p ∈ ks, Ky s.heap p.2 p.1) (h4 : ks.length ≤ 4) (hu : A.units + 16 < cLine)
    (q : ∀ (h' : Heap) (tk : Nat) L es ep t, Ros w h' s.heap.objs.size L es ep t → Has ks L ks.length → (∀ b o, s.heap.get? b = some o → h'.get? b = some o) → Q (.ref s.heap.objs.size) { s with heap := h', toks := tk }) : wpAny (model P w) A (call (.type "set") [.ref l]) Q E s := by
  have size : its.size = ks.length := by rw [← Array.length_toList, hit, List.length_map]
  obtain ⟨_, _, hmro⟩ := F.called_set.mro
  have hmade := F.called_set.made; have hsub := F.called_set.sub
  have hnt := F.called_set.notType
  have hcc := F.called_set.canCreate
  have htc := F.typeCall_set_1 (.ref l)
  refine wpAny_call (codeAny_of_tree ?_); refine wpAny_pure ⟨Code.quiet_builtin _ (by decide +kernel), codeAny_builtin F.entry_type_call ?_⟩
  rw [Around.under_plain (weight_type_call_type "set" [.ref l] []) rfl]; repeat (any_goals (first | assumption | wp_step))
  have top0 : (s.heap.push (emptySet w)).get? s.heap.objs.size = some (emptySet w) := Heap.get?_push_size _ rfl
  have sz0 : (s.heap.push (emptySet w)).objs.size = s.heap.objs.size + 1 := Heap.size_push ..
  refine codeAny_mono (code_set_led1 (.ref l) (E := E) (Q₁ := fun v s1 => v = .ref s.heap.objs.size ∧ s1 = { s with heap := s.heap.push (emptySet w) }) ⟨rfl, rfl⟩) fun r s1 hr => ?_
  cases r with
  | error e => exact hr
  | ok fl =>
    cases fl with
    | ret v =>
      obtain ⟨rfl, rfl⟩ := hr
      have ty : Shared.TypeIs { s with heap := s.heap.push (emptySet w) } (.ref s.heap.objs.size) "set" := ⟨_, top0, rfl⟩
      have ini := F.called_set.init.lookup
      have bnd := F.called_set.init.bind (.ref s.heap.objs.size)
      (repeat (any_goals (first | assumption | wp_step))); refine codeAny_mono (codeAny_call_builtin (R := wants (fun v s2 => v = .none ∧ ∃ h' tk L es ep t, s2 = { s with heap := h', toks := tk } ∧ Ros w h' s.heap.objs.size L es ep t ∧ Has ks L ks.length ∧ (∀ b o, s.heap.get? b = some o → h'.get? b = some o)) E) F.called_set.init.plain F.entry_set_init (check_set_init_1 ty ?_)) fun r2 s2 hr2 => ?_
      · obtain ⟨⟨ocl, odc, odt, osl⟩, hol, hcl, nl, hdl⟩ := hl
        dsimp only at hcl hdl
        subst hcl
        subst hdl
        have hol2 : (s.heap.push (emptySet w)).get? l = some { cls := .type "list", dict := odc, data := .seq its nl, slots := osl } := Heap.get?_push_of_some _ hol
        have q1 := F.sub_list_set
        have q2 := F.sub_list_frozenset
        have q3 : (Value.type "list" == Value.type "dict") = false := by decide
        have isl : (s.heap.push (emptySet w)).IsList l its := ⟨_, hol2, rfl, nl, rfl⟩
        unfold Builtin.«set.__init__» noKeywords Builtin.Frozenset.updateFrom; generalize eit : pyIter = IT
        wp_walk
        subst eit
        refine wpAny_pyIter_list isl ?_
        refine wpAny_bind (wpAny_runValue ?_); have ll : l < s.heap.objs.size := Heap.lt_size hol
        have lne : l ≠ (s.heap.push (emptySet w)).objs.size := by rw [sz0]; exact Nat.ne_of_lt (Nat.lt_succ_of_lt ll)
        have gone : ∀ b, s.heap.objs.size ≤ b → s.heap.get? b = none := fun b hb => by
          cases z : s.heap.get? b with
          | none => rfl
          | some o => exact absurd (Nat.lt_of_lt_of_le (Heap.lt_size z) hb) (Nat.lt_irrefl _)
        refine upd_loop ((Walks.list (show A.in1.in1.in1.handled = none from hh) (s.heap.push (emptySet w)).objs.size l lne its).toS) s.heap.objs.size ?apart ks size h4 ?vals s.heap hk (gone _ (Nat.le_refl _)) ?wr (show A.in1.in1.in1.units + 8 < cLine by show A.units + 1 + 1 + 1 + 8 < cLine; omega) (its.size - 0) 0 _ (by omega) (Nat.zero_le _)
          ⟨⟨_, Heap.get?_push_size _ rfl, rfl, rfl⟩, isl.push _⟩ (fun b o e => Heap.get?_push_of_some _ (Heap.get?_push_of_some _ e)) ?first ?last
        case apart =>
          rw [sz0]
          simp only [List.mem_cons, List.not_mem_nil, or_false, not_or]
          exact ⟨Nat.ne_of_lt (Nat.lt_succ_self _), Nat.ne_of_gt ll⟩
        case vals =>
          intro i v hv
          have z : its.toList[i]? = some v := by rw [Array.getElem?_toList]; exact hv
          rw [hit, List.getElem?_map] at z
          cases zi : ks[i]? with
          | none => rw [zi] at z; cases z
          | some p => rw [zi] at z; exact ⟨p, rfl, (Option.some.inj z).symm⟩
        case wr =>
          intro b hb
          refine gone b ?_
          rw [List.mem_singleton.mp hb, sz0]
          exact Nat.le_succ _
        case first => exact ⟨[], #[], 0, _, ros_empty (Heap.get?_push_of_some _ top0), fun p hp => (nomatch hp), Nat.zero_le _, fun z => absurd z (Nat.lt_irrefl _)⟩
        case last =>
          intro s3 L es ep t mv RS hs k
          obtain ⟨h3, g3, d3, t3, o3⟩ := s3
          obtain rfl : g3 = s.gens := mv.gens
          obtain rfl : d3 = s.drawn := mv.drawn
          obtain rfl : o3 = s.os := mv.os
          rw [size] at hs
          show wpAny _ _ _ _ _ _
          refine wpAny_pure ?_
          show wpAny _ _ (ret Value.none) _ _ _; exact wpAny_pure ⟨rfl, h3, t3, L, es, ep, t, rfl, RS, hs, k⟩
      · cases r2 with
        | error e => exact hr2
        | ok fl2 =>
          cases fl2 with
          | ret v2 =>
            obtain ⟨rfl, h', tk, L, es, ep, t, rfl, RS, hs, k⟩ := hr2
            (repeat (any_goals (first | assumption | wp_step))); exact q _ _ _ _ _ _ RS hs k
          | _ => exact hr2.elim
    | _ => exact hr.elim
end
end K17

end
section
set_option maxHeartbeats 8000000
/-! # sorted(set(rows)): the rules; _law_settled -/
namespace K17
open PySem PySem.Spec PyProof.Rows L2 Evl PySem.W
abbrev RD := Addr × PyData
def keysOf (M : List RD) : List KA := M.map fun p => (p.1, nk p.2)
def refsOf (M : List RD) : List Value := M.map fun p => Value.ref p.1
def vrefsOf (M : List RD) : List V := M.map fun p => V.ref p.1
/-- the set at a holds these rows -/
def SetR (w : World) (a : Addr) (M : List RD) : HO := .ext fun h => ∃ es ep t, Ros w h a (keysOf M) es ep t
section
variable {h : Heap}
mutual
theorem tup_reads : ∀ (d : PyData) (v : Value) (as : List Addr), tupOnly d = true → Reads h v d as → as = []
  | .none, _, _, _, r => by cases r; rfl
  | .bool _, _, _, _, r => by cases r; rfl
  | .int _, _, _, _, r => by cases r; rfl
  | .str _, _, _, _, r => by cases r; rfl
  | .list _, _, _, q, _ => by simp [tupOnly] at q
  | .dict _, _, _, q, _ => by simp [tupOnly] at q
  | .tuple ds, _, _, q, r => by
    cases r with
    | tuple h1 h2 h3 h4 => exact tups_reads ds _ _ (by simpa [tupOnly] using q) h4
theorem tups_reads : ∀ (ds : List PyData) (vs : List Value) (as : List Addr), tupOnly.tupOnlys ds = true → ReadsAll h vs ds as → as = []
  | .nil, _, _, _, r => by cases r; rfl
  | d :: ds, _, _, q, r => by
    cases r with
    | cons h1 h2 =>
      have z : tupOnly d = true ∧ tupOnly.tupOnlys ds = true := by simpa [tupOnly.tupOnlys] using q
      rw [tup_reads d _ _ z.1 h1, tups_reads ds _ _ z.2 h2]
      rfl
end
end
theorem sub_keys {M : List RD} : ∀ (L : List KA), (∀ p ∈ L, p ∈ keysOf M) → ∃ M' : List RD, L = keysOf M' ∧ ∀ p ∈ M', p ∈ M
  | [], _ => ⟨[], rfl, fun p hp => (nomatch hp)⟩
  | p :: L, h => by
    obtain ⟨q, hq, e⟩ := List.mem_map.mp (h p List.mem_cons_self)
    obtain ⟨M1, e1, h1⟩ := sub_keys L fun r hr => h r (List.mem_cons_of_mem _ hr)
    refine ⟨q :: M1, by rw [e1, ← e]; rfl, fun r hr => ?_⟩
    rcases List.eq_or_mem_of_mem_cons hr with z | z
    · rw [z]; exact hq
    · exact h1 r z
theorem sub_refs {M : List RD} : ∀ (vs : List Value), (∀ v ∈ vs, v ∈ refsOf M) → ∃ M' : List RD, vs = refsOf M' ∧ ∀ p ∈ M', p ∈ M
  | [], _ => ⟨[], rfl, fun p hp => (nomatch hp)⟩
  | p :: L, h => by
    obtain ⟨q, hq, e⟩ := List.mem_map.mp (h p List.mem_cons_self)
    obtain ⟨M1, e1, h1⟩ := sub_refs L fun r hr => h r (List.mem_cons_of_mem _ hr)
    refine ⟨q :: M1, by rw [e1, ← e]; rfl, fun r hr => ?_⟩
    rcases List.eq_or_mem_of_mem_cons hr with z | z
    · rw [z]; exact hq
    · exact h1 r z
theorem each_refs : ∀ (M : List RD), EachIs (fun (v : Value) (p : RD) => v = .ref p.1) (refsOf M) M
  | [] => .nil
  | p :: M => .cons rfl (each_refs M)
theorem refs_each : ∀ {vs : List Value} {M : List RD}, EachIs (fun (v : Value) (p : RD) => v = .ref p.1) vs M → vs = refsOf M
  | _, _, .nil => rfl
  | _, _, .cons e t => by rw [e, refs_each t]; rfl
theorem each_all {R : Value → RD → Prop} : ∀ (M : List RD), (∀ p ∈ M, R (.ref p.1) p) → EachIs R (refsOf M) M
  | [], _ => .nil
  | p :: M, h => .cons (h p List.mem_cons_self) (each_all M fun q hq => h q (List.mem_cons_of_mem _ hq))
theorem vals_refs : ∀ (M : List RD), Vals (vrefsOf M) (refsOf M)
  | [] => .nil
  | p :: M => .cons rfl (vals_refs M)
theorem refs_vals : ∀ {M : List RD} {us : List Value}, Vals (vrefsOf M) us → us = refsOf M
  | [], _, .nil => rfl
  | p :: M, _, .cons r t => by
    cases r
    rw [refs_vals (M := M) t]
    rfl
section
variable {s : Shared} {P : Program} {w : World} {A : Around} {E : Value → Shared → Prop}
theorem sorted_ros {a : Addr} {M : List RD} {es : Array (Int × Value)} {ep : Nat} {t : SetTable} {Q : Value → Shared → Prop} (R : Ros w s.heap a (keysOf M) es ep t) (hh : A.handled = none) (hr : ∀ p ∈ M, tupOnly p.2 = true ∧ ∃ as, Reads s.heap (.ref p.1) p.2 as)
    (hal : AllAlike (M.map (·.2))) (hk : Sortable (M.map (·.2))) (hu : ∀ p ∈ M, A.units + 4 + p.2.depth < cLine)
    (hQ : ∀ s' p (out : Array Value) (c : Nat) (M' : List RD), (∀ b o, s.heap.get? b = some o → s'.heap.get? b = some o) → s'.gens = s.gens → s'.os = s.os → s.heap.objs.size ≤ p →
      s'.heap.get? p = some (seqObj "list" out c) → out.toList = refsOf M' → M'.length = M.length → (∀ q ∈ M', q ∈ M) → Q (.ref p) s') : wpAny (model P w) A (call (.builtin "sorted") [.ref a]) Q E s := by
  obtain ⟨o, ho, hex, hd⟩ := R.obj
  have hsz := R.size
  have hfew := R.few
  have lM : M.length ≤ 4 := by rw [keysOf, List.length_map] at hfew; exact hfew
  refine Calls.call_function_entry kind_sorted plain_sorted entry_sorted (args_sorted1 _) ?_; unfold Builtin.«sorted»
  refine wpAny_bind (m := checkCount "sorted" 1 1 _) (wpAny_pure ?_); refine wpAny_bind (collect_set (A := A.in1) hh ⟨o, ho, hex.1, hd⟩ R.fits (by unfold scanBound; omega) R.tab.ris R.led fun s1 vs k1 hz g1 o1 pm => ?_)
  have hes : es.toList.map (·.2) = refsOf M := by
    rw [R.ent, keysOf, List.map_map, List.map_map]
    rfl
  rw [hes] at pm
  obtain ⟨M1, rfl, h1⟩ := sub_refs (M := M) vs fun v hv => pm.mem_iff.mp hv
  have l1 : M1.length = M.length := by
    have := pm.length_eq
    simpa [refsOf] using this
  refine wpAny_bind (wpAny_newList ?_ (by rw [sizeLine_eq, refsOf, List.length_map]; omega))
  have hoL : (s1.heap.push (seqObj "list" (refsOf M1).toArray 0)).get? s1.heap.objs.size = some (seqObj "list" (refsOf M1).toArray 0) := Heap.get?_push_size _ rfl
  have kk : ∀ b o, s.heap.get? b = some o → (s1.heap.push (seqObj "list" (refsOf M1).toArray 0)).get? b = some o := fun b o e => Heap.get?_push_of_some _ (k1 b o e)
  refine wpAny_bind (wpAny_holding (list_sort_data (s := { s1 with heap := s1.heap.push (seqObj "list" (refsOf M1).toArray 0) }) (β := RD) (bs := M1) (enc := fun p => p.2) (R := fun (v : Value) (p : RD) => v = .ref p.1) hoL (each_refs M1) (each_all M1 fun p hp => ?_) (fun d hd d' hd' => ?_) ?_ (by rw [sizeLine_eq]; omega) (fun p hp => ?_) fun out lo eo => ?_))
  · obtain ⟨q1, as, q2⟩ := hr p (h1 p hp)
    refine ⟨as, PyProof.Rows.Reads.keeps kk q2, ?_⟩
    rw [tup_reads _ _ _ q1 q2]
    exact List.not_mem_nil
  · obtain ⟨p, hp, rfl⟩ := List.mem_map.mp hd
    obtain ⟨q, hq, rfl⟩ := List.mem_map.mp hd'
    exact hal _ (List.mem_map.mpr ⟨p, h1 p hp, rfl⟩) _ (List.mem_map.mpr ⟨q, h1 q hq, rfl⟩)
  · rcases hk with hk | hk
    · exact .inl fun d hd => by
        obtain ⟨p, hp, rfl⟩ := List.mem_map.mp hd
        exact hk _ (List.mem_map.mpr ⟨p, h1 p hp, rfl⟩)
    · exact .inr fun d hd => by
        obtain ⟨p, hp, rfl⟩ := List.mem_map.mp hd
        exact hk _ (List.mem_map.mpr ⟨p, h1 p hp, rfl⟩)
  · have := hu p (h1 p hp)
    show A.units + 1 + 1 + p.2.depth < cLine
    omega
  · obtain ⟨c, hc⟩ := sortedHeap_at (vs := refsOf M1) (out := out.toArray) hoL
    have perm := List.mergeSort_perm M1 (dataLe false fun p : RD => p.2)
    refine wpAny_pure ⟨_, rfl, hQ _ s1.heap.objs.size out.toArray c (M1.mergeSort (dataLe false fun p : RD => p.2)) (fun b u e => ?_) g1 o1 hz hc (by simpa using refs_each eo) (by rw [perm.length_eq, l1]) fun q hq => h1 q (perm.mem_iff.mp hq)⟩
    have q := k1 b u e
    have hlt := Heap.lt_size q
    show (sortedHeap (s1.heap.push (seqObj "list" (refsOf M1).toArray 0)) s1.heap.objs.size (refsOf M1) out.toArray).get? b = some u
    (rw [sortedHeap_old (Nat.ne_of_lt hlt) (by rw [size_push']; exact Nat.lt_succ_of_lt hlt)]); exact Heap.get?_push_of_some _ q
end
/-- a row's datum, as a set's key -/
structure KeyD (d : PyData) : Prop where
  tup : tupOnly d = true
  num : noText (nk d) = true
  dep : d.depth ≤ 8
  is : ∃ ds, d = .tuple ds
section
variable {X : Cx}
/-- set(xs), xs a list of at most four rows -/
def rSetR (K : PySem.W.Frag) (w : World) : List V → Hp → VK → Prop := fun xs H Q => ∃ (l : Addr) (M : List RD), xs = [V.ref l] ∧ SqL K H l (vrefsOf M) ∧ (∀ p ∈ M, Dp K H (.ref p.1) p.2 ∧ KeyD p.2) ∧ M.length ≤ 4 ∧
  ∀ a M', H a = none → (∀ p ∈ M', p ∈ M) → M'.length ≤ M.length → (0 < M.length → M' ≠ []) → Q (.ref a) (upd H a (SetR w a M'))
theorem cr_setR (hc : X.calm = true) (hu : X.A.units + 64 < cLine) : CallR X (.type "set") (rSetR X.K X.w) := by
  intro pn s σ H xs us Q I r h
  obtain ⟨l, M, rfl, hl, hk, hf, q⟩ := h
  rw [Vals.ref1 r]
  obtain ⟨es1, ra, pl, hz⟩ := I.list hl
  have nohp : H s.heap.objs.size = none := I.hok.fresh (Nat.le_refl _)
  have ev := refs_vals ra
  refine call_set_rows (P := X.prog) (w := X.w) (keysOf M) (I.ok.hd hc) pl.isList (by rw [keysOf, List.map_map]; exact ev) (fun p hp => ?_) (by rw [keysOf, List.length_map]; exact hf) (by omega) fun h' tk L es ep t R g k => ?_
  · obtain ⟨q, hq, rfl⟩ := List.mem_map.mp hp
    obtain ⟨a1, a2⟩ := hk q hq
    have nd := nk_depth q.2
    have := a2.dep
    exact ⟨⟨nested_of I q.2 _ _ a2.tup a1 rfl, by show (nk q.2).depth ≤ 8; omega⟩, a2.num⟩
  · obtain ⟨M', rfl, h1⟩ := sub_keys (M := M) L g.sub
    have gl := g.len
    have gs := g.some_
    rw [keysOf, keysOf, List.length_map, List.length_map] at gl
    rw [keysOf, List.length_map] at gs
    refine ⟨.ref s.heap.objs.size, upd H s.heap.objs.size (SetR X.w s.heap.objs.size M'), I.laid (t' := tk) k (Nat.le_refl _) ?_, rfl, q _ M' nohp h1 gl fun z e => gs z (by rw [e]; rfl)⟩
    have ⟨o, ho, _⟩ := R.obj
    refine ⟨⟨es, ep, t, R⟩, ⟨o, ho⟩, fun ha hb ⟨es', ep', t', R'⟩ kk => ⟨es', ep', t', R'.keep kk⟩⟩
/-- sorted(such a set) -/
def rSortedR (K : PySem.W.Frag) (w : World) : List V → Hp → VK → Prop := fun vs H Q => ∃ (a : Addr) (M : List RD), vs = [V.ref a] ∧ H a = some (SetR w a M) ∧ (∀ p ∈ M, Dp K H (.ref p.1) p.2 ∧ KeyD p.2) ∧ AllAlike (M.map (·.2)) ∧ Sortable (M.map (·.2)) ∧
  ∀ (M' : List RD) (p : Addr), M'.length = M.length → (∀ q ∈ M', q ∈ M) → H p = none → Q (.ref p) (upd H p (.lst (vrefsOf M')))
theorem cr_sortedR (hc : X.calm = true) (hu : X.A.units + 64 < cLine) : CallR X (.builtin "sorted") (rSortedR X.K X.w) := by
  intro pn s σ H vs us Q I r h
  obtain ⟨a, M, rfl, ha, hk, hal, hso, q⟩ := h
  obtain ⟨es, ep, t, R⟩ := (I.hok a _ ha).1
  rw [Vals.ref1 r]
  refine sorted_ros R (I.ok.hd hc) (fun p hp => ⟨(hk p hp).2.tup, Dp.reads I _ _ _ (hk p hp).1 rfl⟩) hal hso (fun p hp => by have := (hk p hp).2.dep; omega) fun s' p out c M' k g o hp hg hout ml msub => ?_
  have hfew : M'.length ≤ 4 := by
    have := R.few
    rw [keysOf, List.length_map] at this
    omega
  have hlen : (vrefsOf M').length ≤ sizeLine := by rw [vrefsOf, List.length_map, sizeLine_eq]; omega
  have nohp : H p = none := I.hok.fresh hp
  have hv : Vals (vrefsOf M') out.toList := by rw [hout]; exact vals_refs M'
  have J : Inv X pn σ (upd H p (.lst (vrefsOf M'))) { s with heap := s'.heap, gens := s'.gens, drawn := s'.drawn, toks := s'.toks } :=
    I.call (ch := []) (Un.laid k hp nohp) (I.hok.laid k hp ⟨hlen, out.toList, c, hv, hg⟩) (by rw [g]; exact I.bare) (fun _ z => nomatch z)
  have e : s' = { s with toks := s'.toks, drawn := s'.drawn, gens := s'.gens, heap := s'.heap } := by
    cases s'
    cases s
    cases o
    rfl
  rw [e]
  exact ⟨.ref p, _, J, rfl, q M' p ml msub nohp⟩
end
/-! ### rows, settled -/
theorem alike_frs : ∀ (xs ys : List Rat), alikeAll (xs.map frD) (ys.map frD) = true
  | [], _ => by simp [alikeAll]
  | _ :: _, .nil => by simp [alikeAll]
  | x :: xs, y :: ys => by
    show alikeAll (frD x :: xs.map frD) (frD y :: ys.map frD) = true
    rw [alikeAll, alike_frs xs ys]
    simp [frD, alike, alikeAll]
theorem alike_rows (x y : Row) : alike (rowD x) (rowD y) = true := by
  show alike (.tuple (x.map frD)) (.tuple (y.map frD)) = true
  rw [alike]
  exact alike_frs x y
theorem frs_depth : ∀ xs : List Rat, PyData.depthAll (xs.map frD) ≤ 1
  | .nil => by simp [PyData.depthAll]
  | x :: xs => by
    show PyData.depthAll (frD x :: xs.map frD) ≤ 1
    rw [PyData.depthAll, fr_depth]
    have := frs_depth xs
    omega
theorem fr_num (q : Rat) : noText (nk (frD q)) = true := by simp [frD, nk, nks, noText, noText.noTexts]
theorem frs_num : ∀ xs : List Rat, noText.noTexts (nks (xs.map frD)) = true
  | [] => by simp [nks, noText.noTexts]
  | x :: xs => by
    show noText.noTexts (nks (frD x :: xs.map frD)) = true
    rw [nks, noText.noTexts, fr_num, frs_num xs]
    rfl
theorem row_key (r : Row) : KeyD (rowD r) := ⟨row_tup r, by
  show noText (nk (.tuple (r.map frD))) = true
  rw [nk, noText]
  exact frs_num r, Nat.le_trans (row_depth r) (by decide), _, rfl⟩
end K17

end
section
set_option maxHeartbeats 8000000
/-! # _law_settled -/
namespace K17
open PySem PySem.Spec PyProof.Rows L2 Evl PySem.W
def SpSettled (K : PySem.W.Frag) : Sp := fun vs H Q _ => ∃ rs : List Row, DpAll K H vs [.list (rs.map rowD)] ∧ rs ≠ [] ∧ rs.length ≤ 4 ∧ (∀ r ∈ rs, r ≠ []) ∧
  ∀ v H' (ss : List Row), Ex H H' → Dp K H' v (rowsD ss) → ss ≠ [] → ss.length ≤ rs.length → (∀ r ∈ ss, r ∈ rs) → Q v H'
section
variable {K : PySem.W.Frag} {H H' : Hp}
theorem rds : ∀ (rs : List Row) (xs : List V), DpAll K H xs (rs.map rowD) → ∃ M : List RD, xs = vrefsOf M ∧ M.length = rs.length ∧ ∀ p ∈ M, Dp K H (.ref p.1) p.2 ∧ ∃ r ∈ rs, p.2 = rowD r
  | [], _, h => by cases h; exact ⟨[], rfl, rfl, fun p hp => (nomatch hp)⟩
  | r :: rs, _, h => by
    cases h with
    | cons h1 h2 =>
      obtain ⟨M, e, l, all⟩ := rds rs _ h2
      obtain ⟨a, ys, rfl, _, _⟩ := dp_ref_tup (K := K) h1
      refine ⟨(a, rowD r) :: M, by rw [e]; rfl, by simp [l], fun p hp => ?_⟩
      rcases List.mem_cons.mp hp with z | z
      · rw [z]; exact ⟨h1, r, List.mem_cons_self, rfl⟩
      · obtain ⟨q1, q, q2, q3⟩ := all p z
        exact ⟨q1, q, List.mem_cons_of_mem _ q2, q3⟩
theorem rds_back (rs : List Row) : ∀ (M : List RD), (∀ p ∈ M, Dp K H (.ref p.1) p.2 ∧ ∃ r ∈ rs, p.2 = rowD r) → ∃ ss : List Row, ss.length = M.length ∧ (∀ r ∈ ss, r ∈ rs) ∧ DpAll K H (vrefsOf M) (ss.map rowD)
  | [], _ => ⟨[], rfl, fun r hr => (nomatch hr), .nil⟩
  | p :: M, h => by
    obtain ⟨ss, l, a, b⟩ := rds_back rs M fun q hq => h q (List.mem_cons_of_mem _ hq)
    obtain ⟨q1, r, q2, q3⟩ := h p List.mem_cons_self
    refine ⟨r :: ss, by simp [l], fun x hx => ?_, .cons (by rw [← q3]; exact q1) b⟩
    rcases List.mem_cons.mp hx with z | z
    · rw [z]; exact q2
    · exact a x z
end
section
variable {P : Program} {w : World} {K : PySem.W.Frag} {mg : Str → Option Value} {base : Heap} {aN aL : Addr}
theorem c_l_settled (T : Txt K mg aN aL) (D : Dfn K mg "_law_settled" s_l_settled p_l_settled) : Cal P w K mg base CX0 1 "_law_settled" p_l_settled (SpSettled K) := by
  refine D.ok sc_l_settled (fun vs H Q E ⟨rs, h, _⟩ => dps_len h) fun f cdv A outer s H vs Q E hr ⟨rs, h1, h2, h3, h4, q⟩ => ?_
  refine ⟨_, (pss_one (ps_ret (pe_callTy call_tuple_of (by rfl) T.n_tuple (by decide +kernel) (pa_cons (pe_callB (cr_sortedR rfl hr.units) (by rfl) T.n_sorted (by decide +kernel) (pa_cons (pe_callTy (cr_setR rfl hr.units) (by rfl) T.n_set (by decide +kernel) (pa_cons (pv 0) pa_nil)) pa_nil)) pa_nil)))), ?_⟩
  obtain ⟨v, rfl, hd⟩ := dps1 h1
  obtain ⟨l, xs, rfl, hl, hx⟩ := dp_ref_lst hd
  obtain ⟨M, rfl, lM, all⟩ := rds rs xs hx
  have alike_of : ∀ M' : List RD, (∀ p ∈ M', p ∈ M) → AllAlike (M'.map (·.2)) := fun M' h d hd d' hd' => by
    obtain ⟨p, hp, rfl⟩ := List.mem_map.mp hd
    obtain ⟨p', hp', rfl⟩ := List.mem_map.mp hd'
    obtain ⟨_, r, _, e⟩ := all p (h p hp)
    obtain ⟨_, r', _, e'⟩ := all p' (h p' hp')
    rw [e, e']
    exact alike_rows r r'
  refine ⟨.ref l, rfl, l, M, rfl, hl, fun p hp => ?_, by omega, fun a M' ha hs hlen hne => ?_⟩
  · obtain ⟨a1, r, _, e⟩ := all p hp
    exact ⟨a1, by rw [e]; exact row_key r⟩
  · have e1 : Ex H (upd H a (SetR w a M')) := Ex.new ha
    refine ⟨a, M', rfl, upd_same, fun p hp => ?_, alike_of M' hs, .inl fun d hd => ?_, fun M2 p l2 hs2 hp => ?_⟩
    · obtain ⟨a1, r, _, e⟩ := all p (hs p hp)
      exact ⟨dp_ex e1 _ _ a1, by rw [e]; exact row_key r⟩
    · obtain ⟨p, hp, rfl⟩ := List.mem_map.mp hd
      obtain ⟨_, r, hr, e⟩ := all p (hs p hp)
      obtain ⟨x, t, rfl⟩ := List.exists_cons_of_ne_nil (h4 r hr)
      exact ⟨frD x, t.map frD, by rw [e]; rfl⟩
    · have e2 := e1.trans (Ex.new (o := .lst (vrefsOf M2)) hp)
      refine ⟨p, vrefsOf M2, rfl, .inl ⟨.of upd_same, fun l3 hl3 => ?_⟩⟩
      have e3 := e2.trans (Ex.new (o := .tup (vrefsOf M2)) hl3)
      obtain ⟨ss, ls, subs, dd⟩ := rds_back (H := upd (upd (upd H a (SetR w a M')) p (.lst (vrefsOf M2))) l3 (.tup (vrefsOf M2))) rs M2 fun x hx => by
        obtain ⟨a1, b⟩ := all x (hs x (hs2 x hx))
        exact ⟨dp_ex e3 _ _ a1, b⟩
      refine q (.ref l3) _ ss e3 (.tup (.of upd_same) dd) (fun z => ?_) (by omega) subs
      rw [z] at ls
      have hM : 0 < M.length := by
        rw [lM]
        exact List.length_pos_iff.mpr h2
      have := hne hM
      have : 0 < M'.length := List.length_pos_iff.mpr this
      simp at ls
      omega
end
end K17

end
section
set_option maxHeartbeats 4200000
/-! # Draws: the box is written, all else stays -/
namespace K17
open PySem PySem.Spec PyProof.Rows L2 Evl
/-- what stands elsewhere than at b is kept -/
def ExB (b : Addr) (H H' : Hp) : Prop := ∀ a o, a ≠ b → H a = some o → H' a = some o
/-- the box: three ints, the third counts the draws -/
def Box (H : Hp) (b : Addr) (c : Nat) : Prop := ∃ x y z : Int, H b = some (.lst [.int x, .int y, .int z]) ∧ 0 ≤ z ∧ z ≤ (c : Int)
section
variable {K : PySem.W.Frag} {H H' H2 : Hp} {b : Addr} {c c' : Nat}
theorem ExB.of (e : Ex H H') : ExB b H H' := fun a o _ h => e a o h
theorem ExB.trans (x : ExB b H H') (y : ExB b H' H2) : ExB b H H2 := fun a o n h => y a o n (x a o n h)
theorem ExB.upd (o : HO) : ExB b H (upd H b o) := fun a u n h => by rw [upd_ne n]; exact h
theorem ExB.fresh (e : ExB b H H') (hb : H b = none) : Ex H H' := fun a o h => e a o (fun z => by rw [z, hb] at h; cases h) h
theorem Box.ex (x : Box H b c) (e : Ex H H') : Box H' b c := by
  obtain ⟨p, q, r, h1, h2⟩ := x
  exact ⟨p, q, r, e _ _ h1, h2⟩
theorem Box.mono (x : Box H b c) (h : c ≤ c') : Box H b c' := by
  obtain ⟨p, q, r, h1, h2, h3⟩ := x
  exact ⟨p, q, r, h1, h2, by omega⟩
theorem ExB.tups (hb : Box H b c) (e : ExB b H H') : Tups H H' := by
  obtain ⟨p, q, r, h1, _⟩ := hb
  exact ⟨fun a xs h => e a _ (fun z => by rw [z, h1] at h; cases h) h, fun a o xs h => e a _ (fun z => by rw [z, h1] at h; cases h) h⟩
/-- data that a draw leaves as they are -/
def safe : PyData → Bool
  | .list (.tuple xs :: ds) => tupOnly.tupOnlys xs && tupOnly.tupOnlys ds
  | d => tupOnly d
theorem safe_tup {d : PyData} (h : tupOnly d = true) : safe d = true := by
  unfold safe
  split
  · simp [tupOnly] at h
  · exact h
theorem safe_cases {d : PyData} (h : safe d = true) : tupOnly d = true ∨ ∃ xs ds, d = .list (.tuple xs :: ds) ∧ tupOnly.tupOnlys (.tuple xs :: ds) = true := by
  unfold safe at h
  split at h
  · exact .inr ⟨_, _, rfl, by simpa [tupOnly.tupOnlys, tupOnly] using h⟩
  · exact .inl h
theorem dp_box {d : PyData} {v : V} (hs : safe d = true) (hb : Box H b c) (e : ExB b H H') (h : Dp K H v d) : Dp K H' v d := by
  rcases safe_cases hs with hs | ⟨xs, ds, rfl, hs⟩
  · exact dp_tups (e.tups hb) d v hs h
  · obtain ⟨p, q, r, h1, _⟩ := id hb
    obtain ⟨a, us, rfl, hl, hx⟩ := dp_ref_lst h
    refine .lst ?_ (dps_tups (e.tups hb) _ _ hs hx)
    cases hx with
    | cons g1 g2 =>
      obtain ⟨t, _, rfl, _, _⟩ := dp_ref_tup g1
      rcases hl with (hl | ⟨o, hl⟩) | hl
      · exact .inl (.inl (e a _ (fun z => by rw [z, h1] at hl; cases hl) hl))
      · exact .inl (.inr ⟨o, e a _ (fun z => by rw [z, h1] at hl; cases hl) hl⟩)
      · exact .inr hl
end
def AllB (Δ : Dt) : Prop := ∀ d, some d ∈ Δ → safe d = true
theorem allB_nil : AllB [] := fun d h => by cases h
theorem allB_none {Δ : Dt} (h : AllB Δ) : AllB (none :: Δ) := fun d hd => by
  rcases List.mem_cons.mp hd with e | e
  · cases e
  · exact h d e
theorem allB_some {Δ : Dt} {d : PyData} (hd : safe d = true) (h : AllB Δ) : AllB (some d :: Δ) := fun d' hd' => by
  rcases List.mem_cons.mp hd' with e | e
  · rw [Option.some.inj e]; exact hd
  · exact h d' e
theorem AllB.set {Δ : Dt} {i : Nat} {o : Option PyData} (h : AllB Δ) (ho : ∀ d, o = some d → safe d = true) : AllB (Δ.set i o) := fun d hd => by
  rcases List.mem_or_eq_of_mem_set hd with e | e
  · exact h d e
  · exact ho d e.symm
theorem AllB.wipe {Δ : Dt} (h : AllB Δ) : ∀ vs, AllB (wipeD Δ vs)
  | [] => h
  | v :: vs => (AllB.wipe h vs).set fun d e => nomatch e
section
variable (K : PySem.W.Frag)
structure SlB (b : Addr) (c ib : Nat) (σ : L2.St) (H : Hp) (Δ : Dt) : Prop where
  sl : Sl K σ H Δ
  at_ : σ[ib]? = some (some (.ref b))
  box : Box H b c
def lim : Nat := 1000000
/-- what an expression that draws may come to -/
def EVB (ib m : Nat) (te : TE) (Δ : Dt) (φ : PyData → Prop) : Prop := ∀ b c σ H, SlB K b c ib σ H Δ → c + m ≤ lim → ∀ Q : VK, (∀ v d H', φ d → ExB b H H' → Box H' b (c + m) → Dp K H' v d → Q v H') → te σ H Q
def EAB (ib m : Nat) (ta : TA) (Δ : Dt) (φ : List PyData → Prop) : Prop := ∀ b c σ H, SlB K b c ib σ H Δ → c + m ≤ lim → ∀ Q : List V → Hp → Prop, (∀ vs ds H', φ ds → ExB b H H' → Box H' b (c + m) → DpAll K H' vs ds → Q vs H') → ta σ H Q
def SRB (ib m : Nat) (tu : TS) (Δ : Dt) (φ : PyData → Prop) : Prop := ∀ b c D σ H, SlB K b c ib σ H Δ → c + m ≤ lim → (∀ v d H', φ d → ExB b H H' → Box H' b (c + m) → Dp K H' v d → D.rt v H') → tu D σ H
/-- the promise of a def that draws at most m times -/
def SpB (m : Nat) (R : List PyData → (PyData → Prop) → Prop) : Sp := fun vs H Q _ => ∃ b c ws ds φ, vs = .ref b :: ws ∧ Box H b c ∧ c + m ≤ lim ∧ DpAll K H ws ds ∧ R ds φ ∧ ∀ v d H', φ d → ExB b H H' → Box H' b (c + m) → Dp K H' v d → Q v H'
end
section
variable {K : PySem.W.Frag} {H H' H2 : Hp} {b : Addr} {c c' ib m m1 m2 : Nat} {σ : L2.St} {Δ Δ1 : Dt} {ta tb te ti : TE} {tr : TA} {tu tw tz : TS} {φ φ1 φ2 : PyData → Prop} {ψ ψ1 : List PyData → Prop} {d d1 d2 : PyData} {ds : List PyData}
theorem dps_box (hb : Box H b c) (e : ExB b H H') : ∀ {vs : List V} {ds : List PyData}, (∀ d ∈ ds, safe d = true) → DpAll K H vs ds → DpAll K H' vs ds
  | _, _, _, .nil => .nil
  | _, _, h, .cons h1 t => .cons (dp_box (h _ List.mem_cons_self) hb e h1) (dps_box hb e (fun d hd => h d (List.mem_cons_of_mem _ hd)) t)
theorem SlB.go (s : SlB K b c ib σ H Δ) (hs : AllB Δ) (e : ExB b H H') (hb : Box H' b c') : SlB K b c' ib σ H' Δ := ⟨⟨s.sl.len, fun i d h => by
  obtain ⟨v, h1, h2⟩ := s.sl.at_ i d h
  exact ⟨v, h1, dp_box (hs d (List.mem_of_getElem? h)) s.box e h2⟩⟩, s.at_, hb⟩
theorem SlB.ex (s : SlB K b c ib σ H Δ) (e : Ex H H') : SlB K b c ib σ H' Δ := ⟨s.sl.ex e, s.at_, s.box.ex e⟩
theorem SlB.put (s : SlB K b c ib σ H Δ) {i : Nat} (hi : i ≠ ib) {v : V} (h : Dp K H v d) : SlB K b c ib (σ.set i (some v)) H (Δ.set i (some d)) := ⟨s.sl.put i h, by rw [List.getElem?_set_ne hi]; exact s.at_, s.box⟩
theorem SlB.weak (s : SlB K b c ib σ H Δ) (hl : Δ1.length = Δ.length) (h : ∀ (i : Nat) d, Δ1[i]? = some (some d) → Δ[i]? = some (some d)) : SlB K b c ib σ H Δ1 := ⟨s.sl.weak hl h, s.at_, s.box⟩
theorem SlB.forget (s : SlB K b c ib σ H Δ) (i : Nat) : SlB K b c ib σ H (Δ.set i none) := ⟨s.sl.forget i, s.at_, s.box⟩
theorem SlB.wipe (s : SlB K b c ib σ H Δ) {vs : List Nat} (h : ib ∉ vs) : SlB K b c ib (wipe σ vs) H (wipeD Δ vs) := ⟨s.sl.wipe vs, by
  rw [wipe_at, if_neg (fun z => h z.1)]
  exact s.at_, s.box⟩
/-! ### expressions -/
theorem vb_pure (h : EV K te Δ d) : EVB K ib 0 te Δ (· = d) := fun b c σ H s _ Q k => h σ H s.sl H (Ex.refl _) _ fun v H1 e hd => k v d H1 rfl (.of e) (s.box.ex e) hd
theorem vb_mono (h : EVB K ib m1 te Δ φ1) (hm : m1 ≤ m2) (hφ : ∀ d, φ1 d → φ2 d) : EVB K ib m2 te Δ φ2 := fun b c σ H s l Q k => h b c σ H s (by omega) Q fun v d H' p e bx hd => k v d H' (hφ d p) e (bx.mono (by omega)) hd
theorem ab_pure (h : EA K tr Δ ds) : EAB K ib 0 tr Δ (· = ds) := fun b c σ H s _ Q k => h σ H s.sl H (Ex.refl _) _ fun vs H1 e hd => k vs ds H1 rfl (.of e) (s.box.ex e) hd
theorem ab_cons (h : EVB K ib m1 te Δ φ) (hr : EAB K ib m2 tr Δ ψ) (hs : AllB Δ) (hφ : ∀ d, φ d → safe d = true) : EAB K ib (m1 + m2) (tCons te tr) Δ (fun ds => ∃ d es, ds = d :: es ∧ φ d ∧ ψ es) := fun b c σ H s l Q k =>
  h b c σ H s (by omega) _ fun v d H1 p e bx hd => hr b (c + m1) σ H1 (s.go hs e bx) (by omega) _ fun vs es H2 p2 e2 bx2 hds => k (v :: vs) (d :: es) H2 ⟨d, es, rfl, p, p2⟩ (e.trans e2) (bx2.mono (by omega)) (.cons (dp_box (hφ d p) bx e2 hd) hds)
theorem vb_call {R : List PyData → (PyData → Prop) → Prop} (h : EAB K ib m1 tr Δ ψ) (hs : AllB Δ) (hψ : ∀ ds, ψ ds → ∃ φ1, R ds φ1 ∧ ∀ d, φ1 d → φ d) : EVB K ib (m1 + m) (tCall (SpB K m R) [] E0 (tCons (tVar ib) tr)) Δ φ := fun b c σ H s l Q k =>
  ⟨.ref b, s.at_, h b c σ H s (by omega) _ fun vs ds H1 p e bx hd => by
    obtain ⟨φ1, h1, h2⟩ := hψ ds p
    rw [List.append_nil]
    exact ⟨b, c + m1, vs, ds, φ1, rfl, bx, by omega, hd, h1, fun v d H2 q e2 bx2 hd2 => k v d H2 (h2 d q) (e.trans e2) (bx2.mono (by omega)) hd2⟩⟩
theorem vb_callP {R : List PyData → (PyData → Prop) → Prop} (h : EA K tr Δ ds) (hs : AllB Δ) (hR : R ds φ) : EVB K ib m (tCall (SpB K m R) [] E0 (tCons (tVar ib) tr)) Δ φ :=
  vb_mono (vb_call (φ := φ) (ab_pure h) hs fun ds' e => ⟨φ, e ▸ hR, fun _ h => h⟩) (by omega) fun _ h => h
theorem vb_callD {R : List PyData → PyData → Prop} (h : EAB K ib m tr Δ ψ) (hψ : ∀ ds, ψ ds → ∃ d, R ds d ∧ φ d) : EVB K ib m (tCall (SpD K R) [] E0 tr) Δ φ := fun b c σ H s l Q k =>
  h b c σ H s l _ fun vs ds H1 p e bx hd => by
    obtain ⟨d, h1, h2⟩ := hψ ds p
    rw [List.append_nil]
    exact ⟨ds, d, hd, h1, fun v H2 e2 hd2 => k v d H2 h2 (e.trans (.of e2)) (bx.ex e2) hd2⟩
theorem vb_settled {C : List Row → Prop} (h : EVB K ib m te Δ (fun d => ∃ rs : List Row, d = .list (rs.map rowD) ∧ C rs)) (hC : ∀ rs, C rs → rs ≠ [] ∧ rs.length ≤ 4 ∧ ∀ r ∈ rs, r ≠ []) :
    EVB K ib m (tCall (SpSettled K) [] E0 (tCons te tNil)) Δ (fun d => ∃ rs ss : List Row, C rs ∧ d = rowsD ss ∧ ss ≠ [] ∧ ss.length ≤ rs.length ∧ ∀ r ∈ ss, r ∈ rs) := fun b c σ H s l Q k =>
  h b c σ H s l _ fun v d H1 ⟨rs, e1, hc⟩ e bx hd => by
    obtain ⟨h1, h2, h3⟩ := hC rs hc
    subst e1
    exact ⟨rs, .cons hd .nil, h1, h2, h3, fun v H2 ss e2 hd2 q1 q2 q3 => k v _ H2 ⟨rs, ss, hc, rfl, q1, q2, q3⟩ (e.trans (.of e2)) (bx.ex e2) hd2⟩
theorem vb_tupleOf (h : EVB K ib m te Δ φ) (hφ : ∀ d, φ d → ∃ ds, d = .list ds) : EVB K ib m (tCB (rTupS K) (tCons te tNil)) Δ (fun d => ∃ ds, φ (.list ds) ∧ d = .tuple ds) := fun b c σ H s l Q k =>
  h b c σ H s l _ fun v d H1 p e bx hd => by
    obtain ⟨ds, rfl⟩ := hφ d p
    obtain ⟨a, xs, rfl, hs, hx⟩ := dp_ref_lst hd
    exact ⟨a, xs, rfl, .inl ⟨hs, fun q hq => k (.ref q) _ _ ⟨ds, p, rfl⟩ (e.trans (.of (Ex.new hq))) (bx.ex (Ex.new hq)) (.tup (.of upd_same) (dps_ex (Ex.new hq) _ _ hx))⟩⟩
/-- i + a draw -/
theorem vb_addI {i : Int} {p : Int → Prop} (h : EVB K ib m te Δ (fun d => ∃ j, d = .int j ∧ p j)) : EVB K ib m (tOp (rI0 fun i j => .int (i + j)) (tC (.int i)) te) Δ (fun d => ∃ j, d = .int (i + j) ∧ p j) := fun b c σ H s l Q k =>
  h b c σ H s l _ fun v d H1 ⟨j, ej, pj⟩ e bx hd => by
    subst ej
    rw [dp_int hd]
    exact ⟨i, j, rfl, rfl, k _ _ H1 ⟨j, rfl, pj⟩ e bx (.int _)⟩
/-- xs[a draw] -/
theorem vb_ixL {i n : Nat} (hv : Δ[i]? = some (some (.list ds))) (hs : AllB Δ) (h : EVB K ib m te Δ (fun d => ∃ j : Nat, d = .int (j : Int) ∧ j < n)) (hn : n ≤ ds.length) : EVB K ib m (tOp (rIx K) (tVar i) te) Δ (fun d => d ∈ ds) := fun b c σ H s l Q k => by
  obtain ⟨v, h1, h2⟩ := s.sl.at_ i _ hv
  refine ⟨v, h1, h b c σ H s l _ fun w d H1 ⟨j, ej, pj⟩ e bx hd => ?_⟩
  subst ej
  rw [dp_int hd]
  have h3 := dp_box (hs _ (List.mem_of_getElem? hv)) s.box e h2
  obtain ⟨a, xs, rfl, hl, hx⟩ := dp_ref_lst h3
  have hj : j < ds.length := by omega
  obtain ⟨u, hu, hud⟩ := dps_at hx (List.getElem?_eq_getElem hj)
  exact .inl ⟨a, xs, j, u, rfl, rfl, hl, atI_nat hu, k u _ H1 (List.getElem_mem hj) e bx hud⟩
/-! ### comprehensions whose element draws -/
/-- [e for j in source]: n turns, m draws each -/
theorem vb_lc {wi : TI} {j n : Nat} {vs : List Nat} {Y : Hp → Nat → Hp → V → Hp → Prop} (hs : AllB Δ) (hib : ib ∉ vs) (hj : j ∈ vs) (hz : n ≤ 40000) (ht : ∀ d, φ d → tupOnly d = true)
    (src : ∀ b c σ H, SlB K b c ib σ H Δ → ∀ R : It → Hp → Prop, (∀ J H2, Ex H H2 → Walk J n (fun H3 => Tups H H3) (Y H) → R J H2) → wi σ H R)
    (hY : ∀ b c σ H, SlB K b c ib σ H Δ → ∀ i H1 x H2, Tups H H1 → Y H i H1 x H2 → H2 = H1 ∧ ∃ d, Dp K H1 x d ∧ safe d = true ∧ EVB K ib m te ((wipeD Δ vs).set j (some d)) φ) :
    EVB K ib (n * m) (tLc wi (gName j) tYes te vs) Δ (fun d => ∃ ds, d = .list ds ∧ ds.length = n ∧ ∀ x ∈ ds, φ x) := fun b c σ H s l Q k => by
  refine src b c σ H s _ fun J H2 e2 w D hD => ?_
  have hD0 : H D = none := fresh_back e2 hD
  have hbD : b ≠ D := fun z => by
    obtain ⟨_, _, _, q, _⟩ := s.box
    rw [z, hD0] at q
    cases q
  have hjb : j ≠ ib := fun z => hib (z ▸ hj)
  refine lc_it w (Pv := fun i H' => ExB b H H' ∧ Box H' b (c + i * m) ∧ ∃ acc ds, H' D = some (.lst acc) ∧ acc.length = i ∧ ds.length = i ∧ DpAll K H' acc ds ∧ ∀ x ∈ ds, φ x)
    ⟨.of (e2.trans (Ex.new hD)), by rw [Nat.zero_mul]; exact s.box.ex (e2.trans (Ex.new hD)), [], [], upd_same, rfl, rfl, .nil, fun x hx => (nomatch hx)⟩ (fun i H' _ p => p.1.tups s.box) ?_ ?_
  · rintro i x H3 H4 hi ⟨p1, p2, acc, ds, p3, p4, p5, p6, p7⟩ hy
    obtain ⟨rfl, d, hd, hsd, he⟩ := hY b c σ H s i H3 x H4 (p1.tups s.box) hy
    have s3 : SlB K b (c + i * m) ib σ H4 Δ := s.go hs p1 p2
    have s4 := (s3.wipe hib).put (v := x) hjb hd
    have hmul : i * m + m ≤ n * m := by
      rw [← Nat.succ_mul]
      exact Nat.mul_le_mul_right m hi
    refine ⟨wipe_one hj _, ?_⟩
    dsimp only [tYes]
    rw [if_pos rfl]
    refine he b (c + i * m) _ H4 s4 (by omega) _ fun y dy H5 hyφ e5 bx5 hyd => ?_
    have hD5 : H5 D = some (.lst acc) := e5 _ _ (Ne.symm hbD) p3
    refine ⟨acc, hD5, sz_lt (by omega), fun a o na h => ?_, ?_, acc ++ [y], ds ++ [dy], upd_same, by simp [p4], by simp [p5], ?_, fun z hz => ?_⟩
    · have h5 := e5 a o na (p1 a o na h)
      rw [upd_ne (fun z => by rw [z, hD0] at h; cases h)]
      exact h5
    · obtain ⟨u1, u2, u3, u4, u5, u6⟩ := bx5
      exact ⟨u1, u2, u3, by rw [upd_ne hbD]; exact u4, u5, by
        have : c + (i + 1) * m = c + i * m + m := by rw [Nat.succ_mul]; omega
        omega⟩
    · have tu : Tups H5 (upd H5 D (.lst (acc ++ [y]))) := .lst hD5
      refine dps_snoc (dps_tups tu _ _ (tupOnlys_all.mpr fun z hz => ht z (p7 z hz)) (dps_box p2 e5 (fun z hz => safe_tup (ht z (p7 z hz))) p6)) (dp_tups tu _ _ (ht _ hyφ) hyd)
    · rcases List.mem_append.mp hz with z1 | z1
      · exact p7 z z1
      · rw [List.mem_singleton.mp z1]; exact hyφ
  · rintro H3 ⟨p1, p2, acc, ds, p3, p4, p5, p6, p7⟩
    exact k (.ref D) _ H3 ⟨ds, rfl, p5, p7⟩ p1 p2 (.lst (.of p3) p6)
/-- for j in range(n) -/
theorem vb_lcR {j n : Nat} {vs : List Nat} (hs : AllB Δ) (hib : ib ∉ vs) (hj : j ∈ vs) (hz : n ≤ 40000) (ht : ∀ d, φ d → tupOnly d = true) (hn : EV K ta Δ (.int (n : Int)))
    (he : ∀ i : Nat, EVB K ib m te ((wipeD Δ vs).set j (some (.int (i : Int)))) φ) : EVB K ib (n * m) (tLc (iRng1 (tCons ta tNil)) (gName j) tYes te vs) Δ (fun d => ∃ ds, d = .list ds ∧ ds.length = n ∧ ∀ x ∈ ds, φ x) :=
  vb_lc (Y := fun _ i H1 x H2 => H2 = H1 ∧ x = .int (i : Nat)) hs hib hj hz ht (fun b c σ H s R k => hn σ H s.sl H (Ex.refl _) _ fun v H2 e2 hd => by
    rw [dp_int hd]
    refine ⟨(n : Int), rfl, by omega, by omega, k _ _ e2 ?_⟩
    rw [Int.toNat_natCast]
    exact (walk_range (lo := 0) (n := n)).mono (fun _ _ => trivial) fun i H3 w H4 hi _ ⟨e1, hw⟩ => ⟨e1, by
      rw [hw]
      show V.int (0 + ((i : Nat) : Int)) = _
      rw [Int.zero_add]⟩) fun b c σ H s i H1 x H2 t y => ⟨y.1, .int (i : Int), by rw [y.2]; exact .int _, rfl, he i⟩
/-- for j in a tuple that a name holds -/
theorem vb_lcT {i j : Nat} {vs : List Nat} (hv : Δ[i]? = some (some (.tuple ds))) (hs : AllB Δ) (hib : ib ∉ vs) (hj : j ∈ vs) (hz : ds.length ≤ 40000) (ht : ∀ d, φ d → tupOnly d = true) (hd : ∀ d ∈ ds, tupOnly d = true)
    (he : ∀ d ∈ ds, EVB K ib m te ((wipeD Δ vs).set j (some d)) φ) : EVB K ib (ds.length * m) (tLc (iTup K (tVar i)) (gName j) tYes te vs) Δ (fun d => ∃ es, d = .list es ∧ es.length = ds.length ∧ ∀ x ∈ es, φ x) :=
  vb_lc (Y := fun H i H1 x H2 => H2 = H1 ∧ ∃ d, ds[i]? = some d ∧ Dp K H x d) hs hib hj hz ht (fun b c σ H s R k => by
    obtain ⟨v, h1, h2⟩ := s.sl.at_ i _ hv
    obtain ⟨a, xs, rfl, hl, hx⟩ := dp_ref_tup h2
    refine ⟨.ref a, h1, a, rfl, ⟨xs, hl⟩, k _ _ (Ex.refl _) ?_⟩
    rw [← dps_len hx]
    exact (walk_tup (K := K) (a := a) (xs := xs)).mono (fun H3 t => tups_t t hl) fun i H3 w H4 hi _ ⟨e1, hw⟩ => ⟨e1, dps_get hx hw⟩) fun b c σ H s i H1 x H2 t ⟨y1, d, y2, y3⟩ => by
    have hm := List.mem_of_getElem? y2
    exact ⟨y1, d, dp_tups t d x (hd d hm) y3, safe_tup (hd d hm), he d hm⟩
/-! ### statements -/
theorem rb_mono (h : SRB K ib m1 tu Δ φ1) (hm : m1 ≤ m2) (hφ : ∀ d, φ1 d → φ2 d) : SRB K ib m2 tu Δ φ2 := fun b c D σ H s l k => h b c D σ H s (by omega) fun v d H' p e bx hd => k v d H' (hφ d p) e (bx.mono (by omega)) hd
theorem rb_sr (h : SR K tu Δ d) (hφ : φ d) : SRB K ib m tu Δ φ := fun b c D σ H s l k => h D σ H s.sl fun v H1 e hd => k v d H1 hφ (.of e) ((s.box.ex e).mono (by omega)) hd
theorem rb_ret (h : EVB K ib m te Δ φ) : SRB K ib m (tRet te) Δ φ := fun b c D σ H s l k => h b c σ H s l _ fun v d H' p e bx hd => k v d H' p e bx hd
theorem rb_asg {i : Nat} (h : EVB K ib m1 te Δ φ1) (hs : AllB Δ) (hi : i ≠ ib) (k : ∀ d, φ1 d → SRB K ib m2 tz (Δ.set i (some d)) φ) : SRB K ib (m1 + m2) (tSeq (tAsg te (gName i)) tz) Δ φ := fun b c D σ H s l q =>
  h b c σ H s (by omega) _ fun v d H1 p e bx hd => k d p b (c + m1) D _ H1 ((s.go hs e bx).put hi hd) (by omega) fun v2 d2 H2 p2 e2 bx2 hd2 => q v2 d2 H2 p2 (e.trans e2) (bx2.mono (by omega)) hd2
theorem rb_par {i j : Nat} {tr : TA} (h : EAB K ib m1 tr Δ (fun ds => ∃ d e, ds = [d, e] ∧ φ1 d ∧ φ2 e)) (hs : AllB Δ) (hi : i ≠ ib) (hj : j ≠ ib) (k : ∀ d e, φ1 d → φ2 e → SRB K ib m2 tz ((Δ.set i (some d)).set j (some e)) φ) : SRB K ib (m1 + m2) (tSeq (tPar i j tr) tz) Δ φ := fun b c D σ H s l q =>
  h b c σ H s (by omega) _ fun vs ds H1 ⟨d, e', e1, p1, p2⟩ e bx hd => by
    subst e1
    cases hd with
    | cons h1 t =>
      cases t with
      | cons h2 t =>
        cases t
        exact ⟨_, _, rfl, k d e' p1 p2 b (c + m1) D _ H1 (((s.go hs e bx).put hi h1).put hj h2) (by omega) fun v2 d2 H2 p2 e2 bx2 hd2 => q v2 d2 H2 p2 (e.trans e2) (bx2.mono (by omega)) hd2⟩
/-- if c: (hands back); then the rest -/
theorem rb_when {t : TT} {a : Bool} (h : ET K t Δ a) (h1 : a = true → SRB K ib m tu Δ φ) (h2 : a = false → SRB K ib m tz Δ φ) : SRB K ib m (tSeq (tIfS t tu tNext) tz) Δ φ := fun b c D σ H s l k =>
  q_when (h σ H s.sl) (fun e H1 e1 => h1 e b c _ σ H1 (s.ex e1) l fun v d H2 p e2 bx hd => k v d H2 p ((ExB.of e1).trans e2) bx hd) (fun e H1 e1 => h2 e b c D σ H1 (s.ex e1) l fun v d H2 p e2 bx hd => k v d H2 p ((ExB.of e1).trans e2) bx hd)
theorem rb_weak (hl : Δ1.length = Δ.length) (h : ∀ (i : Nat) d, Δ1[i]? = some (some d) → Δ[i]? = some (some d)) (q : SRB K ib m tu Δ1 φ) : SRB K ib m tu Δ φ := fun b c D σ H s l k => q b c D σ H (s.weak hl h) l k
theorem rb_forget (i : Nat) (q : SRB K ib m tu (Δ.set i none) φ) : SRB K ib m tu Δ φ := fun b c D σ H s l k => q b c D σ H (s.forget i) l k
end
/-! ### the draw itself -/
section
variable {K : PySem.W.Frag} {Δ : Dt} {ta tb : TE} {i j : Int}
theorem v_mod (ha : EV K ta Δ (.int i)) (hb : EV K tb Δ (.int j)) (h : 0 < j) : EV K (tOp (rI (fun _ j => 0 < j) fun i j => .int (i % j)) ta tb) Δ (.int (i % j)) := v_opIC (C := fun _ j => 0 < j) (g := fun i j => i % j) ha hb h
theorem v_mul (ha : EV K ta Δ (.int i)) (hb : EV K tb Δ (.int j)) (h : CMul i j) : EV K (tOp (rI CMul fun i j => .int (i * j)) ta tb) Δ (.int (i * j)) := v_opIC (g := fun i j => i * j) ha hb h
theorem v_fdiv (ha : EV K ta Δ (.int i)) (hb : EV K tb Δ (.int j)) (h : CDiv i j) : EV K (tOp (rI CDiv fun i j => .int (i / j)) ta tb) Δ (.int (i / j)) := v_opIC (g := fun i j => i / j) ha hb h
theorem v_add (ha : EV K ta Δ (.int i)) (hb : EV K tb Δ (.int j)) : EV K (tOp (rI0 fun i j => .int (i + j)) ta tb) Δ (.int (i + j)) := v_opI (g := fun i j => i + j) ha hb
theorem v_gt (ha : EV K ta Δ (.int i)) (hb : EV K tb Δ (.int j)) : EV K (tOp (rI0 fun i j => .bl (decide (j < i))) ta tb) Δ (.bool (decide (j < i))) := v_opIB (g := fun i j => decide (j < i)) ha hb
theorem v_at {n : Nat} {d : PyData} {ds : List PyData} {k : Nat} (hv : Δ[k]? = some (some (.list ds))) (h : ds[n]? = some d) : EV K (tOp (rIx K) (tVar k) (tC (.int (n : Int)))) Δ d := v_ixL (v_var hv) v_ci h
end
inductive R_take : List PyData → (PyData → Prop) → Prop
  | mk (n : Nat) : 0 < n → n ≤ 1000 → R_take [.int (n : Int)] (fun d => ∃ j : Nat, d = .int (j : Int) ∧ j < n)
section
variable {K : PySem.W.Frag} {H H' : Hp} {b : Addr} {σ : L2.St} {Δ : Dt} {te : TE} {tz : TS} {D : Ends}
/-- the box's k-th is set -/
theorem q_put {ib j : Nat} {k e : Int} {xs : List V} (hb : σ[ib]? = some (some (.ref b))) (hx : H b = some (.lst xs)) (hte : EvD K te σ H (.int e)) (hj : ixN xs.length k = some j)
    (kk : ∀ H1, Ex H H1 → tz D σ (upd H1 b (.lst (xs.set j (.int e))))) : tSeq (tAsg te (gSub (tVar ib) (tC (.int k)) rSetL)) tz D σ H := hte H (Ex.refl _) _ fun v H1 e1 hd => by
  rw [dp_int hd]
  exact ⟨.ref b, hb, b, xs, k, j, rfl, rfl, e1 _ _ hx, hj, kk H1 e1⟩
theorem sl_box {d0 : PyData} {Δr : Dt} {xs : List V} {ds : List PyData} (s : Sl K σ H (some d0 :: Δr)) (hr : ∀ d, some d ∈ Δr → tupOnly d = true) (hb : σ[0]? = some (some (.ref b))) (t : Tups H H') (hx : H' b = some (.lst xs)) (hd : DpAll K H' xs ds) : Sl K σ H' (some (.list ds) :: Δr) := ⟨s.len, fun i d h => by
  cases i with
  | zero =>
    have e : PyData.list ds = d := by simpa using h
    subst e
    exact ⟨_, hb, .lst (.of hx) hd⟩
  | succ i =>
    obtain ⟨v, h1, h2⟩ := s.at_ (i + 1) d h
    exact ⟨v, h1, dp_tups t d v (hr d (List.mem_of_getElem? (i := i) (by simpa using h))) h2⟩⟩
end
section
variable {P : Program} {w : World} {K : PySem.W.Frag} {mg : Str → Option Value} {base : Heap} {aN aL : Addr}
theorem c_l_take (T : Txt K mg aN aL) (D : Dfn K mg "_law_take" s_l_take p_l_take) : Cal P w K mg base CX0 1 "_law_take" p_l_take (SpB K 1 R_take) := by
  refine D.ok sc_l_take (fun vs H Q E ⟨b, c, ws, ds, φ, e, _, _, h, hR, _⟩ => by
    cases hR
    rw [e, List.length_cons, dps_len h]
    rfl) fun f cdv A outer s H vs Q E hr ⟨b, c, ws, ds, φ, e0, bx, hc, hd, hR, q⟩ => ?_
  subst e0
  cases hR with
  | mk n hn hn2 =>
    refine ⟨_, (pss_cons (ps_if (pt_cmpR op_gt (pe_ix ix_seq (pv 0) pe_int (fun _ _ => rfl)) pe_int (nomark _)) (pss_cons (ps_set (i := 2) sc_l_take.nd rfl (.inl rfl) (pe_op op_mod (pe_callTy call_int1 (by rfl) T.n_int (by decide +kernel) (pa_cons (pe_ix ix_seq (pv 0) pe_int (fun _ _ => rfl)) pa_nil)) (pv 1)))
      (pss_cons (ps_asg (pe_op op_fdiv (pe_ix ix_seq (pv 0) pe_int (fun _ _ => rfl)) (pv 1)) (pg_sub (pv 0) pe_int set_list))
      (pss_one (ps_ret (pv 2))))) pss_nil)
      (pss_cons (ps_asg (pe_op op_add (pe_ix ix_seq (pv 0) pe_int (fun _ _ => rfl)) pe_int) (pg_sub (pv 0) pe_int set_list))
      (pss_cons (ps_set (i := 3) sc_l_take.nd rfl (.inl rfl) (pe_op op_mod (pe_callTy call_int1 (by rfl) T.n_int (by decide +kernel) (pa_cons (pe_op op_mul (pe_op op_add (pe_ix ix_seq (pv 0) pe_int (fun _ _ => rfl)) (pe_op op_mul pe_int (pe_ix ix_seq (pv 0) pe_int (fun _ _ => rfl)))) (pe_op op_add pe_int (pe_ix ix_seq (pv 0) pe_int (fun _ _ => rfl)))) pa_nil)) pe_int))
      (pss_cons (ps_set (i := 4) sc_l_take.nd rfl (.inl rfl) (pe_op op_add (pe_op op_mod (pe_callTy call_int1 (by rfl) T.n_int (by decide +kernel) (pa_cons (pv 3) pa_nil)) pe_int) pe_int))
      (pss_cons (ps_set (i := 5) sc_l_take.nd rfl (.inl rfl) (pe_op op_mod (pe_callTy call_int1 (by rfl) T.n_int (by decide +kernel) (pa_cons (pe_op op_mul (pe_op op_add (pe_op op_add (pv 3) (pe_ix ix_seq (pv 0) pe_int (fun _ _ => rfl))) (pe_op op_fdiv (pe_ix ix_seq (pv 0) pe_int (fun _ _ => rfl)) pe_int)) (pv 4)) pa_nil)) pe_int))
      (pss_one (ps_ret (pe_op op_mod (pe_callTy call_int1 (by rfl) T.n_int (by decide +kernel) (pa_cons (pe_op op_fdiv (pe_op op_mod (pe_callTy call_int1 (by rfl) T.n_int (by decide +kernel) (pa_cons (pe_op op_add (pe_op op_mul (pv 5) pe_int) (pv 3)) pa_nil)) pe_int) pe_int) pa_nil)) (pv 1))))))))), ?_⟩
    obtain ⟨w1, rfl, hw⟩ := dps1 hd
    rw [dp_int hw]
    obtain ⟨x, y, z, hb, z0, z1⟩ := bx
    have ln : (lim : Nat) = 1000000 := rfl
    have small : ∀ d, some d ∈ ([some (.int (n : Int)), none, none, none, none] : Dt) → tupOnly d = true := fun d hd => by
      rcases List.mem_cons.mp hd with e | e
      · rw [Option.some.inj e]; rfl
      · simp at e
    have threeI : ∀ (H1 : Hp) (x y z : Int), DpAll K H1 [.int x, .int y, .int z] [.int x, .int y, .int z] := fun H1 x y z => .cons (.int x) (.cons (.int y) (.cons (.int z) .nil))
    have s0 : Sl K (L2.start n_l_take [.ref b, .int (n : Int)]) H [some (.list [.int x, .int y, .int z]), some (.int (n : Int)), none, none, none, none] :=
      sl_start (N := n_l_take) (ds := [.list [.int x, .int y, .int z], .int (n : Int)]) (.cons (.lst (.of hb) (threeI H x y z)) (.cons (.int _) .nil))
    have low : ∀ i : Int, ∃ j : Nat, PyData.int (i % (n : Int)) = .int (j : Int) ∧ j < n := fun i => by
      have h1 := Int.emod_nonneg i (show (n : Int) ≠ 0 by omega)
      have h2 := Int.emod_lt_of_pos i (show (0 : Int) < (n : Int) by omega)
      exact ⟨(i % (n : Int)).toNat, by rw [Int.toNat_of_nonneg h1], by omega⟩
    have fin : ∀ (u : V) (i : Int) (H1 H2 : Hp) (z' : Int), ExB b H H1 → 0 ≤ z' → z' ≤ (c : Int) + 1 → (∃ x' y', H1 b = some (.lst [.int x', .int y', .int z'])) → Ex H1 H2 → Dp K H2 u (.int (i % (n : Int))) → Q u H2 := fun u i H1 H2 z' e1 a1 a2 ⟨x', y', a3⟩ e2 hu => by
      obtain ⟨j, ej, hj⟩ := low i
      refine q u _ H2 ⟨j, ej, hj⟩ (e1.trans (.of e2)) ⟨x', y', z', e2 _ _ a3, a1, by omega⟩ hu
    have hb0 : (L2.start n_l_take [.ref b, .int (n : Int)])[0]? = some (some (.ref b)) := rfl
    have putBox : ∀ (H1 : Hp) (x' y' z' : Int) (o : HO), H1 b = some (.lst [.int x', .int y', .int z']) → ExB b H1 (upd H1 b o) := fun H1 x' y' z' o h => .upd o
    refine q_when (b := decide (0 < x)) (b_test (v_gt (v_at (n := 0) rfl rfl) v_ci) _ H s0) (fun hx H1 e1 => ?_) fun hx H1 e1 => ?_
    · have s1 := s0.ex e1
      refine q_asgD (d := .int (x % (n : Int))) (v_mod (v_int1 (v_at (n := 0) rfl rfl)) (v_var rfl) (show (0 : Int) < (n : Int) by omega) _ _ s1) fun v H2 e2 hv => ?_
      have s2 := (s1.ex e2).put 2 hv
      refine q_put (ib := 0) (j := 0) (xs := [.int x, .int y, .int z]) (e := x / (n : Int)) rfl (e2 _ _ (e1 _ _ hb)) (v_fdiv (v_at (n := 0) rfl rfl) (v_var rfl) ⟨by omega, by omega⟩ _ _ s2) rfl fun H3 e3 => ?_
      have hb3 : H3 b = some (.lst [.int x, .int y, .int z]) := e3 _ _ (e2 _ _ (e1 _ _ hb))
      exact ⟨v, rfl, fin v x _ _ z ((ExB.of (e1.trans (e2.trans e3))).trans (.upd _)) z0 (by omega) ⟨_, _, upd_same⟩ (Ex.refl _) (dp_tups (.lst hb3) _ _ rfl (dp_ex e3 _ _ hv))⟩
    · have s1 := s0.ex e1
      refine q_put (ib := 0) (j := 2) (xs := [.int x, .int y, .int z]) (e := z + 1) rfl (e1 _ _ hb) (v_add (v_at (n := 2) rfl rfl) v_ci _ _ s1) rfl fun H2 e2 => ?_
      have hb2 : H2 b = some (.lst [.int x, .int y, .int z]) := e2 _ _ (e1 _ _ hb)
      have hb3 : upd H2 b (.lst [.int x, .int y, .int (z + 1)]) b = some (.lst [.int x, .int y, .int (z + 1)]) := upd_same
      have s3 : Sl K (L2.start n_l_take [.ref b, .int (n : Int)]) (upd H2 b (.lst [.int x, .int y, .int (z + 1)])) [some (.list [.int x, .int y, .int (z + 1)]), some (.int (n : Int)), none, none, none, none] :=
        sl_box (s1.ex e2) small rfl (.lst hb2) hb3 (threeI _ _ _ _)
      have e3 : ExB b H (upd H2 b (.lst [.int x, .int y, .int (z + 1)])) := (ExB.of (e1.trans e2)).trans (.upd _)
      show tSeq _ _ _ _ (upd H2 b (.lst [.int x, .int y, .int (z + 1)]))
      generalize upd H2 b (.lst [.int x, .int y, .int (z + 1)]) = H3 at hb3 s3 e3 ⊢
      have all : ∀ (i : Int) u H4, Ex H3 H4 → Dp K H4 u (.int (i % (n : Int))) → Q u H4 := fun i u H4 e4 hu => fin u i H3 H4 (z + 1) e3 (by omega) (by omega) ⟨_, _, hb3⟩ e4 hu
      refine (r_seq (n_asg (i := 3) (v_mod (v_int1 (v_mul (v_add (v_at (n := 1) rfl rfl) (v_mul v_ci (v_at (n := 2) rfl rfl) (.inl (by decide)))) (v_add v_ci (v_at (n := 2) rfl rfl)) (.inr ⟨by omega, by omega⟩))) v_ci (by decide)))
        (r_seq (n_asg (i := 4) (v_add (v_mod (v_int1 (v_var rfl)) v_ci (by decide)) v_ci))
        (r_seq (n_asg (i := 5) (v_mod (v_int1 (v_mul (v_add (v_add (v_var rfl) (v_at (n := 2) rfl rfl)) (v_fdiv (v_at (n := 1) rfl rfl) v_ci ⟨by decide, by decide⟩)) (v_var rfl) (.inr ?_))) v_ci (by decide)))
        (r_ret (v_mod (v_int1 (v_fdiv (v_mod (v_int1 (v_add (v_mul (v_var rfl) v_ci (.inr (by decide))) (v_var rfl))) v_ci (by decide)) v_ci ⟨by decide, by decide⟩)) (v_var rfl) (show (0 : Int) < (n : Int) by omega)))))) _ _ H3 s3 (all _)
      constructor <;> omega
end
end K17

end
section
set_option maxHeartbeats 4200000
/-! # a tuple times one, times more -/
namespace K17
open PySem PySem.Spec PyProof.Rows L2 Evl
theorem once_tup (l : Addr) (items : Array Value) (n : Nat) (dd : Option Addr) (sl : Array (Option Value)) (u : Tok) :
    Meets (Builtin.«tuple.__mul__» ⟨[.ref l, .int 1 u], []⟩) (fun _ R s => s.heap.get? l = some { cls := .type "tuple", dict := dd, data := .seq items n, slots := sl } ∧ R (.ok (.ret (Value.ref l))) { s with toks := s.toks }) :=
  .of_wp fun pr w A R s h => by
    obtain ⟨hp, g, d, tk, os⟩ := s; obtain ⟨hl, h⟩ := h; have f1 := AutoSeq1.idx_int
    have c1 : (items.isEmpty || (1 : Int) == 1) = true := by simp
    (wp_walk using wpAny_loadPart' hl)
    repeat (first
      | (refine wpAny_ite_false (decide_eq_false (by decide)) ?_; wp_walk using wpAny_loadPart' hl)
      | (refine wpAny_ite_true (decide_eq_true c1) ?_; wp_walk using wpAny_loadPart' hl))
    exact ⟨_, rfl, h⟩
def rRep1 (K : PySem.W.Frag) : R2 := fun x y H Q => ∃ l k xs, x = .ref l ∧ y = .int k ∧ SqT K H l xs ∧ xs ≠ [] ∧ ((k = 1 ∧ Q (.ref l) H) ∨ (2 ≤ k ∧ k ≤ 1000 ∧ xs.length ≤ 1000 ∧ ∀ p, H p = none → Q (.ref p) (upd H p (.tup (List.replicate k.toNat xs).flatten))))
section
variable {X : Cx}
theorem op_rep1 : OpR X (binaryOp .Mult) (rRep1 X.K) := by
  intro pn s σ H x y v u Q I rl rr h
  obtain ⟨l, k, xs, rfl, rfl, hT, hne, ⟨rfl, q⟩ | ⟨h1, h2, hz, q⟩⟩ := h
  · cases rl
    obtain ⟨t, rfl⟩ := rr
    obtain ⟨es1, r, ⟨⟨cls, dd, data, sl⟩, ho, hc, n, hd⟩, hs⟩ := I.tuple hT
    simp only at hc hd
    subst hc hd
    exact wpAny_binaryOp_repeat_ref (T := "tuple") (U := "int") (by decide) ⟨_, ho, rfl⟩ (fun s' => typeIs_int s' 1 t) noFill_tuple_mul F.fills_int_mul F.slot_int_rmul repeat_tuple F.slot_int_index.lookup
      (call_meets F.slot_int_rmul (typeIs_int s 1 t) F.entry_int_rmul (F.args_int_rmul_2 _ _) (int_rmul_tuple 1 t l es1.toArray n dd sl)
        ⟨ho, rfl, ⟨_, ho, rfl⟩, call_meets F.slot_tuple_mul ⟨_, ho, rfl⟩ F.entry_tuple_mul (F.args_tuple_mul_2 _ _) (once_tup l es1.toArray n dd sl t) ⟨ho, .ref l, H, I, rfl, q⟩⟩)
  · exact op_repT pn s σ H _ _ v u Q I rl rr ⟨l, k, xs, rfl, rfl, hT, hne, h1, h2, hz, q⟩
end
end K17

end
section
set_option maxHeartbeats 4200000
/-! # The defs that draw: items, slopes, places, points -/
namespace K17
open PySem PySem.Spec PyProof.Rows L2 Evl
theorem fr_lit {q : Rat} {n d : Int} (hn : q.num = n) (hd : (q.den : Int) = d) : PyData.tuple [.int n, .int d] = frD q := by rw [← hn, ← hd]; rfl
def FrB (D B : Nat) (d : PyData) : Prop := ∃ q, d = frD q ∧ Bd D B q
theorem frB_lit {D B : Nat} (q : Rat) {n d k : Int} (hn : q.num = n) (hd : (q.den : Int) = d) (hk : q * (D : Rat) = (k : Rat)) (hb : k.natAbs ≤ B * D) : FrB D B (.tuple [.int n, .int d]) := ⟨q, fr_lit hn hd, k, hk, hb⟩
theorem frB_tup {D B : Nat} {d : PyData} (h : FrB D B d) : tupOnly d = true := by
  obtain ⟨q, rfl, _⟩ := h
  exact fr_tup q
theorem frB_row {D B : Nat} : ∀ {ds : List PyData}, (∀ d ∈ ds, FrB D B d) → ∃ r : Row, ds = r.map frD ∧ r.length = ds.length ∧ RowBd D B r
  | [], _ => ⟨[], rfl, rfl, fun q hq => (nomatch hq)⟩
  | d :: ds, h => by
    obtain ⟨r, e, l, b⟩ := frB_row fun x hx => h x (List.mem_cons_of_mem _ hx)
    obtain ⟨q, rfl, hq⟩ := h d List.mem_cons_self
    refine ⟨q :: r, by rw [e]; rfl, by simp [l], fun p hp => ?_⟩
    rcases List.mem_cons.mp hp with z | z
    · rw [z]; exact hq
    · exact b p z
def RowP (p : Row → Prop) (d : PyData) : Prop := ∃ r, d = rowD r ∧ p r
theorem rowP_rows {p : Row → Prop} : ∀ {ds : List PyData}, (∀ d ∈ ds, RowP p d) → ∃ rs : List Row, ds = rs.map rowD ∧ rs.length = ds.length ∧ ∀ r ∈ rs, p r
  | [], _ => ⟨[], rfl, rfl, fun q hq => (nomatch hq)⟩
  | d :: ds, h => by
    obtain ⟨rs, e, l, b⟩ := rowP_rows fun x hx => h x (List.mem_cons_of_mem _ hx)
    obtain ⟨q, rfl, hq⟩ := h d List.mem_cons_self
    refine ⟨q :: rs, by rw [e]; rfl, by simp [l], fun p hp => ?_⟩
    rcases List.mem_cons.mp hp with z | z
    · rw [z]; exact hq
    · exact b p z
theorem rowP_tup {p : Row → Prop} {d : PyData} (h : RowP p d) : tupOnly d = true := by
  obtain ⟨r, rfl, _⟩ := h
  exact row_tup r
section
variable {P : Program} {w : World} {K : PySem.W.Frag} {mg : Str → Option Value} {base : Heap} {name : Str} {st : Stmt} {ps N : List Str} {k m : Nat}
/-- a def that draws, by its body -/
theorem Dfn.srb {R : List PyData → (PyData → Prop) → Prop} (D : Dfn K mg name st ps) (S : FnScope N ps (defScope st)) (hR : ∀ ds φ, R ds φ → ds.length + 1 = ps.length)
    (hbody : ∀ (f : Addr) (cdv : Value) (A : Around) (outer : List Env) (s : Shared) (H : Hp) (E : XK), Room k (A.deeper (envOfC name (defScope st) s.heap.objs.size f cdv)) → ∀ ds φ, R ds φ →
      ∃ t, PSs (cxOf CX0 P w K mg base N name (defScope st) f cdv A outer s H E).nox (defBody st) t ∧ SRB K 0 m t (none :: (ds.map some ++ List.replicate (N.length - (ds.length + 1)) none)) φ) : Cal P w K mg base CX0 (k + 1) name ps (SpB K m R) :=
  D.ok S (fun vs H Q E ⟨b, c, ws, ds, φ, e, _, _, h, h2, _⟩ => by
    rw [e, List.length_cons, dps_len h]
    exact hR ds φ h2) fun f cdv A outer s H vs Q E hr ⟨b, c, ws, ds, φ, e0, bx, hc, hd, h2, q⟩ => by
    obtain ⟨t, h4, h5⟩ := hbody f cdv A outer s H E hr ds φ h2
    subst e0
    refine ⟨t, h4, h5 b c _ _ H ⟨?_, rfl, bx⟩ hc fun v d H' p e bx' hd' => q v d H' p e bx' hd'⟩
    obtain ⟨x, y, z, hb, _⟩ := bx
    have s1 : Sl K (L2.start N (.ref b :: ws)) H (startD N (.list [.int x, .int y, .int z] :: ds)) := sl_start (.cons (.lst (.of hb) (.cons (.int x) (.cons (.int y) (.cons (.int z) .nil)))) hd)
    exact s1.forget 0
end
/-! ### an item of a list -/
inductive R_of : List PyData → (PyData → Prop) → Prop
  | mk (x : PyData) (xs : List PyData) : safe (.list (x :: xs)) = true → (x :: xs).length ≤ 1000 → R_of [.list (x :: xs)] (fun d => d ∈ x :: xs)
section
variable {P : Program} {w : World} {K : PySem.W.Frag} {mg : Str → Option Value} {base : Heap} {aN aL : Addr}
theorem c_l_of (T : Txt K mg aN aL) (D : Dfn K mg "_law_of" s_l_of p_l_of) (C_l_take : Cal P w K mg base CX0 1 "_law_take" p_l_take (SpB K 1 R_take)) : Cal P w K mg base CX0 2 "_law_of" p_l_of (SpB K 1 R_of) := by
  refine D.srb sc_l_of (fun ds φ h => by cases h; rfl) fun f cdv A outer s H E hr ds φ hR => ?_
  cases hR with
  | mk x xs h1 h2 =>
    refine ⟨_, (pss_one (ps_ret (pe_ix ix_seq (pv 1) (pe_cal C_l_take (hr.mono (by decide)) (pa_cons (pv 0) (pa_cons (pe_callB call_len_seq (by rfl) T.n_len PySem.boot_len (pa_cons (pv 1) pa_nil)) pa_nil))) (fun _ _ => rfl)))), ?_⟩
    have all : AllB [none, some (.list (x :: xs))] := allB_none (allB_some h1 allB_nil)
    refine rb_ret (vb_ixL (n := (x :: xs).length) rfl all (vb_callP (v_cons (v_lenL (v_var rfl)) v_nil) all (.mk _ (by simp) h2)) (Nat.le_refl _))
theorem vb_of {ib : Nat} {Δ : Dt} {te : TE} {xs : List PyData} {x : PyData} {φ : PyData → Prop} (h : EV K te Δ (.list (x :: xs))) (hs : AllB Δ) (h1 : safe (.list (x :: xs)) = true) (h2 : (x :: xs).length ≤ 1000) (hφ : ∀ d ∈ x :: xs, φ d) :
    EVB K ib 1 (tCall (SpB K 1 R_of) [] E0 (tCons (tVar ib) (tCons te tNil))) Δ φ := vb_mono (vb_callP (v_cons h v_nil) hs (.mk x xs h1 h2)) (Nat.le_refl _) hφ
theorem v_neg {Δ : Dt} {te : TE} {i : Int} (h : EV K te Δ (.int i)) : EV K (tUn (rU fun i => .int (-i)) te) Δ (.int (-i)) := v_unI (g := fun i => -i) h
theorem v_two {Δ : Dt} {ta tb : TE} {i j : Int} (ha : EV K ta Δ (.int i)) (hb : EV K tb Δ (.int j)) : EV K (tTup (tCons ta (tCons tb tNil))) Δ (.tuple [.int i, .int j]) := v_tup (v_cons ha (v_cons hb v_nil))
inductive R_slope : List PyData → (PyData → Prop) → Prop
  | mk : R_slope [] (FrB 2 2)
inductive R_small : List PyData → (PyData → Prop) → Prop
  | mk : R_small [] (FrB 2 3)
theorem frB_all {D B : Nat} {d : PyData} {ds : List PyData} (h : FrB D B d) (t : ∀ x ∈ ds, FrB D B x) : ∀ x ∈ d :: ds, FrB D B x := fun x hx => by
  rcases List.mem_cons.mp hx with z | z
  · rw [z]; exact h
  · exact t x z
theorem frB_no {D B : Nat} : ∀ x ∈ ([] : List PyData), FrB D B x := fun x hx => (nomatch hx)
theorem f0 : FrB 2 2 (.tuple [.int 0, .int 1]) := frB_lit 0 (k := 0) rfl rfl (by decide +kernel) (by decide)
theorem f1 : FrB 2 2 (.tuple [.int 1, .int 1]) := frB_lit 1 (k := 2) rfl rfl (by decide +kernel) (by decide)
theorem f1n : FrB 2 2 (.tuple [.int (-1), .int 1]) := frB_lit (-1) (k := -2) rfl rfl (by decide +kernel) (by decide)
theorem f2 : FrB 2 2 (.tuple [.int 2, .int 1]) := frB_lit 2 (k := 4) rfl rfl (by decide +kernel) (by decide)
theorem f2n : FrB 2 2 (.tuple [.int (-2), .int 1]) := frB_lit (-2) (k := -4) rfl rfl (by decide +kernel) (by decide)
theorem fh : FrB 2 2 (.tuple [.int 1, .int 2]) := frB_lit (1/2) (k := 1) (by decide +kernel) (by decide +kernel) (by decide +kernel) (by decide)
theorem f3 : FrB 2 3 (.tuple [.int 3, .int 1]) := frB_lit 3 (k := 6) rfl rfl (by decide +kernel) (by decide)
theorem FrB.up {d : PyData} (h : FrB 2 2 d) : FrB 2 3 d := by
  obtain ⟨q, e, b⟩ := h
  exact ⟨q, e, b.mono (by decide)⟩
theorem c_l_slope (T : Txt K mg aN aL) (D : Dfn K mg "_law_slope" s_l_slope p_l_slope) (C_l_of : Cal P w K mg base CX0 2 "_law_of" p_l_of (SpB K 1 R_of)) : Cal P w K mg base CX0 3 "_law_slope" p_l_slope (SpB K 1 R_slope) := by
  refine D.srb sc_l_slope (fun ds φ h => by cases h; rfl) fun f cdv A outer s H E hr ds φ hR => ?_
  cases hR with
  | mk =>
    refine ⟨_, (pss_one (ps_ret (pe_cal C_l_of (hr.mono (by decide)) (pa_cons (pv 0) (pa_cons (pe_lst (pa_cons (pe_tup (pa_cons pe_int (pa_cons pe_int pa_nil))) (pa_cons (pe_tup (pa_cons pe_int (pa_cons pe_int pa_nil))) (pa_cons (pe_tup (pa_cons (pe_un un_neg pe_int) (pa_cons pe_int pa_nil))) (pa_cons (pe_tup (pa_cons pe_int (pa_cons pe_int pa_nil))) (pa_cons (pe_tup (pa_cons pe_int (pa_cons pe_int pa_nil))) (pa_cons (pe_tup (pa_cons pe_int (pa_cons pe_int pa_nil))) (pa_cons (pe_tup (pa_cons pe_int (pa_cons pe_int pa_nil))) pa_nil)))))))) pa_nil))))), ?_⟩
    exact rb_ret (vb_of (v_lst (v_cons (v_two v_ci v_ci) (v_cons (v_two v_ci v_ci) (v_cons (v_two (v_neg v_ci) v_ci) (v_cons (v_two v_ci v_ci) (v_cons (v_two v_ci v_ci) (v_cons (v_two v_ci v_ci) (v_cons (v_two v_ci v_ci) v_nil)))))))) (allB_none allB_nil) rfl (by decide)
      (frB_all f0 (frB_all f1 (frB_all f1n (frB_all f2 (frB_all fh (frB_all f0 (frB_all f1 frB_no))))))))
theorem c_l_small (T : Txt K mg aN aL) (D : Dfn K mg "_law_small" s_l_small p_l_small) (C_l_of : Cal P w K mg base CX0 2 "_law_of" p_l_of (SpB K 1 R_of)) : Cal P w K mg base CX0 3 "_law_small" p_l_small (SpB K 1 R_small) := by
  refine D.srb sc_l_small (fun ds φ h => by cases h; rfl) fun f cdv A outer s H E hr ds φ hR => ?_
  cases hR with
  | mk =>
    refine ⟨_, (pss_one (ps_ret (pe_cal C_l_of (hr.mono (by decide)) (pa_cons (pv 0) (pa_cons (pe_lst (pa_cons (pe_tup (pa_cons pe_int (pa_cons pe_int pa_nil))) (pa_cons (pe_tup (pa_cons pe_int (pa_cons pe_int pa_nil))) (pa_cons (pe_tup (pa_cons (pe_un un_neg pe_int) (pa_cons pe_int pa_nil))) (pa_cons (pe_tup (pa_cons pe_int (pa_cons pe_int pa_nil))) (pa_cons (pe_tup (pa_cons pe_int (pa_cons pe_int pa_nil))) (pa_cons (pe_tup (pa_cons pe_int (pa_cons pe_int pa_nil))) (pa_cons (pe_tup (pa_cons (pe_un un_neg pe_int) (pa_cons pe_int pa_nil))) pa_nil)))))))) pa_nil))))), ?_⟩
    exact rb_ret (vb_of (v_lst (v_cons (v_two v_ci v_ci) (v_cons (v_two v_ci v_ci) (v_cons (v_two (v_neg v_ci) v_ci) (v_cons (v_two v_ci v_ci) (v_cons (v_two v_ci v_ci) (v_cons (v_two v_ci v_ci) (v_cons (v_two (v_neg v_ci) v_ci) v_nil)))))))) (allB_none allB_nil) rfl (by decide)
      (frB_all f0.up (frB_all f1.up (frB_all f1n.up (frB_all f2.up (frB_all fh.up (frB_all f3 (frB_all f2n.up frB_no))))))))
/-! ### places, points -/
inductive R_place : List PyData → (PyData → Prop) → Prop
  | mk (n : Nat) : 1 ≤ n → n ≤ 2 → R_place [.int (n : Int)] (RowP (PtOk n))
inductive R_points : List PyData → (PyData → Prop) → Prop
  | mk (n m : Nat) : 1 ≤ n → n ≤ 2 → 1 ≤ m → m ≤ 4 → R_points [.int (n : Int), .int (m : Int)] (fun d => ∃ ss : List Row, d = rowsD ss ∧ ss ≠ [] ∧ ss.length ≤ m ∧ ∀ r ∈ ss, PtOk n r)
theorem c_l_place (T : Txt K mg aN aL) (D : Dfn K mg "_law_place" s_l_place p_l_place) (C_l_of : Cal P w K mg base CX0 2 "_law_of" p_l_of (SpB K 1 R_of)) : Cal P w K mg base CX0 3 "_law_place" p_l_place (SpB K 2 R_place) := by
  refine D.srb sc_l_place (fun ds φ h => by cases h; rfl) fun f cdv A outer s H E hr ds φ hR => ?_
  cases hR with
  | mk n h1 h2 =>
    refine ⟨_, (pss_one (ps_ret (pe_callTy call_tuple_of (by rfl) T.n_tuple (by decide +kernel) (pa_cons (pe_lc (own := [("_law_k", 2)]) (g := (gName 2)) (tt := tYes) (by rfl) sc_l_place.nd (pi_range1 (by rfl) T.n_range (pa_cons (pv 1) pa_nil)) (blkOk_by (own := [("_law_k", 2)]) (N := n_l_place) (sc := defScope s_l_place) (by decide +kernel)) (fun _ _ _ _ _ => (pg_name (i := 2) sc_l_place.nd rfl (.inl rfl) (.inr rfl))) (fun _ _ _ _ _ => pts_nil) (fun _ _ _ _ _ => (pe_cal C_l_of (hr.mono (by decide)) (pa_cons (pv 0) (pa_cons (pe_lst (pa_cons (pe_tup (pa_cons pe_int (pa_cons pe_int pa_nil))) (pa_cons (pe_tup (pa_cons pe_int (pa_cons pe_int pa_nil))) (pa_cons (pe_tup (pa_cons pe_int (pa_cons pe_int pa_nil))) (pa_cons (pe_tup (pa_cons (pe_un un_neg pe_int) (pa_cons pe_int pa_nil))) (pa_cons (pe_tup (pa_cons pe_int (pa_cons pe_int pa_nil))) (pa_cons (pe_tup (pa_cons pe_int (pa_cons pe_int pa_nil))) pa_nil))))))) pa_nil))))) pa_nil)))), ?_⟩
    have all : AllB [none, some (.int (n : Int)), none] := allB_none (allB_some rfl (allB_none allB_nil))
    refine rb_ret (vb_mono (vb_tupleOf (vb_lcR (ib := 0) (n := n) (m := 1) (φ := FrB 2 3) all (by decide) (by decide) (by omega) (fun d => frB_tup) (v_var rfl) fun i => ?_) fun d h => ?_) (by omega) fun d h => ?_)
    · exact vb_of (v_lst (v_cons (v_two v_ci v_ci) (v_cons (v_two v_ci v_ci) (v_cons (v_two v_ci v_ci) (v_cons (v_two (v_neg v_ci) v_ci) (v_cons (v_two v_ci v_ci) (v_cons (v_two v_ci v_ci) v_nil))))))) (allB_none (allB_some rfl (allB_some rfl allB_nil))) rfl (by decide)
        (frB_all f0.up (frB_all f1.up (frB_all f2.up (frB_all f1n.up (frB_all f3 (frB_all fh.up frB_no))))))
    · obtain ⟨ds, e, _⟩ := h
      exact ⟨ds, e⟩
    · obtain ⟨es, ⟨ds, e, l, b⟩, rfl⟩ := h
      obtain rfl : es = ds := by injection e
      obtain ⟨r, e2, l2, b2⟩ := frB_row b
      exact ⟨r, by rw [e2]; rfl, by omega, b2⟩
theorem c_l_points (T : Txt K mg aN aL) (D : Dfn K mg "_law_points" s_l_points p_l_points) (C_l_place : Cal P w K mg base CX0 3 "_law_place" p_l_place (SpB K 2 R_place)) (C_l_settled : Cal P w K mg base CX0 1 "_law_settled" p_l_settled (SpSettled K)) :
    Cal P w K mg base CX0 4 "_law_points" p_l_points (SpB K 8 R_points) := by
  refine D.srb sc_l_points (fun ds φ h => by cases h; rfl) fun f cdv A outer s H E hr ds φ hR => ?_
  cases hR with
  | mk n m h1 h2 h3 h4 =>
    refine ⟨_, (pss_one (ps_ret (pe_cal C_l_settled (hr.mono (by decide)) (pa_cons (pe_lc (own := [("_law_k", 3)]) (g := (gName 3)) (tt := tYes) (by rfl) sc_l_points.nd (pi_range1 (by rfl) T.n_range (pa_cons (pv 2) pa_nil)) (blkOk_by (own := [("_law_k", 3)]) (N := n_l_points) (sc := defScope s_l_points) (by decide +kernel)) (fun _ _ _ _ _ => (pg_name (i := 3) sc_l_points.nd rfl (.inl rfl) (.inr rfl))) (fun _ _ _ _ _ => pts_nil) (fun _ _ _ _ _ => (pe_cal C_l_place (hr.mono (by decide)) (pa_cons (pv 0) (pa_cons (pv 1) pa_nil))))) pa_nil)))), ?_⟩
    have all : AllB [none, some (.int (n : Int)), some (.int (m : Int)), none] := allB_none (allB_some rfl (allB_some rfl (allB_none allB_nil)))
    refine rb_ret (vb_mono (vb_settled (C := fun rs => rs.length = m ∧ ∀ r ∈ rs, PtOk n r) (vb_mono (vb_lcR (ib := 0) (n := m) (m := 2) (φ := RowP (PtOk n)) all (by decide) (by decide) (by omega) (fun d => rowP_tup) (v_var rfl) fun i => ?_) (show m * 2 ≤ 8 by omega) fun d h => ?_) fun rs h => ?_) (Nat.le_refl _) fun d h => ?_)
    · exact vb_callP (v_cons (v_var rfl) v_nil) (allB_none (allB_some rfl (allB_some rfl (allB_some rfl allB_nil)))) (.mk n h1 h2)
    · obtain ⟨ds, e, l, b⟩ := h
      obtain ⟨rs, e2, l2, b2⟩ := rowP_rows b
      exact ⟨rs, by rw [e, e2], by omega, b2⟩
    · refine ⟨fun z => ?_, by omega, fun r hr z => ?_⟩
      · rw [z] at h
        have := h.1
        simp at this
        omega
      · have := (h.2 r hr).len
        rw [z] at this
        simp at this
        omega
    · obtain ⟨rs, ss, ⟨c1, c2⟩, e, ne, l, sub⟩ := h
      exact ⟨ss, e, ne, by omega, fun r hr => c2 r (sub r hr)⟩
end
end K17

end
section
set_option maxHeartbeats 4200000
/-! # The defs that draw: growths, values that are let -/
namespace K17
open PySem PySem.Spec PyProof.Rows L2 Evl
section
variable {K : PySem.W.Frag} {H : Hp} {Δ : Dt} {ta tb te : TE} {d : PyData} {ds : List PyData}
theorem dps_rep {xs : List V} (h : DpAll K H xs ds) : ∀ k, DpAll K H (List.replicate k xs).flatten (List.replicate k ds).flatten
  | 0 => .nil
  | k + 1 => by
    rw [List.replicate_succ, List.replicate_succ, List.flatten_cons, List.flatten_cons]; exact dps_app h (dps_rep h k)
theorem v_rep {k : Int} (ha : EV K ta Δ (.tuple ds)) (hb : EV K tb Δ (.int k)) (hn : ds ≠ []) (h1 : 1 ≤ k) (h2 : k ≤ 1000) (hz : ds.length ≤ 1000) : EV K (tOp (rRep1 K) ta tb) Δ (.tuple (List.replicate k.toNat ds).flatten) := fun σ H s H1 e1 Q q => ha σ H s H1 e1 _ fun v H2 e2 hv =>
  hb σ H s H2 (e1.trans e2) _ fun u H3 e3 hu => by
    rw [dp_int hu]
    obtain ⟨a, xs, rfl, ht, hx⟩ := dp_ref_tup (dp_ex e3 _ _ hv)
    have hl := dps_len hx
    refine ⟨a, k, xs, rfl, rfl, ht, fun z => hn (List.eq_nil_of_length_eq_zero (by rw [← hl, z]; rfl)), ?_⟩
    by_cases hk : k = 1
    · subst hk
      refine .inl ⟨rfl, q _ H3 (e2.trans e3) ?_⟩
      have e : (List.replicate (1 : Int).toNat ds).flatten = ds := by simp
      rw [e]
      exact .tup ht hx
    · refine .inr ⟨by omega, h2, by omega, fun p hp => q (.ref p) _ ((e2.trans e3).trans (Ex.new hp)) (.tup (.of upd_same) (dps_ex (Ex.new hp) _ _ (dps_rep hx _)))⟩
theorem allB_drop (i : Nat) (h : AllB Δ) : AllB (Δ.set i none) := fun d hd => by
  rcases List.mem_or_eq_of_mem_set hd with e | e
  · exact h d e
  · cases e
/-- xs = [d0]; for j in range(n): xs.append(a draw); then the rest -/
theorem rb_fill {ib m m2 n i0 l j : Nat} {d0 : PyData} {tz : TS} {φ ψ : PyData → Prop} (h0 : Δ[i0]? = some (some d0)) (hd0 : ∃ xs, d0 = .tuple xs ∧ tupOnly d0 = true) (hs : AllB Δ) (hl : l < Δ.length) (hlj : l ≠ j) (hlb : l ≠ ib) (hjb : j ≠ ib) (hz : n ≤ 40000) (ht : ∀ d, φ d → tupOnly d = true)
    (hn : EV K ta (Δ.set l none) (.int (n : Int))) (he : ∀ i : Nat, EVB K ib m te (((Δ.set l none).set j none).set j (some (.int (i : Int)))) φ)
    (hr : ∀ ds, ds.length = n → (∀ d ∈ ds, φ d) → SRB K ib m2 tz (((Δ.set l none).set j none).set l (some (.list (d0 :: ds)))) ψ) :
    SRB K ib (n * m + m2) (tSeq (tAsg (tLst (tCons (tVar i0) tNil)) (gName l)) (tSeq (tFor (iRng1 (tCons ta tNil)) (gName j) (tDrop (tBM K "list" rAppend (tVar l) (tCons te tNil)))) tz)) Δ ψ := fun b c D σ H s lm k => by
  obtain ⟨v0, hv0, hdv0⟩ := s.sl.at_ i0 d0 h0
  refine ⟨v0, hv0, sz_of (by show 1 ≤ 100000; decide), fun p hp => ?_⟩
  have e1 : Ex H (upd H p (.lst [v0])) := Ex.new hp
  have hbp : b ≠ p := fun z => by
    obtain ⟨_, _, _, q, _⟩ := s.box
    rw [z, hp] at q
    cases q
  have s1 : SlB K b c ib (σ.set l (some (.ref p))) H (Δ.set l none) := ⟨s.sl.drop l _, by rw [List.getElem?_set_ne hlb]; exact s.at_, s.box⟩
  have s0 : SlB K b c ib (σ.set l (some (.ref p))) H ((Δ.set l none).set j none) := s1.forget j
  have at_l : (σ.set l (some (.ref p)))[l]? = some (some (.ref p)) := List.getElem?_set_self (by rw [s.sl.len]; exact hl)
  have hs0 : AllB ((Δ.set l none).set j none) := allB_drop _ (allB_drop _ hs)
  refine hn _ H s1.sl _ e1 _ fun u H2 e2 hu => ?_
  rw [dp_int hu]
  refine ⟨(n : Int), rfl, by omega, by omega, ?_⟩
  rw [Int.toNat_natCast]
  have w := (walk_range (lo := 0) (n := n))
  refine for_it w (fun i σ' H' => ExB b H H' ∧ Box H' b (c + i * m) ∧ SlB K b c ib σ' H ((Δ.set l none).set j none) ∧ σ'[l]? = some (some (.ref p)) ∧ ∃ acc ds, H' p = some (.lst acc) ∧ acc.length = i + 1 ∧ ds.length = i ∧ DpAll K H' acc (d0 :: ds) ∧ ∀ d ∈ ds, φ d)
    ⟨.of (e1.trans e2), by rw [Nat.zero_mul]; exact s.box.ex (e1.trans e2), s0, at_l, [v0], [], e2 _ _ upd_same, rfl, rfl, .cons (dp_ex (e1.trans e2) _ _ hdv0) .nil, fun d hd => absurd hd List.not_mem_nil⟩ (fun _ _ _ _ _ => trivial) ?_ ?_
  · rintro i x σ' H3 H4 hi ⟨p1, p2, p3, p4, acc, ds, p5, p6, p7, p8, p9⟩ ⟨rfl, hx⟩
    have hmul : i * m + m ≤ n * m := by
      rw [← Nat.succ_mul]
      exact Nat.mul_le_mul_right m hi
    have s3 : SlB K b (c + i * m) ib σ' H4 ((Δ.set l none).set j none) := p3.go hs0 p1 p2
    have s4 := s3.put (i := j) (v := .int (i : Int)) (d := .int (i : Int)) hjb (.int _)
    have al : (σ'.set j (some (.int (i : Int))))[l]? = some (some (.ref p)) := by
      rw [List.getElem?_set_ne (Ne.symm hlj)]
      exact p4
    have ex : x = .int (i : Int) := by
      rw [hx]
      show V.int (0 + ((i : Nat) : Int)) = _
      rw [Int.zero_add]
    subst ex
    refine ⟨.ref p, al, .inl ⟨rfl, ?_⟩, ?_⟩
    · exact ⟨acc, .inl (.inl p5)⟩
    · refine he i b (c + i * m) _ H4 s4 (by omega) _ fun y dy H5 hyφ e5 bx5 hyd => ?_
      have hD5 : H5 p = some (.lst acc) := e5 _ _ (Ne.symm hbp) p5
      have z := p3.put (i := j) (v := .int (i : Int)) (d := .int (i : Int)) hjb (.int _)
      refine ⟨p, acc, y, rfl, rfl, hD5, sz_lt (by omega), fun a o na h => ?_, ?_, ?_, al, acc ++ [y], ds ++ [dy], upd_same, by simp [p6], by simp [p7], ?_, fun z hz => ?_⟩
      · have h5 := e5 a o na (p1 a o na h)
        rw [upd_ne (fun z => by rw [z, hp] at h; cases h)]
        exact h5
      · obtain ⟨u1, u2, u3, u4, u5, u6⟩ := bx5
        exact ⟨u1, u2, u3, by rw [upd_ne hbp]; exact u4, u5, by
          have : c + (i + 1) * m = c + i * m + m := by rw [Nat.succ_mul]; omega
          omega⟩
      · refine (z.forget j).weak (by simp) fun k d hk => ?_
        rw [List.set_set]
        rw [List.set_set] at *
        exact hk
      · have tu : Tups H5 (upd H5 p (.lst (acc ++ [y]))) := .lst hD5
        have all : ∀ d ∈ d0 :: ds, tupOnly d = true := fun d hd => by
          rcases List.mem_cons.mp hd with e | e
          · rw [e]; obtain ⟨_, _, q⟩ := hd0; exact q
          · exact ht d (p9 d e)
        exact dps_snoc (ds := d0 :: ds) (dps_tups tu _ _ (tupOnlys_all.mpr all) (dps_box p2 e5 (fun z hz => safe_tup (all z hz)) p8)) (dp_tups tu _ _ (ht _ hyφ) hyd)
      · rcases List.mem_append.mp hz with z1 | z1
        · exact p9 z z1
        · rw [List.mem_singleton.mp z1]; exact hyφ
  · rintro σ' H3 ⟨p1, p2, p3, p4, acc, ds, p5, p6, p7, p8, p9⟩
    have s3 : SlB K b (c + n * m) ib σ' H3 ((Δ.set l none).set j none) := p3.go hs0 p1 p2
    have s5 := s3.put (i := l) hlb (show Dp K H3 (.ref p) (.list (d0 :: ds)) from .lst (.of p5) p8)
    have eσ : σ'.set l (some (.ref p)) = σ' := by
      apply List.ext_getElem?
      intro q
      by_cases e : l = q
      · subst e
        have hlt := (List.getElem?_eq_some_iff.mp p4).1
        rw [List.getElem?_set_self hlt, p4]
      · rw [List.getElem?_set_ne e]
    rw [eσ] at s5
    exact hr ds p7 p9 b (c + n * m) D σ' H3 s5 (by omega) fun v d H4 q e4 bx4 hd4 => k v d H4 q (p1.trans e4) (bx4.mono (by omega)) hd4
end
inductive R_idle : List PyData → PyData → Prop
  | mk (n : Nat) : 1 ≤ n → n ≤ 2 → R_idle [.int (n : Int)] (rowD (List.replicate n 0))
inductive R_growth : List PyData → (PyData → Prop) → Prop
  | mk (n : Nat) : 1 ≤ n → n ≤ 2 → R_growth [.int (n : Int)] (fun d => ∃ g, d = rowsD g ∧ GOk n g)
/-- a corner -/
def CnOk (n : Nat) (r : Row) : Prop := r.length = n ∧ RowBd 2 2 r
theorem cn_g {n : Nat} {rs ss : List Row} (hn : n ≤ 2) (h1 : rs.length ≤ 3) (h2 : ∀ r ∈ rs, CnOk n r) (ne : ss ≠ []) (l : ss.length ≤ rs.length) (sub : ∀ r ∈ ss, r ∈ rs) : GOk n ss := ⟨ne, hn, fun c hc => (h2 c (sub c hc)).1, fun c hc => (h2 c (sub c hc)).2, by omega⟩
section
variable {P : Program} {w : World} {K : PySem.W.Frag} {mg : Str → Option Value} {base : Heap} {aN aL : Addr}
theorem c_l_idle (T : Txt K mg aN aL) (D : Dfn K mg "_law_idle" s_l_idle p_l_idle) : Cal P w K mg base CX0 1 "_law_idle" p_l_idle (SpD K R_idle) := by
  refine D.sr sc_l_idle (fun _ _ h => by cases h; rfl) fun f cdv A outer s H E hr ds d hR => ?_
  cases hR with
  | mk n h1 h2 =>
    refine ⟨_, (pss_one (ps_ret (pe_op op_rep1 (pe_tup (pa_cons (pe_tup (pa_cons pe_int (pa_cons pe_int pa_nil))) pa_nil)) (pv 0)))), ?_⟩
    refine r_ret (v_is (v_rep (ds := [.tuple [.int 0, .int 1]]) (v_tup (v_cons (v_two v_ci v_ci) v_nil)) (v_var rfl) (by simp) (by omega) (by omega) (by decide)) ?_)
    rw [Int.toNat_natCast]
    obtain rfl | rfl : n = 1 ∨ n = 2 := by omega
    · rfl
    · rfl
theorem settle_g {n ib m : Nat} {Δ : Dt} {te : TE} {rs : List Row} (h : EV K te Δ (.list (rs.map rowD))) (h1 : 1 ≤ n) (h2 : n ≤ 2) (hr : rs ≠ []) (hl : rs.length ≤ 3) (hc : ∀ r ∈ rs, CnOk n r) :
    EVB K ib m (tCall (SpSettled K) [] E0 (tCons te tNil)) Δ (fun d => ∃ g, d = rowsD g ∧ GOk n g) :=
  vb_mono (vb_settled (C := (· = rs)) (vb_mono (vb_pure h) (Nat.le_refl _) fun d e => ⟨rs, e.symm ▸ rfl, rfl⟩) fun rs' e => by
    subst e
    exact ⟨hr, by omega, fun r hm z => by
      have := (hc r hm).1
      rw [z] at this
      simp at this
      omega⟩) (Nat.zero_le _) fun d ⟨rs', ss, e, ed, ne, l, sub⟩ => by
    subst e
    exact ⟨ss, ed, cn_g h2 hl hc ne l sub⟩
theorem many_cn {n : Nat} {r : Row} (h : CnOk n r) : CnOk n (r.map fun q => q * (-1)) := ⟨by rw [List.length_map]; exact h.1, bd_less h.2⟩
theorem c_l_growth (T : Txt K mg aN aL) (D : Dfn K mg "_law_growth" s_l_growth p_l_growth) (C_l_take : Cal P w K mg base CX0 1 "_law_take" p_l_take (SpB K 1 R_take)) (C_l_slope : Cal P w K mg base CX0 3 "_law_slope" p_l_slope (SpB K 1 R_slope))
    (C_l_settled : Cal P w K mg base CX0 1 "_law_settled" p_l_settled (SpSettled K)) (C_l_idle : Cal P w K mg base CX0 1 "_law_idle" p_l_idle (SpD K R_idle)) (C_l_many : Cal P w K mg base CX0 4 "_law_many" p_l_many (SpD K R_times)) :
    Cal P w K mg base CX0 5 "_law_growth" p_l_growth (SpB K 8 R_growth) := by
  refine D.srb sc_l_growth (fun ds φ h => by cases h; rfl) fun f cdv A outer s H E hr ds φ hR => ?_
  cases hR with
  | mk n h1 h2 =>
    refine ⟨_, (pss_cons (ps_par (i := 2) (j := 3) rfl sc_l_growth.nd rfl rfl (by decide) rfl rfl (pa_cons (pe_cal C_l_take (hr.mono (by decide)) (pa_cons (pv 0) (pa_cons pe_int pa_nil))) (pa_cons (pe_callTy call_tuple_of (by rfl) T.n_tuple (by decide +kernel) (pa_cons (pe_lc (own := [("_law_k", 6)]) (g := (gName 6)) (tt := tYes) (by rfl) sc_l_growth.nd (pi_range1 (by rfl) T.n_range (pa_cons (pv 1) pa_nil)) (blkOk_by (own := [("_law_k", 6)]) (N := n_l_growth) (sc := defScope s_l_growth) (by decide +kernel)) (fun _ _ _ _ _ => (pg_name (i := 6) sc_l_growth.nd rfl (.inl rfl) (.inr rfl))) (fun _ _ _ _ _ => pts_nil) (fun _ _ _ _ _ => (pe_cal C_l_slope (hr.mono (by decide)) (pa_cons (pv 0) pa_nil)))) pa_nil)) pa_nil)) (by rfl))
      (pss_cons (ps_if (pt_cmpR op_eq (pv 2) pe_int (nomark _)) (pss_one (ps_ret (pe_tup (pa_cons (pv 3) pa_nil)))) pss_nil)
      (pss_cons (ps_if (pt_cmpR op_eq (pv 2) pe_int (nomark _)) (pss_one (ps_ret (pe_cal C_l_settled (hr.mono (by decide)) (pa_cons (pe_lst (pa_cons (pe_cal C_l_idle (hr.mono (by decide)) (pa_cons (pv 1) pa_nil)) (pa_cons (pv 3) pa_nil))) pa_nil)))) pss_nil)
      (pss_cons (ps_if (pt_cmpR op_eq (pv 2) pe_int (nomark _)) (pss_one (ps_ret (pe_cal C_l_settled (hr.mono (by decide)) (pa_cons (pe_lst (pa_cons (pv 3) (pa_cons (pe_cal C_l_many (hr.mono (by decide)) (pa_cons (pv 3) (pa_cons (pe_tup (pa_cons (pe_un un_neg pe_int) (pa_cons pe_int pa_nil))) pa_nil))) pa_nil))) pa_nil)))) pss_nil)
      (pss_cons (ps_set (i := 4) sc_l_growth.nd rfl (.inl rfl) (pe_lst (pa_cons (pv 3) pa_nil)))
      (pss_cons (ps_for PassesOwn.never rfl (pi_range1 (by rfl) T.n_range (pa_cons (pe_op op_sub (pv 2) pe_int) pa_nil)) (pg_name (i := 5) sc_l_growth.nd rfl (.inl rfl)) (pss_one (ps_expr (pe_bm PySem.F.plainAttrs_list PySem.F.slot_list_append PySem.F.type_list_append mt_append (pv 4) (pa_cons (pe_callTy call_tuple_of (by rfl) T.n_tuple (by decide +kernel) (pa_cons (pe_lc (own := [("_law_k", 6)]) (g := (gName 6)) (tt := tYes) (by rfl) sc_l_growth.nd (pi_range1 (by rfl) T.n_range (pa_cons (pv 1) pa_nil)) (blkOk_by (own := [("_law_k", 6)]) (N := n_l_growth) (sc := defScope s_l_growth) (by decide +kernel)) (fun _ _ _ _ _ => (pg_name (i := 6) sc_l_growth.nd rfl (.inl rfl) (.inr rfl))) (fun _ _ _ _ _ => pts_nil) (fun _ _ _ _ _ => (pe_cal C_l_slope (hr.mono (by decide)) (pa_cons (pv 0) pa_nil)))) pa_nil)) pa_nil)))))
      (pss_one (ps_ret (pe_cal C_l_settled (hr.mono (by decide)) (pa_cons (pv 4) pa_nil)))))))))), ?_⟩
    have all : AllB [none, some (.int (n : Int)), none, none, none, none, none] := allB_none (allB_some rfl (allB_none (allB_none (allB_none (allB_none (allB_none allB_nil))))))
    have slopes : ∀ (Δ : Dt), AllB Δ → Δ[1]? = some (some (.int (n : Int))) → EVB K 0 (n * 1) (tCB (rTupS K) (tCons (tLc (iRng1 (tCons (tVar 1) tNil)) (gName 6) tYes (tCall (SpB K 1 R_slope) [] E0 (tCons (tVar 0) tNil)) [6]) tNil)) Δ (RowP (CnOk n)) := fun Δ hΔ hv => by
      refine vb_mono (vb_tupleOf (vb_lcR (ib := 0) (n := n) (m := 1) (φ := FrB 2 2) hΔ (by decide) (by decide) (by omega) (fun d => frB_tup) (v_var hv) fun i => ?_) fun d ⟨ds, e, _⟩ => ⟨ds, e⟩) (Nat.le_refl _) fun d h => ?_
      · exact vb_callP v_nil ((hΔ.wipe [6]).set fun d e => by rw [← Option.some.inj e]; rfl) .mk
      · obtain ⟨es, ⟨ds, e, l, b⟩, rfl⟩ := h
        obtain rfl : es = ds := by injection e
        obtain ⟨r, e2, l2, b2⟩ := frB_row b
        exact ⟨r, by rw [e2]; rfl, by omega, b2⟩
    refine rb_mono (rb_par (m1 := 3) (m2 := 4) (φ1 := fun d => ∃ j : Nat, d = .int (j : Int) ∧ j < 5) (φ2 := RowP (CnOk n)) ?_ all (by decide) (by decide) fun d e hd he => ?_) (show 3 + 4 ≤ 8 by decide) (fun d h => h)
    · have a2 := ab_cons (ib := 0) (slopes _ all rfl) (ab_pure (ib := 0) v_nil) all fun d => fun h => safe_tup (rowP_tup h)
      have a1 := ab_cons (ib := 0) (vb_callP (m := 1) (v_cons v_ci v_nil) all (R_take.mk 5 (by decide) (by decide))) a2 all fun d ⟨j, e, _⟩ => by rw [e]; rfl
      refine fun b c σ H s l Q k => a1 b c σ H s (by omega) Q fun vs ds H' ⟨d, es, e1, p1, e, es2, e2, p2, e3⟩ ex bx hd => k vs ds H' ⟨d, e, by rw [e1, e2, e3], p1, p2⟩ ex (bx.mono (by omega)) hd
    · obtain ⟨j, rfl, hj⟩ := hd
      obtain ⟨r, rfl, hr⟩ := he
      have all2 : AllB [none, some (.int (n : Int)), some (.int (j : Int)), some (rowD r), none, none, none] := allB_none (allB_some rfl (allB_some rfl (allB_some (safe_tup (row_tup r)) (allB_none (allB_none (allB_none allB_nil))))))
      have sm : ∀ q ∈ r, Sm q := fun q hq => (hr.2 q hq).sm'
      refine rb_when (a := decide ((j : Int) = 0)) (b_test (v_eqI (v_var rfl) v_ci)) (fun _ => rb_ret (vb_mono (vb_pure (v_tup (v_cons (v_var rfl) v_nil))) (Nat.zero_le _) fun d e => ?_)) fun z0 => ?_
      · exact ⟨[r], e.symm ▸ rfl, ⟨by simp, h2, fun c hc => by rw [List.mem_singleton.mp hc]; exact hr.1, fun c hc => by rw [List.mem_singleton.mp hc]; exact hr.2, by simp⟩⟩
      refine rb_when (a := decide ((j : Int) = 1)) (b_test (v_eqI (v_var rfl) v_ci)) (fun _ => rb_ret (settle_g (rs := [List.replicate n 0, r]) (v_lst (v_cons (v_call (v_cons (v_var rfl) v_nil) (.mk n h1 h2)) (v_cons (v_var rfl) v_nil))) h1 h2 (by simp) (by simp) fun x hx => ?_)) fun z1 => ?_
      · rcases List.mem_cons.mp hx with e | e
        · rw [e]
          exact ⟨List.length_replicate, fun q hq => by rw [List.eq_of_mem_replicate hq]; exact Bd.zero _ _⟩
        · rw [List.mem_singleton.mp e]; exact hr
      refine rb_when (a := decide ((j : Int) = 2)) (b_test (v_eqI (v_var rfl) v_ci)) (fun _ => rb_ret (settle_g (rs := [r, r.map fun q => q * (-1)]) (v_lst (v_cons (v_var rfl) (v_cons (v_call (v_cons (v_var rfl) (v_cons (v_is (v_two (v_neg v_ci) v_ci) (show _ = frD (-1) from rfl)) v_nil)) (.mk r (-1) sm (by unfold Sm; decide +kernel) (by have := hr.1; omega))) v_nil))) h1 h2 (by simp) (by simp) fun x hx => ?_)) fun z2 => ?_
      · rcases List.mem_cons.mp hx with e | e
        · rw [e]; exact hr
        · rw [List.mem_singleton.mp e]; exact many_cn hr
      have j0 : j ≠ 0 := fun z => by rw [z] at z0; exact absurd z0 (by decide)
      have j1 : j ≠ 1 := fun z => by rw [z] at z1; exact absurd z1 (by decide)
      have j2 : j ≠ 2 := fun z => by rw [z] at z2; exact absurd z2 (by decide)
      have hsub : ((j - 2 : Nat) : Int) = (j : Int) - 2 := by omega
      refine rb_mono (rb_fill (n := j - 2) (m := n * 1) (m2 := 0) (i0 := 3) (l := 4) (j := 5) (φ := RowP (CnOk n)) (d0 := rowD r) rfl ⟨_, rfl, row_tup r⟩ all2 (by show 4 < 7; decide) (by decide) (by decide) (by decide) (by omega) (fun d => rowP_tup) (v_is (v_opI (g := fun i j => i - j) (v_var rfl) v_ci) (by rw [hsub])) (fun i => ?_) fun ds hl hds => ?_) (show (j - 2) * (n * 1) + 0 ≤ 4 from ?_) (fun d h => h)
      · exact slopes _ (allB_none (allB_some rfl (allB_some rfl (allB_some (safe_tup (row_tup r)) (allB_none (allB_some rfl (allB_none allB_nil))))))) rfl
      · obtain ⟨rs, e2, l2, b2⟩ := rowP_rows hds
        subst e2
        refine rb_ret (settle_g (rs := r :: rs) (v_var rfl) h1 h2 (by simp) (by simp; omega) fun x hx => ?_)
        rcases List.mem_cons.mp hx with e | e
        · rw [e]; exact hr
        · exact b2 x e
      · have a1 : (j - 2) * (n * 1) ≤ 2 * (2 * 1) := Nat.mul_le_mul (by omega) (by omega)
        omega
end
end K17

end
section
set_option maxHeartbeats 4200000
/-! # zip of a tuple and a list, walked -/
namespace K17
open PySem PySem.Spec PyProof.Rows L2 Evl RZ
abbrev zMH1 (h : Heap) (l1 : Addr) : Heap := h.push { cls := .type "tuple_iterator", data := .fields #[.ref l1, .int 0 0] }
abbrev zMH2 (h : Heap) (l1 l2 : Addr) : Heap := (zMH1 h l1).push { cls := .type "list_iterator", data := .fields #[.ref l2, .int 0 0] }
abbrev zMH3 (h : Heap) (l1 l2 : Addr) : Heap := (zMH2 h l1 l2).push { cls := .type "tuple", data := .seq #[.ref h.objs.size, .ref (zMH1 h l1).objs.size] }
abbrev zMH4 (h : Heap) (l1 l2 : Addr) : Heap := (zMH3 h l1 l2).push { cls := .type "tuple", data := .seq #[.none, .none] }
abbrev zMH5 (h : Heap) (l1 l2 : Addr) : Heap := (zMH4 h l1 l2).push { cls := .type "zip", data := .fields #[.none, .bool false, .bool false, .ref (zMH2 h l1 l2).objs.size, .ref (zMH3 h l1 l2).objs.size] }
theorem meets_zipM (l1 l2 : Addr) (xs ys : Array Value) :
    Meets (Builtin.«zip.__new__» ⟨[.type "zip", .ref l1, .ref l2], []⟩) (fun _ R s => s.heap.IsTuple l1 xs ∧ s.heap.IsList l2 ys ∧
      R (.ok (.ret (.ref (zMH4 s.heap l1 l2).objs.size))) { s with heap := zMH5 s.heap l1 l2 }) :=
  .of_wp fun pr w A R s h => by
    obtain ⟨hp, g, d, tk, os⟩ := s; obtain ⟨hl1, hl2, h⟩ := h; have hsub := sub_zip
    have hL1 : Heap.IsTuple (Shared.heap ⟨hp, g, d, tk, os⟩) l1 xs := hl1; have hL2 : Heap.IsList (Shared.heap ⟨hp.push { cls := .type "tuple_iterator", data := .fields #[.ref l1, .int 0 0] }, g, d, tk, os⟩) l2 ys := hl2.push _
    wp_walk using wpAny_pyIter_tuple hL1, wpAny_pyIter_list hL2
    exact ⟨_, rfl, h⟩
section
variable {s : Shared} {prog : Program} {w : World} {A : Around} {E : Value → Shared → Prop}
theorem call_zipM {l1 l2 : Addr} {xs ys : Array Value} {Q : Value → Shared → Prop} (hl1 : s.heap.IsTuple l1 xs) (hl2 : s.heap.IsList l2 ys)
    (go : ∀ g, IsZip g (s.heap.objs.size + 4) (s.heap.objs.size + 2) (s.heap.objs.size + 3) .none → IsTupOf2 g (s.heap.objs.size + 2) (.ref s.heap.objs.size) (.ref (s.heap.objs.size + 1)) →
      IsTupOf2 g (s.heap.objs.size + 3) .none .none → g.IsTupleIter s.heap.objs.size l1 0 → g.IsListIter (s.heap.objs.size + 1) l2 0 → g.objs.size = s.heap.objs.size + 5 →
      (∀ b o, s.heap.get? b = some o → g.get? b = some o) → Q (.ref (s.heap.objs.size + 4)) { s with heap := g }) : wpAny (model prog w) A (call (.type "zip") [.ref l1, .ref l2]) Q E s := by
  refine callType_new (F.called_zip) (by decide) (F.typeCall_zip_2 _ _) (F.newCall_zip_2 _ _) (fun o => F.args_object_init_3 o _ _)
    F.entry_zip_new (meets_zipM l1 l2 xs ys) ⟨hl1, hl2, ?_⟩
  have z1 : (zMH1 s.heap l1).objs.size = s.heap.objs.size + 1 := Heap.size_push ..
  have z2 : (zMH2 s.heap l1 l2).objs.size = s.heap.objs.size + 2 := by rw [Heap.size_push, z1]
  have z3 : (zMH3 s.heap l1 l2).objs.size = s.heap.objs.size + 3 := by rw [Heap.size_push, z2]
  have z4 : (zMH4 s.heap l1 l2).objs.size = s.heap.objs.size + 4 := by rw [Heap.size_push, z3]
  have z5 : (zMH5 s.heap l1 l2).objs.size = s.heap.objs.size + 5 := by rw [Heap.size_push, z4]
  have g5 : (zMH5 s.heap l1 l2).get? (zMH4 s.heap l1 l2).objs.size = some _ := Heap.get?_push_size _ rfl
  have g4 : (zMH5 s.heap l1 l2).get? (zMH3 s.heap l1 l2).objs.size = some _ := Heap.get?_push_of_some _ (Heap.get?_push_size _ rfl)
  have g3 : (zMH5 s.heap l1 l2).get? (zMH2 s.heap l1 l2).objs.size = some _ := Heap.get?_push_of_some _ (Heap.get?_push_of_some _ (Heap.get?_push_size _ rfl))
  have g2 : (zMH5 s.heap l1 l2).get? (zMH1 s.heap l1).objs.size = some _ := Heap.get?_push_of_some _ (Heap.get?_push_of_some _ (Heap.get?_push_of_some _ (Heap.get?_push_size _ rfl)))
  have g1 : (zMH5 s.heap l1 l2).get? s.heap.objs.size = some _ := Heap.get?_push_of_some _ (Heap.get?_push_of_some _ (Heap.get?_push_of_some _ (Heap.get?_push_of_some _ (Heap.get?_push_size _ rfl))))
  show _ ∧ _
  rw [z2, z3, z4] at g5
  rw [z1, z2] at g3
  rw [z3] at g4
  rw [z1] at g2
  rw [z4]
  refine ⟨⟨_, g5, rfl⟩, go _ g5 g3 g4 ⟨_, g1, rfl, rfl⟩ ⟨_, g2, rfl, rfl⟩ z5 fun b o x => ?_⟩
  repeat refine Heap.get?_push_of_some _ ?_
  exact x
end
/-- the tuple at a and the list at b as they stand at each turn, the items in nw pairs -/
def ItzM (K : PySem.W.Frag) (a b : Addr) : It :=
  ⟨fun i H => ∃ (xs ys : List V) (x y : V), SqT K H a xs ∧ SqL K H b ys ∧ xs[i]? = some x ∧ ys[i]? = some y,
    fun i H v H' => ∃ T x y, v = .ref T ∧ H T = none ∧ H' = upd H T (.tup [x, y]) ∧ (∀ xs, SqT K H a xs → xs[i]? = some x) ∧ ∀ ys, SqL K H b ys → ys[i]? = some y,
    fun i H => ∃ xs ys : List V, SqT K H a xs ∧ SqL K H b ys ∧ i ≤ xs.length ∧ i ≤ ys.length ∧ (i = xs.length ∨ i = ys.length)⟩
structure ApM (z TI TO i1 i2 a b : Addr) : Prop where
  ne : (z ≠ TI ∧ z ≠ TO ∧ z ≠ i1 ∧ z ≠ i2 ∧ z ≠ a ∧ z ≠ b) ∧ (TI ≠ TO ∧ TI ≠ i1 ∧ TI ≠ i2) ∧ (TO ≠ i1 ∧ TO ≠ i2 ∧ TO ≠ a ∧ TO ≠ b) ∧ (i1 ≠ i2 ∧ i1 ≠ a ∧ i1 ≠ b) ∧ (i2 ≠ a ∧ i2 ≠ b)
theorem ApM.sep {z TI TO i1 i2 a b : Addr} (D : ApM z TI TO i1 i2 a b) : ZipSep2 z TI TO i1 i2 [i1, a] [i2, b] := by
  obtain ⟨⟨a1, a2, a3, a4, a5, a6⟩, ⟨b1, b2, b3⟩, ⟨c1, c2, c3, c4⟩, ⟨d1, d2, d3⟩, e1, e2⟩ := D.ne
  exact { TIz := Ne.symm a1, TOz := Ne.symm a2, TITO := b1, TIi1 := b2, mem1 := by simp, zf1 := by simp [a3, a5], Tf1 := by simp [c1, c3], TIi2 := b3, mem2 := by simp, zf2 := by simp [a4, a6], Tf2 := by simp [c2, c4], sep1_2 := by simp [d1, d3], sep2_1 := by simp [Ne.symm d1, e1] }
theorem turn_zipM {P : Program} {w : World} {K : PySem.W.Frag} {elts : List Expr} {kk : Nat} {tpos : Pos} {a b z TI TO i1 i2 : Addr} (D : ApM z TI TO i1 i2 a b) :
    Turn P w K (.Tuple elts kk tpos) (ItzM K a b) [z, TI, TO, i1, i2] z (fun i h => IsZip h z TI TO .none ∧ IsTupOf2 h TI (.ref i1) (.ref i2) ∧ (∃ x y, IsTupOf2 h TO x y) ∧ h.IsTupleIter i1 a i ∧ h.IsListIter i2 b i) where
  mem := by simp
  obj := fun i h st c hc => by
    obtain ⟨gz, gTI, ⟨x, y, gTO⟩, ⟨o1, e1, _, d1⟩, ⟨o2, e2, _, d2⟩⟩ := st
    (have e' : c = z ∨ c = TI ∨ c = TO ∨ c = i1 ∨ c = i2 := by simpa using hc); rcases e' with q | q | q | q | q
    · rw [q]; exact ⟨_, gz, fun v q => nomatch q⟩
    · rw [q]; exact ⟨_, gTI, fun v q => nomatch q⟩
    · rw [q]; exact ⟨_, gTO, fun v q => nomatch q⟩
    · rw [q]; exact ⟨o1, e1, fun v r => by rw [d1] at r; cases r⟩
    · rw [q]; exact ⟨o2, e2, fun v r => by rw [d2] at r; cases r⟩
  keep := fun i h h' st k => by
    obtain ⟨gz, gTI, ⟨x, y, gTO⟩, h1, h2⟩ := st
    exact ⟨k z (by simp) _ gz, k TI (by simp) _ gTI, ⟨x, y, k TO (by simp) _ gTO⟩, h1.at fun o q => k i1 (by simp) o q, h2.at fun o q => k i2 (by simp) o q⟩
  item := by
    intro X hP hw hK hc i pn s σ H E I hf st hg
    subst hP hw hK
    obtain ⟨gz, gTI, ⟨x0, y0, gTO⟩, h1, h2⟩ := st
    obtain ⟨xs, ys, x, y, qx, qy, hx, hy⟩ := hg
    obtain ⟨es1, ra, p, _⟩ := I.tuple qx
    obtain ⟨es2, rb, p2, _⟩ := I.list qy
    obtain ⟨u, hu, ru⟩ := ra.get hx
    obtain ⟨u2, hu2, ru2⟩ := rb.get hy
    have zlt : z < s.heap.objs.size := Heap.lt_size gz
    obtain ⟨⟨a1, a2, a3, a4, a5, a6⟩, ⟨b1, b2, b3⟩, ⟨c1, c2, c3, c4⟩, ⟨d1, d2, d3⟩, e1, e2⟩ := D.ne
    have hh : X.A.in1.handled = none := by show X.A.handled = none; exact I.ok.hd hc
    have lt1 : i < es1.toArray.size := by
      have := (List.getElem?_eq_some_iff.mp hu).1
      simpa using this
    have lt2 : i < es2.toArray.size := by
      have := (List.getElem?_eq_some_iff.mp hu2).1
      simpa using this
    refine wpAny_pyNext_zipD2_item D.sep (Draws.tuple hh i1 a (Ne.symm d2) es1.toArray) (Draws.list hh i2 b (Ne.symm e2) es2.toArray) gz gTI gTO ⟨h1, show s.heap.IsTuple a es1.toArray from p⟩ ⟨h2, p2.isList⟩ lt1 lt2 fun w1 w2 h' tk hw1 hw2 z' TO' st1' st2' hT sz5 kp => ?_
    have ew1 : w1 = u := by
      have q : es1.toArray[i]? = some u := by simpa using hu
      exact Option.some.inj (hw1.symm.trans q)
    have ew2 : w2 = u2 := by
      have q : es2.toArray[i]? = some u2 := by simpa using hu2
      exact Option.some.inj (hw2.symm.trans q)
    subst ew1 ew2
    refine ⟨_, rfl, wpAny_letOwnedTupleGo_zip (s := { s with heap := h', toks := tk }) z' fun h'' z'' sb => ?_⟩
    have hT2 : h''.get? s.heap.objs.size = some { cls := .type "tuple", data := .seq #[w1, w2] } := (sb.2 _ (Nat.ne_of_gt zlt)).trans hT
    have nw : ObjOk X.prog X.w (upd H s.heap.objs.size (.tup [x, y])) h'' s.heap.objs.size (.tup [x, y]) :=
      ⟨by show 2 ≤ sizeLine; decide, [w1, w2], .cons ru (.cons ru2 .nil), ⟨_, hT2, rfl, _, rfl⟩⟩
    have J1 : Inv X pn σ (upd H s.heap.objs.size (.tup [x, y])) { s with heap := h'', toks := tk } :=
      I.turnedNew (t' := tk) (ch := [z, TI, TO, i1, i2]) (fun c o hb q => (sb.2 c (fun q' => hb (by simp [q']))).trans (kp c o (fun q' => hb (by simp [q'])) (fun q' => hb (by simp [q'])) (fun q' => hb (by simp [q'])) (fun q' => hb (by simp [q'])) q)) hf (Nat.le_refl _) nw
    refine ⟨.ref s.heap.objs.size, _, J1, rfl, ⟨_, x, y, rfl, I.hok.fresh (Nat.le_refl _), rfl, fun l hl => by rw [I.tuple_inj hl qx]; exact hx, fun l hl => by rw [I.list_inj hl qy]; exact hy⟩, ⟨z'', ?_, ⟨w1, w2, ?_⟩, ?_, ?_⟩, fun c hcm => ?_⟩
    · exact (sb.2 _ (Ne.symm a1)).trans (kp _ _ (Ne.symm a1) b1 b2 b3 gTI)
    · exact (sb.2 _ (Ne.symm a2)).trans TO'
    · exact st1'.1.at fun o q => (sb.2 _ (Ne.symm a3)).trans q
    · exact st2'.1.at fun o q => (sb.2 _ (Ne.symm a4)).trans q
    · have clt : c < s.heap.objs.size := by
        (have e' : c = z ∨ c = TI ∨ c = TO ∨ c = i1 ∨ c = i2 := by simpa using hcm); rcases e' with q | q | q | q | q
        · rw [q]; exact zlt
        · rw [q]; exact Heap.lt_size gTI
        · rw [q]; exact Heap.lt_size gTO
        · obtain ⟨_, f1, _⟩ := h1; rw [q]; exact Heap.lt_size f1
        · obtain ⟨_, f2, _⟩ := h2; rw [q]; exact Heap.lt_size f2
      rw [upd_ne (Nat.ne_of_lt clt)]
      exact (hf c hcm).1
  done := by
    intro X hP hw hK hc i pn s σ H E I hf st hg
    subst hP hw hK
    obtain ⟨gz, gTI, ⟨x0, y0, gTO⟩, h1, h2⟩ := st
    obtain ⟨xs, ys, qx, qy, le1, le2, hend⟩ := hg
    obtain ⟨es1, ra, p, _⟩ := I.tuple qx
    obtain ⟨es2, rb, p2, _⟩ := I.list qy
    have l1 := ra.length
    have l2 := rb.length
    obtain ⟨⟨a1, a2, a3, a4, a5, a6⟩, ⟨b1, b2, b3⟩, ⟨c1, c2, c3, c4⟩, ⟨d1, d2, d3⟩, e1, e2⟩ := D.ne
    have hh : X.A.in1.handled = none := by show X.A.handled = none; exact I.ok.hd hc
    refine wpAny_pyNext_zipD2_end D.sep (Draws.tuple hh i1 a (Ne.symm d2) es1.toArray) (Draws.list hh i2 b (Ne.symm e2) es2.toArray) gz gTI gTO ⟨h1, show s.heap.IsTuple a es1.toArray from p⟩ ⟨h2, p2.isList⟩ (by rw [List.size_toArray]; omega) (by rw [List.size_toArray]; omega) (by rw [List.size_toArray, List.size_toArray]; omega) fun h' tk kp => ⟨rfl, I.turnedL (t' := tk) (ch := [z, TI, TO, i1, i2]) (fun c o hb q =>
      kp c o (fun q' => hb (by simp [q'])) (fun q' => hb (by simp [q'])) (fun q' => hb (by simp [q'])) (fun q' => hb (by simp [q'])) q) hf⟩
  self := fun _ _ _ _ _ st h => wpAny_pyIter_zip st.1 h
def iZipM (K : PySem.W.Frag) (ta : TA) : TI := fun σ H R => ta σ H fun vs H1 => ∃ a b xs ys, vs = [.ref a, .ref b] ∧ SqT K H1 a xs ∧ SqL K H1 b ys ∧ R (ItzM K a b) H1
theorem pi_zipM {X : Cx} {e e2 : Expr} {ta : TA} {p pos tpos : Pos} {elts : List Expr} {kk : Nat} (hg : Gl X "zip") (hm : X.mg "zip" = none) (ha : PA X [e, e2] ta)
    (hs : starEach [e, e2] X.env = (false, eval e X.env) :: starEach [e2] X.env := by rfl)
    (hpl : (backTo pos (starEach [e2] X.env)).any (·.1) = false := by rfl) :
    PI X (.Tuple elts kk tpos) (.Call (.Name "zip" p) [e, e2] [] pos) (iZipM X.K ta) := by
  refine ⟨fun pn s σ H R I h => ?_⟩
  refine Call_ (ld_blt I hg hm PyProof.Rows.boot_zip (PyProof.Rows.callWith_type1 (thn (ha.run pos pn s σ H _ I h) fun us s1 ⟨vs, H1, J1, r1, q1⟩ => ?_) hs hpl))
  obtain ⟨a, b, xs, ys, ex, qx, qy, q⟩ := q1
  subst ex
  cases r1 with
  | cons r rr =>
    cases rr with
    | cons r' rr =>
      cases rr
      cases r
      cases r'
      have fr5 : ∀ c, c ∈ [s1.heap.objs.size + 4, s1.heap.objs.size + 2, s1.heap.objs.size + 3, s1.heap.objs.size, s1.heap.objs.size + 1] → FpOk X pn H1 c := fun c hcm => by
        (have e' : c = s1.heap.objs.size + 4 ∨ c = s1.heap.objs.size + 2 ∨ c = s1.heap.objs.size + 3 ∨ c = s1.heap.objs.size ∨ c = s1.heap.objs.size + 1 := by simpa using hcm); have cle : s1.heap.objs.size ≤ c := by
          rcases e' with z | z | z | z | z <;> (rw [z]; first | exact Nat.le_add_right _ _ | exact Nat.le_refl _)
        exact J1.fpOk cle (J1.hok.fresh cle)
      obtain ⟨es1, ra, p1, _⟩ := J1.tuple qx
      obtain ⟨es2, rb, p2, _⟩ := J1.list qy
      obtain ⟨o1, ho1, _⟩ := id p1
      have la : a < s1.heap.objs.size := Heap.lt_size ho1
      have lb : b < s1.heap.objs.size := p2.lt; refine call_zipM (show s1.heap.IsTuple a es1.toArray from p1) p2.isList fun h' gz gTI gTO h1 h2 sz5 kp => wpAny_pyIter_zip gz ?_
      have J2 : Inv X pn σ H1 { s1 with heap := h' } := J1.kept (t' := s1.toks) kp
      have ap : ∀ n : Nat, a < n → b < n → ApM (n + 4) (n + 2) (n + 3) n (n + 1) a b := fun n h1 h2 => by constructor; refine ⟨⟨?_, ?_, ?_, ?_, ?_, ?_⟩, ⟨?_, ?_, ?_⟩, ⟨?_, ?_, ?_, ?_⟩, ⟨?_, ?_, ?_⟩, ?_, ?_⟩ <;> (intro z; have z' : (_ : Nat) = _ := z; simp only [Addr] at *; omega)
      exact ⟨s1.heap.objs.size + 4, [s1.heap.objs.size + 4, s1.heap.objs.size + 2, s1.heap.objs.size + 3, s1.heap.objs.size, s1.heap.objs.size + 1], _, _, H1, rfl, J2, turn_zipM (ap _ la lb), ⟨gz, gTI, ⟨_, _, gTO⟩, h1, h2⟩, fr5, q⟩
/-- tuples, lists, or a tuple and a list -/
def iZipB (K : PySem.W.Frag) (ta : TA) : TI := fun σ H R => iZipA K ta σ H R ∨ iZipM K ta σ H R
theorem pi_zipB {X : Cx} {e e2 : Expr} {ta : TA} {p pos tpos : Pos} {elts : List Expr} {kk : Nat} (hg : Gl X "zip") (hm : X.mg "zip" = none) (ha : PA X [e, e2] ta)
    (hs : starEach [e, e2] X.env = (false, eval e X.env) :: starEach [e2] X.env := by rfl)
    (hpl : (backTo pos (starEach [e2] X.env)).any (·.1) = false := by rfl) :
    PI X (.Tuple elts kk tpos) (.Call (.Name "zip" p) [e, e2] [] pos) (iZipB X.K ta) := ⟨fun pn s σ H R I h => h.elim ((pi_zipA hg hm ha hs hpl).run pn s σ H R I) ((pi_zipM hg hm ha hs hpl).run pn s σ H R I)⟩
section
variable {K : PySem.W.Frag} {σ : L2.St} {H H' : Hp} {Δ : Dt} {v : V} {d d1 d2 : PyData} {ds es : List PyData}
theorem walk_zipM {a b : Addr} {xs ys : List V} {n : Nat} (hn : n = min xs.length ys.length) : Walk (ItzM K a b) n (fun H => SqT K H a xs ∧ SqL K H b ys) (YPair (fun i => xs[i]?) (fun i => ys[i]?)) where
  goes := fun i H hi ⟨h1, h2⟩ => ⟨xs, ys, xs[i]'(by omega), ys[i]'(by omega), h1, h2, List.getElem?_eq_getElem _, List.getElem?_eq_getElem _⟩
  stops := fun H ⟨h1, h2⟩ => ⟨xs, ys, h1, h2, by omega, by omega, by omega⟩
  yields := fun i H x H' hi ⟨h1, h2⟩ ⟨T, x1, y1, e1, e2, e3, f1, f2⟩ => ⟨T, x1, y1, e1, e2, e3, f1 _ h1, f2 _ h2⟩
theorem src_zipM {i j : Nat} {w : V} (h1 : σ[i]? = some (some v)) (h2 : σ[j]? = some (some w)) (hd1 : Dp K H v (.tuple ds)) (hd2 : Dp K H w (.list es)) :
    SrcD (iZipM K (tCons (tVar i) (tCons (tVar j) tNil))) σ H (ds.zip es).length (YP K H (ds.zip es)) := fun H1 e R k => by
  obtain ⟨a, xs, rfl, hs, hx⟩ := dp_ref_tup hd1
  obtain ⟨b, ys, rfl, ht, hy⟩ := dp_ref_lst hd2
  refine ⟨.ref a, h1, .ref b, h2, a, b, xs, ys, rfl, ex_t e hs, ex_l e ht, k _ _ (Ex.refl _) ?_⟩
  refine (walk_zipM (K := K) (a := a) (b := b) (xs := xs) (ys := ys) (n := (ds.zip es).length) (by rw [List.length_zip, dps_len hx, dps_len hy])).mono (fun H3 e3 => ⟨ex_t e3 hs, ex_l e3 ht⟩) ?_
  rintro n H3 x H4 hn e3 ⟨T, x1, y1, e1, e2, e4, f1, f2⟩
  obtain ⟨d, q1, q2⟩ := dps_get hx f1
  obtain ⟨d', q3, q4⟩ := dps_get hy f2
  exact ⟨T, x1, y1, (d, d'), e1, e2, e4, List.getElem?_zip_eq_some.mpr ⟨q1, q3⟩, q2, q4⟩
theorem e_zipB {i j : Nat} (h1 : Δ[i]? = some (some (.tuple ds))) (h2 : Δ[j]? = some (some (.tuple es))) : ∀ σ H, Sl K σ H Δ → SrcD (iZipB K (tCons (tVar i) (tCons (tVar j) tNil))) σ H (ds.zip es).length (YP K H (ds.zip es)) := fun σ H s H1 e R k => .inl (e_zip h1 h2 σ H s H1 e R k)
theorem e_zipBM {i j : Nat} (h1 : Δ[i]? = some (some (.tuple ds))) (h2 : Δ[j]? = some (some (.list es))) : ∀ σ H, Sl K σ H Δ → SrcD (iZipB K (tCons (tVar i) (tCons (tVar j) tNil))) σ H (ds.zip es).length (YP K H (ds.zip es)) := fun σ H s H1 e R k => by
  obtain ⟨v, a1, a2⟩ := s.at_ _ _ h1
  obtain ⟨w, b1, b2⟩ := s.at_ _ _ h2
  exact .inr (src_zipM a1 b1 a2 b2 H1 e R k)
end
end K17

end
section
set_option maxHeartbeats 4200000
/-! # The law made, of values in a list too; values that are let, drawn -/
namespace K17
open PySem PySem.Spec PyProof.Rows L2 Evl
inductive R_madeX : List PyData → PyData → Prop
  | mk (n : Nat) (g : List Row) (zs : List PV) (x : Row) : GOk n g → ZOk n zs → PtOk n x → R_madeX [rowsD g, ptsD zs, valsD zs, rowD x] (frD (made g zs x))
  | mkL (n : Nat) (g : List Row) (zs : List PV) (x : Row) : GOk n g → ZOk n zs → PtOk n x → R_madeX [rowsD g, ptsD zs, .list ((zs.map (·.2)).map frD), rowD x] (frD (made g zs x))
/-- points and values, told apart -/
structure Pv (ps : List Row) (zs : List PV) (dv : PyData) : Prop where
  pts : zs.map (·.1) = ps
  vals : dv = valsD zs
inductive R_let : List PyData → (PyData → Prop) → Prop
  | mk (n : Nat) (g : List Row) (ps : List Row) : GOk n g → ps ≠ [] → ps.length ≤ 4 → (∀ p ∈ ps, PtOk n p) → R_let [rowsD g, rowsD ps] (fun d => ∃ zs : List PV, Pv ps zs d ∧ Let g zs ∧ ∀ z ∈ zs, Bd 4 27 z.2)
theorem zip_fst {ps : List Row} {vs : List Rat} (h : vs.length = ps.length) : (ps.zip vs).map (·.1) = ps := List.map_fst_zip (by omega)
theorem zip_snd {ps : List Row} {vs : List Rat} (h : vs.length = ps.length) : (ps.zip vs).map (·.2) = vs := List.map_snd_zip (by omega)
theorem zOk_zip {n : Nat} {ps : List Row} {vs : Row} {D B : Nat} (m : Nat) (hD : D * m = 504) (hB : B ≤ 1000) (h1 : ps ≠ []) (h2 : ps.length ≤ 4) (h3 : ∀ p ∈ ps, PtOk n p) (hl : vs.length = ps.length) (hv : RowBd D B vs) : ZOk n (ps.zip vs) where
  ne := fun z => h1 (by
    have q := congrArg List.length z
    rw [List.length_zip, hl, Nat.min_self] at q
    exact List.eq_nil_of_length_eq_zero q)
  few := by simp; omega
  pt := fun z hz => h3 _ (List.of_mem_zip hz).1
  vl := fun z hz => by
    have b := ((hv _ (List.of_mem_zip hz).2).finer m).mono hB
    rw [hD] at b
    exact b
section
variable {P : Program} {w : World} {K : PySem.W.Frag} {mg : Str → Option Value} {base : Heap} {aN aL : Addr}
theorem c_l_made2 (T : Txt K mg aN aL) (D : Dfn K mg "_law_made" s_l_made p_l_made) (C_l_lowest : Cal P w K mg base CX0 2 "_law_lowest" p_l_lowest (SpD K (R_mostL minL))) (C_l_rise_cost : Cal P w K mg base CX0 6 "_law_rise_cost" p_l_rise_cost (SpD K R_riseL))
    (C_l_sum : Cal P w K mg base CX0 3 "_law_sum" p_l_sum (SpD K (R_two fun q r => q + r))) : Cal P w K mg base CX0 7 "_law_made" p_l_made (SpD K R_madeX) := by
  refine D.sr sc_l_made (fun _ _ h => by cases h <;> rfl) fun f cdv A outer s H E hr ds d hR => ?_
  refine ⟨_, (pss_cons (ps_set (i := 4) sc_l_made.nd rfl (.inl rfl) (pe_lst pa_nil))
      (pss_cons (ps_for PassesOwn.never rfl (pi_zipB (by rfl) T.n_zip (pa_cons (pv 1) (pa_cons (pv 2) pa_nil))) (pg_tup (n := 2) rfl (pgs_cons (pg_name (i := 5) sc_l_made.nd rfl (.inl rfl)) (pgs_cons (pg_name (i := 6) sc_l_made.nd rfl (.inl rfl)) pgs_nil))) (pss_one (ps_expr (pe_bm PySem.F.plainAttrs_list PySem.F.slot_list_append PySem.F.type_list_append mt_append (pv 4) (pa_cons (pe_cal C_l_sum (hr.mono (by decide)) (pa_cons (pv 6) (pa_cons (pe_cal C_l_rise_cost (hr.mono (by decide)) (pa_cons (pv 0) (pa_cons (pv 5) (pa_cons (pv 3) pa_nil)))) pa_nil))) pa_nil)))))
      (pss_one (ps_ret (pe_cal C_l_lowest (hr.mono (by decide)) (pa_cons (pv 4) pa_nil)))))), ?_⟩
  have core : ∀ (n : Nat) (g : List Row) (zs : List PV) (x : Row) (dv : PyData), GOk n g → ZOk n zs → PtOk n x →
      (∀ σ H, Sl K σ H [some (rowsD g), some (ptsD zs), some dv, some (rowD x), none, none, none] → SrcD (iZipB K (tCons (tVar 1) (tCons (tVar 2) tNil))) σ H (((zs.map (·.1)).map rowD).zip ((zs.map (·.2)).map frD)).length (YP K H (((zs.map (·.1)).map rowD).zip ((zs.map (·.2)).map frD)))) →
      SR K (tSeq (tAsg (tLst tNil) (gName 4)) (tSeq (tFor (iZipB K (tCons (tVar 1) (tCons (tVar 2) tNil))) (gTup K 2 (gCons (gName 5) (gCons (gName 6) gNil))) (tDrop (tBM K "list" rAppend (tVar 4) (tCons (tCall (SpD K (R_two fun q r => q + r)) [] E0 (tCons (tVar 6) (tCons (tCall (SpD K R_riseL) [] E0 (tCons (tVar 0) (tCons (tVar 5) (tCons (tVar 3) tNil)))) tNil))) tNil)))) (tRet (tCall (SpD K (R_mostL minL)) [] E0 (tCons (tVar 4) tNil)))))
        [some (rowsD g), some (ptsD zs), some dv, some (rowD x), none, none, none] (frD (made g zs x)) := fun n g zs x dv h1 h2 h3 hs => by
    have hl : zs.length ≤ 6 := h2.few
    refine r_fill (i := 5) (j := 6) (l := 4) (ps := ((zs.map (·.1)).map rowD).zip ((zs.map (·.2)).map frD)) ((zs.map fun z => z.2 + rise g z.1 x).map frD) (by simp) rfl (by show 4 < 7; decide) (by decide) (by decide) hs (by simp; omega) (tupOnlys_all.mpr fun d hd => ?_) (fun i p f hp hf => ?_) (r_ret (v_call (v_cons (v_var rfl) v_nil) (.lst (zs.map fun z => z.2 + rise g z.1 x) (by simpa using h2.ne) fun q hq => (made_sm h1 h2 h3 q hq).sm')))
    · obtain ⟨q, _, rfl⟩ := List.mem_map.mp hd
      exact fr_tup q
    · obtain ⟨z, hz, rfl⟩ := zip_at hp
      have mz := List.mem_of_getElem? hz
      have ef : f = frD (z.2 + rise g z.1 x) := by
        rw [List.getElem?_map, List.getElem?_map, hz] at hf
        exact (Option.some.inj hf).symm
      rw [ef]
      exact v_call (v_cons (v_var rfl) (v_cons (v_call (v_cons (v_var rfl) (v_cons (v_var rfl) (v_cons (v_var rfl) v_nil))) (.mk n g z.1 x h1 (h2.pt _ mz) h3)) v_nil)) (R_two.mk (f := fun q r => q + r) _ _ (h2.sm mz) (rise_sm h1 (h2.pt _ mz) h3))
  cases hR with
  | mk n g zs x h1 h2 h3 => exact core n g zs x _ h1 h2 h3 (e_zipB rfl rfl)
  | mkL n g zs x h1 h2 h3 => exact core n g zs x _ h1 h2 h3 (e_zipBM rfl rfl)
theorem c_l_let (T : Txt K mg aN aL) (D : Dfn K mg "_law_let" s_l_let p_l_let) (C_l_small : Cal P w K mg base CX0 3 "_law_small" p_l_small (SpB K 1 R_small)) (C_l_made : Cal P w K mg base CX0 7 "_law_made" p_l_made (SpD K R_madeX)) : Cal P w K mg base CX0 8 "_law_let" p_l_let (SpB K 4 R_let) := by
  refine D.srb sc_l_let (fun _ _ h => by cases h; rfl) fun f cdv A outer s H E hr ds φ hR => ?_
  cases hR with
  | mk n g ps h1 h2 h3 h4 =>
    refine ⟨_, (pss_cons (ps_set (i := 3) sc_l_let.nd rfl (.inr rfl) (pe_lc (own := [("_law_own", 4)]) (g := (gName 4)) (tt := tYes) (by rfl) sc_l_let.nd (pi_tup (pv 2)) (blkOk_by (own := [("_law_own", 4)]) (N := n_l_let) (sc := defScope s_l_let) (by decide +kernel)) (fun _ _ _ _ _ => (pg_name (i := 4) sc_l_let.nd rfl (.inl rfl) (.inr rfl))) (fun _ _ _ _ _ => pts_nil) (fun _ _ _ _ _ => (pe_cal C_l_small (hr.mono (by decide)) (pa_cons (pv 0) pa_nil)))))
      (pss_one (ps_ret (pe_callTy call_tuple_of (by rfl) T.n_tuple (by decide +kernel) (pa_cons (pe_lc (own := [("_law_own", 4)]) (g := (gName 4)) (tt := tYes) (by rfl) sc_l_let.nd (pi_tup (pv 2)) (blkOk_by (own := [("_law_own", 4)]) (N := n_l_let) (sc := defScope s_l_let) (by decide +kernel)) (fun _ _ _ _ _ => (pg_name (i := 4) sc_l_let.nd rfl (.inl rfl) (.inr rfl))) (fun _ _ _ _ _ => pts_nil) (fun _ _ _ _ _ => (pe_cal C_l_made (hr.mono (by decide)) (pa_cons (pv 1) (pa_cons (pv 2) (pa_cons (pv 3) (pa_cons (pv 4) pa_nil))))))) pa_nil))))), ?_⟩
    have all : AllB [none, some (rowsD g), some (rowsD ps), none, none] := allB_none (allB_some (safe_tup (rows_tup g)) (allB_some (safe_tup (rows_tup ps)) (allB_none (allB_none allB_nil))))
    refine rb_mono (rb_asg (m1 := (ps.map rowD).length * 1) (m2 := 0) (vb_lcT (i := 2) (ds := ps.map rowD) (φ := FrB 2 3) rfl all (by decide) (by decide) (by simp; omega) (fun d => frB_tup) (fun d hd => ?_) fun d hd => ?_) all (by decide) fun d hd => ?_) (show (ps.map rowD).length * 1 + 0 ≤ 4 by simp; omega) (fun d h => h)
    · obtain ⟨r, _, rfl⟩ := List.mem_map.mp hd
      exact row_tup r
    · obtain ⟨r, _, rfl⟩ := List.mem_map.mp hd
      exact vb_callP v_nil (allB_none (allB_some (safe_tup (rows_tup g)) (allB_some (safe_tup (rows_tup ps)) (allB_none (allB_some (safe_tup (row_tup r)) allB_nil))))) .mk
    · obtain ⟨es, rfl, le, hes⟩ := hd
      obtain ⟨vs, rfl, lv, bv⟩ := frB_row hes
      have lv2 : vs.length = ps.length := by simpa using le
      have zok : ZOk n (ps.zip vs) := zOk_zip 252 rfl (by decide) h2 h3 h4 lv2 bv
      have ef := zip_fst lv2
      have es := zip_snd lv2
      have len : Len n (ps.zip vs) := zok.len
      refine rb_sr (d := valsD (ps.map fun p => (p, made g (ps.zip vs) p))) (r_ret (v_is (v_tupleOf (v_lcT (i := 2) ps rowD (fun p => frD (made g (ps.zip vs) p)) rfl (by omega) (fun p _ => fr_tup _) (by decide) fun p hp => ?_)) ?_)) ?_
      · have m := R_madeX.mkL n g (ps.zip vs) p h1 zok (h4 p hp)
        rw [es] at m
        have e2 : ptsD (ps.zip vs) = rowsD ps := by
          unfold ptsD
          rw [ef]
        rw [e2] at m
        exact v_call (v_cons (v_var rfl) (v_cons (v_var rfl) (v_cons (v_var rfl) (v_cons (v_var rfl) v_nil)))) m
      · unfold valsD rowD
        rw [List.map_map, List.map_map]; rfl
      · refine ⟨_, ⟨?_, rfl⟩, let_of (n := n) (fun x y hx hy => made_rises h1.ne zok.ne len hx hy) (fun p hp => (h4 p hp).len), fun z hz => ?_⟩
        · rw [List.map_map]
          exact List.map_id' ps
        · obtain ⟨p, hp, rfl⟩ := List.mem_map.mp hz
          have hm : minL ((ps.zip vs).map fun z => z.2 + rise g z.1 p) ∈ (ps.zip vs).map fun z => z.2 + rise g z.1 p := minL_mem (by simpa using zok.ne)
          obtain ⟨z, hz2, e⟩ := List.mem_map.mp hm
          show Bd 4 27 (minL ((ps.zip vs).map fun z => z.2 + rise g z.1 p))
          rw [← e]
          have b1 : Bd 4 3 z.2 := (bv _ (List.of_mem_zip hz2).2).finer 2
          have b2 : Bd 4 (3 + 24) (z.2 + rise g z.1 p) := b1.add (rise_bd h1 (zok.pt z hz2) (h4 p hp))
          exact b2
end
end K17

end
section
set_option maxHeartbeats 4200000
/-! # The pairs of zip over two tuples, gathered in one go -/
namespace K17
open PySem PySem.Spec PyProof.Rows L2 Evl RZ
theorem zip_unsized : typeLookup (.type "zip") "__len__" = pure none := am_miss_of_fast (by decide +kernel)
theorem zip_unhinted : typeLookup (.type "zip") "__length_hint__" = pure none := am_miss_of_fast (by decide +kernel)
section
variable {s : Shared} {P : Program} {w : World} {A : Around} {E : Value → Shared → Prop} {c tI tO p q l m T : Addr} {out : Bool} {ob : Obj} {i j : Nat} {us vs : Array Value}
/-- the pair that was handed out last is still held: a new one is made -/
theorem again_item {u v : Value} {Q : Value → Shared → Prop} (D : ZipApart c tI tO p q l m) (hc : IsZipHeld s.heap c tI tO T out) (hT : s.heap.get? T = some ob) (hI : IsPair s.heap tI (.ref p) (.ref q))
    (hp : s.heap.IsTupleIter p l i) (hq : s.heap.IsTupleIter q m j) (hl : s.heap.IsTuple l us) (hm : s.heap.IsTuple m vs) (hu : us[i]? = some u) (hv : vs[j]? = some v)
    (k : ∀ g, IsZipHeld g c tI tO T true → g.IsTupleIter p l (i + 1) → g.IsTupleIter q m (j + 1) → IsPair g s.heap.objs.size u v → g.objs.size = s.heap.objs.size + 1 →
      (∀ b o, b ≠ c → b ≠ p → b ≠ q → s.heap.get? b = some o → g.get? b = some o) → Q (.ref s.heap.objs.size) { s with heap := g }) :
    wpAny (model P w) A (Builtin.«zip.__next__» ⟨[.ref c], []⟩) (fun fin s' => ∃ r, fin = .done (.ret r) ∧ Q r s') E s := by
  show wpAny _ _ (field (.ref c) 2 >>= _) _ _ _
  refine wpAny_bind (wpAny_field hc rfl (x := .bool false) rfl ?_)
  show wpAny _ _ (field (.ref c) 3 >>= _) _ _ _
  refine wpAny_bind (wpAny_field hc rfl (x := .ref tI) rfl ?_)
  refine wpAny_bind (wpAny_seqItems hI rfl ?_)
  show wpAny _ _ (Builtin.SmallTypes.ownedTupleIsFree (.ref c) >>= _) _ _ _
  refine wpAny_bind (wpAny_tupleHeld_zip hc hT fun g1 c1 e1 => ?_)
  simp only [if_false, Bool.false_eq_true]
  refine wpAny_bind ?_
  rw [← Array.forIn_toList]
  simp only [List.forIn_nil, List.forIn_cons]
  refine wpAny_bind (wpAny_bind (wpAny_holding ?_)); show wpAny _ _ (Builtin.SmallTypes.nextOf (.ref p) >>= _) _ _ _
  refine wpAny_bind (nextOf_tuple_item (s := { s with heap := g1 }) (hp.extBut e1.extBut D.i1z) (hl.extBut e1.extBut D.l1z) hu fun g2 p2 e2 => wpAny_pure ?_)
  refine wpAny_pure ?_
  refine wpAny_bind (wpAny_bind (wpAny_holding ?_)); show wpAny _ _ (Builtin.SmallTypes.nextOf (.ref q) >>= _) _ _ _
  refine wpAny_bind (nextOf_tuple_item (s := { s with heap := g2 }) ((hq.extBut e1.extBut D.i2z).extBut e2.extBut D.i12.symm) ((hm.extBut e1.extBut D.l2z).extBut e2.extBut D.l2i1) hv fun g3 q3 e3 => wpAny_pure ?_)
  refine wpAny_pure (wpAny_pure ?_); show wpAny _ _ (newTuple [u, v] >>= _) _ _ _
  refine wpAny_bind (wpAny_newTuple ?_); have size : g3.objs.size = s.heap.objs.size := by rw [e3.1, e2.1, e1.1]
  have c3 : IsZipHeld g3 c tI tO T true := e3.extBut _ _ D.i2z.symm (e2.extBut _ _ D.i1z.symm c1)
  have old : ∀ b o, b ≠ c → b ≠ p → b ≠ q → s.heap.get? b = some o → g3.get? b = some o := fun b o b1 b2 b3 e => e3.extBut _ _ b3 (e2.extBut _ _ b2 (e1.extBut _ _ b1 e))
  have p3 : g3.IsTupleIter p l (i + 1) := p2.extBut e3.extBut D.i12
  refine wpAny_pure ⟨_, rfl, ?_⟩; show Q (.ref g3.objs.size) _
  have new : IsPair (g3.push { cls := .type "tuple", data := .seq #[u, v] }) g3.objs.size u v := Heap.get?_push_size _ rfl
  have more : (g3.push { cls := .type "tuple", data := .seq #[u, v] }).objs.size = g3.objs.size + 1 := Heap.size_push ..
  rw [size] at new more ⊢
  exact k _ (Heap.get?_push_of_some _ c3) (p3.at fun o e => Heap.get?_push_of_some _ e) (q3.at fun o e => Heap.get?_push_of_some _ e) new more fun b o b1 b2 b3 e => Heap.get?_push_of_some _ (old b o b1 b2 b3 e)
theorem again_end {Q : PySem.Fin → Shared → Prop} (hh : A.handled = none) (D : ZipApart c tI tO p q l m) (hc : IsZipHeld s.heap c tI tO T out) (hT : s.heap.get? T = some ob) (hI : IsPair s.heap tI (.ref p) (.ref q))
    (hp : s.heap.IsTupleIter p l i) (hq : s.heap.IsTupleIter q m j) (hl : s.heap.IsTuple l us) (hm : s.heap.IsTuple m vs) (stop : us[i]? = none ∨ vs[j]? = none)
    (k : ∀ g e, (∀ b o, b ≠ c → b ≠ p → b ≠ q → s.heap.get? b = some o → g.get? b = some o) → (∃ o, g.get? e = some o ∧ o.cls = .type "StopIteration") → E (.ref e) { s with heap := g }) :
    wpAny (model P w) A (Builtin.«zip.__next__» ⟨[.ref c], []⟩) Q E s := by
  show wpAny _ _ (field (.ref c) 2 >>= _) _ _ _
  refine wpAny_bind (wpAny_field hc rfl (x := .bool false) rfl ?_)
  show wpAny _ _ (field (.ref c) 3 >>= _) _ _ _
  refine wpAny_bind (wpAny_field hc rfl (x := .ref tI) rfl ?_)
  refine wpAny_bind (wpAny_seqItems hI rfl ?_)
  show wpAny _ _ (Builtin.SmallTypes.ownedTupleIsFree (.ref c) >>= _) _ _ _
  refine wpAny_bind (wpAny_tupleHeld_zip hc hT fun g1 c1 e1 => ?_)
  simp only [if_false, Bool.false_eq_true]
  refine wpAny_bind ?_
  rw [← Array.forIn_toList]
  simp only [List.forIn_nil, List.forIn_cons]
  refine wpAny_bind (wpAny_bind (wpAny_holding ?_)); show wpAny _ _ (Builtin.SmallTypes.nextOf (.ref p) >>= _) _ _ _
  cases hu : us[i]? with
  | none => exact wpAny_bind (nextOf_tuple_end (s := { s with heap := g1 }) hh (hp.extBut e1.extBut D.i1z) (hl.extBut e1.extBut D.l1z) hu fun g2 e e2 he => k g2 e (fun b o b1 b2 _ z => e2 _ _ b2 (e1.extBut _ _ b1 z)) he)
  | some u =>
    have hv : vs[j]? = none := stop.resolve_left (by rw [hu]; exact fun z => nomatch z)
    refine wpAny_bind (nextOf_tuple_item (s := { s with heap := g1 }) (hp.extBut e1.extBut D.i1z) (hl.extBut e1.extBut D.l1z) hu fun g2 p2 e2 => wpAny_pure ?_)
    refine wpAny_pure ?_
    refine wpAny_bind (wpAny_bind (wpAny_holding ?_)); show wpAny _ _ (Builtin.SmallTypes.nextOf (.ref q) >>= _) _ _ _
    exact wpAny_bind (nextOf_tuple_end (s := { s with heap := g2 }) hh ((hq.extBut e1.extBut D.i2z).extBut e2.extBut D.i12.symm) ((hm.extBut e1.extBut D.l2z).extBut e2.extBut D.l2i1) hv fun g3 e e3 he => k g3 e (fun b o b1 b2 b3 z => e3 _ _ b3 (e2.extBut _ _ b2 (e1.extBut _ _ b1 z))) he)
theorem next_again {u v : Value} {Q : Option Value → Shared → Prop} (D : ZipApart c tI tO p q l m) (hc : IsZipHeld s.heap c tI tO T out) (hT : s.heap.get? T = some ob) (hI : IsPair s.heap tI (.ref p) (.ref q))
    (hp : s.heap.IsTupleIter p l i) (hq : s.heap.IsTupleIter q m j) (hl : s.heap.IsTuple l us) (hm : s.heap.IsTuple m vs) (hu : us[i]? = some u) (hv : vs[j]? = some v)
    (k : ∀ g, IsZipHeld g c tI tO T true → g.IsTupleIter p l (i + 1) → g.IsTupleIter q m (j + 1) → IsPair g s.heap.objs.size u v → g.objs.size = s.heap.objs.size + 1 →
      (∀ b o, b ≠ c → b ≠ p → b ≠ q → s.heap.get? b = some o → g.get? b = some o) → Q (some (.ref s.heap.objs.size)) { s with heap := g }) : wpAny (model P w) A (pyNext (.ref c)) Q E s := by
  have ty : s.TypeIs (.ref c) "zip" := ⟨_, hc, rfl⟩
  unfold pyNext
  exact wpAny_bind (wpAny_attempt (wpAny_callSpecial?_slot (name := Str.ofString "__next__") ty F.slot_zip_next
    (wpAny_call_entry F.slot_zip_next ty F.entry_zip_next (again_item D hc hT hI hp hq hl hm hu hv fun g a1 a2 a3 a4 a5 a6 => wpAny_pure (k g a1 a2 a3 a4 a5 a6)) (F.args_zip_next_1 _))))
theorem next_over {Q : Option Value → Shared → Prop} (hh : A.handled = none) (D : ZipApart c tI tO p q l m) (hc : IsZipHeld s.heap c tI tO T out) (hT : s.heap.get? T = some ob) (hI : IsPair s.heap tI (.ref p) (.ref q))
    (hp : s.heap.IsTupleIter p l i) (hq : s.heap.IsTupleIter q m j) (hl : s.heap.IsTuple l us) (hm : s.heap.IsTuple m vs) (stop : us[i]? = none ∨ vs[j]? = none)
    (k : ∀ g, (∀ b o, b ≠ c → b ≠ p → b ≠ q → s.heap.get? b = some o → g.get? b = some o) → Q none { s with heap := g }) : wpAny (model P w) A (pyNext (.ref c)) Q E s := by
  have ty : s.TypeIs (.ref c) "zip" := ⟨_, hc, rfl⟩
  unfold pyNext
  refine wpAny_bind (wpAny_attempt (wpAny_callSpecial?_slot (name := Str.ofString "__next__") ty F.slot_zip_next
    (wpAny_call_entry F.slot_zip_next ty F.entry_zip_next (again_end hh D hc hT hI hp hq hl hm stop fun g e old he => ?_) (F.args_zip_next_1 _))))
  obtain ⟨o, ho, cl⟩ := he
  exact wpAny_bind (wpAny_isInstance (T := "StopIteration") (b := true) ⟨o, ho, cl⟩ isSubtype_stop (wpAny_pure (k _ old)))
end
/-- while zip's pairs are gathered in the list at S: i of them stand -/
structure Gath (h0 h : Heap) (S c tI tO p q l m : Addr) (us vs : Array Value) (i : Nat) (Ts : List Addr) : Prop where
  pair : IsPair h tI (.ref p) (.ref q)
  it1 : h.IsTupleIter p l i
  it2 : h.IsTupleIter q m i
  t1 : h.IsTuple l us
  t2 : h.IsTuple m vs
  len : Ts.length = i
  out : ∀ (j : Nat) T, Ts[j]? = some T → ∃ u v, us[j]? = some u ∧ vs[j]? = some v ∧ IsPair h T u v
  new : ∀ T ∈ Ts, S < T ∧ T < h.objs.size
  asc : Ts.Pairwise (· < ·)
  st : (IsZip h c tI tO .none ∧ ∃ a b, IsPair h tO a b) ∨ ∃ T f, IsZipHeld h c tI tO T f ∧ T ∈ Ts
  keep : ∀ b o, b ≠ c → b ≠ tO → b ≠ p → b ≠ q → h0.get? b = some o → h.get? b = some o
  low : c < S ∧ tI < S ∧ tO < S ∧ p < S ∧ q < S ∧ l < S ∧ m < S
theorem Gath.past {h0 h h' : Heap} {S c tI tO p q l m : Addr} {us vs : Array Value} {i : Nat} {Ts : List Addr} (G : Gath h0 h S c tI tO p q l m us vs i Ts) (hS : h0.get? S = none) (e : Heap.SameBut S h h') : Gath h0 h' S c tI tO p q l m us vs i Ts := by
  obtain ⟨w1, w2, w3, w4, w5, w6, w7⟩ := G.low
  have k : ∀ b o, b ≠ S → h.get? b = some o → h'.get? b = some o := fun b o n z => e.extBut b o n z
  refine ⟨k _ _ (Nat.ne_of_lt w2) G.pair, G.it1.at fun o z => k _ o (Nat.ne_of_lt w4) z, G.it2.at fun o z => k _ o (Nat.ne_of_lt w5) z, G.t1.extBut e.extBut (Nat.ne_of_lt w6), G.t2.extBut e.extBut (Nat.ne_of_lt w7), G.len, fun j T hj => ?_, fun T hT => by rw [e.1]; exact G.new T hT, G.asc, ?_, fun b o b1 b2 b3 b4 z => k b o (fun n => by rw [n, hS] at z; cases z) (G.keep b o b1 b2 b3 b4 z), G.low⟩
  · obtain ⟨u, v, h1, h2, h3⟩ := G.out j T hj
    exact ⟨u, v, h1, h2, k _ _ (Nat.ne_of_gt (G.new T (List.mem_of_getElem? hj)).1) h3⟩
  · rcases G.st with ⟨h1, a, b, h2⟩ | ⟨T, f, h1, h2⟩
    · exact .inl ⟨k _ _ (Nat.ne_of_lt w1) h1, a, b, k _ _ (Nat.ne_of_lt w3) h2⟩
    · exact .inr ⟨T, f, k _ _ (Nat.ne_of_lt w1) h1, h2⟩
section
variable {P : Program} {w : World} {A : Around} {S c tI tO p q l m : Addr} {us vs : Array Value}
/-- one pair more -/
theorem Gath.turn {h0 g h : Heap} {i : Nat} {Ts : List Addr} {u v : Value} {f0 : Addr} {fl : Bool} (G : Gath h0 h S c tI tO p q l m us vs i Ts) (D : ZipApart c tI tO p q l m) (hu : us[i]? = some u) (hv : vs[i]? = some v) (hS : S < h.objs.size)
    (a1 : IsZipHeld g c tI tO f0 fl) (a0 : f0 ∈ Ts ++ [h.objs.size]) (a2 : g.IsTupleIter p l (i + 1)) (a3 : g.IsTupleIter q m (i + 1)) (a4 : IsPair g h.objs.size u v) (a5 : g.objs.size = h.objs.size + 1)
    (a6 : ∀ b o, b ≠ c → b ≠ tO → b ≠ p → b ≠ q → h.get? b = some o → g.get? b = some o) : Gath h0 g S c tI tO p q l m us vs (i + 1) (Ts ++ [h.objs.size]) := by
  obtain ⟨w1, w2, w3, w4, w5, w6, w7⟩ := G.low
  refine ⟨a6 _ _ D.TIz D.TITO D.TIi1 D.TIi2 G.pair, a2, a3, ?_, ?_, by simp [G.len], fun j T hj => ?_, fun T hT => ?_, ?_, .inr ⟨f0, fl, a1, a0⟩, fun b o b1 b2 b3 b4 z => a6 b o b1 b2 b3 b4 (G.keep b o b1 b2 b3 b4 z), G.low⟩
  · obtain ⟨o, ho, r⟩ := G.t1
    exact ⟨o, a6 _ _ D.l1z D.l1TO D.l1i1 D.l1i2 ho, r⟩
  · obtain ⟨o, ho, r⟩ := G.t2
    exact ⟨o, a6 _ _ D.l2z D.l2TO D.l2i1 D.l2i2 ho, r⟩
  · by_cases hj2 : j < Ts.length
    · rw [List.getElem?_append_left hj2] at hj
      obtain ⟨x, y, h1, h2, h3⟩ := G.out j T hj
      have gt := (G.new T (List.mem_of_getElem? hj)).1
      exact ⟨x, y, h1, h2, a6 _ _ (Nat.ne_of_gt (Nat.lt_trans w1 gt)) (Nat.ne_of_gt (Nat.lt_trans w3 gt)) (Nat.ne_of_gt (Nat.lt_trans w4 gt)) (Nat.ne_of_gt (Nat.lt_trans w5 gt)) h3⟩
    · rw [List.getElem?_append_right (by omega)] at hj
      have hj3 : j - Ts.length = 0 := by
        have := (List.getElem?_eq_some_iff.mp hj).1
        simp at this
        omega
      rw [hj3] at hj
      have eT : h.objs.size = T := by simpa using hj
      have ej : j = i := by have := G.len; omega
      subst ej
      rw [← eT]
      exact ⟨u, v, hu, hv, a4⟩
  · rcases List.mem_append.mp hT with z | z
    · have := G.new T z
      rw [a5]
      exact ⟨this.1, Nat.lt_succ_of_lt this.2⟩
    · rw [List.mem_singleton.mp z, a5]
      exact ⟨hS, Nat.lt_succ_self _⟩
  · refine List.pairwise_append.mpr ⟨G.asc, List.pairwise_singleton _ _, fun a ha b hb => ?_⟩
    rw [List.mem_singleton.mp hb]
    exact (G.new a ha).2
end
/-- the pairs gathered -/
structure Gone (h0 h : Heap) (S c tO p q : Addr) (us vs : Array Value) (n : Nat) (Ts : List Addr) : Prop where
  len : Ts.length = n
  out : ∀ (j : Nat) T, Ts[j]? = some T → ∃ u v, us[j]? = some u ∧ vs[j]? = some v ∧ IsPair h T u v
  new : ∀ T ∈ Ts, S < T
  asc : Ts.Pairwise (· < ·)
  keep : ∀ b o, b ≠ c → b ≠ tO → b ≠ p → b ≠ q → h0.get? b = some o → h.get? b = some o
section
variable {P : Program} {w : World} {A : Around} {E : Value → Shared → Prop} {S c tI tO p q l m : Addr} {us vs : Array Value}
theorem Gath.gone {h0 h g : Heap} {i : Nat} {Ts : List Addr} (G : Gath h0 h S c tI tO p q l m us vs i Ts) (k : ∀ b o, b ≠ c → b ≠ tO → b ≠ p → b ≠ q → h.get? b = some o → g.get? b = some o) : Gone h0 g S c tO p q us vs i Ts := by
  obtain ⟨w1, w2, w3, w4, w5, w6, w7⟩ := G.low
  refine ⟨G.len, fun j T hj => ?_, fun T hT => (G.new T hT).1, G.asc, fun b o b1 b2 b3 b4 z => k b o b1 b2 b3 b4 (G.keep b o b1 b2 b3 b4 z)⟩
  obtain ⟨x, y, h1, h2, h3⟩ := G.out j T hj
  have gt := (G.new T (List.mem_of_getElem? hj)).1
  exact ⟨x, y, h1, h2, k _ _ (Nat.ne_of_gt (Nat.lt_trans w1 gt)) (Nat.ne_of_gt (Nat.lt_trans w3 gt)) (Nat.ne_of_gt (Nat.lt_trans w4 gt)) (Nat.ne_of_gt (Nat.lt_trans w5 gt)) h3⟩
theorem refs_push (Ts : List Addr) (T : Addr) : (Ts.map Value.ref).toArray.push (.ref T) = ((Ts ++ [T]).map Value.ref).toArray := by simp
/-- the loop of list.extend over zip -/
theorem gath_loop {R : Result → Shared → Prop} {h0 : Heap} (hh : A.handled = none) (D : ZipApart c tI tO p q l m) (hS0 : h0.get? S = none) (hus : us.size ≤ 100000) (res : Value) :
    ∀ (n i : Nat) (s : Shared) (Ts : List Addr) (e : Nat), min us.size vs.size - i = n → i ≤ min us.size vs.size → Gath h0 s.heap S c tI tO p q l m us vs i Ts → s.heap.get? S = some { cls := .type "list", dict := none, data := .seq (Ts.map Value.ref).toArray e, slots := #[] } →
      (∀ h' Ts' e', Gone h0 h' S c tO p q us vs (min us.size vs.size) Ts' → h'.get? S = some { cls := .type "list", dict := none, data := .seq (Ts'.map Value.ref).toArray e', slots := #[] } → R (.ok (.ret res)) { s with heap := h' }) →
      codeAny (model P w) A (.builtin "list.extend.loop" ⟨[.ref S, .ref c, res], []⟩) R s := by
  intro n
  induction n with
  | zero =>
    intro i s Ts e hn hi G hS k
    obtain rfl : i = min us.size vs.size := by omega
    obtain ⟨w1, w2, w3, w4, w5, w6, w7⟩ := G.low
    have stop : us[min us.size vs.size]? = none ∨ vs[min us.size vs.size]? = none := by
      rcases Nat.le_total us.size vs.size with z | z
      · exact .inl (Array.getElem?_eq_none (by omega))
      · exact .inr (Array.getElem?_eq_none (by omega))
    refine codeAny_builtin F.entry_extend_loop ?_; rw [Around.under_plainId F.plain_extend_loop _]
    show wpAny _ A.in1 (pyNext (.ref c) >>= _) _ _ s
    have fin : ∀ g, (∀ b o, b ≠ c → b ≠ tO → b ≠ p → b ≠ q → s.heap.get? b = some o → g.get? b = some o) → R (.ok (.ret res)) { s with heap := g } := fun g old =>
      k g Ts e (G.gone old) (old S _ (Nat.ne_of_gt w1) (Nat.ne_of_gt w3) (Nat.ne_of_gt w4) (Nat.ne_of_gt w5) hS)
    rcases G.st with ⟨h1, a, b, h2⟩ | ⟨T, f, h1, h2⟩
    · refine wpAny_bind (pyNext_zipT_end (A := A.in1) hh D h1 G.pair h2 G.it1 G.it2 G.t1 G.t2 stop fun g old => ?_)
      exact wpAny_pure (fin g old)
    · obtain ⟨j, hj⟩ := List.mem_iff_getElem?.mp h2
      obtain ⟨x, y, _, _, hT⟩ := G.out j T hj
      refine wpAny_bind (next_over (A := A.in1) hh D h1 hT G.pair G.it1 G.it2 G.t1 G.t2 stop fun g old => ?_)
      exact wpAny_pure (fin g fun b o b1 _ b3 b4 z => old b o b1 b3 b4 z)
  | succ n ih =>
    intro i s Ts e hn hi G hS k
    have lt : i < min us.size vs.size := by omega
    obtain ⟨w1, w2, w3, w4, w5, w6, w7⟩ := G.low
    have hu : us[i]? = some (us[i]'(by omega)) := Array.getElem?_eq_getElem _
    have hv : vs[i]? = some (vs[i]'(by omega)) := Array.getElem?_eq_getElem _
    refine codeAny_builtin F.entry_extend_loop ?_; rw [Around.under_plainId F.plain_extend_loop _]
    show wpAny _ A.in1 (pyNext (.ref c) >>= _) _ _ s
    have more : ∀ g f0 fl, IsZipHeld g c tI tO f0 fl → f0 ∈ Ts ++ [s.heap.objs.size] → g.IsTupleIter p l (i + 1) → g.IsTupleIter q m (i + 1) → IsPair g s.heap.objs.size (us[i]'(by omega)) (vs[i]'(by omega)) → g.objs.size = s.heap.objs.size + 1 →
        (∀ b o, b ≠ c → b ≠ tO → b ≠ p → b ≠ q → s.heap.get? b = some o → g.get? b = some o) →
        wpAny (model P w) A.in1 (updateSeq S (·.push (.ref s.heap.objs.size)) >>= fun _ => again (.builtin "list.extend.loop" ⟨[.ref S, .ref c, res], []⟩)) (fun fin s' => match fin with
          | .done f => R (.ok f) s'
          | .again c' => c'.quiet = true ∧ codeAny (model P w) A c' R s') (fun e s' => R (.error e) s') { s with heap := g } := fun g f0 fl a1 a0 a2 a3 a4 a5 a6 => by
      have hS1 := a6 S _ (Nat.ne_of_gt w1) (Nat.ne_of_gt w3) (Nat.ne_of_gt w4) (Nat.ne_of_gt w5) hS
      have G1 := G.turn D hu hv (Heap.lt_size hS) a1 a0 a2 a3 a4 a5 a6
      have hS2 := Heap.get?_update_self (Obj.mapSeq (·.push (Value.ref s.heap.objs.size))) hS1 rfl
      have size : (Ts.map Value.ref).toArray.size = i := by simp [G.len]
      refine wpAny_bind ?_
      refine wpAny_updateSeq hS1 rfl (wpAny_pure ⟨plainId_quiet F.plain_extend_loop _, ih (i + 1) _ (Ts ++ [s.heap.objs.size]) _ (by omega) lt (G1.past hS0 (Heap.SameBut.update ..)) (by rw [← refs_push]; exact hS2) fun h' Ts' e' G2 hS3 => k h' Ts' e' G2 hS3⟩) (by rw [size, sizeLine_eq]; omega) (by rw [Array.size_push, size, sizeLine_eq]; omega)
    rcases G.st with ⟨h1, a, b, h2⟩ | ⟨T, f, h1, h2⟩
    · refine wpAny_bind (pyNext_zipT_item (A := A.in1) D h1 G.pair h2 G.it1 G.it2 G.t1 G.t2 hu hv fun g a1 a2 a3 a4 a5 a6 a7 => ?_)
      exact more g s.heap.objs.size false a1 (by simp) a3 a4 a5 a6 a7
    · obtain ⟨j, hj⟩ := List.mem_iff_getElem?.mp h2
      obtain ⟨x, y, _, _, hT⟩ := G.out j T hj
      refine wpAny_bind (next_again (A := A.in1) D h1 hT G.pair G.it1 G.it2 G.t1 G.t2 hu hv fun g a1 a2 a3 a4 a5 a6 => ?_)
      exact more g T true a1 (List.mem_append_left _ h2) a2 a3 a4 a5 fun b o b1 _ b3 b4 z => a6 b o b1 b3 b4 z
/-- gathered from the first on: the list of the pairs -/
theorem gath_zip {Q : List Value → Shared → Prop} {s : Shared} (hh : A.handled = none) (D : ZipApart c tI tO p q l m) (hus : us.size ≤ 100000) (hc : IsZip s.heap c tI tO .none) (hI : IsPair s.heap tI (.ref p) (.ref q)) {a b : Value} (hO : IsPair s.heap tO a b)
    (hp : s.heap.IsTupleIter p l 0) (hq : s.heap.IsTupleIter q m 0) (hl : s.heap.IsTuple l us) (hm : s.heap.IsTuple m vs)
    (k : ∀ h' Ts, Gone s.heap h' s.heap.objs.size c tO p q us vs (min us.size vs.size) Ts → Q (Ts.map Value.ref) { s with heap := h' }) : wpAny (model P w) A (collect (.ref c)) Q E s := by
  have cS : c < s.heap.objs.size := Heap.lt_size hc
  have ty : ∀ {s' : Shared}, IsZip s'.heap c tI tO .none → s'.TypeIs (.ref c) "zip" := fun z => ⟨_, z, rfl⟩
  unfold collect
  refine wpAny_bind (wpAny_runValue (codeAny_builtin F.entry_proto_collect ?_)); rw [Around.under_plainId F.plain_proto_collect _]
  show wpAny _ A.in1 (newList [] >>= fun l => again (.builtin "list.__iadd__" ⟨[l, .ref c], []⟩)) _ _ s
  refine wpAny_bind (wpAny_newObj_type ?_); refine wpAny_pure ⟨plainId_quiet F.plain_list_iadd _, codeAny_builtin F.entry_list_iadd ?_⟩
  rw [Around.under_plainId F.plain_list_iadd _]; show wpAny _ A.in1 (Builtin.List.listExtendWith (.ref s.heap.objs.size) (.ref c) (.ref s.heap.objs.size)) _ _ _
  have c1 : IsZip (s.heap.push { cls := .type "list", data := .seq ([] : List Value).toArray }) c tI tO .none := Heap.get?_push_of_some _ hc
  unfold Builtin.List.listExtendWith; refine wpAny_bind (wpAny_typeOf (T := "zip") (ty c1) ?_)
  have n1 : Builtin.List.listSameRef (.ref s.heap.objs.size) (.ref c) = false := by simp [Builtin.List.listSameRef, Nat.ne_of_gt cS]
  have n2 : (Value.type "zip" == Value.type "list") = false := by decide
  have n3 : (Value.type "zip" == Value.type "tuple") = false := by decide
  simp only [n1, n2, n3, Bool.or_false, Bool.false_eq_true, if_false]
  refine wpAny_bind (wpAny_pyIter_zip c1 ?_)
  refine wpAny_bind (wpAny_holding ?_); unfold Builtin.List.listLengthHint
  refine wpAny_bind (wpAny_specialOf (ty c1) zip_unsized ?_)
  show wpAny _ A.in1 (specialOf (Value.ref c) (Str.ofString "__length_hint__") >>= _) _ _ _
  refine wpAny_bind (wpAny_specialOf (ty c1) zip_unhinted ?_)
  refine wpAny_pure ?_
  show wpAny _ A.in1 (rule "list.extend.makes-room" >>= fun _ =>
    Builtin.List.listTouch (.ref s.heap.objs.size) >>= fun _ => again (.builtin "list.extend.loop" ⟨[.ref s.heap.objs.size, .ref c, .ref s.heap.objs.size], []⟩)) _ _ _
  refine wpAny_bind (wpAny_rule ?_); have l1 : (s.heap.push { cls := .type "list", data := .seq ([] : List Value).toArray }).get? s.heap.objs.size = some { cls := .type "list", data := .seq ([] : List Value).toArray } := Heap.get?_push_size _ rfl
  refine wpAny_bind ?_
  (show wpAny _ A.in1 (updateSeq s.heap.objs.size (·.push .none) >>= fun _ => updateSeq s.heap.objs.size (·.pop)) _ _ _); refine wpAny_bind (wpAny_updateSeq l1 rfl ?_)
  have l2 := Heap.get?_update_self (Obj.mapSeq (·.push Value.none)) l1 rfl
  refine wpAny_updateSeq l2 rfl ?_
  have l3 := Heap.get?_update_self (Obj.mapSeq (·.pop)) l2 rfl
  have e12 := (Heap.SameBut.update (s.heap.push { cls := .type "list", data := .seq ([] : List Value).toArray }) s.heap.objs.size (Obj.mapSeq (·.push Value.none)))
  have e23 := (Heap.SameBut.update ((s.heap.push { cls := .type "list", data := .seq ([] : List Value).toArray }).update s.heap.objs.size (Obj.mapSeq (·.push Value.none))) s.heap.objs.size (Obj.mapSeq (·.pop)))
  have gone : s.heap.get? s.heap.objs.size = none := by
    cases z : s.heap.get? s.heap.objs.size with
    | none => rfl
    | some o => exact absurd (Heap.lt_size z) (Nat.lt_irrefl _)
  have lts : c < s.heap.objs.size ∧ tI < s.heap.objs.size ∧ tO < s.heap.objs.size ∧ p < s.heap.objs.size ∧ q < s.heap.objs.size ∧ l < s.heap.objs.size ∧ m < s.heap.objs.size := by
    obtain ⟨_, x1, _⟩ := hp
    obtain ⟨_, x2, _⟩ := hq
    obtain ⟨_, x3, _⟩ := hl
    obtain ⟨_, x4, _⟩ := hm
    exact ⟨cS, Heap.lt_size hI, Heap.lt_size hO, Heap.lt_size x1, Heap.lt_size x2, Heap.lt_size x3, Heap.lt_size x4⟩
  have G0 : Gath s.heap (s.heap.push { cls := .type "list", data := .seq ([] : List Value).toArray }) s.heap.objs.size c tI tO p q l m us vs 0 [] :=
    ⟨Heap.get?_push_of_some _ hI, hp.at fun o z => Heap.get?_push_of_some _ z, hq.at fun o z => Heap.get?_push_of_some _ z, hl.push _, hm.push _, rfl, fun j T hj => by simp at hj, fun T hT => (nomatch hT), List.Pairwise.nil, .inl ⟨c1, a, b, Heap.get?_push_of_some _ hO⟩, fun b o _ _ _ _ z => Heap.get?_push_of_some _ z, lts⟩
  refine wpAny_pure ⟨plainId_quiet F.plain_extend_loop _, gath_loop hh D gone hus _ _ 0 _ [] _ rfl (Nat.zero_le _) ((G0.past gone e12).past gone e23) l3 fun h' Ts' e' G2 hS3 => ?_⟩
  show wpAny _ A (load s.heap.objs.size >>= _) _ _ _; refine wpAny_bind (wpAny_load hS3 ?_)
  refine wpAny_pure ?_
  exact k h' Ts' G2
end
end K17

end
section
set_option maxHeartbeats 4200000
/-! # list(zip(a, b)) and [*zip(a, b), ..] of tuples, as rules -/
namespace K17
open PySem PySem.Spec PyProof.Rows L2 Evl RZ
section
variable {P : Program} {w : World} {A : Around} {E : Value → Shared → Prop} {S c tI tO p q l m : Addr} {us vs : Array Value}
/-- a list that is empty is filled with zip's pairs -/
theorem gath_fill {R : Result → Shared → Prop} {s : Shared} {h0 : Heap} {e0 : Nat} (hh : A.handled = none) (D : ZipApart c tI tO p q l m) (hus : us.size ≤ 100000) (res : Value) (gone : h0.get? S = none) (G0 : Gath h0 s.heap S c tI tO p q l m us vs 0 []) (hc : IsZip s.heap c tI tO .none)
    (hS : s.heap.get? S = some { cls := .type "list", data := .seq #[] e0 })
    (k : ∀ h' Ts e', Gone h0 h' S c tO p q us vs (min us.size vs.size) Ts → h'.get? S = some { cls := .type "list", dict := none, data := .seq (Ts.map Value.ref).toArray e', slots := #[] } → R (.ok (.ret res)) { s with heap := h' }) :
    wpAny (model P w) A.in1 (Builtin.List.listExtendWith (.ref S) (.ref c) res)
      (fun fin s' => match fin with | .done f => R (.ok f) s' | .again c' => c'.quiet = true ∧ codeAny (model P w) A c' R s') (fun e s' => R (.error e) s') s := by
  have cS : c < S := G0.low.1
  have ty : ∀ {s' : Shared}, IsZip s'.heap c tI tO .none → s'.TypeIs (.ref c) "zip" := fun z => ⟨_, z, rfl⟩
  unfold Builtin.List.listExtendWith; refine wpAny_bind (wpAny_typeOf (T := "zip") (ty hc) ?_)
  have n1 : Builtin.List.listSameRef (.ref S) (.ref c) = false := by simp [Builtin.List.listSameRef, Nat.ne_of_gt cS]
  have n2 : (Value.type "zip" == Value.type "list") = false := by decide
  have n3 : (Value.type "zip" == Value.type "tuple") = false := by decide
  simp only [n1, n2, n3, Bool.or_false, Bool.false_eq_true, if_false]
  refine wpAny_bind (wpAny_pyIter_zip hc ?_)
  refine wpAny_bind (wpAny_holding ?_); unfold Builtin.List.listLengthHint
  refine wpAny_bind (wpAny_specialOf (ty hc) zip_unsized ?_)
  show wpAny _ A.in1 (specialOf (Value.ref c) (Str.ofString "__length_hint__") >>= _) _ _ _
  refine wpAny_bind (wpAny_specialOf (ty hc) zip_unhinted ?_)
  refine wpAny_pure ?_
  show wpAny _ A.in1 (rule "list.extend.makes-room" >>= fun _ => Builtin.List.listTouch (.ref S) >>= fun _ => again (.builtin "list.extend.loop" ⟨[.ref S, .ref c, res], []⟩)) _ _ _
  refine wpAny_bind (wpAny_rule (wpAny_bind ?_)); show wpAny _ A.in1 (updateSeq S (·.push .none) >>= fun _ => updateSeq S (·.pop)) _ _ _
  refine wpAny_bind (wpAny_updateSeq hS rfl ?_); have l2 := Heap.get?_update_self (Obj.mapSeq (·.push Value.none)) hS rfl
  refine wpAny_updateSeq l2 rfl ?_
  have l3 := Heap.get?_update_self (Obj.mapSeq (·.pop)) l2 rfl
  have e12 := Heap.SameBut.update s.heap S (Obj.mapSeq (·.push Value.none))
  have e23 := Heap.SameBut.update (s.heap.update S (Obj.mapSeq (·.push Value.none))) S (Obj.mapSeq (·.pop))
  exact wpAny_pure ⟨plainId_quiet F.plain_extend_loop _, gath_loop hh D gone hus res _ 0 _ [] _ rfl (Nat.zero_le _) ((G0.past gone e12).past gone e23) l3 k⟩
/-- list(zip) -/
theorem gath_list {Q : Value → Shared → Prop} {s : Shared} (hh : A.handled = none) (D : ZipApart c tI tO p q l m) (hus : us.size ≤ 100000) (hc : IsZip s.heap c tI tO .none) (hI : IsPair s.heap tI (.ref p) (.ref q)) {a b : Value} (hO : IsPair s.heap tO a b)
    (hp : s.heap.IsTupleIter p l 0) (hq : s.heap.IsTupleIter q m 0) (hl : s.heap.IsTuple l us) (hm : s.heap.IsTuple m vs)
    (k : ∀ h' Ts e', Gone s.heap h' s.heap.objs.size c tO p q us vs (min us.size vs.size) Ts → h'.get? s.heap.objs.size = some { cls := .type "list", dict := none, data := .seq (Ts.map Value.ref).toArray e', slots := #[] } → Q (.ref s.heap.objs.size) { s with heap := h' }) :
    wpAny (model P w) A (call (.type "list") [.ref c]) Q E s := by
  have gone : s.heap.get? s.heap.objs.size = none := by
    cases z : s.heap.get? s.heap.objs.size with
    | none => rfl
    | some o => exact absurd (Heap.lt_size z) (Nat.lt_irrefl _)
  have lts : c < s.heap.objs.size ∧ tI < s.heap.objs.size ∧ tO < s.heap.objs.size ∧ p < s.heap.objs.size ∧ q < s.heap.objs.size ∧ l < s.heap.objs.size ∧ m < s.heap.objs.size := by
    obtain ⟨_, x1, _⟩ := hp
    obtain ⟨_, x2, _⟩ := hq
    obtain ⟨_, x3, _⟩ := hl
    obtain ⟨_, x4, _⟩ := hm
    exact ⟨Heap.lt_size hc, Heap.lt_size hI, Heap.lt_size hO, Heap.lt_size x1, Heap.lt_size x2, Heap.lt_size x3, Heap.lt_size x4⟩
  refine callType_codes (Q₁ := fun obj s1 => obj = .ref s.heap.objs.size ∧ s1 = { s with heap := s.heap.push { cls := .type "list", data := .seq #[] } }) F.called_list (F.typeCall_list_1 _) F.entry_list_init
    (code_list_new _ ⟨rfl, rfl⟩) fun obj s1 h1 => ?_
  obtain ⟨rfl, rfl⟩ := h1
  have hS : (s.heap.push { cls := .type "list", data := .seq #[] }).get? s.heap.objs.size = some { cls := .type "list", data := .seq #[] } := Heap.get?_push_size _ rfl; have G0 : Gath s.heap (s.heap.push { cls := .type "list", data := .seq #[] }) s.heap.objs.size c tI tO p q l m us vs 0 [] :=
    ⟨Heap.get?_push_of_some _ hI, hp.at fun o z => Heap.get?_push_of_some _ z, hq.at fun o z => Heap.get?_push_of_some _ z, hl.push _, hm.push _, rfl, fun j T hj => by simp at hj, fun T hT => (nomatch hT), List.Pairwise.nil, .inl ⟨Heap.get?_push_of_some _ hc, a, b, Heap.get?_push_of_some _ hO⟩, fun b o _ _ _ _ z => Heap.get?_push_of_some _ z, lts⟩
  refine ⟨⟨_, hS, rfl⟩, F.args_list_init_2 _ _, ?_⟩; show wpAny _ A.in1.in1 (do let old ← Builtin.List.listItems (.ref s.heap.objs.size); Builtin.List.listUpdate (.ref s.heap.objs.size) (fun _ => #[]); letGo old.toList.reverse; Builtin.List.listExtendWith (.ref s.heap.objs.size) (.ref c) .none) _ _ _
  refine wpAny_bind ?_
  unfold Builtin.List.listItems
  refine wpAny_bind (wpAny_seqItems hS rfl (wpAny_pure ?_)); show wpAny _ A.in1.in1 (updateSeq s.heap.objs.size (fun _ => #[]) >>= fun _ => letGo (#[] : Array Value).toList.reverse >>= fun _ => Builtin.List.listExtendWith (.ref s.heap.objs.size) (.ref c) .none) _ _ _
  refine wpAny_bind (wpAny_updateSeq hS rfl ?_); have hS2 := Heap.get?_update_self (Obj.mapSeq (fun _ => (#[] : Array Value))) hS rfl
  have G1 := G0.past gone (Heap.SameBut.update _ s.heap.objs.size (Obj.mapSeq (fun _ => (#[] : Array Value))))
  refine wpAny_bind (wpAny_letGo ?_); have hc2 : IsZip ((s.heap.push { cls := .type "list", data := .seq #[] }).update s.heap.objs.size (Obj.mapSeq (fun _ => (#[] : Array Value)))) c tI tO .none :=
    (Heap.SameBut.update (s.heap.push { cls := .type "list", data := .seq #[] }) s.heap.objs.size (Obj.mapSeq (fun _ => (#[] : Array Value)))).extBut _ _ (Nat.ne_of_lt lts.1) (Heap.get?_push_of_some _ hc)
  exact gath_fill (A := A.in1) hh D hus .none gone G1 hc2 hS2 fun h' Ts e' G2 hS3 => ⟨rfl, k h' Ts e' G2 hS3⟩
end
/-- several new pairs are tracked -/
theorem track {X : Cx} {pins : List (Addr × Obj)} {σ : L2.St} {h' : Heap} {t' : Nat} : ∀ (Ts : List Addr) (ps : List (V × V)) (H : Hp) (s : Shared), Inv X pins σ H s → (∀ b o, s.heap.get? b = some o → h'.get? b = some o) → Ts.Nodup → (∀ T ∈ Ts, s.heap.get? T = none) → Ts.length = ps.length →
    (∀ (j : Nat) T pr, Ts[j]? = some T → ps[j]? = some pr → ∃ u v, RelV pr.1 u ∧ RelV pr.2 v ∧ IsPair h' T u v) →
    ∃ H', Inv X pins σ H' { s with heap := h', toks := t' } ∧ Ex H H' ∧ ∀ (j : Nat) T pr, Ts[j]? = some T → ps[j]? = some pr → H' T = some (.tup [pr.1, pr.2])
  | [], _, H, s, I, k, _, _, _, _ => ⟨H, I.kept k, Ex.refl _, fun j T pr hj _ => by simp at hj⟩
  | T :: Ts, [], _, _, _, _, _, _, hl, _ => by simp at hl
  | T :: Ts, pr :: ps, H, s, I, k, nd, hn, hl, hp => by
    obtain ⟨u, v, r1, r2, hT⟩ := hp 0 T pr rfl rfl
    obtain ⟨nT, nd2⟩ := List.nodup_cons.mp nd
    obtain ⟨G, g1, g2⟩ := restrict h' fun b => decide (b ∉ Ts)
    have inG : ∀ b, b ∉ Ts → G.get? b = h'.get? b := fun b hb => g1 b (decide_eq_true hb)
    have outG : ∀ b, b ∈ Ts → G.get? b = none := fun b hb => g2 b (decide_eq_false fun z => z hb)
    have kG : ∀ b o, s.heap.get? b = some o → G.get? b = some o := fun b o e => (inG b fun z => by rw [hn b (List.mem_cons_of_mem _ z)] at e; cases e).trans (k b o e)
    have hTn := hn T List.mem_cons_self
    have hH : H T = none := I.hok.gone hTn
    have new : ObjOk X.prog X.w (upd H T (.tup [pr.1, pr.2])) G T (.tup [pr.1, pr.2]) := ⟨by show 2 ≤ sizeLine; decide, [u, v], .cons r1 (.cons r2 .nil), ⟨_, (inG T nT).trans hT, rfl, _, rfl⟩⟩
    have I1 : Inv X pins σ (upd H T (.tup [pr.1, pr.2])) { s with heap := G, toks := s.toks } := I.laidN kG hTn hH new
    obtain ⟨H', I2, e2, all⟩ := track (t' := t') Ts ps _ { s with heap := G, toks := s.toks } I1 (fun b o e => by
      by_cases hb : b ∈ Ts
      · have e' : G.get? b = some o := e
        rw [outG b hb] at e'
        cases e'
      · exact (inG b hb).symm.trans e) nd2 (fun b hb => outG b hb) (by simpa using hl) fun j T' pr' h1 h2 => hp (j + 1) T' pr' (by simpa using h1) (by simpa using h2)
    refine ⟨H', I2, (Ex.new hH).trans e2, fun j T' pr' h1 h2 => ?_⟩
    cases j with
    | zero =>
      have eT : T = T' := by simpa using h1
      have ep : pr = pr' := by simpa using h2
      subst eT
      subst ep
      exact e2 _ _ upd_same
    | succ j => exact all j T' pr' (by simpa using h1) (by simpa using h2)
/-- the pairs that zip over two tuples gives, told as values -/
def Pairs (H' : Hp) (xs ys : List V) (Ts : List Addr) : Prop := Ts.length = (xs.zip ys).length ∧ ∀ (j : Nat) T pr, Ts[j]? = some T → (xs.zip ys)[j]? = some pr → H' T = some (.tup [pr.1, pr.2])
theorem Gone.track {X : Cx} {pins : List (Addr × Obj)} {σ : L2.St} {H : Hp} {s : Shared} {h0 h' : Heap} {S c tO p q : Addr} {us vs : List Value} {xs ys : List V} {Ts : List Addr} (G : Gone h0 h' S c tO p q us.toArray vs.toArray (min us.toArray.size vs.toArray.size) Ts) (I : Inv X pins σ H s)
    (hxs : Vals xs us) (hys : Vals ys vs) (k : ∀ b o, s.heap.get? b = some o → h'.get? b = some o) (hS : s.heap.objs.size ≤ S) (t' : Nat) : ∃ H', Inv X pins σ H' { s with heap := h', toks := t' } ∧ Ex H H' ∧ Pairs H' xs ys Ts := by
  have lx := hxs.length
  have ly := hys.length
  have hl : Ts.length = (xs.zip ys).length := by
    rw [G.len, List.length_zip, List.size_toArray, List.size_toArray, lx, ly]
  obtain ⟨H', I', e', all⟩ := K17.track (h' := h') (t' := t') Ts (xs.zip ys) H s I k (G.asc.imp fun h => Nat.ne_of_lt h) (fun T hT => by
    cases z : s.heap.get? T with
    | none => rfl
    | some o => exact absurd (Nat.lt_of_lt_of_le (Heap.lt_size z) (Nat.le_trans hS (Nat.le_of_lt (G.new T hT)))) (Nat.lt_irrefl _)) hl fun j T pr h1 h2 => by
      obtain ⟨u, v, q1, q2, q3⟩ := G.out j T h1
      obtain ⟨z1, z2⟩ := List.getElem?_zip_eq_some.mp h2
      obtain ⟨u', e1, r1⟩ := hxs.get z1
      obtain ⟨v', e2, r2⟩ := hys.get z2
      have eu : u' = u := Option.some.inj (by rw [← e1]; simpa using q1)
      have ev : v' = v := Option.some.inj (by rw [← e2]; simpa using q2)
      exact ⟨u, v, eu ▸ r1, ev ▸ r2, q3⟩
  exact ⟨H', I', e', hl, all⟩
end K17

end
section
set_option maxHeartbeats 4200000
/-! # The rules: list(zip(a, b)), [*zip(a, b), ..], sorted(pairs) -/
namespace K17
open PySem PySem.Spec PyProof.Rows L2 Evl RZ
theorem Gone.less {h0 h G : Heap} {S c tO p q : Addr} {us vs : Array Value} {n : Nat} {Ts : List Addr} (x : Gone h0 h S c tO p q us vs n Ts) (hS : h0.get? S = none) (g : ∀ b, b ≠ S → G.get? b = h.get? b) : Gone h0 G S c tO p q us vs n Ts where
  len := x.len
  out := fun j T hj => by
    obtain ⟨u, v, h1, h2, h3⟩ := x.out j T hj
    exact ⟨u, v, h1, h2, (g T (Nat.ne_of_gt (x.new T (List.mem_of_getElem? hj)))).trans h3⟩
  new := x.new
  asc := x.asc
  keep := fun b o b1 b2 b3 b4 e => (g b fun z => by rw [z, hS] at e; cases e).trans (x.keep b o b1 b2 b3 b4 e)
theorem vals_addrs : ∀ Ts : List Addr, Vals (Ts.map V.ref) (Ts.map Value.ref)
  | [] => .nil
  | T :: Ts => .cons rfl (vals_addrs Ts)
theorem size_gone (h : Heap) : h.get? h.objs.size = none := by
  cases z : h.get? h.objs.size with
  | none => rfl
  | some o => exact absurd (Heap.lt_size z) (Nat.lt_irrefl _)
section
variable {X : Cx} {e1 e2 : Expr} {ta : TA} {t : TA} {es : List Expr} {p p2 pos pos2 sp : Pos}
/-- zip(a, b) of two tuples has been called: the machine's side, for what comes next -/
theorem zip_then {pn : List (Addr × Obj)} {σ : L2.St} {H : Hp} {s : Shared} {R : List V → List V → Hp → Prop} (I : Inv X pn σ H s) (hg : Gl X "zip") (hm : X.mg "zip" = none) (ha : PA X [e1, e2] ta)
    (hs : starEach [e1, e2] X.env = (false, eval e1 X.env) :: starEach [e2] X.env) (hpl : (backTo pos2 (starEach [e2] X.env)).any (·.1) = false) {Q : Value → Shared → Prop}
    (h : ta σ H fun vs H1 => ∃ a b xs ys, vs = [.ref a, .ref b] ∧ SqT X.K H1 a xs ∧ SqT X.K H1 b ys ∧ R xs ys H1)
    (k : ∀ (a b : Addr) (xs ys : List V) (us vs : List Value) (s1 : Shared) (H1 : Hp) (h' : Heap), Inv X pn σ H1 s1 → Vals xs us → Vals ys vs → R xs ys H1 → SqT X.K H1 a xs → SqT X.K H1 b ys →
      IsZip h' (s1.heap.objs.size + 4) (s1.heap.objs.size + 2) (s1.heap.objs.size + 3) .none → IsPair h' (s1.heap.objs.size + 2) (.ref s1.heap.objs.size) (.ref (s1.heap.objs.size + 1)) → IsPair h' (s1.heap.objs.size + 3) .none .none →
      h'.IsTupleIter s1.heap.objs.size a 0 → h'.IsTupleIter (s1.heap.objs.size + 1) b 0 → h'.IsTuple a us.toArray → h'.IsTuple b vs.toArray → h'.objs.size = s1.heap.objs.size + 5 → (∀ c o, s1.heap.get? c = some o → h'.get? c = some o) →
      ZipApart (s1.heap.objs.size + 4) (s1.heap.objs.size + 2) (s1.heap.objs.size + 3) s1.heap.objs.size (s1.heap.objs.size + 1) a b → Q (.ref (s1.heap.objs.size + 4)) { s1 with heap := h' }) :
    wpAny (model X.prog X.w) X.A (eval (.Call (.Name "zip" p2) [e1, e2] [] pos2) X.env) Q X.xe s := by
  refine Call_ (ld_blt I hg hm PyProof.Rows.boot_zip (PyProof.Rows.callWith_type1 (thn (ha.run pos2 pn s σ H _ I h) fun us s1 ⟨vs, H1, I1, r1, q1⟩ => ?_) hs hpl))
  obtain ⟨a, b, xs, ys, ev, hx, hy, q1⟩ := q1
  subst ev
  cases r1 with
  | cons r rr =>
    cases rr with
    | cons r' rr =>
      cases rr
      cases r
      cases r'
      obtain ⟨its, rv, t1, _⟩ := I1.tuple hx
      obtain ⟨its2, rv2, t2, _⟩ := I1.tuple hy
      obtain ⟨o1, ho1, _⟩ := id t1
      obtain ⟨o2, ho2, _⟩ := id t2
      have z1 : s1.heap.IsTuple a its.toArray := t1
      have z2 : s1.heap.IsTuple b its2.toArray := t2
      refine call_zipT z1 z2 fun h' hz hTI hTO h1 h2 hsz hk => ?_
      have up : ∀ {c : Addr} {us : Array Value}, s1.heap.IsTuple c us → h'.IsTuple c us := fun ⟨o, ho, r⟩ => ⟨o, hk _ _ ho, r⟩
      exact k a b xs ys its its2 s1 H1 h' I1 rv rv2 q1 hx hy hz hTI hTO h1 h2 (up z1) (up z2) hsz hk (PySem.W.ktu_apart s1.heap.objs.size a b (Heap.lt_size ho1) (Heap.lt_size ho2))
/-- list(zip(a, b)) -/
def tListZip (K : PySem.W.Frag) (ta : TA) : TE := fun σ H Q => ta σ H fun vs H1 => ∃ a b xs ys, vs = [.ref a, .ref b] ∧ SqT K H1 a xs ∧ SqT K H1 b ys ∧ (xs.length ≤ 1000 ∧ ∀ Ts H2, Ex H1 H2 → Pairs H2 xs ys Ts → ∀ p, H2 p = none → Q (.ref p) (upd H2 p (.lst (Ts.map V.ref))))
theorem pe_listZip (hc : X.calm = true) (hg : Gl X "list") (hm : X.mg "list" = none) (hg2 : Gl X "zip") (hm2 : X.mg "zip" = none) (ha : PA X [e1, e2] ta)
    (hs : starEach [e1, e2] X.env = (false, eval e1 X.env) :: starEach [e2] X.env := by rfl) (hpl : (backTo pos2 (starEach [e2] X.env)).any (·.1) = false := by rfl)
    (hs2 : starEach [.Call (.Name "zip" p2) [e1, e2] [] pos2] X.env = (false, eval (.Call (.Name "zip" p2) [e1, e2] [] pos2) X.env) :: starEach [] X.env := by rfl) :
    PE X (.Call (.Name "list" p) [.Call (.Name "zip" p2) [e1, e2] [] pos2] [] pos) (tListZip X.K ta) := by
  refine ⟨fun pn s σ H Q I h => ?_⟩
  refine Call_ (ld_blt I hg hm (show bootBuiltins "list" = some (.type "list") by decide +kernel) ?_)
  refine PyProof.Rows.callWith_type1 (PyProof.Rows.args_cons ?_ hs2) hs2 rfl
  refine zip_then I hg2 hm2 ha hs hpl h fun a b xs ys us vs s1 H1 h' I1 rx ry q qa qb hz hTI hTO h1 h2 t1 t2 hsz hk D => ?_
  refine PyProof.Rows.args_nil ?_; obtain ⟨hlen, q⟩ := q
  have lx := rx.length
  refine gath_list (P := X.prog) (w := X.w) (s := { s1 with heap := h' }) (I1.ok.hd hc) D (by rw [List.size_toArray]; omega) hz hTI hTO h1 h2 t1 t2 fun g Ts e' G hS => ?_
  have hS' : g.get? h'.objs.size = some { cls := .type "list", dict := none, data := .seq (Ts.map Value.ref).toArray e', slots := #[] } := hS
  obtain ⟨G', g1, g2⟩ := restrict g fun b => decide (b ≠ h'.objs.size)
  have gk : ∀ b, b ≠ h'.objs.size → G'.get? b = g.get? b := fun b hb => g1 b (decide_eq_true hb)
  have ge : G'.get? h'.objs.size = none := g2 _ (by simp)
  have G2 := G.less (size_gone h') gk
  have old : ∀ b o, s1.heap.get? b = some o → G'.get? b = some o := fun b o e => by
    have lt := Heap.lt_size e
    refine G2.keep b o ?_ ?_ ?_ ?_ (hk b o e)
    · exact Nat.ne_of_lt (Nat.lt_add_right 4 lt)
    · exact Nat.ne_of_lt (Nat.lt_add_right 3 lt)
    · exact Nat.ne_of_lt lt
    · exact Nat.ne_of_lt (Nat.lt_add_right 1 lt)
  obtain ⟨H2, I2, e2, pr⟩ := G2.track I1 rx ry old (by show s1.heap.objs.size ≤ h'.objs.size; rw [hsz]; exact Nat.le_add_right _ _) s1.toks
  have hn : H2 h'.objs.size = none := I2.hok.gone ge
  have len : Ts.length ≤ 1000 := by
    have := pr.1
    rw [List.length_zip] at this
    omega
  have I3 : Inv X pn σ (upd H2 h'.objs.size (.lst (Ts.map V.ref))) { s1 with heap := g, toks := s1.toks } := I2.laidN (t' := s1.toks) (fun b o e => by
    by_cases hb : b = h'.objs.size
    · have z : G'.get? b = some o := e
      rw [hb, ge] at z
      cases z
    · exact (gk b hb).symm.trans e) ge hn ⟨by rw [List.length_map, sizeLine_eq]; omega, Ts.map Value.ref, e', vals_addrs Ts, hS'⟩
  exact ⟨.ref h'.objs.size, _, I3, rfl, q Ts H2 e2 pr _ hn⟩
/-- *zip(a, b), .. -/
def tStarZip (K : PySem.W.Frag) (ta t : TA) : TA := fun σ H Q => ta σ H fun vs H1 => ∃ a b xs ys, vs = [.ref a, .ref b] ∧ SqT K H1 a xs ∧ SqT K H1 b ys ∧ (xs.length ≤ 1000 ∧ ∀ Ts H2, Ex H1 H2 → Pairs H2 xs ys Ts → t σ H2 fun ws H3 => Q (Ts.map V.ref ++ ws) H3)
theorem pa_starZip (hc : X.calm = true) (hg2 : Gl X "zip") (hm2 : X.mg "zip" = none) (ha : PA X [e1, e2] ta) (hr : PA X es t)
    (hs : starEach [e1, e2] X.env = (false, eval e1 X.env) :: starEach [e2] X.env := by rfl) (hpl : (backTo pos2 (starEach [e2] X.env)).any (·.1) = false := by rfl)
    (hs2 : starEach (.Starred (.Call (.Name "zip" p2) [e1, e2] [] pos2) sp :: es) X.env = (true, eval (.Call (.Name "zip" p2) [e1, e2] [] pos2) X.env) :: starEach es X.env := by rfl) :
    PA X (.Starred (.Call (.Name "zip" p2) [e1, e2] [] pos2) sp :: es) (tStarZip X.K ta t) := by
  refine ⟨fun pos pn s σ H Q I h => ?_⟩
  refine PySem.W.items_star ?_ hs2
  refine zip_then I hg2 hm2 ha hs hpl h fun a b xs ys us vs s1 H1 h' I1 rx ry q qa qb hz hTI hTO h1 h2 t1 t2 hsz hk D => ?_
  obtain ⟨hlen, q⟩ := q
  have lx := rx.length
  have ty : Shared.TypeIs { s1 with heap := h' } (.ref (s1.heap.objs.size + 4)) "zip" := ⟨_, hz, rfl⟩
  unfold PySem.W.StarOf notIterableAtAll; refine wpAny_bind (wpAny_specialOf ty F.slot_zip_iter.lookup (wpAny_pure ⟨rfl, ?_⟩))
  refine gath_zip (P := X.prog) (w := X.w) (s := { s1 with heap := h' }) (I1.ok.hd hc) D (by rw [List.size_toArray]; omega) hz hTI hTO h1 h2 t1 t2 fun g Ts G => ?_
  have old : ∀ b o, s1.heap.get? b = some o → g.get? b = some o := fun b o e => by
    have lt := Heap.lt_size e
    refine G.keep b o ?_ ?_ ?_ ?_ (hk b o e)
    · exact Nat.ne_of_lt (Nat.lt_add_right 4 lt)
    · exact Nat.ne_of_lt (Nat.lt_add_right 3 lt)
    · exact Nat.ne_of_lt lt
    · exact Nat.ne_of_lt (Nat.lt_add_right 1 lt)
  obtain ⟨H2, I2, e2, pr⟩ := G.track I1 rx ry old (by show s1.heap.objs.size ≤ h'.objs.size; rw [hsz]; exact Nat.le_add_right _ _) s1.toks
  exact thn (hr.run pos pn _ σ H2 _ I2 (q Ts H2 e2 pr)) fun ws s3 ⟨vs3, H3, I3, r3, q3⟩ => ⟨Ts.map V.ref ++ vs3, H3, I3, (vals_addrs Ts).append r3, q3⟩
end
end K17

end
section
set_option maxHeartbeats 4200000
/-! # sorted(pairs); a point put in, as the law does it -/
namespace K17
open PySem PySem.Spec PyProof.Rows L2 Evl RZ PySem.W
def sortD (ds : List PyData) : List PyData := ds.mergeSort (dataLe false id)
section
variable {X : Cx}
/-- sorted(xs), xs a list of tuples of any depth -/
def rSortedD (K : PySem.W.Frag) : List V → Hp → VK → Prop := fun vs H Q => ∃ (a : Addr) (M : List RD), vs = [V.ref a] ∧ SqL K H a (vrefsOf M) ∧ (∀ p ∈ M, Dp K H (.ref p.1) p.2 ∧ p.2.depth ≤ 8) ∧ AllAlike (M.map (·.2)) ∧ Sortable (M.map (·.2)) ∧ M.length ≤ 1000 ∧
  ∀ p, H p = none → Q (.ref p) (upd H p (.lst (vrefsOf (M.mergeSort (dataLe false fun q => q.2)))))
theorem cr_sortedD (hu : X.A.units + 64 < cLine) : CallR X (.builtin "sorted") (rSortedD X.K) := by
  intro pn s σ H vs us Q I r h
  obtain ⟨a, M, rfl, hs, hk, hal, hso, hlen, q⟩ := h
  obtain ⟨es1, ra, hl, hz⟩ := I.list hs
  rw [Vals.ref1 r]
  have ev := refs_vals ra
  subst ev
  refine sorted_data (β := RD) (bs := M) (enc := fun p => p.2) (R := fun (v : Value) (p : RD) => v = .ref p.1) hl.isList (each_refs M) (each_all M fun p hp => Dp.reads I _ _ _ (hk p hp).1 rfl) hal hso (by rw [sizeLine_eq]; omega) (fun p hp => by have := (hk p hp).2; omega) fun out lo eo => ?_
  have eout := refs_each eo
  obtain ⟨ep, he'⟩ := PyProof.Rows.sortedAll_at s.heap (refsOf M) out.toArray
  have perm := List.mergeSort_perm M (dataLe false fun q : RD => q.2)
  exact ⟨.ref _, upd H (s.heap.objs.size + 1) (.lst (vrefsOf (M.mergeSort (dataLe false fun q => q.2)))), I.laid (t' := s.toks) (fun _ _ => PyProof.Rows.sortedAll_old) (Nat.le_succ _) ⟨by rw [vrefsOf, List.length_map, perm.length_eq, sizeLine_eq]; omega, out, ep, by rw [eout]; exact vals_refs _, he'⟩, rfl, q _ (I.hok.fresh (Nat.le_succ _))⟩
end
section
variable {K : PySem.W.Frag} {σ : L2.St} {H H' : Hp} {Δ : Dt} {ta tb te : TE} {tr : TA} {d : PyData} {ds es fs : List PyData}
theorem tups_refs : ∀ (ds : List PyData) (xs : List V), (∀ d ∈ ds, ∃ t, d = .tuple t) → DpAll K H xs ds → ∃ M : List RD, xs = vrefsOf M ∧ M.map (·.2) = ds ∧ ∀ p ∈ M, Dp K H (.ref p.1) p.2
  | [], _, _, h => by cases h; exact ⟨[], rfl, rfl, fun p hp => (nomatch hp)⟩
  | d :: ds, _, ht, h => by
    cases h with
    | cons h1 h2 =>
      obtain ⟨M, e, e2, all⟩ := tups_refs ds _ (fun x hx => ht x (List.mem_cons_of_mem _ hx)) h2
      obtain ⟨t, rfl⟩ := ht d List.mem_cons_self
      obtain ⟨a, ys, rfl, _, _⟩ := dp_ref_tup (K := K) h1
      refine ⟨(a, .tuple t) :: M, by rw [e]; rfl, by simp [e2], fun p hp => ?_⟩
      rcases List.mem_cons.mp hp with z | z
      · rw [z]; exact h1
      · exact all p z
theorem refs_dps : ∀ (M : List RD), (∀ p ∈ M, Dp K H (.ref p.1) p.2) → DpAll K H (vrefsOf M) (M.map (·.2))
  | [], _ => .nil
  | p :: M, h => .cons (h p List.mem_cons_self) (refs_dps M fun q hq => h q (List.mem_cons_of_mem _ hq))
theorem v_sortedD (h : EV K te Δ (.list ds)) (ht : ∀ d ∈ ds, (∃ t, d = .tuple t) ∧ d.depth ≤ 8) (hal : AllAlike ds) (hso : Sortable ds) (hz : ds.length ≤ 1000) : EV K (tCB (rSortedD K) (tCons te tNil)) Δ (.list (sortD ds)) := fun σ H s H1 e Q k => h σ H s H1 e _ fun v H2 e2 hd => by
  obtain ⟨a, xs, rfl, hl, hx⟩ := dp_ref_lst hd
  obtain ⟨M, rfl, rfl, all⟩ := tups_refs ds xs (fun d hd => (ht d hd).1) hx
  refine ⟨a, M, rfl, hl, fun p hp => ⟨all p hp, (ht _ (List.mem_map.mpr ⟨p, hp, rfl⟩)).2⟩, hal, hso, by simpa using hz, fun p hp => ?_⟩
  have e3 := Ex.new (o := .lst (vrefsOf (M.mergeSort (dataLe false fun q => q.2)))) hp
  refine k (.ref p) _ (e2.trans e3) (.lst (.of upd_same) ?_)
  have perm := List.mergeSort_perm M (dataLe false fun q : RD => q.2)
  have es : sortD (M.map (·.2)) = (M.mergeSort (dataLe false fun q => q.2)).map (·.2) := by
    unfold sortD
    exact (List.map_mergeSort (f := fun q : RD => q.2) (r := dataLe false fun q : RD => q.2) (s := dataLe false id) fun a _ b _ => rfl).symm
  rw [es]
  exact refs_dps _ fun q hq => dp_ex e3 _ _ (all q (perm.mem_iff.mp hq))
/-- an expression that makes a new list -/
def EVL (K : PySem.W.Frag) (te : TE) (Δ : Dt) (ds : List PyData) : Prop := ∀ σ H, Sl K σ H Δ → ∀ H1, Ex H H1 → ∀ Q : VK, (∀ l xs H2, Ex H1 H2 → H2 l = some (.lst xs) → DpAll K H2 xs ds → Q (.ref l) H2) → te σ H1 Q
theorem v_new (h : EVL K te Δ ds) : EV K te Δ (.list ds) := fun σ H s H1 e Q k => h σ H s H1 e Q fun l xs H2 e2 hl hx => k (.ref l) H2 e2 (.lst (.of hl) hx)
theorem l_lst (h : EA K tr Δ ds) (hl : ds.length ≤ 100000 := by simp) : EVL K (tLst tr) Δ ds := fun σ H s H1 e Q k => h σ H s H1 e _ fun vs H2 e2 hd =>
  ⟨sz_of (by rw [dps_len hd]; exact hl), fun p hp => k p vs _ (e2.trans (Ex.new hp)) upd_same (dps_ex (Ex.new hp) _ _ hd)⟩
theorem l_cat (ha : EVL K ta Δ ds) (hb : EVL K tb Δ es) (hz : ds.length + es.length ≤ 100000) : EVL K (tOp rCat ta tb) Δ (ds ++ es) := fun σ H s H1 e Q k => ha σ H s H1 e _ fun l xs H2 e2 hl hx =>
  hb σ H s H2 (e.trans e2) _ fun m ys H3 e3 hm hy => ⟨l, m, xs, ys, rfl, rfl, e3 _ _ hl, hm, by
    rw [dps_len hx, dps_len hy, sizeLine_eq]
    omega, fun p hp => k p _ _ ((e2.trans e3).trans (Ex.new hp)) upd_same (dps_app (dps_ex (e3.trans (Ex.new hp)) _ _ hx) (dps_ex (Ex.new hp) _ _ hy))⟩
theorem pairs_dps : ∀ (Ts : List Addr) (xs ys : List V) (ds es : List PyData), Pairs H xs ys Ts → DpAll K H xs ds → DpAll K H ys es → DpAll K H (Ts.map V.ref) ((ds.zip es).map fun p => .tuple [p.1, p.2]) := fun Ts xs ys ds es hp hx hy => by
  have hl : Ts.length = (ds.zip es).length := by rw [hp.1, List.length_zip, List.length_zip, dps_len hx, dps_len hy]
  have key : ∀ (n : Nat) (Ts : List Addr) (ps : List (PyData × PyData)), Ts.length = n → ps.length = n → (∀ (j : Nat) T p, Ts[j]? = some T → ps[j]? = some p → Dp K H (.ref T) (.tuple [p.1, p.2])) → DpAll K H (Ts.map V.ref) (ps.map fun p => .tuple [p.1, p.2]) := by
    intro n
    induction n with
    | zero =>
      intro Ts ps h1 h2 _
      rw [List.eq_nil_of_length_eq_zero h1, List.eq_nil_of_length_eq_zero h2]
      exact .nil
    | succ n ih =>
      intro Ts ps h1 h2 h3
      match Ts, ps, h1, h2, h3 with
      | T :: Ts, p :: ps, h1, h2, h3 => exact .cons (h3 0 T p rfl rfl) (ih Ts ps (by simpa using h1) (by simpa using h2) fun j T' p' q1 q2 => h3 (j + 1) T' p' (by simpa using q1) (by simpa using q2))
  refine key _ Ts (ds.zip es) hl rfl fun j T p h1 h2 => ?_
  obtain ⟨z1, z2⟩ := List.getElem?_zip_eq_some.mp h2
  obtain ⟨v, a1, a2⟩ := dps_at hx z1
  obtain ⟨u, b1, b2⟩ := dps_at hy z2
  have := hp.2 j T (v, u) h1 (List.getElem?_zip_eq_some.mpr ⟨a1, b1⟩)
  exact .tup (.of this) (.cons a2 (.cons b2 .nil))
theorem l_listZip (h : EA K tr Δ [.tuple ds, .tuple es]) (hz : ds.length ≤ 1000) : EVL K (tListZip K tr) Δ ((ds.zip es).map fun p => .tuple [p.1, p.2]) := fun σ H s H1 e Q k => h σ H s H1 e _ fun vs H2 e2 hd => by
  obtain ⟨v, u, rfl, h1, h2⟩ := dps2 hd
  obtain ⟨a, xs, rfl, ha, hx⟩ := dp_ref_tup h1
  obtain ⟨b, ys, rfl, hb, hy⟩ := dp_ref_tup h2
  exact ⟨a, b, xs, ys, rfl, ha, hb, by rw [dps_len hx]; exact hz, fun Ts H3 e3 pr p hp => k p _ _ ((e2.trans e3).trans (Ex.new hp)) upd_same (dps_ex (Ex.new hp) _ _ (pairs_dps Ts xs ys ds es pr (dps_ex e3 _ _ hx) (dps_ex e3 _ _ hy)))⟩
theorem a_starZip {ts : TA} (h : EA K tr Δ [.tuple ds, .tuple es]) (hz : ds.length ≤ 1000) (hr : EA K ts Δ fs) : EA K (tStarZip K tr ts) Δ (((ds.zip es).map fun p => .tuple [p.1, p.2]) ++ fs) := fun σ H s H1 e Q k => h σ H s H1 e _ fun vs H2 e2 hd => by
  obtain ⟨v, u, rfl, h1, h2⟩ := dps2 hd
  obtain ⟨a, xs, rfl, ha, hx⟩ := dp_ref_tup h1
  obtain ⟨b, ys, rfl, hb, hy⟩ := dp_ref_tup h2
  exact ⟨a, b, xs, ys, rfl, ha, hb, by rw [dps_len hx]; exact hz, fun Ts H3 e3 pr => hr σ H s H3 (e.trans (e2.trans e3)) _ fun ws H4 e4 hw => k _ H4 ((e2.trans e3).trans e4) (dps_app (dps_ex e4 _ _ (pairs_dps Ts xs ys ds es pr (dps_ex e3 _ _ hx) (dps_ex e3 _ _ hy))) hw)⟩
end
/-! ### points with values, in order -/
def itemD (z : PV) : PyData := .tuple [rowD z.1, frD z.2]
def sortZ (zs : List PV) : List PV := zs.mergeSort (dataLe false itemD)
theorem sortZ_perm (zs : List PV) : (sortZ zs).Perm zs := List.mergeSort_perm _ _
theorem sortD_items (zs : List PV) : sortD (zs.map itemD) = (sortZ zs).map itemD := by
  unfold sortD sortZ
  exact (List.map_mergeSort (f := itemD) (r := dataLe false itemD) (s := dataLe false id) fun a _ b _ => rfl).symm
theorem alike_fr (p q : Rat) : alike (frD p) (frD q) = true := by simp [frD, alike, alikeAll]
theorem items_alike (zs : List PV) : AllAlike (zs.map itemD) := AllAlike.of fun a b => by
  show alike (.tuple [rowD a.1, frD a.2]) (.tuple [rowD b.1, frD b.2]) = true
  rw [alike, alikeAll, alikeAll, alikeAll, alike_rows, alike_fr]
  rfl
theorem items_sortable (zs : List PV) : Sortable (zs.map itemD) := Sortable.tuples fun b => ⟨_, _, rfl⟩
theorem item_depth (z : PV) : (itemD z).depth ≤ 3 := by
  show (PyData.tuple [rowD z.1, frD z.2]).depth ≤ 3
  rw [PyData.depth, PyData.depthAll, PyData.depthAll, PyData.depthAll, fr_depth]
  have := row_depth z.1
  omega
theorem item_tup (z : PV) : tupOnly (itemD z) = true := by
  have h1 := row_tup z.1
  have h2 := fr_tup z.2
  simp [itemD, tupOnly, tupOnly.tupOnlys, h1, h2]
theorem zip_items (zs : List PV) : (((zs.map (·.1)).map rowD).zip ((zs.map (·.2)).map frD)).map (fun p => PyData.tuple [p.1, p.2]) = zs.map itemD := by
  rw [List.zip_map, zip_fst_snd, List.map_map]
  rfl
inductive R_put : List PyData → PyData → Prop
  | mk (zs : List PV) (x : Row) (v : Rat) : zs.length ≤ 100 → R_put [ptsD zs, valsD zs, rowD x, frD v] (.tuple [ptsD (sortZ (zs ++ [(x, v)])), valsD (sortZ (zs ++ [(x, v)]))])
section
variable {P : Program} {w : World} {K : PySem.W.Frag} {mg : Str → Option Value} {base : Heap} {aN aL : Addr}
theorem c_l_put_in (T : Txt K mg aN aL) (D : Dfn K mg "_law_put_in" s_l_put_in p_l_put_in) : Cal P w K mg base CX0 1 "_law_put_in" p_l_put_in (SpD K R_put) := by
  refine D.sr sc_l_put_in (fun _ _ h => by cases h; rfl) fun f cdv A outer s H E hr ds d hR => ?_
  cases hR with
  | mk zs x v h1 =>
    refine ⟨_, (pss_cons (ps_set (i := 4) sc_l_put_in.nd rfl (.inl rfl) (pe_callB (cr_sortedD hr.units) (by rfl) T.n_sorted (by decide +kernel) (pa_cons (pe_op op_cat (pe_listZip rfl (by rfl) T.n_list (by rfl) T.n_zip (pa_cons (pv 0) (pa_cons (pv 1) pa_nil))) (pe_lst (pa_cons (pe_tup (pa_cons (pv 2) (pa_cons (pv 3) pa_nil))) pa_nil))) pa_nil)))
      (pss_one (ps_ret (pe_tup (pa_cons (pe_callTy call_tuple_of (by rfl) T.n_tuple (by decide +kernel) (pa_cons (pe_lc (own := [("_law_own", 5)]) (g := (gName 5)) (tt := tYes) (by rfl) sc_l_put_in.nd (pi_list (pv 4)) (blkOk_by (own := [("_law_own", 5)]) (N := n_l_put_in) (sc := defScope s_l_put_in) (by decide +kernel)) (fun _ _ _ _ _ => (pg_name (i := 5) sc_l_put_in.nd rfl (.inl rfl) (.inr rfl))) (fun _ _ _ _ _ => pts_nil) (fun _ _ _ _ _ => (pe_ix (show IxR _ (rIx K) from ix_seq) (pv 5) pe_int (fun _ _ => rfl)))) pa_nil)) (pa_cons (pe_callTy call_tuple_of (by rfl) T.n_tuple (by decide +kernel) (pa_cons (pe_lc (own := [("_law_own", 5)]) (g := (gName 5)) (tt := tYes) (by rfl) sc_l_put_in.nd (pi_list (pv 4)) (blkOk_by (own := [("_law_own", 5)]) (N := n_l_put_in) (sc := defScope s_l_put_in) (by decide +kernel)) (fun _ _ _ _ _ => (pg_name (i := 5) sc_l_put_in.nd rfl (.inl rfl) (.inr rfl))) (fun _ _ _ _ _ => pts_nil) (fun _ _ _ _ _ => (pe_ix (show IxR _ (rIx K) from ix_seq) (pv 5) pe_int (fun _ _ => rfl)))) pa_nil)) pa_nil)))))), ?_⟩
    have len : (sortZ (zs ++ [(x, v)])).length ≤ 101 := by
      rw [(sortZ_perm _).length_eq]
      simp
      omega
    have src : EVL K (tOp rCat (tListZip K (tCons (tVar 0) (tCons (tVar 1) tNil))) (tLst (tCons (tTup (tCons (tVar 2) (tCons (tVar 3) tNil))) tNil))) [some (ptsD zs), some (valsD zs), some (rowD x), some (frD v), none, none] ((zs ++ [(x, v)]).map itemD) := by
      have q := l_cat (l_listZip (ds := (zs.map (·.1)).map rowD) (es := (zs.map (·.2)).map frD) (K := K) (Δ := [some (ptsD zs), some (valsD zs), some (rowD x), some (frD v), none, none]) (v_cons (v_var (i := 0) rfl) (v_cons (v_var (i := 1) rfl) v_nil)) (by simp; omega)) (l_lst (ds := [itemD (x, v)]) (v_cons (show EV K _ _ (.tuple [rowD x, frD v]) from v_tup (v_cons (v_var (i := 2) rfl) (v_cons (v_var (i := 3) rfl) v_nil))) v_nil)) (by simp; omega)
      rw [zip_items, ← List.map_singleton (f := itemD), ← List.map_append] at q
      exact q
    refine r_seq (n_asg (i := 4) (v_is (v_sortedD (v_new src) (fun d hd => ?_) (items_alike _) (items_sortable _) (by simp; omega)) (by rw [sortD_items]))) (r_ret (v_tup (v_cons (v_is (v_tupleOf (v_lcL (i := 4) (sortZ (zs ++ [(x, v)])) itemD (fun z => rowD z.1) rfl (by omega) (fun z _ => row_tup _) (by decide) fun z hz => ?_)) ?_) (v_cons (v_is (v_tupleOf (v_lcL (i := 4) (sortZ (zs ++ [(x, v)])) itemD (fun z => frD z.2) rfl (by omega) (fun z _ => fr_tup _) (by decide) fun z hz => ?_)) ?_) v_nil))))
    · obtain ⟨z, _, rfl⟩ := List.mem_map.mp hd
      exact ⟨⟨_, rfl⟩, Nat.le_trans (item_depth z) (by decide)⟩
    · exact v_ixT (n := 0) (ds := [rowD z.1, frD z.2]) (v_var rfl) v_ci rfl
    · show PyData.tuple _ = PyData.tuple _
      rw [List.map_map]
      rfl
    · exact v_ixT (n := 1) (ds := [rowD z.1, frD z.2]) (v_var rfl) v_ci rfl
    · show PyData.tuple _ = PyData.tuple _
      rw [List.map_map]
      rfl
end
end K17

end
section
set_option maxHeartbeats 8000000
/-! # Unfit: raised, passed on, caught -/
namespace K17
open PySem PySem.Spec PyProof.Rows L2 Evl RZ
/-! ### data compared -/
section
variable {X : Cx}
def rInT (K : PySem.W.Frag) : R2 := fun x y H Q => ∃ d ds, Dp K H x d ∧ Dp K H y (.tuple ds) ∧ SeqAt.shaped d = true ∧ d.depth ≤ 8 ∧ SeqAt.shaped (.tuple ds) = true ∧ Q (.bl (ds.any fun z => PyData.eqv z d)) H
theorem op_inT (hu : X.A.units + 64 < cLine) : OpR X (compareOp .In) (rInT X.K) := by
  intro pn s σ H x y v u Q I rl rr h
  obtain ⟨d, ds, hd, he, sd, dd, se, q⟩ := h
  obtain ⟨as, r1⟩ := Dp.reads I d x v hd rl
  obtain ⟨bs, r2⟩ := Dp.reads I (.tuple ds) y u he rr
  exact SeqAt.in_tuple_reads r2 r1 (SeqAt.canLay_of_shaped se) (SeqAt.canLay_of_shaped sd) (by have := Nat.min_le_right (PyData.depthAll ds) d.depth; omega) ⟨.bl _, H, I, rfl, q⟩
end
theorem v_inT {K : PySem.W.Frag} {Δ : Dt} {ta tb : TE} {d : PyData} {ds : List PyData} (ha : EV K ta Δ d) (hb : EV K tb Δ (.tuple ds)) (h1 : SeqAt.shaped d = true) (h2 : d.depth ≤ 8) (h3 : SeqAt.shaped (.tuple ds) = true) :
    EV K (tOp (rInT K) ta tb) Δ (.bool (ds.any fun z => PyData.eqv z d)) := fun σ H s H1 e Q k => ha σ H s H1 e _ fun v H2 e2 hd => hb σ H s H2 (e.trans e2) _ fun w H3 e3 hd' => ⟨d, ds, dp_ex e3 _ _ hd, hd', h1, h2, h3, k _ _ (e2.trans e3) (.bl _)⟩
theorem eqv_fr (p q : Rat) : PyData.eqv (frD p) (frD q) = decide (p = q) := by
  have e : PyData.eqv (frD p) (frD q) = ((p.num == q.num) && (((p.den : Int) == (q.den : Int)) && true)) := by simp only [frD, PyData.eqv, PyData.eqvAll]
  rw [e]
  by_cases h : p = q
  · subst h
    simp
  · rw [decide_eq_false h]
    by_cases h1 : p.num = q.num
    · by_cases h2 : p.den = q.den
      · exact absurd (Rat.ext h1 h2) h
      · have z : ((p.den : Int) == (q.den : Int)) = false := beq_eq_false_iff_ne.mpr (by omega)
        rw [z, Bool.false_and, Bool.and_false]
    · rw [beq_eq_false_iff_ne.mpr h1, Bool.false_and]
theorem eqv_frs : ∀ r x : Row, PyData.eqvAll (r.map frD) (x.map frD) = decide (r = x)
  | .nil, .nil => by simp [PyData.eqvAll]
  | [], q :: x => by simp [PyData.eqvAll]
  | p :: r, [] => by simp [PyData.eqvAll]
  | p :: r, q :: x => by
    show PyData.eqvAll (frD p :: r.map frD) (frD q :: x.map frD) = _
    rw [PyData.eqvAll, eqv_fr, eqv_frs r x]
    by_cases h1 : p = q <;> by_cases h2 : r = x <;> simp [h1, h2]
theorem eqv_row (r x : Row) : PyData.eqv (rowD r) (rowD x) = decide (r = x) := by
  show PyData.eqv (.tuple (r.map frD)) (.tuple (x.map frD)) = _
  rw [PyData.eqv]
  exact eqv_frs r x
theorem lay_fr (q : Rat) : (frD q).canLay0 = true := by simp [frD, PyData.canLay0, PyData.canLayAll0]
theorem lay_frs : ∀ r : Row, PyData.canLayAll0 (r.map frD) = true
  | .nil => by simp [PyData.canLayAll0]
  | q :: r => by
    show PyData.canLayAll0 (frD q :: r.map frD) = true
    rw [PyData.canLayAll0, lay_fr, lay_frs r]
    rfl
theorem lay_row (r : Row) : (rowD r).canLay0 = true := by
  show (PyData.tuple (r.map frD)).canLay0 = true
  rw [PyData.canLay0]
  exact lay_frs r
theorem lay_rows : ∀ g : List Row, PyData.canLayAll0 (g.map rowD) = true
  | .nil => by simp [PyData.canLayAll0]
  | r :: g => by
    show PyData.canLayAll0 (rowD r :: g.map rowD) = true
    rw [PyData.canLayAll0, lay_row, lay_rows g]
    rfl
theorem shape_fr (q : Rat) : SeqAt.shaped (frD q) = true := by
  show ((frD q).canLay0 && decide ((frD q).depth ≤ 64)) = true
  rw [lay_fr, fr_depth]
  rfl
theorem shape_row (r : Row) : SeqAt.shaped (rowD r) = true := by
  show ((rowD r).canLay0 && decide ((rowD r).depth ≤ 64)) = true
  rw [lay_row, Bool.true_and, decide_eq_true_eq]
  exact Nat.le_trans (row_depth r) (by decide)
theorem shape_rows (g : List Row) : SeqAt.shaped (rowsD g) = true := by
  show ((rowsD g).canLay0 && decide ((rowsD g).depth ≤ 64)) = true
  have l : (rowsD g).canLay0 = true := by
    show (PyData.tuple (g.map rowD)).canLay0 = true
    rw [PyData.canLay0]
    exact lay_rows g
  rw [l, Bool.true_and, decide_eq_true_eq]
  exact Nat.le_trans (rows_depth g) (by decide)
theorem any_rows (ps : List Row) (x : Row) : (ps.map rowD).any (fun z => PyData.eqv z (rowD x)) = decide (x ∈ ps) := by
  rw [List.any_map]
  induction ps with
  | nil => simp
  | cons p ps ih =>
    rw [List.any_cons, ih]
    show (PyData.eqv (rowD p) (rowD x) || _) = _
    rw [eqv_row]
    by_cases h1 : p = x
    · subst h1; simp
    · have h2 : ¬ x = p := fun z => h1 z.symm
      simp [h1, h2]
/-! ### the class -/
structure Unf (K : PySem.W.Frag) (mg : Str → Option Value) (CU : Addr) : Prop where
  g : mg "Unfit" = some (.ref CU)
  x : PySem.W.excIn K CU [.type "ValueError", .type "Exception", .type "BaseException", .type "object"] "ValueError.__new__" = true
  k : PySem.W.keepIn K (.ref CU) = true
  b : PySem.W.subIn K (.ref CU) (.type "BaseException") = some true
  t : PySem.W.typeIn K (.ref CU) = some (.type "type")
  m : PySem.W.exmOne K (.ref CU) (.ref CU) = some true
  e : ExcC K CU
  v : PySem.W.kitOne K (.ref CU) (.type "ValueError") = some true
section
variable {X : Cx} {C : Addr} {bmB : List Value} {B newId initId : String} {x : Str} {p pos : Pos}
/-- X() of an own class without own __init__ -/
theorem pmk_own0 (F : ExcBaseFacts B newId initId bmB) (q : PySem.W.excIn X.K C bmB newId = true) (gC : X.mg x = some (.ref C)) (kC : PySem.W.keepIn X.K (.ref C) = true) (r : Raises X (.ref C)) (hg : Gl X x)
    (hdb : (x == ("__debug__" : Str)) = false := by decide) : PMk X (.Call (.Name x p) [] [] pos) (fun _ H Q => Q (.ref C) none H) := by
  intro pn s σ H Q I h
  refine wpAny_Call_Name_kw (ld_glob I hg gC ?_ hdb); refine PySem.W.callWith_K0 I.kIn kC ?_
  show wpAny _ _ (call (.ref C) []) _ _ _
  obtain ⟨bm, N, nm, qn, bs, hdct, sn, sub, ab, col, dd, k0, k1, k2, k3, k5, mN, hC, hN, hni, tl⟩ := exc_obj I.kIn q
  exact wpAny_call_exc_subT F tl hC hN hni (fun h' e hm => mk_of I hm r h (I.hok.gone hm.new)) (Nat.zero_le _)
end
/-- isinstance(e, ..), e the error that the suite holds, if it is one of the class C -/
def tIsErr (K : PySem.W.Frag) (C a : Addr) (cls : Value) (d : Option Addr) (t : TA) : TE := fun σ H Q => cls = .ref C ∧ d = none ∧ tCB (rIsE K C a) t σ H Q
section
variable {X : Cx} {C a : Addr} {oe : Obj} {cls : Value} {d : Option Addr} {pn : List (Addr × Obj)} {e : Expr} {es : List Expr} {t : TA} {p pos : Pos}
theorem pe_isErr (E : ExcC X.K C) (hz : Zc cls d oe) (hf : ∃ vs, oe.data = .fields vs) (hg : Gl (X.suite a ((a, oe) :: pn)) "isinstance") (hm : (X.suite a ((a, oe) :: pn)).mg "isinstance" = none) (ha : PA (X.suite a ((a, oe) :: pn)) (e :: es) t)
    (he : starEach (e :: es) (X.suite a ((a, oe) :: pn)).env = (false, eval e (X.suite a ((a, oe) :: pn)).env) :: starEach es (X.suite a ((a, oe) :: pn)).env := by rfl) (hpl : (backTo pos (starEach es (X.suite a ((a, oe) :: pn)).env)).any (·.1) = false := by rfl) :
    PE (X.suite a ((a, oe) :: pn)) (.Call (.Name "isinstance" p) (e :: es) [] pos) (tIsErr X.K C a cls d t) := ⟨fun pn s σ H Q I h => by
  obtain ⟨rfl, rfl, h⟩ := h
  exact (pe_callB (call_isE E hz hf) hg hm (show bootBuiltins "isinstance" = some (.builtin "isinstance") by decide +kernel) ha (by decide) (by decide) he hpl).run pn s σ H Q I h⟩
end
/-- a def that may raise, by its promise -/
structure CalX (P : Program) (w : World) (K : PySem.W.Frag) (mg : Str → Option Value) (base : Heap) (k : Nat) (name : Str) (ps : List Str) (sp : Sp) : Prop where
  ex : ∃ (f : Addr) (fd : FuncData), FnOk P w K mg base (L2.CX P w) k f fd ps sp ∧ mg name = some (.ref f) ∧ PySem.W.keepIn K (.ref f) = true ∧ Binds K fd ps []
section
variable {X : Cx} {W : WX} {k : Nat} {x : Str} {ps : List Str} {sp : Sp} {p pos : Pos} {e : Expr} {es : List Expr} {t : TA}
theorem pe_calX (C : CalX X.prog X.w X.K X.mg X.base k x ps sp) (hr : Room k X.A) (tk : Takes X W) (ha : PA X (e :: es) t) (hg : Gl X x := by rfl) (hdb : (x == ("__debug__" : Str)) = false := by decide)
    (he : starEach (e :: es) X.env = (false, eval e X.env) :: starEach es X.env := by rfl)
    (hb : (backTo pos (starEach es X.env)).any (·.1) = false := by rfl) :
    PE X (.Call (.Name x p) (e :: es) [] pos) (tCallS sp (WE W) t) := by
  obtain ⟨f, fd, F, m, kp, b⟩ := C.ex
  exact pe_callS F hr hg m kp b (fun σ => passAt tk σ) ha hdb he hb
end
section
variable {P : Program} {w : World} {K : PySem.W.Frag} {mg : Str → Option Value} {base : Heap} {name : Str} {st : Stmt} {ps N : List Str} {k : Nat}
theorem Dfn.okX {sp : Sp} (D : Dfn K mg name st ps) (S : FnScope N ps (defScope st)) (len : ∀ vs H Q E, sp vs H Q E → vs.length = ps.length)
    (hbody : ∀ (f : Addr) (cdv : Value) (A : Around) (outer : List Env) (s : Shared) (H : Hp) (vs : List V) (Q : VK) (E : XK), Room k (A.deeper (envOfC name (defScope st) s.heap.objs.size f cdv)) → sp vs H Q E →
      ∃ t, PSs (cxOf (L2.CX P w) P w K mg base N name (defScope st) f cdv A outer s H E) (defBody st) t ∧ t { nx := fun _ H' => Q .non H', rt := Q } (start N vs) H) : CalX P w K mg base (k + 1) name ps sp := by
  obtain ⟨f, fd, F, m, b⟩ := D.ex
  exact ⟨f, fd, F.okX S len fun cdv A outer s H vs Q E hr h => hbody f cdv A outer s H vs Q E hr h, m, F.kp, b⟩
end
/-! ### sure_let -/
def SpSure (K : PySem.W.Frag) (CU : Addr) : Sp := fun vs H Q E => ∃ (n : Nat) (g : List Row) (zs : List PV) (dg dp dv : PyData), DpAll K H vs [dg, dp, dv] ∧ tupD dg = rowsD g ∧ tupD dp = ptsD zs ∧ tupD dv = valsD zs ∧ GOk n g ∧ ZOk n zs ∧
  (Let g zs → RetD K (.tuple [ptsD zs, valsD zs]) H Q) ∧ (¬ Let g zs → ∀ H', Ex H H' → E (.ref CU) none H')
section
variable {P : Program} {w : World} {K : PySem.W.Frag} {mg : Str → Option Value} {base : Heap} {aN aL CU : Addr}
theorem c_sure_let2 (T : Txt K mg aN aL) (U : Unf K mg CU) (D : Dfn K mg "sure_let" s_sure_let p_sure_let) (C_is_let : Cal P w K mg base CX0 9 "is_let" p_is_let (SpD K R_isLet)) (C_tupled : Cal P w K mg base CX0 4 "tupled" p_tupled (SpD K (R_tup 4))) :
    CalX P w K mg base 10 "sure_let" p_sure_let (SpSure K CU) := by
  refine D.okX sc_sure_let (fun vs H Q E ⟨n, g, zs, dg, dp, dv, h, _⟩ => dps_len h) fun f cdv A outer s H vs Q E hr ⟨n, g, zs, dg, dp, dv, hd, h1, h2, h3, h4, h5, q, qe⟩ => ?_
  refine ⟨_, (pss_cons (ps_if (pt_not (pt_val (pe_cal C_is_let (hr.mono (by decide)) (pa_cons (pv 0) (pa_cons (pv 1) (pa_cons (pv 2) pa_nil)))))) (pss_one (ps_raise rfl (takes_of rfl rfl rfl rfl) (pmk_own0 PySem.F.excBase_ValueError U.x U.g U.k (raises_own U.b U.t) rfl))) pss_nil)
      (pss_one (ps_ret (pe_tup (pa_cons (pe_cal C_tupled (hr.mono (by decide)) (pa_cons (pv 1) pa_nil)) (pa_cons (pe_cal C_tupled (hr.mono (by decide)) (pa_cons (pv 2) pa_nil)) pa_nil)))))), ?_⟩
  have st : Sl K (L2.start n_sure_let vs) H [some dg, some dp, some dv] := sl_start hd
  have ask := b_not (b_B (v_call (K := K) (R := R_isLet) (Δ := [some dg, some dp, some dv]) (v_cons (v_var (i := 0) rfl) (v_cons (v_var (i := 1) rfl) (v_cons (v_var (i := 2) rfl) v_nil))) (.mk n g zs dg dp dv h1 h2 h3 h4 h5)))
  refine q_when (ask _ H st) (fun eb H1 e1 => ?_) fun eb H1 e1 => ?_
  · refine qe (fun hL => ?_) H1 e1
    rw [broken_none.mpr hL] at eb
    exact absurd eb (by decide)
  · have hL : Let g zs := by
      rw [← broken_none]
      cases hb : brokenP g zs with
      | none => rfl
      | some p => rw [hb] at eb; exact absurd eb (by simp)
    have n2 := h4.n1
    refine r_ret (v_tup (v_cons (v_call (v_cons (v_var rfl) v_nil) (h5.tupP n2 h2 (by decide))) (v_cons (v_call (v_cons (v_var rfl) v_nil) (h5.tupV h3 (by decide))) v_nil))) _ _ H1 (st.ex e1) ?_
    exact (q hL).go e1
end
end K17

end
section
set_option maxHeartbeats 8000000
/-! # with_point; what the law hears of it -/
namespace K17
open PySem PySem.Spec PyProof.Rows L2 Evl RZ
def okW (g : List Row) (zs : List PV) (x : Row) (v : Rat) : Prop := Let g zs ∧ x ∉ zs.map (·.1) ∧ Let g (zs ++ [(x, v)])
def SpWith (K : PySem.W.Frag) (CU : Addr) : Sp := fun vs H Q E => ∃ (n : Nat) (g : List Row) (zs : List PV) (x : Row) (v : Rat) (dg dp dv dx dq : PyData), DpAll K H vs [dg, dp, dv, dx, dq] ∧ tupD dg = rowsD g ∧ tupD dp = ptsD zs ∧ tupD dv = valsD zs ∧ tupD dx = rowD x ∧ tupD dq = frD v ∧
  GOk n g ∧ ZOk n zs ∧ zs.length ≤ 5 ∧ PtOk n x ∧ Bd 504 1000 v ∧ (okW g zs x v → RetD K (.tuple [ptsD (sortZ (zs ++ [(x, v)])), valsD (sortZ (zs ++ [(x, v)]))]) H Q) ∧ (¬ okW g zs x v → ∀ H', Ex H H' → E (.ref CU) none H')
section
variable {K : PySem.W.Frag} {σ : L2.St} {H H' : Hp} {Δ : Dt} {ta tb te : TE} {tr : TA} {d d1 d2 d3 : PyData} {ds : List PyData} {v : V}
theorem k_sure {CU : Addr} {W : WX} {n : Nat} {g : List Row} {zs : List PV} {dg dp dv : PyData} {Q : VK} {H1 : Hp} (h : EA K tr Δ [dg, dp, dv]) (s : Sl K σ H Δ) (e : Ex H H1) (h1 : tupD dg = rowsD g) (h2 : tupD dp = ptsD zs) (h3 : tupD dv = valsD zs) (h4 : GOk n g) (h5 : ZOk n zs)
    (yes : Let g zs → ∀ v H2, Ex H1 H2 → Dp K H2 v (.tuple [ptsD zs, valsD zs]) → Q v H2) (no : ¬ Let g zs → ∀ H2, Ex H1 H2 → W (.ref CU) none σ H2) : tCallS (SpSure K CU) (WE W) tr σ H1 Q :=
  h σ H s H1 e _ fun vs H2 e2 hd => ⟨n, g, zs, dg, dp, dv, hd, h1, h2, h3, h4, h5, fun hL v H3 e3 hv => yes hL v H3 (e2.trans e3) hv, fun hn H3 e3 => no hn H3 (e2.trans e3)⟩
theorem g_PP {i j l : Nat} {Q : L2.St → Hp → Prop} (hd : Dp K H v (.tuple [.tuple [d1, d2], d3])) (k : ∀ a b c, Dp K H a d1 → Dp K H b d2 → Dp K H c d3 → Q (((σ.set i (some a)).set j (some b)).set l (some c)) H) :
    gTup K 2 (gCons (gTup K 2 (gCons (gName i) (gCons (gName j) gNil))) (gCons (gName l) gNil)) v σ H Q := by
  obtain ⟨a, xs, rfl, hs, hx⟩ := dp_ref_tup hd
  obtain ⟨v1, v2, rfl, h1, h2⟩ := dps2 hx
  obtain ⟨b, ys, rfl, ht, hy⟩ := dp_ref_tup h1
  obtain ⟨u1, u2, rfl, g1, g2⟩ := dps2 hy
  exact ⟨a, _, rfl, hs, rfl, _, _, rfl, ⟨b, _, rfl, ht, rfl, _, _, rfl, _, [], rfl, rfl, _, [], rfl, rfl, k _ _ _ g1 g2 h2⟩⟩
/-- [e for j, k in pairs that stand] -/
theorem v_lcI {i j k : Nat} {vs : List Nat} (Z : List PV) (f : PV → PyData) (h : Δ[i]? = some (some (.list (Z.map itemD)))) (hz : Z.length ≤ 40000) (ht : ∀ z ∈ Z, tupOnly (f z) = true) (hj : j ∈ vs) (hk : k ∈ vs)
    (he : ∀ z ∈ Z, EV K te (((wipeD Δ vs).set j (some (rowD z.1))).set k (some (frD z.2))) (f z)) : EV K (tLc (iList K (tVar i)) (gTup K 2 (gCons (gName j) (gCons (gName k) gNil))) tYes te vs) Δ (.list (Z.map f)) := fun σ H s => by
  obtain ⟨v, h1, h2⟩ := s.at_ i _ h
  refine d_lc (Z.map f) (src_vl h1 h2) (by simp) (by simpa using hz) (tupOnlys_all.mpr fun d hd => ?_) ?_
  · obtain ⟨a, ha, rfl⟩ := List.mem_map.mp hd
    exact ht a ha
  · rintro n f' x H1 H2 hf e ⟨rfl, d, hd, hx⟩ Q q
    rw [List.getElem?_map] at hd hf
    cases ha : Z[n]? with
    | none => rw [ha] at hd; cases hd
    | some a =>
      rw [ha] at hd hf
      obtain rfl : itemD a = d := Option.some.inj hd
      obtain rfl : f a = f' := Option.some.inj hf
      obtain ⟨c, xs, rfl, hs, hy⟩ := dp_ref_tup (dp_ex e _ _ hx)
      obtain ⟨v1, v2, rfl, g1, g2⟩ := dps2 hy
      exact ⟨c, _, rfl, hs, rfl, _, _, rfl, _, [], rfl, rfl, q _ _ (Ex.refl _) e (wipe_two hj hk _ _) (he a (List.mem_of_getElem? ha) _ _ ((((s.ex e).wipe vs).put j g1).put k g2))⟩
end
theorem tup_list {ds : List PyData} (h : ∀ d ∈ ds, tupOnly d = true) : tupD (.list ds) = .tuple ds := by
  rw [tupD, tups_same ds (tupOnlys_all.mpr h)]
theorem zok_more {n : Nat} {zs : List PV} {x : Row} {v : Rat} (h : ZOk n zs) (hl : zs.length ≤ 5) (hx : PtOk n x) (hv : Bd 504 1000 v) : ZOk n (sortZ (zs ++ [(x, v)])) := by
  have p := sortZ_perm (zs ++ [(x, v)])
  refine ⟨fun z => ?_, ?_, fun z hz => ?_, fun z hz => ?_⟩
  · have q := p.length_eq
    rw [z] at q
    simp at q
  · rw [p.length_eq]; simp; omega
  · rcases List.mem_append.mp (p.mem_iff.mp hz) with c | c
    · exact h.pt z c
    · rw [List.mem_singleton.mp c]; exact hx
  · rcases List.mem_append.mp (p.mem_iff.mp hz) with c | c
    · exact h.vl z c
    · rw [List.mem_singleton.mp c]; exact hv
section
variable {P : Program} {w : World} {K : PySem.W.Frag} {mg : Str → Option Value} {base : Heap} {aN aL CU : Addr}
theorem c_with_point (T : Txt K mg aN aL) (U : Unf K mg CU) (D : Dfn K mg "with_point" s_with_point p_with_point) (C_sure_let : CalX P w K mg base 10 "sure_let" p_sure_let (SpSure K CU)) (C_tupled : Cal P w K mg base CX0 4 "tupled" p_tupled (SpD K (R_tup 4))) :
    CalX P w K mg base 11 "with_point" p_with_point (SpWith K CU) := by
  refine D.okX sc_with_point (fun vs H Q E ⟨n, g, zs, x, v, dg, dp, dv, dx, dq, h, _⟩ => dps_len h) fun f cdv A outer s H vs Q E hr ⟨n, g, zs, x, v, dg, dp, dv, dx, dq, hd, h1, h2, h3, h4, h5, hg, hz, hl, hx, hv, q, qe⟩ => ?_
  refine ⟨_, (pss_cons (ps_asg (pe_tup (pa_cons (pe_calX C_sure_let (hr.mono (by decide)) (takes_of rfl rfl rfl rfl) (pa_cons (pv 0) (pa_cons (pv 1) (pa_cons (pv 2) pa_nil)))) (pa_cons (pe_cal C_tupled (hr.mono (by decide)) (pa_cons (pv 3) pa_nil)) pa_nil))) (pg_tup (n := 2) rfl (pgs_cons (pg_tup (n := 2) rfl (pgs_cons (pg_name (i := 5) sc_with_point.nd rfl (.inl rfl)) (pgs_cons (pg_name (i := 6) sc_with_point.nd rfl (.inl rfl)) pgs_nil))) (pgs_cons (pg_name (i := 7) sc_with_point.nd rfl (.inl rfl)) pgs_nil))))
      (pss_cons (ps_if (pt_cmpR (op_inT hr.units) (pv 7) (pv 5) (by rfl)) (pss_one (ps_raise rfl (takes_of rfl rfl rfl rfl) (pmk_own0 PySem.F.excBase_ValueError U.x U.g U.k (raises_own U.b U.t) rfl))) pss_nil)
      (pss_cons (ps_set (i := 8) sc_with_point.nd rfl (.inl rfl) (pe_callB (cr_sortedD hr.units) (by rfl) T.n_sorted (by decide +kernel) (pa_cons (pe_lst (pa_starZip rfl (by rfl) T.n_zip (pa_cons (pv 5) (pa_cons (pv 6) pa_nil)) (pa_cons (pe_tup (pa_cons (pv 7) (pa_cons (pe_cal C_tupled (hr.mono (by decide)) (pa_cons (pv 4) pa_nil)) pa_nil))) pa_nil))) pa_nil)))
      (pss_one (ps_ret (pe_calX C_sure_let (hr.mono (by decide)) (takes_of rfl rfl rfl rfl) (pa_cons (pv 0) (pa_cons (pe_lc (own := [("point", 9), ("_", 10)]) (g := (gTup K 2 (gCons (gName 9) (gCons (gName 10) gNil)))) (tt := tYes) (by rfl) sc_with_point.nd (pi_list (pv 8)) (blkOk_by (own := [("point", 9), ("_", 10)]) (N := n_with_point) (sc := defScope s_with_point) (by decide +kernel)) (fun _ _ _ _ _ => (pg_tup (n := 2) rfl (pgs_cons (pg_name (i := 9) sc_with_point.nd rfl (.inl rfl) (.inr rfl)) (pgs_cons (pg_name (i := 10) sc_with_point.nd rfl (.inl rfl) (.inr rfl)) pgs_nil)))) (fun _ _ _ _ _ => pts_nil) (fun _ _ _ _ _ => (pv 9))) (pa_cons (pe_lc (own := [("_", 10), ("part", 11)]) (g := (gTup K 2 (gCons (gName 10) (gCons (gName 11) gNil)))) (tt := tYes) (by rfl) sc_with_point.nd (pi_list (pv 8)) (blkOk_by (own := [("_", 10), ("part", 11)]) (N := n_with_point) (sc := defScope s_with_point) (by decide +kernel)) (fun _ _ _ _ _ => (pg_tup (n := 2) rfl (pgs_cons (pg_name (i := 10) sc_with_point.nd rfl (.inl rfl) (.inr rfl)) (pgs_cons (pg_name (i := 11) sc_with_point.nd rfl (.inl rfl) (.inr rfl)) pgs_nil)))) (fun _ _ _ _ _ => pts_nil) (fun _ _ _ _ _ => (pv 11))) pa_nil))))))))), ?_⟩
  have st : Sl K (L2.start n_with_point vs) H [some dg, some dp, some dv, some dx, some dq, none, none, none, none, none, none, none] := sl_start hd
  have n2 := hg.n1
  have hx4 : R_tup 4 [dx] (rowD x) := .row h4 (by have := hx.len; omega) (by decide)
  refine k_sure (v_cons (v_var rfl) (v_cons (v_var rfl) (v_cons (v_var rfl) v_nil))) st (Ex.refl _) h1 h2 h3 hg hz (fun hL v1 H1 e1 hv1 => ?_) fun hn H1 e1 => qe (fun ok => hn ok.1) H1 e1
  refine (v_cons (v_call (v_cons (v_var rfl) v_nil) hx4) v_nil) _ H st H1 e1 _ fun ws H2 e2 hws => ?_
  obtain ⟨w1, rfl, hw1⟩ := dps1 hws
  (refine ⟨by show 2 ≤ sizeLine; decide, fun p hp => ?_⟩); have e3 := Ex.new (o := .tup [v1, w1]) hp
  have e03 := (e1.trans e2).trans e3
  refine g_PP (d1 := ptsD zs) (d2 := valsD zs) (d3 := rowD x) (.tup (.of upd_same) (.cons (dp_ex (e2.trans e3) _ _ hv1) (.cons (dp_ex e3 _ _ hw1) .nil))) fun a b c ha hb hc => ?_
  have s3 := ((((st.ex e03).put 5 ha).put 6 hb).put 7 hc)
  dsimp only
  generalize upd H2 p (.tup [v1, w1]) = H3 at s3 e03 ⊢
  generalize (((L2.start n_with_point vs).set 5 (some a)).set 6 (some b)).set 7 (some c) = σ3 at s3 ⊢
  clear hws hw1 hv1 e1 e2
  have ask : ET K (tTest (tOp (rInT K) (tVar 7) (tVar 5))) [some dg, some dp, some dv, some dx, some dq, some (ptsD zs), some (valsD zs), some (rowD x), none, none, none, none] (decide (x ∈ zs.map (·.1))) :=
    b_test (v_is (v_inT (ds := (zs.map Prod.fst).map rowD) (v_var rfl) (v_var rfl) (shape_row x) (Nat.le_trans (row_depth x) (by decide)) (shape_rows (zs.map Prod.fst))) (congrArg PyData.bool (any_rows (zs.map Prod.fst) x)))
  refine q_when (ask _ H3 s3) (fun eb H4 e4 => ?_) fun eb H4 e4 => ?_
  · exact qe (fun ok => ok.2.1 (of_decide_eq_true eb)) H4 (e03.trans e4)
  · have notin : x ∉ zs.map (·.1) := of_decide_eq_false eb
    have s4 := s3.ex e4
    have len : (sortZ (zs ++ [(x, v)])).length ≤ 6 := by
      rw [(sortZ_perm _).length_eq]
      simp
      omega
    have zN := zok_more hz hl hx hv
    refine q_seq (n_asg (i := 8) (v_is (v_sortedD (v_lst (ds := (zs ++ [(x, v)]).map itemD) ?_ (by simp; omega)) (fun d hd => ?_) (items_alike _) (items_sortable _) (by simp; omega)) (by rw [sortD_items])) _ _ H4 s4 fun σ5 H5 e5 s5 => ?_)
    · have q := a_starZip (ds := (zs.map (·.1)).map rowD) (es := (zs.map (·.2)).map frD) (fs := [itemD (x, v)]) (K := K) (Δ := [some dg, some dp, some dv, some dx, some dq, some (ptsD zs), some (valsD zs), some (rowD x), none, none, none, none]) (v_cons (v_var (i := 5) rfl) (v_cons (v_var (i := 6) rfl) v_nil)) (by simp; omega)
        (v_cons (show EV K _ _ (.tuple [rowD x, frD v]) from v_tup (v_cons (v_var (i := 7) rfl) (v_cons (v_call (v_cons (v_var (i := 4) rfl) v_nil) (R_tup.fr (k := 4) h5 (by decide))) v_nil))) v_nil)
      rw [zip_items, ← List.map_singleton (f := itemD), ← List.map_append] at q
      exact q
    · obtain ⟨z, _, rfl⟩ := List.mem_map.mp hd
      exact ⟨⟨_, rfl⟩, Nat.le_trans (item_depth z) (by decide)⟩
    · have e05 := (e03.trans e4).trans e5
      have pL : Let g (sortZ (zs ++ [(x, v)])) ↔ Let g (zs ++ [(x, v)]) := Let.perm (sortZ_perm _)
      refine k_sure (dp := .list ((sortZ (zs ++ [(x, v)])).map fun z => rowD z.1)) (dv := .list ((sortZ (zs ++ [(x, v)])).map fun z => frD z.2)) (v_cons (v_var rfl) (v_cons (v_lcI (i := 8) (sortZ (zs ++ [(x, v)])) (fun z => rowD z.1) rfl (by omega) (fun z _ => row_tup _) (by decide) (by decide) fun z _ => v_var rfl) (v_cons (v_lcI (i := 8) (sortZ (zs ++ [(x, v)])) (fun z => frD z.2) rfl (by omega) (fun z _ => fr_tup _) (by decide) (by decide) fun z _ => v_var rfl) v_nil))) s5 (Ex.refl _) h1 ?_ ?_ hg zN (fun hL2 v2 H6 e6 hv2 => ?_) fun hn H6 e6 => ?_
      · rw [tup_list fun d hd => by
          obtain ⟨z, _, rfl⟩ := List.mem_map.mp hd
          exact row_tup _]
        unfold ptsD rowsD
        rw [List.map_map]
        rfl
      · rw [tup_list fun d hd => by
          obtain ⟨z, _, rfl⟩ := List.mem_map.mp hd
          exact fr_tup _]
        unfold valsD rowD
        rw [List.map_map]
        rfl
      · exact q ⟨hL, notin, pL.mp hL2⟩ v2 H6 (e05.trans e6) hv2
      · exact qe (fun ok => hn (pL.mpr ok.2.2)) H6 (e05.trans e6)
end
end K17

end
section
set_option maxHeartbeats 8000000
/-! # _law_heard: what with_point tells, or 'unfit' -/
namespace K17
open PySem PySem.Spec PyProof.Rows L2 Evl RZ
/-- what with_point is asked with -/
structure Ask (n : Nat) (g : List Row) (zs : List PV) (x : Row) (v : Rat) (ds : List PyData) : Prop where
  is : ∃ dg dp dv dx dq, ds = [dg, dp, dv, dx, dq] ∧ tupD dg = rowsD g ∧ tupD dp = ptsD zs ∧ tupD dv = valsD zs ∧ tupD dx = rowD x ∧ tupD dq = frD v
  gk : GOk n g
  zk : ZOk n zs
  few : zs.length ≤ 5
  xk : PtOk n x
  vk : Bd 504 1000 v
inductive R_heard : List PyData → PyData → Prop
  | yes (n : Nat) (g : List Row) (zs : List PV) (x : Row) (v : Rat) (ds : List PyData) : Ask n g zs x v ds → okW g zs x v → R_heard ds (.tuple [ptsD (sortZ (zs ++ [(x, v)])), valsD (sortZ (zs ++ [(x, v)]))])
  | no (n : Nat) (g : List Row) (zs : List PV) (x : Row) (v : Rat) (ds : List PyData) : Ask n g zs x v ds → ¬ okW g zs x v → R_heard ds (.str "unfit")
section
variable {P : Program} {w : World} {K : PySem.W.Frag} {mg : Str → Option Value} {base : Heap} {aN aL CU : Addr}
theorem c_l_heard (T : Txt K mg aN aL) (U : Unf K mg CU) (D : Dfn K mg "_law_heard" s_l_heard p_l_heard) (C_with_point : CalX P w K mg base 11 "with_point" p_with_point (SpWith K CU)) : Cal P w K mg base CX0 12 "_law_heard" p_l_heard (SpD K R_heard) := by
  refine D.sr sc_l_heard (fun ds d h => ?_) fun f cdv A outer s H E hr ds d hR => ?_
  · cases h with
    | yes n g zs x v ds a b => obtain ⟨_, _, _, _, _, rfl, _⟩ := a.is; rfl
    | no n g zs x v ds a b => obtain ⟨_, _, _, _, _, rfl, _⟩ := a.is; rfl
  refine ⟨_, (pss_cons (ps_asg (pe_tup (pa_cons pe_bl (pa_cons pe_non pa_nil))) (pg_tup (n := 2) rfl (pgs_cons (pg_name (i := 5) sc_l_heard.nd rfl (.inl rfl)) (pgs_cons (pg_name (i := 6) sc_l_heard.nd rfl (.inl rfl)) pgs_nil))))
      (pss_cons (ps_try_as (i := 7) (tb := fun W => tAsg (tCallS (SpWith K CU) (WE W) (tCons (tVar 0) (tCons (tVar 1) (tCons (tVar 2) (tCons (tVar 3) (tCons (tVar 4) tNil)))))) (gName 6)) (ts := fun a cls d => tAsg (tIsErr K CU a cls d (tCons (tVar 7) (tCons (tC (.ty "ValueError")) tNil))) (gName 5)) (Wout := fun _ _ _ _ => False) rfl rfl sc_l_heard.nd rfl rfl ⟨rfl, by decide, .inl U.g⟩ takes0
          (fun W pn xe tk _ => pss_one (ps_set (i := 6) sc_l_heard.nd rfl (.inl rfl) (pe_calX C_with_point (hr.mono (by decide)) tk (pa_cons (pv 0) (pa_cons (pv 1) (pa_cons (pv 2) (pa_cons (pv 3) (pa_cons (pv 4) pa_nil))))))))
          (fun a oe cls d pn hz hf => pss_one (ps_set (i := 5) sc_l_heard.nd rfl (.inl rfl) (pe_isErr U.e hz hf (by rfl) T.n_isinstance (pa_cons (pv 7) (pa_cons (pe_bltn (v := .ty "ValueError") (by rfl) T.n_ValueError (by decide +kernel) rfl) pa_nil))))))
      (pss_one (ps_ret (pe_ifExp (pt_val (pv 5)) pe_str (pv 6)))))), ?_⟩
  have run : ∀ (n : Nat) (g : List Row) (zs : List PV) (x : Row) (v : Rat) (dg dp dv dx dq d : PyData), Ask n g zs x v [dg, dp, dv, dx, dq] → tupD dg = rowsD g → tupD dp = ptsD zs → tupD dv = valsD zs → tupD dx = rowD x → tupD dq = frD v →
      (okW g zs x v → d = .tuple [ptsD (sortZ (zs ++ [(x, v)])), valsD (sortZ (zs ++ [(x, v)]))]) → (¬ okW g zs x v → d = .str "unfit") →
      SR K (tSeq (fun D σ H => tAsg (tCallS (SpWith K CU) (WE (wAs K (.ref CU) 7 (fun a cls d => tAsg (tIsErr K CU a cls d (tCons (tVar 7) (tCons (tC (.ty "ValueError")) tNil))) (gName 5)) (fun _ _ _ _ => False) D)) (tCons (tVar 0) (tCons (tVar 1) (tCons (tVar 2) (tCons (tVar 3) (tCons (tVar 4) tNil)))))) (gName 6) D σ H)
        (tRet (tIf (tB (tVar 5)) (tC (.str "unfit")) (tVar 6)))) [some dg, some dp, some dv, some dx, some dq, some (.bool false), some .none, none] d := fun n g zs x v dg dp dv dx dq d a h1 h2 h3 h4 h5 yes no D σ H s k => by
    have args : EA K (tCons (tVar 0) (tCons (tVar 1) (tCons (tVar 2) (tCons (tVar 3) (tCons (tVar 4) tNil))))) [some dg, some dp, some dv, some dx, some dq, some (.bool false), some .none, none] [dg, dp, dv, dx, dq] :=
      v_cons (v_var rfl) (v_cons (v_var rfl) (v_cons (v_var rfl) (v_cons (v_var rfl) (v_cons (v_var rfl) v_nil))))
    unfold tSeq tAsg tCallS
    dsimp only
    refine args σ H s H (Ex.refl _) _ fun vs H1 e1 hd => ⟨n, g, zs, x, v, dg, dp, dv, dx, dq, hd, h1, h2, h3, h4, h5, a.gk, a.zk, a.few, a.xk, a.vk, fun ok u H2 e2 hu => ?_, fun nok H2 e2 => ⟨true, U.m, fun _ c hc => ?_, fun q => nomatch q⟩⟩
    · have s2 := (s.ex (e1.trans e2)).put 6 hu
      refine r_ret (v_if (b := false) (b_B (v_var rfl)) (fun e => nomatch e) fun _ => v_var rfl) D _ H2 s2 ?_
      rw [← yes ok]
      exact k.go (e1.trans e2)
    · have hl : 7 < σ.length := by rw [s.len]; show 7 < 8; decide
      refine ⟨rfl, rfl, .ref c, List.getElem?_set_self hl, .ty "ValueError", _, true, rfl, fun u r => ?_, U.v, ?_⟩
      · cases r
        rfl
      · have s2 := (((s.ex (e1.trans e2)).drop 7 (some (.ref c))).put 5 (d := .bool true) (v := .bl true) (.bl true)).drop 7 none
        refine r_ret (v_if (b := true) (b_B (v_var rfl)) (fun _ => v_cs) fun e => nomatch e) D _ H2 s2 ?_
        have z := k.go (e1.trans e2)
        rw [no nok] at z
        exact z
  cases hR with
  | yes n g zs x v ds a b =>
    obtain ⟨dg, dp, dv, dx, dq, rfl, h1, h2, h3, h4, h5⟩ := id a.is
    exact r_seq (n_asgP (v_tup (v_cons v_cb (v_cons v_cn v_nil)))) (run n g zs x v dg dp dv dx dq _ a h1 h2 h3 h4 h5 (fun _ => rfl) fun h => absurd b h)
  | no n g zs x v ds a b =>
    obtain ⟨dg, dp, dv, dx, dq, rfl, h1, h2, h3, h4, h5⟩ := id a.is
    exact r_seq (n_asgP (v_tup (v_cons v_cb (v_cons v_cn v_nil)))) (run n g zs x v dg dp dv dx dq _ a h1 h2 h3 h4 h5 (fun h => absurd h b) fun _ => rfl)
end
end K17

end
section
set_option maxHeartbeats 4200000
/-! # The box; the cells of the script -/
namespace K17
open PySem PySem.Spec PyProof.Rows L2 Evl RZ
def intsD (ns : List Int) : PyData := .list (ns.map .int)
section
variable {K : PySem.W.Frag} {σ : L2.St} {H H' : Hp} {Δ : Dt}
theorem dps_ints : ∀ ns : List Int, DpAll K H (ns.map V.int) (ns.map PyData.int)
  | [] => .nil
  | n :: ns => .cons (.int n) (dps_ints ns)
theorem ints_dps : ∀ (ns : List Int) (xs : List V), DpAll K H xs (ns.map PyData.int) → xs = ns.map V.int
  | [], _, h => by cases h; rfl
  | n :: ns, _, h => by
    cases h with
    | cons h1 h2 => rw [dp_int h1, ints_dps ns _ h2]; rfl
theorem sl_swap {i : Nat} {v : V} {d : PyData} (s : Sl K σ H Δ) (hv : σ[i]? = some (some v)) (hd : Dp K H' v d) (hr : ∀ (j : Nat) d', j ≠ i → Δ[j]? = some (some d') → tupOnly d' = true) (t : Tups H H') : Sl K σ H' (Δ.set i (some d)) := ⟨by rw [List.length_set]; exact s.len, fun j d' h => by
  by_cases e : i = j
  · subst e
    have hl : i < Δ.length := by
      have := (List.getElem?_eq_some_iff.mp h).1
      simpa using this
    rw [List.getElem?_set_self hl] at h
    have ed : d = d' := by simpa using h
    subst ed
    exact ⟨v, hv, hd⟩
  · rw [List.getElem?_set_ne e] at h
    obtain ⟨w, h1, h2⟩ := s.at_ j d' h
    exact ⟨w, h1, dp_tups t d' w (hr j d' (Ne.symm e) h) h2⟩⟩
end
/-- _law_box: a new box -/
def SpBox (K : PySem.W.Frag) : Sp := fun vs H Q _ => ∃ (ns : List Int) (k : Nat), DpAll K H vs [intsD ns, .int (k : Int)] ∧ k < ns.length ∧ ns.length ≤ 1000 ∧ ∀ b H', Ex H H' → H b = none → Box H' b 0 → Q (.ref b) H'
def SpCells (K : PySem.W.Frag) : Sp := fun vs H Q _ => ∃ (ns : List Int), DpAll K H vs [intsD ns, .int 2] ∧ ns.length ≤ 1000 ∧ ∀ v H' (ms : List Int), Ex H H' → Dp K H' v (intsD ms) → ms.length ≤ 2 → Q v H'
section
variable {P : Program} {w : World} {K : PySem.W.Frag} {mg : Str → Option Value} {base : Heap} {aN aL : Addr}
theorem c_l_box (T : Txt K mg aN aL) (D : Dfn K mg "_law_box" s_l_box p_l_box) : Cal P w K mg base CX0 1 "_law_box" p_l_box (SpBox K) := by
  refine D.ok sc_l_box (fun vs H Q E ⟨ns, k, h, _⟩ => dps_len h) fun f cdv A outer s H vs Q E hr ⟨ns, k, h, hk, hz, q⟩ => ?_
  refine ⟨_, (pss_cons (ps_set (i := 2) sc_l_box.nd rfl (.inl rfl) (pe_ifExp (pt_cmpR op_lt (pv 1) (pe_callB call_len_seq (by rfl) T.n_len PySem.boot_len (pa_cons (pv 0) pa_nil)) (nomark _)) (pe_ix ix_seq (pv 0) (pv 1) (fun _ _ => rfl)) pe_int))
      (pss_one (ps_ret (pe_lst (pa_cons (pe_op op_mul (pe_callB call_abs (by rfl) T.n_abs (by decide +kernel) (pa_cons (pv 2) pa_nil)) (pe_callTy call_int1 (by rfl) T.n_int (by decide +kernel) (pa_cons (pe_cmpR op_ge (pe_callB call_abs (by rfl) T.n_abs (by decide +kernel) (pa_cons (pv 2) pa_nil)) (pe_op op_pow pe_int pe_int) (nomark _)) pa_nil))) (pa_cons (pe_op op_add (pe_op op_add (pe_op op_mod (pe_callTy call_int1 (by rfl) T.n_int (by decide +kernel) (pa_cons (pv 2) pa_nil)) pe_int) (pe_op op_mul pe_int (pv 1))) pe_int) (pa_cons pe_int pa_nil))))))), ?_⟩
  have st : Sl K (L2.start n_l_box vs) H [some (intsD ns), some (.int (k : Int)), none] := sl_start h
  obtain ⟨c, hc⟩ : ∃ c, ns[k]? = some c := ⟨ns[k]'hk, List.getElem?_eq_getElem _⟩
  have hc2 : (ns.map PyData.int)[k]? = some (.int c) := by rw [List.getElem?_map, hc]; rfl
  refine q_seq (n_asg (i := 2) (d := .int c) (v_if (b := decide ((k : Int) < ((ns.map PyData.int).length : Int))) (b_test (v_opIB (g := fun i j => decide (i < j)) (v_var rfl) (v_lenL (v_var rfl)))) (fun _ => v_ixL (v_var rfl) (v_var rfl) hc2) fun e => ?_) _ _ H st fun σ1 H1 e1 s1 => ?_)
  · have := of_decide_eq_false e
    rw [List.length_map] at this
    omega
  · have sm : EV K (tCB (fun xs H Q => ∃ i, xs = [.int i] ∧ Q (.int (if i < 0 then -i else i)) H) (tCons (tVar 2) tNil)) [some (intsD ns), some (.int (k : Int)), some (.int c)] (.int (if c < 0 then -c else c)) := v_abs (v_var rfl)
    generalize (if c < 0 then -c else c) = m at sm
    have big : EV K (tOp (rI CPow fun i j => .int (i ^ j.toNat)) (tC (.int 10)) (tC (.int 18))) [some (intsD ns), some (.int (k : Int)), some (.int c)] (.int ((10 : Int) ^ (18 : Int).toNat)) := v_opIC (C := CPow) (g := fun i j => i ^ j.toNat) v_ci v_ci ⟨by decide, by decide, by decide⟩
    generalize (10 : Int) ^ (18 : Int).toNat = B at big
    have ev := v_cons (v_mul sm (v_intB (v_opIB (g := fun i j => decide (j ≤ i)) sm big)) (.inr (by split <;> decide)))
      (v_cons (v_add (v_add (v_mod (v_int1 (v_var (K := K) (Δ := [some (intsD ns), some (.int (k : Int)), some (.int c)]) (i := 2) (d := .int c) rfl)) (v_ci (i := 2305843009213693951)) (by decide)) (v_mul (v_ci (i := 39373)) (v_var (i := 1) (d := .int (k : Int)) rfl) (.inl ⟨by decide, by decide⟩))) (v_ci (i := 7989))) (v_cons (v_ci (i := 0)) v_nil))
    unfold tRet tLst
    dsimp only
    refine ev σ1 H1 s1 H1 (Ex.refl _) _ fun ws H2 e2 hw => ⟨sz_of (by rw [dps_len hw]; show 3 ≤ 100000; decide), fun p hp => ?_⟩
    obtain ⟨w1, w2, w3, rfl, a1, a2, a3⟩ := dps3 hw
    have ex := (e1.trans e2).trans (Ex.new (o := .lst [w1, w2, w3]) hp)
    refine q p _ ex (fresh_back (e1.trans e2) hp) ?_
    rw [dp_int a1, dp_int a2, dp_int a3]
    exact ⟨_, _, _, upd_same, Int.le_refl _, Int.le_refl _⟩
/-- the cells: the first two, or a zero -/
theorem cut2 (xs : List V) : cutV xs none (some 2) = xs.take 2 := by
  unfold cutV
  rw [HT.sIx_none, show (2 : Int) = ((2 : Nat) : Int) from rfl, HT.sIx_nat, List.drop_zero, Nat.sub_zero]
  by_cases h : 2 ≤ xs.length
  · rw [Nat.min_eq_left h]
  · rw [Nat.min_eq_right (by omega), List.take_length, List.take_of_length_le (by omega)]
theorem cut63 (xs : List V) : ∃ ys, cutV xs (some 2) (some 63) = ys ∧ (∀ y ∈ ys, y ∈ xs) ∧ (ys ≠ [] → 2 ≤ xs.length) ∧ ys.length ≤ 100 := by
  refine ⟨_, rfl, fun y hy => ?_, fun hn => ?_, ?_⟩
  · exact List.mem_of_mem_drop (List.mem_of_mem_take hy)
  · unfold cutV at hn
    rw [show (2 : Int) = ((2 : Nat) : Int) from rfl, HT.sIx_nat] at hn
    by_cases h : 2 ≤ xs.length
    · exact h
    · exfalso
      apply hn
      rw [Nat.min_eq_right (by omega), List.drop_length, List.take_nil]
  · unfold cutV
    rw [show (2 : Int) = ((2 : Nat) : Int) from rfl, show (63 : Int) = ((63 : Nat) : Int) from rfl, HT.sIx_nat, HT.sIx_nat, List.length_take]
    omega
theorem c_l_cells (T : Txt K mg aN aL) (D : Dfn K mg "_law_cells" s_l_cells p_l_cells) : Cal P w K mg base CX0 1 "_law_cells" p_l_cells (SpCells K) := by
  refine D.ok sc_l_cells (fun vs H Q E ⟨ns, h, _⟩ => dps_len h) fun f cdv A outer s H vs Q E hr ⟨ns, h, hz, q⟩ => ?_
  refine ⟨_, (pss_cons (ps_set (i := 2) sc_l_cells.nd rfl (.inl rfl) (pe_orT (pe_callTy call_list_of (by rfl) T.n_list (by decide +kernel) (pa_cons (pe_slice sl_list (pv 0) po_none (po_some (pv 1))) pa_nil)) (pe_one (pe_lst (pa_cons pe_int pa_nil)))))
      (pss_cons (ps_for PassesOwn.never rfl (pi_enum (by rfl) T.n_enumerate (pa_cons (pe_slice sl_list (pv 0) (po_some (pv 1)) (po_some pe_int)) pa_nil)) (pg_tup (n := 2) rfl (pgs_cons (pg_name (i := 3) sc_l_cells.nd rfl (.inl rfl)) (pgs_cons (pg_name (i := 4) sc_l_cells.nd rfl (.inl rfl)) pgs_nil))) (pss_cons (ps_set (i := 5) sc_l_cells.nd rfl (.inl rfl) (pe_op op_mod (pe_callTy call_int1 (by rfl) T.n_int (by decide +kernel) (pa_cons (pv 3) pa_nil)) (pv 1)))
      (pss_one (ps_asg (pe_op op_add (pe_ix ix_seq (pv 2) (pv 5) (fun _ _ => rfl)) (pe_op op_mul (pv 4) (pe_op op_add (pv 3) pe_int))) (pg_sub (pv 2) (pv 5) set_list)))))
      (pss_one (ps_ret (pv 2))))), ?_⟩
  obtain ⟨v, u, rfl, hv, hu⟩ := dps2 h
  obtain ⟨l, xs, rfl, hl, hx⟩ := dp_ref_lst hv
  obtain rfl := ints_dps ns xs hx
  rw [dp_int hu]
  have loop : ∀ (p : Addr) (ms : List Int) (H1 : Hp), Ex H H1 → H p = none → H1 p = some (.lst (ms.map V.int)) → ms.length ≤ 2 → (2 ≤ ns.length → ms.length = 2) →
      tSeq (tFor (iEnum K (tCons (tSl (rSlL K) (tVar 0) (tPart (tVar 1)) (tPart (tC (.int 63)))) tNil)) (gTup K 2 (gCons (gName 3) (gCons (gName 4) gNil)))
        (tSeq (tAsg (tOp (rI (fun _ j => 0 < j) fun i j => .int (i % j)) (tCB (fun xs H Q => (∃ i, xs = [.int i] ∧ Q (.int i) H) ∨ ∃ k, xs = [.bl k] ∧ Q (.int (if k then 1 else 0)) H) (tCons (tVar 3) tNil)) (tVar 1)) (gName 5))
          (tAsg (tOp (rI0 fun i j => .int (i + j)) (tOp (rIx K) (tVar 2) (tVar 5)) (tOp (rI CMul fun i j => .int (i * j)) (tVar 4) (tOp (rI0 fun i j => .int (i + j)) (tVar 3) (tC (.int 2))))) (gSub (tVar 2) (tVar 5) rSetL))))
        (tRet (tVar 2)) { nx := fun _ H' => Q .non H', rt := Q } [some (.ref l), some (.int 2), some (.ref p), none, none, none] H1 := fun p ms H1 e1 hp hp1 hm1 hm2 => by
    obtain ⟨ys, ey, sub, two, len⟩ := cut63 (ns.map V.int)
    refine ⟨.ref l, rfl, .int 2, rfl, 2, rfl, 63, rfl, l, ns.map V.int, rfl, ex_l e1 hl, fun sq hq => ⟨sq, ys, rfl, ?_, ?_⟩⟩
    · rw [ey]; exact .of upd_same
    rw [ey]
    have npq : p ≠ sq := fun z => by rw [z, hq] at hp1; cases hp1
    refine for_it (walk_enum (K := K) (a := sq) (xs := ys)) (fun i σ' H' => Ex H H' ∧ H' sq = some (.lst ys) ∧ (∃ ms : List Int, H' p = some (.lst (ms.map V.int)) ∧ ms.length ≤ 2 ∧ (2 ≤ ns.length → ms.length = 2)) ∧ ∃ a b c, σ' = [some (.ref l), some (.int 2), some (.ref p), a, b, c])
      ⟨e1.trans (Ex.new hq), upd_same, ⟨ms, by rw [upd_ne npq]; exact hp1, hm1, hm2⟩, none, none, none, rfl⟩ (fun i σ' H' _ z => .of z.2.1) ?_ ?_
    · rintro i x σ' H3 H4 hi ⟨x1, x2, ⟨ms, x3, x4, x5⟩, a, b, c, rfl⟩ ⟨t, y1, y2, rfl, ht, rfl, g1, g2⟩
      have e4 : Ex H3 (upd H3 t (.tup [y1, y2])) := Ex.new ht
      have hy1 : y1 = .int (i : Nat) := (Option.some.inj g1).symm
      have my := List.mem_of_getElem? g2
      obtain ⟨z, _, hzv⟩ := List.mem_map.mp (sub y2 my)
      have ml : ms.length = 2 := x5 (by have := two (List.ne_nil_of_mem my); rw [List.length_map] at this; exact this)
      subst hy1
      subst hzv
      refine ⟨t, [.int (i : Nat), .int z], rfl, .of upd_same, rfl, _, _, rfl, _, [], rfl, rfl, ?_⟩
      have x3' := e4 _ _ x3
      have x2' := e4 _ _ x2
      have x1' := x1.trans e4
      show tSeq _ _ _ [some (.ref l), some (.int 2), some (.ref p), some (.int (i : Nat)), some (.int z), c] (upd H3 t (.tup [.int (i : Nat), .int z]))
      generalize upd H3 t (.tup [.int (i : Nat), .int z]) = H5 at x1' x2' x3'
      have st : Sl K [some (.ref l), some (.int 2), some (.ref p), some (.int (i : Nat)), some (.int z), c] H5 [none, some (.int 2), some (intsD ms), some (.int (i : Nat)), some (.int z), none] := ⟨rfl, fun j d hj => by
        match j, hj with
        | 0, hj => simp at hj
        | 5, hj => simp at hj
        | n + 6, hj => simp at hj
        | 1, hj => rw [← Option.some.inj (Option.some.inj hj)]; exact ⟨_, rfl, .int 2⟩
        | 2, hj => rw [← Option.some.inj (Option.some.inj hj)]; exact ⟨_, rfl, .lst (.of x3') (dps_ints ms)⟩
        | 3, hj => rw [← Option.some.inj (Option.some.inj hj)]; exact ⟨_, rfl, .int _⟩
        | 4, hj => rw [← Option.some.inj (Option.some.inj hj)]; exact ⟨_, rfl, .int z⟩⟩
      obtain ⟨j, ej, hj⟩ : ∃ j : Nat, (i : Int) % 2 = (j : Int) ∧ j < 2 := ⟨i % 2, by omega, by omega⟩
      have mod := v_mod (K := K) (Δ := [none, some (.int 2), some (intsD ms), some (.int (i : Nat)), some (.int z), none]) (v_int1 (v_var (i := 3) (d := .int (i : Nat)) rfl)) (v_var (i := 1) (d := .int 2) rfl) (by decide)
      rw [ej] at mod
      refine q_asgD (mod _ H5 st) fun v6 H6 e6 hv6 => ?_
      rw [dp_int hv6]
      have s6 := (st.ex e6).put 5 (v := .int (j : Int)) (d := .int (j : Int)) (.int _)
      obtain ⟨mj, hmj⟩ : ∃ mj, ms[j]? = some mj := ⟨ms[j]'(by omega), List.getElem?_eq_getElem _⟩
      have hmj2 : (ms.map PyData.int)[j]? = some (.int mj) := by rw [List.getElem?_map, hmj]; rfl
      have val := v_add (K := K) (Δ := [none, some (.int 2), some (intsD ms), some (.int (i : Nat)), some (.int z), some (.int (j : Int))]) (v_ixL (ds := ms.map PyData.int) (v_var (i := 2) rfl) (v_var (i := 5) (d := .int (j : Int)) rfl) hmj2) (v_mul (v_var (i := 4) (d := .int z) rfl) (v_add (v_var (i := 3) (d := .int (i : Nat)) rfl) (v_ci (i := 2))) (.inr ⟨by omega, by omega⟩))
      refine val _ H6 s6 H6 (Ex.refl _) _ fun v7 H7 e7 hv7 => ?_
      rw [dp_int hv7]
      have x3'' := e7 _ _ (e6 _ _ x3')
      have nw : ∀ a o, H a = some o → upd H7 p (.lst ((ms.map V.int).set j (.int (mj + z * ((i : Nat) + 2))))) a = some o := fun a o ha => by
        rw [upd_ne (fun zz => by rw [zz, hp] at ha; cases ha)]
        exact e7 _ _ (e6 _ _ (x1' _ _ ha))
      refine ⟨.ref p, rfl, .int (j : Int), rfl, p, ms.map V.int, (j : Int), j, rfl, rfl, x3'', ixN_nat (by rw [List.length_map]; omega), nw, ?_, ⟨ms.set j (mj + z * ((i : Nat) + 2)), ?_, by rw [List.length_set]; exact x4, fun hh => by rw [List.length_set]; exact x5 hh⟩, _, _, _, rfl⟩
      · rw [upd_ne (Ne.symm npq)]
        exact e7 _ _ (e6 _ _ x2')
      · rw [upd_same, List.map_set]
    · rintro σ' H3 ⟨x1, x2, ⟨ms, x3, x4, x5⟩, a, b, c, rfl⟩
      exact ⟨.ref p, rfl, q _ H3 ms x1 (.lst (.of x3) (dps_ints ms)) x4⟩
  refine ⟨.ref l, rfl, .int 2, rfl, 2, rfl, l, ns.map V.int, rfl, hl, fun r hr2 => ?_⟩
  rw [cut2, ← List.map_take]
  have e1 := Ex.new (o := .lst ((ns.take 2).map V.int)) hr2
  refine ⟨r, (ns.take 2).map V.int, rfl, .inl (.of upd_same), fun p hp => ?_⟩
  have e2 := e1.trans (Ex.new (o := .lst ((ns.take 2).map V.int)) hp)
  have hp0 : H p = none := fresh_back e1 hp
  refine ⟨!((ns.take 2).map V.int).isEmpty, .inl ⟨_, .of upd_same, rfl⟩, ?_⟩
  cases hn : ns with
  | nil =>
    rw [if_neg (by simp)]
    refine ⟨sz_of (by show 1 ≤ 100000; decide), fun p2 hp2 => ?_⟩
    rw [hn] at loop
    have e3 := e2.trans (Ex.new (o := .lst [V.int 0]) (by rw [hn]; exact hp2))
    rw [hn] at e3
    exact loop p2 [0] _ e3 (by
      have := fresh_back e2 (by rw [hn]; exact hp2)
      exact this) upd_same (by decide) (fun z => by simp at z)
  | cons a t =>
    rw [if_pos (by simp)]
    rw [← hn]
    exact loop p (ns.take 2) _ e2 hp0 upd_same (by rw [List.length_take]; omega) (fun z => by rw [List.length_take]; omega)
end
end K17

end
section
set_option maxHeartbeats 4200000
/-! # The rows by hand -/
namespace K17
open PySem PySem.Spec PyProof.Rows L2 Evl RZ
theorem sort3 : sortZ ([([0], 0), ([3], 2)] ++ [([1], 1/2)]) = [([0], 0), ([1], 1/2), ([3], 2)] := by
  unfold sortZ
  have h1 : PySem.W.dataLe false itemD (([0], 0) : PV) ([3], 2) = true := by decide +kernel
  have h2 : PySem.W.dataLe false itemD (([0], 0) : PV) ([1], 1/2) = true := by decide +kernel
  have h3 : PySem.W.dataLe false itemD (([3], 2) : PV) ([1], 1/2) = false := by decide +kernel
  simp [List.mergeSort, List.MergeSort.Internal.splitInTwo, List.splitAt, List.splitAt.go, List.merge, h1, h2, h3]
instance {g : List Row} {zs : List PV} : Decidable (Let g zs) := by unfold Let; infer_instance
theorem hand_g : GOk 1 [[0], [1]] := ⟨by simp, by decide, by decide, fun c hc q hq => by
  simp at hc
  rcases hc with rfl | rfl
  · rw [List.mem_singleton.mp hq]; exact Bd.zero _ _
  · rw [List.mem_singleton.mp hq]; exact ⟨2, by decide +kernel, by decide⟩, by decide⟩
theorem hand_pt (q : Rat) (k : Int) (h : q * (2 : Nat) = (k : Rat)) (hk : k.natAbs ≤ 6) : PtOk 1 [q] := ⟨rfl, fun p hp => by rw [List.mem_singleton.mp hp]; exact ⟨k, h, by omega⟩⟩
theorem hand_z (u v : Rat) (j k : Int) (h1 : u * (504 : Nat) = (j : Rat)) (h2 : v * (504 : Nat) = (k : Rat)) (hj : j.natAbs ≤ 504000) (hk : k.natAbs ≤ 504000) : ZOk 1 [([0], u), ([3], v)] := ⟨by simp, (show 2 ≤ 6 by decide), fun z hz => by
  simp at hz
  rcases hz with rfl | rfl
  · exact hand_pt 0 0 (by decide +kernel) (by decide)
  · exact hand_pt 3 6 (by decide +kernel) (by decide), fun z hz => by
  simp at hz
  rcases hz with rfl | rfl
  · exact ⟨j, h1, by omega⟩
  · exact ⟨k, h2, by omega⟩⟩
theorem hand_let : Let [[0], [1]] [([0], 0), ([3], 2)] := by decide +kernel
theorem hand_made : made [[0], [1]] [([0], 0), ([3], 2)] [1] = 1 := by decide +kernel
theorem hand_least : least [[0], [1]] [([0], 0), ([3], 2)] [1] = 0 := by decide +kernel
theorem hand_b1 : brokenP [[0], [1]] [([0], 0), ([3], 4)] = some (0, 1) := by decide +kernel
theorem hand_b2 : brokenP [[0], [1]] [([0], 2), ([3], 1)] = some (1, 0) := by decide +kernel
theorem hand_w1 : okW [[0], [1]] [([0], 0), ([3], 2)] [1] (1/2) := ⟨by decide +kernel, by decide +kernel, by decide +kernel⟩
theorem hand_w2 : ¬ okW [[0], [1]] [([0], 0), ([3], 2)] [1] (5/4) := fun h => absurd h.2.2 (by decide +kernel)
theorem hand_w3 : ¬ okW [[0], [1]] [([0], 0), ([3], 2)] [1] (-1/4) := fun h => absurd h.2.2 (by decide +kernel)
section
variable {X : Cx}
/-- list + list, read lists too -/
def rCatL (K : PySem.W.Frag) : R2 := fun x y H Q => ∃ l b xs zs, x = .ref l ∧ y = .ref b ∧ SqL K H l xs ∧ SqL K H b zs ∧ xs.length + zs.length ≤ 100000 ∧ ∀ p, H p = none → Q (.ref p) (upd H p (.lst (xs ++ zs)))
theorem op_catL : OpR X (binaryOp .Add) (rCatL X.K) := by
  intro pn s σ H x y v u Q I rl rr h
  obtain ⟨a, b, xs, zs, rfl, rfl, ha, hb, hz, q⟩ := h
  cases rl
  cases rr
  obtain ⟨us, r1, ⟨⟨c1, d1, t1, s1⟩, n1, o1, k1, _, e1⟩, _⟩ := I.list ha
  obtain ⟨ws, r2, ⟨⟨c2, d2, t2, s2⟩, n2, o2, k2, _, e2⟩, _⟩ := I.list hb
  simp only at k1 e1 k2 e2
  subst k1 e1 k2 e2
  have l1 := r1.length
  have l2 := r2.length
  have both : us.toArray ++ ws.toArray = (us ++ ws).toArray := by simp
  refine concat_meets ⟨_, o1, rfl⟩ ⟨_, o2, rfl⟩ noFill_list_add seq_list_add PySem.F.slot_list_add PySem.F.entry_list_add (PySem.F.args_list_add_2 _ _) (list_addW a b us.toArray ws.toArray n1 n2 d1 d2 s1 s2 (by rw [List.size_toArray, List.size_toArray, sizeLine_eq]; omega)) ⟨o1, o2, ?_⟩
  rw [both]
  exact ⟨.ref _, _, I.lnew (t' := s.toks) (r1.append r2) (by rw [List.length_append, sizeLine_eq]; omega), rfl, q _ I.fresh⟩
end
section
variable {K : PySem.W.Frag} {Δ : Dt} {ta tb te te2 : TE} {d1 d2 d3 d4 : PyData} {ds es : List PyData}
theorem v_catL (ha : EV K ta Δ (.list ds)) (hb : EV K tb Δ (.list es)) (hz : ds.length + es.length ≤ 100000) : EV K (tOp (rCatL K) ta tb) Δ (.list (ds ++ es)) := fun σ H s H1 e Q k => ha σ H s H1 e _ fun v H2 e2 hv => hb σ H s H2 (e.trans e2) _ fun u H3 e3 hu => by
  obtain ⟨a, xs, rfl, h1, h2⟩ := dp_ref_lst (dp_ex e3 _ _ hv)
  obtain ⟨b, ys, rfl, g1, g2⟩ := dp_ref_lst hu
  exact ⟨a, b, xs, ys, rfl, rfl, h1, g1, by rw [dps_len h2, dps_len g2]; exact hz, fun p hp => k (.ref p) _ ((e2.trans e3).trans (Ex.new hp)) (.lst (.of upd_same) (dps_ex (Ex.new hp) _ _ (dps_app h2 g2)))⟩
/-- [e for j in a tuple that is made there] -/
theorem v_lcTE {j : Nat} {vs : List Nat} (fs : List PyData) (h : EV K te Δ (.tuple ds)) (hl : fs.length = ds.length) (hz : ds.length ≤ 40000) (ht : tupOnly.tupOnlys fs = true) (hj : j ∈ vs)
    (he : ∀ (n : Nat) d f, ds[n]? = some d → fs[n]? = some f → EV K te2 ((wipeD Δ vs).set j (some d)) f) : EV K (tLc (iTup K te) (gName j) tYes te2 vs) Δ (.list fs) := fun σ H s H1 e Q k => h σ H s H1 e _ fun v H2 e2 hv => by
  obtain ⟨a, xs, rfl, hs, hx⟩ := dp_ref_tup hv
  have src : SrcD (iTup K (tC (.ref a))) σ H2 ds.length (YD K H2 ds) := src_tup ev_c hs hx
  have lc : EvD K (tLc (iTup K (tC (.ref a))) (gName j) tYes te2 vs) σ H2 (.list fs) := d_lc fs src hl hz ht (by
    rintro i f x H3 H4 hf e3 ⟨rfl, d, hd, hxd⟩ R go
    exact go _ H4 (Ex.refl _) e3 (wipe_one hj _) (he i d f hd hf _ _ ((((s.ex (e.trans e2)).ex e3).wipe vs).put j (dp_ex e3 _ _ hxd))))
  obtain ⟨a', ea, hq, r⟩ := lc H2 (Ex.refl _) Q (k.go e2)
  obtain rfl : a = a' := by injection ea
  exact ⟨a, rfl, hq, r⟩
/-- a, b, c, d = four -/
theorem n_asg4 {i j k l : Nat} (h : EV K te Δ (.tuple [d1, d2, d3, d4])) : SN K (tAsg te (gTup K 4 (gCons (gName i) (gCons (gName j) (gCons (gName k) (gCons (gName l) gNil)))))) Δ ((((Δ.set i (some d1)).set j (some d2)).set k (some d3)).set l (some d4)) := fun D σ H s q => h σ H s H (Ex.refl _) _ fun v H1 e hd => by
  obtain ⟨a, xs, rfl, hs, hx⟩ := dp_ref_tup hd
  obtain ⟨v1, v2, v3, v4, rfl, h1, h2, h3, h4⟩ := dps4 hx
  exact ⟨a, _, rfl, hs, rfl, _, _, rfl, _, _, rfl, _, _, rfl, _, [], rfl, rfl, q _ H1 e (((((s.ex e).put i h1).put j h2).put k h3).put l h4)⟩
end
def handL : List PyData := [frD 1, frD 0, .bool false, .bool false]
def handT : List PyData := [.tuple [rowsD [[0], [1], [3]], rowD [0, 1/2, 2]], .str "unfit", .str "unfit"]
inductive R_hand : List PyData → PyData → Prop
  | mk : R_hand [] (.bool true)
section
variable {P : Program} {w : World} {K : PySem.W.Frag} {mg : Str → Option Value} {base : Heap} {aN aL CU : Addr}
theorem c_l_by_hand_right (T : Txt K mg aN aL) (D : Dfn K mg "_law_by_hand_right" s_l_by_hand_right p_l_by_hand_right) (C_law_at : Cal P w K mg base CX0 11 "law_at" p_law_at (SpD K (R_lawAt made))) (C_least_law_at : Cal P w K mg base CX0 11 "least_law_at" p_least_law_at (SpD K (R_lawAt least)))
    (C_is_let : Cal P w K mg base CX0 9 "is_let" p_is_let (SpD K R_isLet)) (C_l_heard : Cal P w K mg base CX0 12 "_law_heard" p_l_heard (SpD K R_heard)) (C_l_same : Cal P w K mg base CX0 8 "_law_same" p_l_same (SpD K (R_same 8))) :
    Cal P w K mg base CX0 13 "_law_by_hand_right" p_l_by_hand_right (SpD K R_hand) := by
  refine D.sr sc_l_by_hand_right (fun _ _ h => by cases h; rfl) fun f cdv A outer s H E hr ds d hR => ?_
  cases hR
  refine ⟨_, (pss_cons (ps_asg (pe_tup (pa_cons (pe_tup (pa_cons pe_int (pa_cons pe_int pa_nil))) (pa_cons (pe_tup (pa_cons pe_int (pa_cons pe_int pa_nil))) (pa_cons (pe_tup (pa_cons pe_int (pa_cons pe_int pa_nil))) (pa_cons (pe_tup (pa_cons pe_int (pa_cons pe_int pa_nil))) pa_nil))))) (pg_tup (n := 4) rfl (pgs_cons (pg_name (i := 0) sc_l_by_hand_right.nd rfl (.inr rfl)) (pgs_cons (pg_name (i := 1) sc_l_by_hand_right.nd rfl (.inr rfl)) (pgs_cons (pg_name (i := 2) sc_l_by_hand_right.nd rfl (.inr rfl)) (pgs_cons (pg_name (i := 3) sc_l_by_hand_right.nd rfl (.inl rfl)) pgs_nil))))))
      (pss_cons (ps_asg (pe_tup (pa_cons (pe_tup (pa_cons (pe_tup (pa_cons (pv 0) pa_nil)) (pa_cons (pe_tup (pa_cons (pv 1) pa_nil)) pa_nil))) (pa_cons (pe_tup (pa_cons (pe_tup (pa_cons (pv 0) pa_nil)) (pa_cons (pe_tup (pa_cons (pv 3) pa_nil)) pa_nil))) pa_nil))) (pg_tup (n := 2) rfl (pgs_cons (pg_name (i := 4) sc_l_by_hand_right.nd rfl (.inr rfl)) (pgs_cons (pg_name (i := 5) sc_l_by_hand_right.nd rfl (.inr rfl)) pgs_nil))))
      (pss_cons (ps_set (i := 6) sc_l_by_hand_right.nd rfl (.inl rfl) (pe_lst (pa_cons (pe_cal C_law_at (hr.mono (by decide)) (pa_cons (pv 4) (pa_cons (pv 5) (pa_cons (pe_tup (pa_cons (pv 0) (pa_cons (pv 2) pa_nil))) (pa_cons (pe_tup (pa_cons (pv 1) pa_nil)) pa_nil))))) (pa_cons (pe_cal C_least_law_at (hr.mono (by decide)) (pa_cons (pv 4) (pa_cons (pv 5) (pa_cons (pe_tup (pa_cons (pv 0) (pa_cons (pv 2) pa_nil))) (pa_cons (pe_tup (pa_cons (pv 1) pa_nil)) pa_nil))))) (pa_cons (pe_cal C_is_let (hr.mono (by decide)) (pa_cons (pv 4) (pa_cons (pv 5) (pa_cons (pe_tup (pa_cons (pv 0) (pa_cons (pe_tup (pa_cons pe_int (pa_cons pe_int pa_nil))) pa_nil))) pa_nil)))) (pa_cons (pe_cal C_is_let (hr.mono (by decide)) (pa_cons (pv 4) (pa_cons (pv 5) (pa_cons (pe_tup (pa_cons (pv 2) (pa_cons (pv 1) pa_nil))) pa_nil)))) pa_nil))))))
      (pss_cons (ps_set (i := 6) sc_l_by_hand_right.nd rfl (.inl rfl) (pe_op op_catL (pv 6) (pe_lc (own := [("_law_own", 7)]) (g := (gName 7)) (tt := tYes) (by rfl) sc_l_by_hand_right.nd (pi_tup (pe_tup (pa_cons (pe_tup (pa_cons pe_int (pa_cons pe_int pa_nil))) (pa_cons (pe_tup (pa_cons pe_int (pa_cons pe_int pa_nil))) (pa_cons (pe_tup (pa_cons (pe_un un_neg pe_int) (pa_cons pe_int pa_nil))) pa_nil))))) (blkOk_by (own := [("_law_own", 7)]) (N := n_l_by_hand_right) (sc := defScope s_l_by_hand_right) (by decide +kernel)) (fun _ _ _ _ _ => (pg_name (i := 7) sc_l_by_hand_right.nd rfl (.inl rfl) (.inr rfl))) (fun _ _ _ _ _ => pts_nil) (fun _ _ _ _ _ => (pe_cal C_l_heard (hr.mono (by decide)) (pa_cons (pv 4) (pa_cons (pv 5) (pa_cons (pe_tup (pa_cons (pv 0) (pa_cons (pv 2) pa_nil))) (pa_cons (pe_tup (pa_cons (pv 1) pa_nil)) (pa_cons (pv 7) pa_nil))))))))))
      (pss_one (ps_ret (pe_cal C_l_same (hr.mono (by decide)) (pa_cons (pv 6) (pa_cons (pe_lst (pa_cons (pv 1) (pa_cons (pv 0) (pa_cons pe_bl (pa_cons pe_bl (pa_cons (pe_tup (pa_cons (pe_tup (pa_cons (pe_tup (pa_cons (pv 0) pa_nil)) (pa_cons (pe_tup (pa_cons (pv 1) pa_nil)) (pa_cons (pe_tup (pa_cons (pv 3) pa_nil)) pa_nil)))) (pa_cons (pe_tup (pa_cons (pv 0) (pa_cons (pe_tup (pa_cons pe_int (pa_cons pe_int pa_nil))) (pa_cons (pv 2) pa_nil)))) pa_nil))) (pa_cons pe_str (pa_cons pe_str pa_nil)))))))) pa_nil))))))))), ?_⟩
  have f12 : PyData.tuple [.int 1, .int 2] = frD (1/2) := fr_lit (by decide +kernel) (by decide +kernel)
  have f54 : PyData.tuple [.int 5, .int 4] = frD (5/4) := fr_lit (by decide +kernel) (by decide +kernel)
  have f14 : PyData.tuple [.int (-1), .int 4] = frD (-1/4) := fr_lit (by decide +kernel) (by decide +kernel)
  have z0 : ZOk 1 [([0], 0), ([3], 2)] := hand_z 0 2 0 1008 (by decide +kernel) (by decide +kernel) (by decide) (by decide)
  have z1 : ZOk 1 [([0], 0), ([3], 4)] := hand_z 0 4 0 2016 (by decide +kernel) (by decide +kernel) (by decide) (by decide)
  have z2 : ZOk 1 [([0], 2), ([3], 1)] := hand_z 2 1 1008 504 (by decide +kernel) (by decide +kernel) (by decide) (by decide)
  have x1 : PtOk 1 [1] := hand_pt 1 2 (by decide +kernel) (by decide)
  have tg : tupD (rowsD [[0], [1]]) = rowsD [[0], [1]] := tup_same _ (rows_tup _)
  have tp : ∀ u v : Rat, tupD (rowsD [[0], [3]]) = ptsD [([0], u), ([3], v)] := fun u v => tup_same _ (rows_tup [[0], [3]])
  have tv : ∀ u v : Rat, tupD (.tuple [frD u, frD v]) = valsD [([0], u), ([3], v)] := fun u v => tup_same _ (vals_tup [([0], u), ([3], v)])
  have tx : tupD (.tuple [frD 1]) = rowD [1] := tup_same _ (row_tup [1])
  refine r_seq (n_asg4 (d1 := frD 0) (d2 := frD 1) (d3 := frD 2) (d4 := frD 3) (v_is (v_tup (v_cons (v_two v_ci v_ci) (v_cons (v_two v_ci v_ci) (v_cons (v_two v_ci v_ci) (v_cons (v_two v_ci v_ci) v_nil))))) rfl)) ?_
  refine r_seq (n_asgP (d1 := rowsD [[0], [1]]) (d2 := rowsD [[0], [3]]) (v_is (v_tup (v_cons (v_tup (v_cons (v_tup (v_cons (v_var rfl) v_nil)) (v_cons (v_tup (v_cons (v_var rfl) v_nil)) v_nil))) (v_cons (v_tup (v_cons (v_tup (v_cons (v_var rfl) v_nil)) (v_cons (v_tup (v_cons (v_var rfl) v_nil)) v_nil))) v_nil))) rfl)) ?_
  refine r_seq (n_asg (i := 6) (d := .list handL) (v_is (v_lst (v_cons (v_call (v_cons (v_var rfl) (v_cons (v_var rfl) (v_cons (v_tup (v_cons (v_var rfl) (v_cons (v_var rfl) v_nil))) (v_cons (v_tup (v_cons (v_var rfl) v_nil)) v_nil)))) (R_lawAt.mk 1 [[0], [1]] [([0], 0), ([3], 2)] [1] _ _ _ _ tg (tp 0 2) (tv 0 2) tx hand_g z0 x1 hand_let))
    (v_cons (v_call (v_cons (v_var rfl) (v_cons (v_var rfl) (v_cons (v_tup (v_cons (v_var rfl) (v_cons (v_var rfl) v_nil))) (v_cons (v_tup (v_cons (v_var rfl) v_nil)) v_nil)))) (R_lawAt.mk 1 [[0], [1]] [([0], 0), ([3], 2)] [1] _ _ _ _ tg (tp 0 2) (tv 0 2) tx hand_g z0 x1 hand_let))
    (v_cons (v_call (v_cons (v_var rfl) (v_cons (v_var rfl) (v_cons (v_tup (v_cons (v_var rfl) (v_cons (v_two v_ci v_ci) v_nil))) v_nil))) (R_isLet.mk 1 [[0], [1]] [([0], 0), ([3], 4)] _ _ _ tg (tp 0 4) (tv 0 4) hand_g z1))
    (v_cons (v_call (v_cons (v_var rfl) (v_cons (v_var rfl) (v_cons (v_tup (v_cons (v_var rfl) (v_cons (v_var rfl) v_nil))) v_nil))) (R_isLet.mk 1 [[0], [1]] [([0], 2), ([3], 1)] _ _ _ tg (tp 2 1) (tv 2 1) hand_g z2)) v_nil))))) (by
      rw [hand_made, hand_least, hand_b1, hand_b2]
      rfl))) ?_
  refine r_seq (n_asg (i := 6) (d := .list (handL ++ handT)) (v_catL (v_var rfl) (v_lcTE (ds := [frD (1/2), frD (5/4), frD (-1/4)]) handT (v_is (v_tup (v_cons (v_two v_ci v_ci) (v_cons (v_two v_ci v_ci) (v_cons (v_two (v_neg v_ci) v_ci) v_nil)))) (by rw [f12, f54, f14])) rfl (by decide) (by decide +kernel) (by decide) fun n d f h1 h2 => ?_) (by decide))) ?_
  · have ask : ∀ v : Rat, Bd 504 1000 v → Ask 1 [[0], [1]] [([0], 0), ([3], 2)] [1] v [rowsD [[0], [1]], rowsD [[0], [3]], .tuple [frD 0, frD 2], .tuple [frD 1], frD v] := fun v hv => ⟨⟨_, _, _, _, _, rfl, tg, tp 0 2, tv 0 2, tx, tup_same _ (fr_tup v)⟩, hand_g, z0, by decide, x1, hv⟩
    have args : ∀ d, EA K (tCons (tVar 4) (tCons (tVar 5) (tCons (tTup (tCons (tVar 0) (tCons (tVar 2) tNil))) (tCons (tTup (tCons (tVar 1) tNil)) (tCons (tVar 7) tNil))))) [some (frD 0), some (frD 1), some (frD 2), some (frD 3), some (rowsD [[0], [1]]), some (rowsD [[0], [3]]), some (.list handL), some d] [rowsD [[0], [1]], rowsD [[0], [3]], .tuple [frD 0, frD 2], .tuple [frD 1], d] := fun d =>
      v_cons (v_var rfl) (v_cons (v_var rfl) (v_cons (v_tup (v_cons (v_var rfl) (v_cons (v_var rfl) v_nil))) (v_cons (v_tup (v_cons (v_var rfl) v_nil)) (v_cons (v_var rfl) v_nil))))
    match n, h1, h2 with
    | 0, h1, h2 =>
      have e1 : frD (1/2) = d := by simpa using h1
      have e2 : PyData.tuple [rowsD [[0], [1], [3]], rowD [0, 1/2, 2]] = f := by simpa [handT] using h2
      subst e1
      subst e2
      have r := R_heard.yes 1 _ _ _ _ _ (ask (1/2) ⟨252, by decide +kernel, by decide⟩) hand_w1
      rw [sort3] at r
      exact v_call (args _) r
    | 1, h1, h2 =>
      have e1 : frD (5/4) = d := by simpa using h1
      have e2 : PyData.str "unfit" = f := by simpa [handT] using h2
      subst e1
      subst e2
      exact v_call (args _) (R_heard.no 1 _ _ _ _ _ (ask (5/4) ⟨630, by decide +kernel, by decide⟩) hand_w2)
    | 2, h1, h2 =>
      have e1 : frD (-1/4) = d := by simpa using h1
      have e2 : PyData.str "unfit" = f := by simpa [handT] using h2
      subst e1
      subst e2
      exact v_call (args _) (R_heard.no 1 _ _ _ _ _ (ask (-1/4) ⟨-126, by decide +kernel, by decide⟩) hand_w3)
    | n + 3, h1, h2 => simp at h1
  · refine r_ret (v_call (v_cons (v_var rfl) (v_cons (v_is (v_lst (v_cons (v_var rfl) (v_cons (v_var rfl) (v_cons v_cb (v_cons v_cb (v_cons (v_tup (v_cons (v_tup (v_cons (v_tup (v_cons (v_var rfl) v_nil)) (v_cons (v_tup (v_cons (v_var rfl) v_nil)) (v_cons (v_tup (v_cons (v_var rfl) v_nil)) v_nil)))) (v_cons (v_tup (v_cons (v_var rfl) (v_cons (v_two v_ci v_ci) (v_cons (v_var rfl) v_nil)))) v_nil))) (v_cons v_cs (v_cons v_cs v_nil)))))))) (d2 := .list (handL ++ handT)) (by
      rw [f12]
      rfl)) v_nil)) (R_same.mk (.list (handL ++ handT)) (by decide +kernel) (by decide +kernel)))
end
end K17

end
section
set_option maxHeartbeats 8000000
/-! # _law_right: whatever is drawn -/
namespace K17
open PySem PySem.Spec PyProof.Rows L2 Evl RZ
section
variable {K : PySem.W.Frag} {H H' : Hp} {b : Addr} {c c' ib m m1 m2 : Nat} {σ : L2.St} {Δ Δ1 : Dt} {ta tb te ti : TE} {tr : TA} {tu tw tz : TS} {t : TT} {φ φ1 φ2 : PyData → Prop} {ψ ψ1 : List PyData → Prop} {d d1 d2 : PyData} {ds : List PyData}
theorem AllB.put {i : Nat} (h : AllB Δ) (hd : safe d = true) : AllB (Δ.set i (some d)) := fun d' hd' => by
  rcases List.mem_or_eq_of_mem_set hd' with e | e
  · exact h d' e
  · rw [Option.some.inj e]; exact hd
theorem rb_let {i : Nat} (h : EV K te Δ d) (hi : i ≠ ib) (k : SRB K ib m tz (Δ.set i (some d)) φ) : SRB K ib m (tSeq (tAsg te (gName i)) tz) Δ φ := fun b c D σ H s l q => h σ H s.sl H (Ex.refl _) _ fun v H1 e hd => k b c D _ H1 ((s.ex e).put hi hd) l fun v2 d2 H2 p2 e2 bx2 hd2 => q v2 d2 H2 p2 ((ExB.of e).trans e2) bx2 hd2
theorem rb_let2 {i j : Nat} {tr : TA} (h : EA K tr Δ [d1, d2]) (hi : i ≠ ib) (hj : j ≠ ib) (k : SRB K ib m tz ((Δ.set i (some d1)).set j (some d2)) φ) : SRB K ib m (tSeq (tPar i j tr) tz) Δ φ := fun b c D σ H s l q => h σ H s.sl H (Ex.refl _) _ fun vs H1 e hd => by
  obtain ⟨v, w, rfl, h1, h2⟩ := dps2 hd
  exact ⟨v, w, rfl, k b c D _ H1 (((s.ex e).put hi h1).put hj h2) l fun v2 d2 H2 p2 e2 bx2 hd2 => q v2 d2 H2 p2 ((ExB.of e).trans e2) bx2 hd2⟩
theorem rb_lose {i : Nat} (q : SRB K ib m tu (Δ.set i none) φ) : SRB K ib m tu (Δ.set i (some d)) φ := rb_forget i (by rw [List.set_set]; exact q)
theorem vb_tup (h : EAB K ib m tr Δ ψ) (hl : ∀ ds, ψ ds → ds.length ≤ 100000) : EVB K ib m (tTup tr) Δ (fun d => ∃ ds, ψ ds ∧ d = .tuple ds) := fun b c σ H s l Q k => h b c σ H s l _ fun vs ds H1 p e bx hd =>
  ⟨sz_of (by rw [dps_len hd]; exact hl ds p), fun a ha => k (.ref a) _ _ ⟨ds, p, rfl⟩ (e.trans (.of (Ex.new ha))) (bx.ex (Ex.new ha)) (.tup (.of upd_same) (dps_ex (Ex.new ha) _ _ hd))⟩
/-- i, j = a pair that was drawn -/
theorem rb_asgP {i j : Nat} (h : EVB K ib m1 te Δ (fun d => ∃ d1 d2, d = .tuple [d1, d2] ∧ φ1 d1 ∧ φ2 d2)) (hs : AllB Δ) (hi : i ≠ ib) (hj : j ≠ ib) (k : ∀ d e, φ1 d → φ2 e → SRB K ib m2 tz ((Δ.set i (some d)).set j (some e)) φ) :
    SRB K ib (m1 + m2) (tSeq (tAsg te (gTup K 2 (gCons (gName i) (gCons (gName j) gNil)))) tz) Δ φ := fun b c D σ H s l q => h b c σ H s (by omega) _ fun v d H1 ⟨d1, d2, e1, p1, p2⟩ e bx hd => by
  subst e1
  obtain ⟨a, xs, rfl, ht, hx⟩ := dp_ref_tup hd
  obtain ⟨v1, v2, rfl, g1, g2⟩ := dps2 hx
  exact ⟨a, _, rfl, ht, rfl, _, _, rfl, _, [], rfl, rfl, k d1 d2 p1 p2 b (c + m1) D _ H1 (((s.go hs e bx).put hi g1).put hj g2) (by omega) fun v2 d2 H2 p2 e2 bx2 hd2 => q v2 d2 H2 p2 (e.trans e2) (bx2.mono (by omega)) hd2⟩
/-- a test that draws -/
def ETB (K : PySem.W.Frag) (ib m : Nat) (t : TT) (Δ : Dt) : Prop := ∀ b c σ H, SlB K b c ib σ H Δ → c + m ≤ lim → ∀ Q : Bool → Hp → Prop, (∀ k H', ExB b H H' → Box H' b (c + m) → Q k H') → t σ H Q
theorem rb_ifasgB {i : Nat} (hs : AllB Δ) (h : ETB K ib m1 t Δ) (hv : EV K te Δ d) (hi : i ≠ ib) (k1 : SRB K ib m2 tz (Δ.set i (some d)) φ) (k2 : SRB K ib m2 tz Δ φ) : SRB K ib (m1 + m2) (tSeq (tIfS t (tAsg te (gName i)) tNext) tz) Δ φ := fun b c D σ H s l q =>
  h b c σ H s (by omega) _ fun k H1 e bx => by
    have s1 := s.go hs e bx
    have qq : ∀ v d H', φ d → ExB b H1 H' → Box H' b (c + m1 + m2) → Dp K H' v d → D.rt v H' := fun v2 d2 H2 p2 e2 bx2 hd2 => q v2 d2 H2 p2 (e.trans e2) (bx2.mono (by omega)) hd2
    cases k with
    | true =>
      rw [if_pos rfl]
      refine hv σ H1 s1.sl H1 (Ex.refl _) _ fun v H2 e2 hd => ?_
      exact k1 b (c + m1) D _ H2 ((s1.ex e2).put hi hd) (by omega) fun v2 d2 H3 p2 e3 bx2 hd2 => qq v2 d2 H3 p2 ((ExB.of e2).trans e3) bx2 hd2
    | false =>
      rw [if_neg (by decide)]
      exact k2 b (c + m1) D σ H1 s1 (by omega) qq
/-- a test that is told, and a draw compared -/
theorem tb_and {u : TT} (h1 : ∃ a, ET K t Δ a) (h2 : ETB K ib m u Δ) : ETB K ib m (tAnd t u) Δ := fun b c σ H s l Q k => by
  obtain ⟨a, ha⟩ := h1
  refine ha σ H s.sl H (Ex.refl _) _ fun H1 e1 => ?_
  cases a with
  | true => exact iteT (h2 b c σ H1 (s.ex e1) l Q fun k2 H2 e2 bx => k k2 H2 ((ExB.of e1).trans e2) bx)
  | false => exact iteF (k false H1 (.of e1) ((s.box.ex e1).mono (by omega)))
theorem tb_eq0 {i : Int} (h : EVB K ib m te Δ (fun d => ∃ j, d = .int j)) : ETB K ib m (tTest (tOp rEq te (tC (.int i)))) Δ := fun b c σ H s l Q k => h b c σ H s l _ fun v d H1 ⟨j, ej⟩ e bx hd => by
  subst ej
  rw [dp_int hd]
  exact ⟨rfl, _, rfl, k _ H1 e bx⟩
end
inductive R_right : List PyData → (PyData → Prop) → Prop
  | mk : R_right [] (· = .bool true)
theorem pts_is {zs : List PV} {ps : List Row} (h : zs.map (·.1) = ps) : ptsD zs = rowsD ps := by
  unfold ptsD
  rw [h]
theorem len_row {n : Nat} {ps : List Row} (h : ∀ p ∈ ps, PtOk n p) (hn : n ≤ 2) : ∀ p ∈ ps, p.length ≤ 1000 := fun p hp => by
  have := (h p hp).len
  omega
theorem same_pair (o : Option (Nat × Nat)) : okD (.list [pairD o, .bool o.isNone]) = true ∧ (PyData.list [pairD o, .bool o.isNone]).depth < 8 := by
  cases o with
  | none => exact ⟨by decide +kernel, by decide +kernel⟩
  | some p =>
    exact ⟨rfl, show 2 < 8 by decide⟩
theorem made_bd {n : Nat} {g : List Row} {zs : List PV} {x : Row} (hg : GOk n g) (hz : ZOk n zs) (hx : PtOk n x) (hb : ∀ z ∈ zs, Bd 4 27 z.2) : Bd 4 51 (made g zs x) := by
  have hm : minL (zs.map fun z => z.2 + rise g z.1 x) ∈ zs.map fun z => z.2 + rise g z.1 x := minL_mem (by simpa using hz.ne)
  obtain ⟨z, h, e⟩ := List.mem_map.mp hm
  show Bd 4 51 (minL (zs.map fun z => z.2 + rise g z.1 x))
  rw [← e]
  have b : Bd 4 (27 + 24) (z.2 + rise g z.1 x) := (hb z h).add (rise_bd hg (hz.pt z h) hx)
  exact b
theorem least_bd {n : Nat} {g : List Row} {zs : List PV} {x : Row} (hg : GOk n g) (hz : ZOk n zs) (hx : PtOk n x) (hb : ∀ z ∈ zs, Bd 4 27 z.2) : Bd 4 51 (least g zs x) := by
  have hm : maxL (zs.map fun z => z.2 - rise g x z.1) ∈ zs.map fun z => z.2 - rise g x z.1 := maxL_mem (by simpa using hz.ne)
  obtain ⟨z, h, e⟩ := List.mem_map.mp hm
  show Bd 4 51 (maxL (zs.map fun z => z.2 - rise g x z.1))
  rw [← e]
  have b : Bd 4 (27 + 24) (z.2 - rise g x z.1) := (hb z h).sub (rise_bd hg hx (hz.pt z h))
  exact b
/-- what a law shows at places, as values -/
theorem shown_ok {n : Nat} {f : Row → Rat} {qs : List Row} (qne : qs ≠ []) (ql : qs.length ≤ 4) (qok : ∀ q ∈ qs, PtOk n q) (hf : ∀ q ∈ qs, Bd 4 51 (f q)) : ZOk n (qs.map fun q => (q, f q)) := ⟨fun z => qne (by simpa using z), by rw [List.length_map]; omega, fun z hz => by
  obtain ⟨q, hq, rfl⟩ := List.mem_map.mp hz
  exact qok q hq, fun z hz => by
  obtain ⟨q, hq, rfl⟩ := List.mem_map.mp hz
  have b := ((hf q hq).finer 126).mono (show 51 ≤ 1000 by decide)
  exact b⟩
theorem shown_pts (f : Row → Rat) (qs : List Row) : ptsD (qs.map fun q => (q, f q)) = rowsD qs := pts_is (by rw [List.map_map]; exact List.map_id' qs)
theorem shown_vals (f : Row → Rat) (qs : List Row) : valsD (qs.map fun q => (q, f q)) = rowD (qs.map f) := by
  unfold valsD
  rw [List.map_map]
  rfl
theorem rows_same {r1 r2 : Row} (h1 : r1.length ≤ 1000) (h2 : r2.length ≤ 1000) : okD (.list [.list (r1.map frD), .list (r2.map frD)]) = true ∧ (PyData.list [.list (r1.map frD), .list (r2.map frD)]).depth < 8 := by
  have o1 : okD (.list (r1.map frD)) = true := row_ok h1
  have o2 : okD (.list (r2.map frD)) = true := row_ok h2
  refine ⟨?_, ?_⟩
  · show (decide (2 ≤ 1000) && (okD (.list (r1.map frD)) && (okD (.list (r2.map frD)) && true))) = true
    rw [o1, o2]
    rfl
  · have d1 := frs_depth r1
    have d2 := frs_depth r2
    simp only [PyData.depth, PyData.depthAll]; omega
theorem row_same {r : Row} (h : r.length ≤ 1000) : okD (.list (r.map frD)) = true ∧ (PyData.list (r.map frD)).depth < 8 := ⟨row_ok h, by
  have d1 := frs_depth r
  simp only [PyData.depth]
  omega⟩
theorem put_same {zs : List PV} (hl : zs.length ≤ 1000) (hp : ∀ z ∈ zs, z.1.length ≤ 1000) : okD (.tuple [ptsD zs, valsD zs]) = true ∧ (PyData.tuple [ptsD zs, valsD zs]).depth < 8 ∧ SeqAt.shaped (.tuple [ptsD zs, valsD zs]) = true := by
  have o1 : okD (ptsD zs) = true := rows_ok (by rw [List.length_map]; exact hl) fun r hr => by
    obtain ⟨z, hz, rfl⟩ := List.mem_map.mp hr
    exact hp z hz
  have o2 : okD (valsD zs) = true := row_ok (by rw [List.length_map]; exact hl)
  have d1 : (ptsD zs).depth ≤ 3 := rows_depth _
  have d2 : (valsD zs).depth ≤ 2 := row_depth _
  have d3 : (PyData.tuple [ptsD zs, valsD zs]).depth < 8 := by
    simp only [PyData.depth, PyData.depthAll]; omega
  refine ⟨?_, d3, ?_⟩
  · show (decide (2 ≤ 1000) && (okD (ptsD zs) && (okD (valsD zs) && true))) = true
    rw [o1, o2]
    rfl
  · have l1 : (ptsD zs).canLay0 = true := by
      show (PyData.tuple ((zs.map (·.1)).map rowD)).canLay0 = true
      rw [PyData.canLay0]
      exact lay_rows _
    have l2 : (valsD zs).canLay0 = true := lay_row _
    show ((PyData.tuple [ptsD zs, valsD zs]).canLay0 && decide ((PyData.tuple [ptsD zs, valsD zs]).depth ≤ 64)) = true
    rw [decide_eq_true (by omega), PyData.canLay0, PyData.canLayAll0, PyData.canLayAll0, PyData.canLayAll0, l1, l2]
    rfl
theorem p0 : FrB 42 2 (.tuple [.int 0, .int 1]) := frB_lit 0 (k := 0) rfl rfl (by decide +kernel) (by decide)
theorem p1 : FrB 42 2 (.tuple [.int 1, .int 1]) := frB_lit 1 (k := 42) rfl rfl (by decide +kernel) (by decide)
theorem p12 : FrB 42 2 (.tuple [.int 1, .int 2]) := frB_lit (1/2) (k := 21) (by decide +kernel) (by decide +kernel) (by decide +kernel) (by decide)
theorem p13 : FrB 42 2 (.tuple [.int 1, .int 3]) := frB_lit (1/3) (k := 14) (by decide +kernel) (by decide +kernel) (by decide +kernel) (by decide)
theorem p17 : FrB 42 2 (.tuple [.int (-1), .int 7]) := frB_lit (-1/7) (k := -6) (by decide +kernel) (by decide +kernel) (by decide +kernel) (by decide)
theorem p87 : FrB 42 2 (.tuple [.int 8, .int 7]) := frB_lit (8/7) (k := 48) (by decide +kernel) (by decide +kernel) (by decide +kernel) (by decide)
theorem b19 : Bd 36 1 (1/9) := ⟨4, by decide +kernel, by decide⟩
theorem tupU {ds : List PyData} : PyData.eqv (.tuple ds) (.str "unfit") = false := by simp [PyData.eqv]
theorem pair_tup (o : Option (Nat × Nat)) : tupOnly (pairD o) = true := by cases o <;> rfl
theorem lists_rows {g : List Row} (hl : g.length ≤ 1000) (h : ∀ r ∈ g, r.length ≤ 1000) : R_lists 8 [rowsD g] (lstD (rowsD g)) := .mk _ (rows_ok hl h) (by have := rows_depth g; omega)
theorem lists_row {r : Row} (hl : r.length ≤ 1000) : R_lists 8 [rowD r] (lstD (rowD r)) := .mk _ (row_ok hl) (by have := row_depth r; omega)
theorem lst_back {d : PyData} (h : tupOnly d = true) : tupD (lstD d) = d := (tup_lst d).trans (tup_same d h)
theorem vals_is {ps : List Row} {rs : Row} (h : rs.length = ps.length) : valsD (ps.zip rs) = rowD rs := by
  unfold valsD
  rw [zip_snd h]
section
variable {P : Program} {w : World} {K : PySem.W.Frag} {mg : Str → Option Value} {base : Heap} {aN aL CU : Addr}
theorem c_l_right (T : Txt K mg aN aL) (D : Dfn K mg "_law_right" s_l_right p_l_right) (C_l_take : Cal P w K mg base CX0 1 "_law_take" p_l_take (SpB K 1 R_take)) (C_l_growth : Cal P w K mg base CX0 5 "_law_growth" p_l_growth (SpB K 8 R_growth)) (C_l_points : Cal P w K mg base CX0 4 "_law_points" p_l_points (SpB K 8 R_points))
    (C_l_small : Cal P w K mg base CX0 3 "_law_small" p_l_small (SpB K 1 R_small)) (C_l_pair_of : Cal P w K mg base CX0 7 "_law_pair_of" p_l_pair_of (SpD K R_pairL)) (C_broken_pair : Cal P w K mg base CX0 8 "broken_pair" p_broken_pair (SpD K R_broken)) (C_is_let : Cal P w K mg base CX0 9 "is_let" p_is_let (SpD K R_isLet))
    (C_l_lists : Cal P w K mg base CX0 8 "_law_lists" p_l_lists (SpD K (R_lists 8))) (C_l_same : Cal P w K mg base CX0 8 "_law_same" p_l_same (SpD K (R_same 8))) (C_l_heard : Cal P w K mg base CX0 12 "_law_heard" p_l_heard (SpD K R_heard)) (C_l_let : Cal P w K mg base CX0 8 "_law_let" p_l_let (SpB K 4 R_let))
    (C_law_at : Cal P w K mg base CX0 11 "law_at" p_law_at (SpD K (R_lawAt made))) (C_least_law_at : Cal P w K mg base CX0 11 "least_law_at" p_least_law_at (SpD K (R_lawAt least))) (C_l_made : Cal P w K mg base CX0 7 "_law_made" p_l_made (SpD K R_madeX)) (C_l_least_made : Cal P w K mg base CX0 7 "_law_least_made" p_l_least_made (SpD K (R_madeL least)))
    (C_l_walked_right : Cal P w K mg base CX0 8 "_law_walked_right" p_l_walked_right (SpD K R_isLetL)) (C_l_of : Cal P w K mg base CX0 2 "_law_of" p_l_of (SpB K 1 R_of)) (C_l_sum : Cal P w K mg base CX0 3 "_law_sum" p_l_sum (SpD K (R_two fun q r => q + r))) (C_l_mul : Cal P w K mg base CX0 3 "_law_mul" p_l_mul (SpD K (R_two fun q r => q * r)))
    (C_l_less_by : Cal P w K mg base CX0 3 "_law_less_by" p_l_less_by (SpD K (R_two fun q r => q - r))) (C_l_put_in : Cal P w K mg base CX0 1 "_law_put_in" p_l_put_in (SpD K R_put)) (C_l_lower : Cal P w K mg base CX0 1 "_law_lower" p_l_lower (SpD K R_below)) (C_l_is_let : Cal P w K mg base CX0 7 "_law_is_let" p_l_is_let (SpD K R_isLetL)) :
    Cal P w K mg base CX0 13 "_law_right" p_l_right (SpB K 60 R_right) := by
  refine D.srb sc_l_right (fun _ _ h => by cases h; rfl) fun f cdv A outer s H E hr ds φ hR => ?_
  cases hR
  refine ⟨_, (pss_cons (ps_set (i := 1) sc_l_right.nd rfl (.inl rfl) (pe_op op_add pe_int (pe_cal C_l_take (hr.mono (by decide)) (pa_cons (pv 0) (pa_cons pe_int pa_nil)))))
      (pss_cons (ps_asg (pe_tup (pa_cons (pe_cal C_l_growth (hr.mono (by decide)) (pa_cons (pv 0) (pa_cons (pv 1) pa_nil))) (pa_cons (pe_cal C_l_points (hr.mono (by decide)) (pa_cons (pv 0) (pa_cons (pv 1) (pa_cons (pe_op op_add pe_int (pe_cal C_l_take (hr.mono (by decide)) (pa_cons (pv 0) (pa_cons pe_int pa_nil)))) pa_nil)))) pa_nil))) (pg_tup (n := 2) rfl (pgs_cons (pg_name (i := 2) sc_l_right.nd rfl (.inr rfl)) (pgs_cons (pg_name (i := 3) sc_l_right.nd rfl (.inr rfl)) pgs_nil))))
      (pss_cons (ps_set (i := 4) sc_l_right.nd rfl (.inl rfl) (pe_callTy call_tuple_of (by rfl) T.n_tuple (by decide +kernel) (pa_cons (pe_lc (own := [("_law_own", 19)]) (g := (gName 19)) (tt := tYes) (by rfl) sc_l_right.nd (pi_tup (pv 3)) (blkOk_by (own := [("_law_own", 19)]) (N := n_l_right) (sc := defScope s_l_right) (by decide +kernel)) (fun _ _ _ _ _ => (pg_name (i := 19) sc_l_right.nd rfl (.inl rfl) (.inr rfl))) (fun _ _ _ _ _ => pts_nil) (fun _ _ _ _ _ => (pe_cal C_l_small (hr.mono (by decide)) (pa_cons (pv 0) pa_nil)))) pa_nil)))
      (pss_cons (ps_set (i := 5) sc_l_right.nd rfl (.inl rfl) (pe_cal C_l_pair_of (hr.mono (by decide)) (pa_cons (pv 2) (pa_cons (pv 3) (pa_cons (pv 4) pa_nil)))))
      (pss_cons (ps_set (i := 6) sc_l_right.nd rfl (.inl rfl) (pe_lst (pa_cons (pe_cal C_broken_pair (hr.mono (by decide)) (pa_cons (pv 2) (pa_cons (pv 3) (pa_cons (pv 4) pa_nil)))) (pa_cons (pe_cal C_is_let (hr.mono (by decide)) (pa_cons (pe_cal C_l_lists (hr.mono (by decide)) (pa_cons (pv 2) pa_nil)) (pa_cons (pe_cal C_l_lists (hr.mono (by decide)) (pa_cons (pv 3) pa_nil)) (pa_cons (pe_cal C_l_lists (hr.mono (by decide)) (pa_cons (pv 4) pa_nil)) pa_nil)))) pa_nil))))
      (pss_cons (ps_if (pt_not (pt_val (pe_cal C_l_same (hr.mono (by decide)) (pa_cons (pv 6) (pa_cons (pe_lst (pa_cons (pv 5) (pa_cons (pe_cmp (pc_isN (pv 5)) rfl) pa_nil))) pa_nil))))) (pss_one (ps_ret pe_bl)) pss_nil)
      (pss_cons (ps_if (PW.pt (pw_and (pt_cmp (pc_notN (pv 5))) (pw_and1 (pt_cmpR (op_neD hr.units) (pe_cal C_l_heard (hr.mono (by decide)) (pa_cons (pv 2) (pa_cons (pv 3) (pa_cons (pv 4) (pa_cons (pe_ix ix_seq (pv 3) pe_int (fun _ _ => rfl)) (pa_cons (pe_ix ix_seq (pv 4) pe_int (fun _ _ => rfl)) pa_nil)))))) pe_str (nomark _))))) (pss_one (ps_ret pe_bl)) pss_nil)
      (pss_cons (ps_set (i := 7) sc_l_right.nd rfl (.inr rfl) (pe_cal C_l_let (hr.mono (by decide)) (pa_cons (pv 0) (pa_cons (pv 2) (pa_cons (pv 3) pa_nil)))))
      (pss_cons (ps_if (pt_not (pt_val (pe_cal C_l_same (hr.mono (by decide)) (pa_cons (pe_lst (pa_cons (pe_cal C_is_let (hr.mono (by decide)) (pa_cons (pv 2) (pa_cons (pv 3) (pa_cons (pv 7) pa_nil)))) (pa_cons (pe_cal C_broken_pair (hr.mono (by decide)) (pa_cons (pv 2) (pa_cons (pv 3) (pa_cons (pv 7) pa_nil)))) pa_nil))) (pa_cons (pe_lst (pa_cons pe_bl (pa_cons pe_non pa_nil))) pa_nil))))) (pss_one (ps_ret pe_bl)) pss_nil)
      (pss_cons (ps_set (i := 8) sc_l_right.nd rfl (.inl rfl) (pe_cal C_l_points (hr.mono (by decide)) (pa_cons (pv 0) (pa_cons (pv 1) (pa_cons pe_int pa_nil)))))
      (pss_cons (ps_set (i := 9) sc_l_right.nd rfl (.inl rfl) (pe_callTy call_tuple_of (by rfl) T.n_tuple (by decide +kernel) (pa_cons (pe_lc (own := [("_law_own", 19)]) (g := (gName 19)) (tt := tYes) (by rfl) sc_l_right.nd (pi_tup (pv 8)) (blkOk_by (own := [("_law_own", 19)]) (N := n_l_right) (sc := defScope s_l_right) (by decide +kernel)) (fun _ _ _ _ _ => (pg_name (i := 19) sc_l_right.nd rfl (.inl rfl) (.inr rfl))) (fun _ _ _ _ _ => pts_nil) (fun _ _ _ _ _ => (pe_cal C_law_at (hr.mono (by decide)) (pa_cons (pv 2) (pa_cons (pv 3) (pa_cons (pv 7) (pa_cons (pv 19) pa_nil))))))) pa_nil)))
      (pss_cons (ps_set (i := 10) sc_l_right.nd rfl (.inl rfl) (pe_callTy call_tuple_of (by rfl) T.n_tuple (by decide +kernel) (pa_cons (pe_lc (own := [("_law_own", 19)]) (g := (gName 19)) (tt := tYes) (by rfl) sc_l_right.nd (pi_tup (pv 8)) (blkOk_by (own := [("_law_own", 19)]) (N := n_l_right) (sc := defScope s_l_right) (by decide +kernel)) (fun _ _ _ _ _ => (pg_name (i := 19) sc_l_right.nd rfl (.inl rfl) (.inr rfl))) (fun _ _ _ _ _ => pts_nil) (fun _ _ _ _ _ => (pe_cal C_least_law_at (hr.mono (by decide)) (pa_cons (pe_cal C_l_lists (hr.mono (by decide)) (pa_cons (pv 2) pa_nil)) (pa_cons (pe_cal C_l_lists (hr.mono (by decide)) (pa_cons (pv 3) pa_nil)) (pa_cons (pe_cal C_l_lists (hr.mono (by decide)) (pa_cons (pv 7) pa_nil)) (pa_cons (pe_callTy (show CallR _ (.type "list") (rListS K) from call_list_of) (by rfl) T.n_list (by decide +kernel) (pa_cons (pv 19) pa_nil)) pa_nil))))))) pa_nil)))
      (pss_cons (ps_set (i := 11) sc_l_right.nd rfl (.inl rfl) (pe_tup (pa_cons (pe_lc (own := [("_law_own", 19)]) (g := (gName 19)) (tt := tYes) (by rfl) sc_l_right.nd (pi_tup (pv 8)) (blkOk_by (own := [("_law_own", 19)]) (N := n_l_right) (sc := defScope s_l_right) (by decide +kernel)) (fun _ _ _ _ _ => (pg_name (i := 19) sc_l_right.nd rfl (.inl rfl) (.inr rfl))) (fun _ _ _ _ _ => pts_nil) (fun _ _ _ _ _ => (pe_cal C_l_made (hr.mono (by decide)) (pa_cons (pv 2) (pa_cons (pv 3) (pa_cons (pv 7) (pa_cons (pv 19) pa_nil))))))) (pa_cons (pe_lc (own := [("_law_own", 19)]) (g := (gName 19)) (tt := tYes) (by rfl) sc_l_right.nd (pi_tup (pv 8)) (blkOk_by (own := [("_law_own", 19)]) (N := n_l_right) (sc := defScope s_l_right) (by decide +kernel)) (fun _ _ _ _ _ => (pg_name (i := 19) sc_l_right.nd rfl (.inl rfl) (.inr rfl))) (fun _ _ _ _ _ => pts_nil) (fun _ _ _ _ _ => (pe_cal C_l_least_made (hr.mono (by decide)) (pa_cons (pv 2) (pa_cons (pv 3) (pa_cons (pv 7) (pa_cons (pv 19) pa_nil))))))) pa_nil))))
      (pss_cons (ps_if (pt_not (pt_val (pe_cal C_l_same (hr.mono (by decide)) (pa_cons (pe_lst (pa_cons (pe_callTy call_list_of (by rfl) T.n_list (by decide +kernel) (pa_cons (pv 9) pa_nil)) (pa_cons (pe_callTy call_list_of (by rfl) T.n_list (by decide +kernel) (pa_cons (pv 10) pa_nil)) pa_nil))) (pa_cons (pe_lst (pa_cons (pe_ix ix_seq (pv 11) pe_int (fun _ _ => rfl)) (pa_cons (pe_ix ix_seq (pv 11) pe_int (fun _ _ => rfl)) pa_nil))) pa_nil))))) (pss_one (ps_ret pe_bl)) pss_nil)
      (pss_cons (ps_if (PW.pt (pw_or (pt_not (pt_val (pe_cal C_l_walked_right (hr.mono (by decide)) (pa_cons (pv 2) (pa_cons (pv 8) (pa_cons (pv 9) pa_nil)))))) (pw_or1 (pt_not (pt_val (pe_cal C_l_walked_right (hr.mono (by decide)) (pa_cons (pv 2) (pa_cons (pv 8) (pa_cons (pv 10) pa_nil))))))))) (pss_one (ps_ret pe_bl)) pss_nil)
      (pss_cons (ps_if (pt_not (pt_val (pe_cal C_l_same (hr.mono (by decide)) (pa_cons (pe_lc (own := [("_law_own", 19)]) (g := (gName 19)) (tt := tYes) (by rfl) sc_l_right.nd (pi_tup (pv 3)) (blkOk_by (own := [("_law_own", 19)]) (N := n_l_right) (sc := defScope s_l_right) (by decide +kernel)) (fun _ _ _ _ _ => (pg_name (i := 19) sc_l_right.nd rfl (.inl rfl) (.inr rfl))) (fun _ _ _ _ _ => pts_nil) (fun _ _ _ _ _ => (pe_cal C_law_at (hr.mono (by decide)) (pa_cons (pv 2) (pa_cons (pv 3) (pa_cons (pv 7) (pa_cons (pv 19) pa_nil))))))) (pa_cons (pe_callTy call_list_of (by rfl) T.n_list (by decide +kernel) (pa_cons (pv 7) pa_nil)) pa_nil))))) (pss_one (ps_ret pe_bl)) pss_nil)
      (pss_cons (ps_set (i := 12) sc_l_right.nd rfl (.inl rfl) (pe_cal C_l_of (hr.mono (by decide)) (pa_cons (pv 0) (pa_cons (pe_callTy call_list_of (by rfl) T.n_list (by decide +kernel) (pa_cons (pv 8) pa_nil)) pa_nil))))
      (pss_cons (ps_par (i := 13) (j := 14) rfl sc_l_right.nd rfl rfl (by decide) rfl rfl (pa_cons (pe_cal C_l_made (hr.mono (by decide)) (pa_cons (pv 2) (pa_cons (pv 3) (pa_cons (pv 7) (pa_cons (pv 12) pa_nil))))) (pa_cons (pe_cal C_l_least_made (hr.mono (by decide)) (pa_cons (pv 2) (pa_cons (pv 3) (pa_cons (pv 7) (pa_cons (pv 12) pa_nil))))) pa_nil)) (by rfl))
      (pss_cons (ps_set (i := 15) sc_l_right.nd rfl (.inl rfl) (pe_cal C_l_of (hr.mono (by decide)) (pa_cons (pv 0) (pa_cons (pe_lst (pa_cons (pe_tup (pa_cons pe_int (pa_cons pe_int pa_nil))) (pa_cons (pe_tup (pa_cons pe_int (pa_cons pe_int pa_nil))) (pa_cons (pe_tup (pa_cons pe_int (pa_cons pe_int pa_nil))) (pa_cons (pe_tup (pa_cons pe_int (pa_cons pe_int pa_nil))) (pa_cons (pe_tup (pa_cons (pe_un un_neg pe_int) (pa_cons pe_int pa_nil))) (pa_cons (pe_tup (pa_cons pe_int (pa_cons pe_int pa_nil))) pa_nil))))))) pa_nil))))
      (pss_cons (ps_set (i := 16) sc_l_right.nd rfl (.inl rfl) (pe_cal C_l_sum (hr.mono (by decide)) (pa_cons (pv 14) (pa_cons (pe_cal C_l_mul (hr.mono (by decide)) (pa_cons (pe_cal C_l_less_by (hr.mono (by decide)) (pa_cons (pv 13) (pa_cons (pv 14) pa_nil))) (pa_cons (pv 15) pa_nil))) pa_nil))))
      (pss_cons (ps_if (PW.pt (pw_and (pt_cmpR (op_eqD hr.units) (pv 13) (pv 14) (nomark _)) (pw_and1 (pt_cmpR op_eq (pe_cal C_l_take (hr.mono (by decide)) (pa_cons (pv 0) (pa_cons pe_int pa_nil))) pe_int (nomark _))))) (pss_one (ps_set (i := 16) sc_l_right.nd rfl (.inl rfl) (pe_cal C_l_sum (hr.mono (by decide)) (pa_cons (pv 14) (pa_cons (pe_tup (pa_cons pe_int (pa_cons pe_int pa_nil))) pa_nil))))) pss_nil)
      (pss_cons (ps_set (i := 17) sc_l_right.nd rfl (.inl rfl) (pe_cal C_l_put_in (hr.mono (by decide)) (pa_cons (pv 3) (pa_cons (pv 7) (pa_cons (pv 12) (pa_cons (pv 16) pa_nil))))))
      (pss_cons (ps_if (PW.pt (pw_or (pt_cmpR (op_inT hr.units) (pv 12) (pv 3) (by rfl)) (pw_or (pt_val (pe_cal C_l_lower (hr.mono (by decide)) (pa_cons (pv 16) (pa_cons (pv 14) pa_nil)))) (pw_or1 (pt_val (pe_cal C_l_lower (hr.mono (by decide)) (pa_cons (pv 13) (pa_cons (pv 16) pa_nil)))))))) (pss_one (ps_set (i := 17) sc_l_right.nd rfl (.inl rfl) pe_str)) pss_nil)
      (pss_cons (ps_set (i := 18) sc_l_right.nd rfl (.inl rfl) (pe_cal C_l_heard (hr.mono (by decide)) (pa_cons (pv 2) (pa_cons (pe_cal C_l_lists (hr.mono (by decide)) (pa_cons (pv 3) pa_nil)) (pa_cons (pv 7) (pa_cons (pe_callTy call_list_of (by rfl) T.n_list (by decide +kernel) (pa_cons (pv 12) pa_nil)) (pa_cons (pe_callTy call_list_of (by rfl) T.n_list (by decide +kernel) (pa_cons (pv 16) pa_nil)) pa_nil)))))))
      (pss_one (ps_ret (pe_and (pe_cal C_l_same (hr.mono (by decide)) (pa_cons (pv 18) (pa_cons (pv 17) pa_nil))) (pe_one (pe_or (pe_cmpR (op_eqD hr.units) (pv 17) pe_str (nomark _)) (pe_one (pe_cal C_l_is_let (hr.mono (by decide)) (pa_cons (pv 2) (pa_cons (pe_ix ix_seq (pv 17) pe_int (fun _ _ => rfl)) (pa_cons (pe_ix ix_seq (pv 17) pe_int (fun _ _ => rfl)) pa_nil)))))))))))))))))))))))))))))))))), ?_⟩
  have A0 : AllB (none :: (([] : List PyData).map some ++ List.replicate (n_l_right.length - (([] : List PyData).length + 1)) none)) := fun d hd => by simp at hd
  generalize hΔ : (none :: (([] : List PyData).map some ++ List.replicate (n_l_right.length - (([] : List PyData).length + 1)) none) : Dt) = Δ0 at A0 ⊢
  have L0 : Δ0 = [none, none, none, none, none, none, none, none, none, none, none, none, none, none, none, none, none, none, none, none] := hΔ.symm
  subst L0
  have tk : ∀ (Δ : Dt) (m : Nat), AllB Δ → 0 < m → m ≤ 1000 → EVB K 0 1 (tOp (rI0 fun i j => .int (i + j)) (tC (.int 1)) (tCall (SpB K 1 R_take) [] E0 (tCons (tVar 0) (tCons (tC (.int (m : Int))) tNil)))) Δ (fun d => ∃ j : Nat, d = .int (j : Int) ∧ 1 ≤ j ∧ j ≤ m) := fun Δ m hA h1 h2 => by
    have a : EVB K 0 1 (tCall (SpB K 1 R_take) [] E0 (tCons (tVar 0) (tCons (tC (.int (m : Int))) tNil))) Δ (fun d => ∃ j, d = .int j ∧ ∃ k : Nat, j = (k : Int) ∧ k < m) := vb_mono (vb_callP (m := 1) (v_cons v_ci v_nil) hA (R_take.mk m h1 h2)) (Nat.le_refl _) fun d ⟨j, e, h⟩ => ⟨_, e, j, rfl, h⟩
    refine vb_mono (vb_addI (i := 1) a) (Nat.le_refl _) fun d hd => ?_
    obtain ⟨_, e, k, rfl, hk⟩ := hd
    exact ⟨1 + k, by rw [e, Int.natCast_add]; rfl, by omega, by omega⟩
  -- the size
  refine rb_mono (m1 := 1 + 59) (rb_asg (m1 := 1) (m2 := 59) (i := 1) (tk _ 2 A0 (by decide) (by decide)) A0 (by decide) fun d hd => ?_) (by decide) fun _ h => h
  obtain ⟨n, rfl, n1, n2⟩ := hd
  have A1 := AllB.put (i := 1) (d := .int (n : Int)) A0 rfl
  -- the growth, the points
  refine rb_mono (m1 := 17 + 42) (rb_asgP (m1 := 17) (m2 := 42) (φ1 := fun d => ∃ g, d = rowsD g ∧ GOk n g) (φ2 := fun d => ∃ ps : List Row, d = rowsD ps ∧ ps ≠ [] ∧ ps.length ≤ 4 ∧ ∀ r ∈ ps, PtOk n r) ?_ A1 (by decide) (by decide) fun d e hd he => ?_) (by decide) fun _ h => h
  · have args := ab_cons (vb_pure (ib := 0) (v_var (K := K) (i := 1) (d := .int (n : Int)) rfl)) (ab_cons (tk _ 4 A1 (by decide) (by decide)) (ab_pure (ib := 0) v_nil) A1 fun d hd => by
      obtain ⟨j, e, _⟩ := hd
      rw [e]
      rfl) A1 fun d e => by
      subst e
      rfl
    have pts := vb_call (m := 8) (R := R_points) (φ := fun d => ∃ ps : List Row, d = rowsD ps ∧ ps ≠ [] ∧ ps.length ≤ 4 ∧ ∀ r ∈ ps, PtOk n r) args A1 fun ds hd => by
      obtain ⟨d, es, e1, p1, d2, es2, e2, ⟨j, e3, h1, h2⟩, e4⟩ := hd
      subst p1
      subst e3
      subst e4
      subst e2
      subst e1
      exact ⟨_, R_points.mk n j n1 n2 h1 h2, fun d ⟨ss, e1, e2, e3, e4⟩ => ⟨ss, e1, e2, Nat.le_trans e3 h2, e4⟩⟩
    have gr := vb_callP (m := 8) (R := R_growth) (ib := 0) (v_cons (v_var (K := K) (i := 1) rfl) v_nil) A1 (R_growth.mk n n1 n2)
    have both := ab_cons gr (ab_cons pts (ab_pure v_nil) A1 fun d hd => by
      obtain ⟨ps, e, _⟩ := hd
      rw [e]
      exact safe_tup (rows_tup _)) A1 fun d hd => by
      obtain ⟨g, e, _⟩ := hd
      rw [e]
      exact safe_tup (rows_tup _)
    refine vb_mono (vb_tup both fun ds hd => ?_) (by decide) fun d hd => ?_
    · obtain ⟨d, es, e1, _, d2, es2, e2, _, e3⟩ := hd
      subst e3
      subst e2
      subst e1
      show 2 ≤ 100000
      decide
    · obtain ⟨ds, ⟨d1, es, e1, p1, d2, es2, e2, p2, e3⟩, e⟩ := hd
      exact ⟨d1, d2, by rw [e, e1, e2, e3], p1, p2⟩
  obtain ⟨g, rfl, hg⟩ := hd
  obtain ⟨ps, rfl, pne, pl, pok⟩ := he
  have plen := len_row pok n2
  have glen : ∀ r ∈ g, r.length ≤ 1000 := hg.rl
  have gl : g.length ≤ 1000 := by have := hg.few; omega
  have pl2 : ps.length ≤ 1000 := by omega
  have tg : tupD (lstD (rowsD g)) = rowsD g := lst_back (rows_tup g)
  have tg2 : tupD (rowsD g) = rowsD g := tup_same _ (rows_tup g)
  have A3 := (A1.put (i := 2) (safe_tup (rows_tup g))).put (i := 3) (safe_tup (rows_tup ps))
  -- rough values
  refine rb_mono (m1 := 4 + 38) (rb_asg (m1 := 4) (m2 := 38) (i := 4) (φ1 := fun d => ∃ rs : Row, d = rowD rs ∧ rs.length = ps.length ∧ RowBd 2 3 rs) (vb_mono (vb_tupleOf (vb_lcT (i := 3) (m := 1) (ds := ps.map rowD) (φ := FrB 2 3) rfl A3 (by decide) (by decide) (by simp; omega) (fun d => frB_tup) (fun d hd => ?_) fun d hd => ?_) fun d hd => ?_) (by rw [List.length_map]; omega) fun d hd => ?_) A3 (by decide) fun d hd => ?_) (by decide) fun _ h => h
  · obtain ⟨r, _, rfl⟩ := List.mem_map.mp hd
    exact row_tup r
  · obtain ⟨r, _, rfl⟩ := List.mem_map.mp hd
    exact vb_callP v_nil ((A3.wipe _).put (safe_tup (row_tup r))) .mk
  · obtain ⟨es, e, _⟩ := hd
    exact ⟨es, e⟩
  · obtain ⟨es, ⟨es2, e, l, b⟩, rfl⟩ := hd
    obtain rfl : es = es2 := by injection e
    obtain ⟨r, e2, l2, b2⟩ := frB_row b
    exact ⟨r, by rw [e2]; rfl, by rw [l2, l, List.length_map], b2⟩
  obtain ⟨rs, rfl, rl, rb⟩ := hd
  have A4 := A3.put (i := 4) (safe_tup (row_tup rs))
  have zr : ZOk n (ps.zip rs) := zOk_zip 252 rfl (by decide) pne pl pok rl rb
  have ep : ptsD (ps.zip rs) = rowsD ps := pts_is (zip_fst rl)
  have ev : valsD (ps.zip rs) = rowD rs := vals_is rl
  have tp : tupD (rowsD ps) = ptsD (ps.zip rs) := by rw [ep]; exact tup_same _ (rows_tup ps)
  have tv : tupD (rowD rs) = valsD (ps.zip rs) := by rw [ev]; exact tup_same _ (row_tup rs)
  have tpl : tupD (lstD (rowsD ps)) = ptsD (ps.zip rs) := by rw [ep]; exact lst_back (rows_tup ps)
  have tvl : tupD (lstD (rowD rs)) = valsD (ps.zip rs) := by rw [ev]; exact lst_back (row_tup rs)
  have pr := R_pairL.mk n g (ps.zip rs) hg zr
  rw [ep, ev] at pr
  generalize hz : ps.zip rs = Z at zr ep ev tp tv tpl tvl pr
  refine rb_let (i := 5) (d := pairD (brokenP g Z)) (v_call (v_cons (v_var rfl) (v_cons (v_var rfl) (v_cons (v_var rfl) v_nil))) pr) (by decide) ?_
  have A5 := A4.put (i := 5) (safe_tup (pair_tup (brokenP g Z)))
  refine rb_let (i := 6) (d := .list [pairD (brokenP g Z), .bool (brokenP g Z).isNone]) (v_lst (v_cons (v_call (v_cons (v_var rfl) (v_cons (v_var rfl) (v_cons (v_var rfl) v_nil))) (R_broken.mk n g Z _ _ _ tg2 tp tv hg zr)) (v_cons (v_call (v_cons (v_call (v_cons (v_var rfl) v_nil) (lists_rows gl glen)) (v_cons (v_call (v_cons (v_var rfl) v_nil) (lists_rows pl2 plen)) (v_cons (v_call (v_cons (v_var rfl) v_nil) (lists_row (by omega))) v_nil))) (R_isLet.mk n g Z _ _ _ tg tpl tvl hg zr)) v_nil))) (by decide) ?_
  refine rb_when (a := false) (b_not (a := true) (b_B (v_call (v_cons (v_var rfl) (v_cons (v_is (v_lst (v_cons (v_var rfl) (v_cons (v_isN (v_var rfl)) v_nil))) (by rw [isNone_pair])) v_nil)) (R_same.mk _ (same_pair _).1 (same_pair _).2)))) (fun e => nomatch e) fun _ => ?_
  refine rb_lose ?_
  have A6 := allB_drop 6 A5
  -- values that are not let: unfit
  have uu : PyData.eqv (.str "unfit") (.str "unfit") = true := by decide +kernel
  have us : SeqAt.shaped (.str "unfit") = true := by decide +kernel
  refine rb_when (a := !isNone (pairD (brokenP g Z)) && false) (b_and (b_B (v_notN (v_var rfl))) fun hb => ?_) (fun e => by rw [Bool.and_false] at e; cases e) fun _ => ?_
  · have nl : ¬ Let g Z := fun hL => by
      rw [broken_none.mpr hL] at hb
      cases hb
    obtain ⟨p0, pt, rfl⟩ := List.exists_cons_of_ne_nil pne
    obtain ⟨r0, rt, rfl⟩ : ∃ r0 rt, rs = r0 :: rt := List.exists_cons_of_ne_nil fun z => by rw [z] at rl; simp at rl
    have hv : Bd 504 1000 r0 := ((rb r0 List.mem_cons_self).finer 252).mono (by decide)
    have zl : Z.length ≤ 5 := by
      rw [← hz, List.length_zip]
      omega
    refine b_is (b_test (v_neD (d1 := .str "unfit") (d2 := .str "unfit") (v_call (v_cons (v_var rfl) (v_cons (v_var rfl) (v_cons (v_var rfl) (v_cons (v_ixT (n := 0) (d := rowD p0) (v_var rfl) v_ci rfl) (v_cons (v_ixT (n := 0) (d := frD r0) (v_var rfl) v_ci rfl) v_nil)))))
      (R_heard.no n g Z p0 r0 _ ⟨⟨_, _, _, _, _, rfl, tg2, tp, tv, tup_same _ (row_tup p0), tup_same _ (fr_tup r0)⟩, hg, zr, zl, pok p0 List.mem_cons_self, hv⟩ fun ok => nl ok.1)) v_cs us us)) (by rw [uu]; rfl)
  clear hz pr tpl tvl tp tv ep ev
  -- values that are let
  refine rb_mono (m1 := 4 + 34) (rb_asg (m1 := 4) (m2 := 34) (i := 7) (vb_callP (m := 4) (v_cons (v_var rfl) (v_cons (v_var rfl) v_nil)) A6 (R_let.mk n g ps hg pne pl pok)) A6 (by decide) fun d hd => ?_) (by decide) fun _ h => h
  obtain ⟨zs, ⟨zp, rfl⟩, hL, zb⟩ := hd
  have A7 := A6.put (i := 7) (safe_tup (vals_tup zs))
  have ep : ptsD zs = rowsD ps := pts_is zp
  have zl : zs.length = ps.length := by rw [← zp, List.length_map]
  have zk : ZOk n zs := ⟨fun z => by rw [z] at zl; exact pne (List.eq_nil_of_length_eq_zero zl.symm), by omega, fun z hz => pok _ (by rw [← zp]; exact List.mem_map.mpr ⟨z, hz, rfl⟩), fun z hz => by
    have b := ((zb z hz).finer 126).mono (show 27 ≤ 1000 by decide)
    exact b⟩
  have tp : tupD (rowsD ps) = ptsD zs := by rw [ep]; exact tup_same _ (rows_tup ps)
  have tv : tupD (valsD zs) = valsD zs := tup_same _ (vals_tup zs)
  have tpl : tupD (lstD (rowsD ps)) = ptsD zs := by rw [ep]; exact lst_back (rows_tup ps)
  have tvl : tupD (lstD (valsD zs)) = valsD zs := lst_back (vals_tup zs)
  have vll : (zs.map (·.2)).length ≤ 1000 := by rw [List.length_map]; omega
  have bn : brokenP g zs = none := broken_none.mpr hL
  have r1 := R_isLet.mk n g zs _ _ _ tg2 tp tv hg zk
  have r2 := R_broken.mk n g zs _ _ _ tg2 tp tv hg zk
  rw [bn] at r1 r2
  refine rb_when (a := false) (b_not (a := true) (b_B (v_call (v_cons (v_lst (v_cons (v_call (v_cons (v_var rfl) (v_cons (v_var rfl) (v_cons (v_var rfl) v_nil))) r1) (v_cons (v_call (v_cons (v_var rfl) (v_cons (v_var rfl) (v_cons (v_var rfl) v_nil))) r2) v_nil))) (v_cons (v_lst (v_cons v_cb (v_cons v_cn v_nil))) v_nil)) (R_same.mk (.list [.bool true, .none]) (by decide +kernel) (by decide +kernel))))) (fun e => nomatch e) fun _ => ?_
  -- places
  refine rb_mono (m1 := 8 + 26) (rb_asg (m1 := 8) (m2 := 26) (i := 8) (vb_callP (m := 8) (v_cons (v_var rfl) (v_cons v_ci v_nil)) A7 (R_points.mk n 3 n1 n2 (by decide) (by decide))) A7 (by decide) fun d hd => ?_) (by decide) fun _ h => h
  obtain ⟨qs, rfl, qne, ql, qok⟩ := hd
  have A8 := A7.put (i := 8) (safe_tup (rows_tup qs))
  have mX : ∀ q, PtOk n q → R_madeX [rowsD g, rowsD ps, valsD zs, rowD q] (frD (made g zs q)) := fun q h => by
    have m := R_madeX.mk n g zs q hg zk h
    rwa [ep] at m
  have mL : ∀ q, PtOk n q → R_madeL least [rowsD g, rowsD ps, valsD zs, rowD q] (frD (least g zs q)) := fun q h => by
    have m := R_madeL.mk (F := least) n g zs q hg zk h
    rwa [ep] at m
  have bX : ∀ q, PtOk n q → Bd 4 51 (made g zs q) := fun q h => made_bd hg zk h zb
  have bL : ∀ q, PtOk n q → Bd 4 51 (least g zs q) := fun q h => least_bd hg zk h zb
  refine rb_let (i := 9) (d := rowD (qs.map (made g zs))) (v_is (v_tupleOf (v_lcT (i := 8) qs rowD (fun q => frD (made g zs q)) rfl (by omega) (fun q _ => fr_tup _) (by decide) fun q hq => v_call (v_cons (v_var rfl) (v_cons (v_var rfl) (v_cons (v_var rfl) (v_cons (v_var rfl) v_nil)))) (R_lawAt.mk n g zs q _ _ _ _ tg2 tp tv (tup_same _ (row_tup q)) hg zk (qok q hq) hL))) (by unfold rowD; rw [List.map_map]; rfl)) (by decide) ?_
  have A9 := A8.put (i := 9) (safe_tup (row_tup (qs.map (made g zs))))
  refine rb_let (i := 10) (d := rowD (qs.map (least g zs))) (v_is (v_tupleOf (v_lcT (i := 8) qs rowD (fun q => frD (least g zs q)) rfl (by omega) (fun q _ => fr_tup _) (by decide) fun q hq => v_call (v_cons (v_call (v_cons (v_var rfl) v_nil) (lists_rows gl glen)) (v_cons (v_call (v_cons (v_var rfl) v_nil) (lists_rows pl2 plen)) (v_cons (v_call (v_cons (v_var rfl) v_nil) (lists_row vll)) (v_cons (v_listOfT (v_var rfl)) v_nil)))) (R_lawAt.mk n g zs q _ _ _ _ tg tpl tvl (tup_list fun d hd => by
      obtain ⟨x, _, rfl⟩ := List.mem_map.mp hd
      exact fr_tup x) hg zk (qok q hq) hL))) (by unfold rowD; rw [List.map_map]; rfl)) (by decide) ?_
  have A10 := A9.put (i := 10) (safe_tup (row_tup (qs.map (least g zs))))
  refine rb_let (i := 11) (d := .tuple [.list ((qs.map (made g zs)).map frD), .list ((qs.map (least g zs)).map frD)]) (v_tup (v_cons (v_is (v_lcT (i := 8) qs rowD (fun q => frD (made g zs q)) rfl (by omega) (fun q _ => fr_tup _) (by decide) fun q hq => v_call (v_cons (v_var rfl) (v_cons (v_var rfl) (v_cons (v_var rfl) (v_cons (v_var rfl) v_nil)))) (mX q (qok q hq))) (by rw [List.map_map]; rfl))
    (v_cons (v_is (v_lcT (i := 8) qs rowD (fun q => frD (least g zs q)) rfl (by omega) (fun q _ => fr_tup _) (by decide) fun q hq => v_call (v_cons (v_var rfl) (v_cons (v_var rfl) (v_cons (v_var rfl) (v_cons (v_var rfl) v_nil)))) (mL q (qok q hq))) (by rw [List.map_map]; rfl)) v_nil))) (by decide) ?_
  have sm := rows_same (r1 := qs.map (made g zs)) (r2 := qs.map (least g zs)) (by rw [List.length_map]; omega) (by rw [List.length_map]; omega)
  refine rb_when (a := false) (b_not (a := true) (b_B (v_call (v_cons (v_lst (v_cons (v_listOfT (v_var rfl)) (v_cons (v_listOfT (v_var rfl)) v_nil))) (v_cons (v_lst (v_cons (v_ixT (n := 0) (v_var rfl) v_ci rfl) (v_cons (v_ixT (n := 1) (v_var rfl) v_ci rfl) v_nil))) v_nil)) (R_same.mk _ sm.1 sm.2)))) (fun e => nomatch e) fun _ => ?_
  refine rb_lose ?_
  have A11 := allB_drop 11 A10
  -- the laws walked
  have w1 := R_isLetL.mk n g (qs.map fun q => (q, made g zs q)) hg (shown_ok qne (by omega) qok fun q hq => bX q (qok q hq)) (let_of (n := n) (fun x y hx hy => made_rises hg.ne zk.ne zk.len hx hy) fun q hq => (qok q hq).len)
  have w2 := R_isLetL.mk n g (qs.map fun q => (q, least g zs q)) hg (shown_ok qne (by omega) qok fun q hq => bL q (qok q hq)) (let_of (n := n) (fun x y hx hy => least_rises hg.ne zk.ne zk.len hx hy) fun q hq => (qok q hq).len)
  rw [shown_pts, shown_vals] at w1 w2
  refine rb_when (a := false) (b_or (a := false) (b := false) (b_not (a := true) (b_B (v_call (v_cons (v_var rfl) (v_cons (v_var rfl) (v_cons (v_var rfl) v_nil))) w1))) fun _ => b_not (a := true) (b_B (v_call (v_cons (v_var rfl) (v_cons (v_var rfl) (v_cons (v_var rfl) v_nil))) w2))) (fun e => nomatch e) fun _ => ?_
  -- at the points the values
  have atp : ps.map (fun p => frD (made g zs p)) = (zs.map (·.2)).map frD := by
    rw [← zp, List.map_map, List.map_map]
    exact List.map_congr_left fun z hz => congrArg frD (made_at hg.ne hL hz)
  have sv := row_same (r := zs.map (·.2)) vll
  refine rb_when (a := false) (b_not (a := true) (b_B (v_call (v_cons (v_is (v_lcT (i := 3) ps rowD (fun p => frD (made g zs p)) rfl (by omega) (fun q _ => fr_tup _) (by decide) fun q hq => v_call (v_cons (v_var rfl) (v_cons (v_var rfl) (v_cons (v_var rfl) (v_cons (v_var rfl) v_nil)))) (R_lawAt.mk n g zs q _ _ _ _ tg2 tp tv (tup_same _ (row_tup q)) hg zk (pok q hq) hL)) (congrArg PyData.list atp)) (v_cons (v_listOfT (v_var rfl)) v_nil)) (R_same.mk _ sv.1 sv.2)))) (fun e => nomatch e) fun _ => ?_
  -- a place, a value there
  refine rb_forget 4 (rb_forget 5 (rb_forget 9 (rb_forget 10 ?_)))
  show SRB K 0 26 _ [none, some (.int (n : Int)), some (rowsD g), some (rowsD ps), none, none, none, some (valsD zs), some (rowsD qs), none, none, none, none, none, none, none, none, none, none, none] _
  clear A0 A1 A3 A4 A5 A6 A7 A8 A9 A10 A11 w1 w2 sm sv atp r1 r2 bn tk
  have A11 : AllB [none, some (.int (n : Int)), some (rowsD g), some (rowsD ps), none, none, none, some (valsD zs), some (rowsD qs), none, none, none, none, none, none, none, none, none, none, none] :=
    allB_none (allB_some rfl (allB_some (safe_tup (rows_tup g)) (allB_some (safe_tup (rows_tup ps)) (allB_none (allB_none (allB_none (allB_some (safe_tup (vals_tup zs)) (allB_some (safe_tup (rows_tup qs)) fun d hd => by simp at hd))))))))
  obtain ⟨q0, qt, rfl⟩ := List.exists_cons_of_ne_nil qne
  have qsafe : safe (.list (rowD q0 :: qt.map rowD)) = true := by
    show (tupOnly.tupOnlys (q0.map frD) && tupOnly.tupOnlys (qt.map rowD)) = true
    rw [tupOnlys_all.mpr fun d hd => by
      obtain ⟨x, _, rfl⟩ := List.mem_map.mp hd
      exact fr_tup x, tupOnlys_all.mpr fun d hd => by
      obtain ⟨x, _, rfl⟩ := List.mem_map.mp hd
      exact row_tup x]
    rfl
  refine rb_mono (m1 := 1 + 25) (rb_asg (m1 := 1) (m2 := 25) (i := 12) (φ1 := fun d => ∃ q, d = rowD q ∧ PtOk n q) (vb_of (x := rowD q0) (xs := qt.map rowD) (v_listOfT (ds := rowD q0 :: qt.map rowD) (v_var rfl)) A11 qsafe (by simp only [List.length_cons, List.length_map] at ql ⊢; omega) fun d hd => ?_) A11 (by decide) fun d hd => ?_) (by decide) fun _ h => h
  · rcases List.mem_cons.mp hd with e | e
    · exact ⟨q0, e, qok q0 List.mem_cons_self⟩
    · obtain ⟨q, hq, rfl⟩ := List.mem_map.mp e
      exact ⟨q, rfl, qok q (List.mem_cons_of_mem _ hq)⟩
  obtain ⟨q, rfl, pq⟩ := hd
  refine rb_forget 8 ?_
  show SRB K 0 25 _ [none, some (.int (n : Int)), some (rowsD g), some (rowsD ps), none, none, none, some (valsD zs), none, none, none, none, some (rowD q), none, none, none, none, none, none, none] _
  refine rb_let2 (i := 13) (j := 14) (d1 := frD (made g zs q)) (d2 := frD (least g zs q)) (v_cons (v_call (v_cons (v_var rfl) (v_cons (v_var rfl) (v_cons (v_var rfl) (v_cons (v_var rfl) v_nil)))) (mX q pq)) (v_cons (v_call (v_cons (v_var rfl) (v_cons (v_var rfl) (v_cons (v_var rfl) (v_cons (v_var rfl) v_nil)))) (mL q pq)) v_nil)) (by decide) (by decide) ?_
  have bM := bX q pq
  have bN := bL q pq
  generalize hM : made g zs q = M at bM ⊢
  generalize hN : least g zs q = N at bN ⊢
  show SRB K 0 25 _ [none, some (.int (n : Int)), some (rowsD g), some (rowsD ps), none, none, none, some (valsD zs), none, none, none, none, some (rowD q), some (frD M), some (frD N), none, none, none, none, none] _
  have A14 : AllB [none, some (.int (n : Int)), some (rowsD g), some (rowsD ps), none, none, none, some (valsD zs), none, none, none, none, some (rowD q), some (frD M), some (frD N), none, none, none, none, none] :=
    allB_none (allB_some rfl (allB_some (safe_tup (rows_tup g)) (allB_some (safe_tup (rows_tup ps)) (allB_none (allB_none (allB_none (allB_some (safe_tup (vals_tup zs)) (allB_none (allB_none (allB_none (allB_none (allB_some (safe_tup (row_tup q)) (allB_some (safe_tup (fr_tup M)) (allB_some (safe_tup (fr_tup N)) fun d hd => by simp at hd))))))))))))))
  refine rb_mono (m1 := 1 + 24) (rb_asg (m1 := 1) (m2 := 24) (i := 15) (vb_of (φ := FrB 42 2) (v_lst (v_cons (v_two v_ci v_ci) (v_cons (v_two v_ci v_ci) (v_cons (v_two v_ci v_ci) (v_cons (v_two v_ci v_ci) (v_cons (v_two (v_neg v_ci) v_ci) (v_cons (v_two v_ci v_ci) v_nil))))))) A14 rfl (by decide)
    (frB_all p0 (frB_all p1 (frB_all p12 (frB_all p13 (frB_all p17 (frB_all p87 frB_no))))))) A14 (by decide) fun d hd => ?_) (by decide) fun _ h => h
  obtain ⟨part, rfl, bp⟩ := hd
  have bd : Bd 4 (51 + 51) (M - N) := bM.sub bN
  have bm : Bd (4 * 42) ((51 + 51) * 2) ((M - N) * part) := bd.mul bp
  have bv : Bd (4 * 42) (51 + (51 + 51) * 2) (N + (M - N) * part) := (bN.finer 42).add bm
  refine rb_let (i := 16) (d := frD (N + (M - N) * part)) (v_call (v_cons (v_var rfl) (v_cons (v_call (v_cons (v_call (v_cons (v_var rfl) (v_cons (v_var rfl) v_nil)) (R_two.mk (f := fun q r => q - r) _ _ bM.sm' bN.sm')) (v_cons (v_var rfl) v_nil)) (R_two.mk (f := fun q r => q * r) _ _ bd.sm' bp.sm')) v_nil)) (R_two.mk (f := fun q r => q + r) _ _ bN.sm' bm.sm')) (by decide) ?_
  have b2 : Bd 36 (51 + 1) (N + 1/9) := (bN.finer 9).add b19
  have v1 : Bd 504 1000 (N + (M - N) * part) := (bv.finer 3).mono (by decide)
  have v2 : Bd 504 1000 (N + 1/9) := (b2.finer 14).mono (by decide)
  generalize hV : N + (M - N) * part = V0 at v1 ⊢
  refine rb_forget 15 ?_
  show SRB K 0 24 _ [none, some (.int (n : Int)), some (rowsD g), some (rowsD ps), none, none, none, some (valsD zs), none, none, none, none, some (rowD q), some (frD M), some (frD N), none, some (frD V0), none, none, none] _
  have A16 : AllB [none, some (.int (n : Int)), some (rowsD g), some (rowsD ps), none, none, none, some (valsD zs), none, none, none, none, some (rowD q), some (frD M), some (frD N), none, some (frD V0), none, none, none] :=
    allB_none (allB_some rfl (allB_some (safe_tup (rows_tup g)) (allB_some (safe_tup (rows_tup ps)) (allB_none (allB_none (allB_none (allB_some (safe_tup (vals_tup zs)) (allB_none (allB_none (allB_none (allB_none (allB_some (safe_tup (row_tup q)) (allB_some (safe_tup (fr_tup M)) (allB_some (safe_tup (fr_tup N)) (allB_none (allB_some (safe_tup (fr_tup V0)) fun d hd => by simp at hd))))))))))))))))
  have f19 : PyData.tuple [.int 1, .int 9] = frD (1/9) := fr_lit (by decide +kernel) (by decide +kernel)
  refine rb_mono (m1 := 1 + 0) (rb_ifasgB (m1 := 1) (m2 := 0) (i := 16) (d := frD (N + 1/9)) A16 (tb_and ⟨_, b_test (v_eqD (v_var rfl) (v_var rfl) (shape_fr _) (shape_fr _))⟩ (tb_eq0 (vb_mono (vb_callP (m := 1) (v_cons v_ci v_nil) A16 (R_take.mk 2 (by decide) (by decide))) (Nat.le_refl _) fun d ⟨j, e, _⟩ => ⟨_, e⟩)))
    (v_call (v_cons (v_var rfl) (v_cons (v_is (v_two v_ci v_ci) f19) v_nil)) (R_two.mk (f := fun q r => q + r) _ _ bN.sm' b19.sm')) (by decide) ?k1 ?k2) (by decide) fun _ h => h
  case' k1 => (show SRB K 0 0 _ [none, some (.int (n : Int)), some (rowsD g), some (rowsD ps), none, none, none, some (valsD zs), none, none, none, none, some (rowD q), some (frD M), some (frD N), none, some (frD (N + 1/9)), none, none, none] _; have hv := v2; generalize N + 1/9 = V at hv ⊢)
  case' k2 => (have hv := v1; generalize V0 = V at hv ⊢)
  all_goals
    clear v1 v2 b2 bv bm bd
    refine rb_sr (d := .bool true) ?_ rfl
    have smV : Sm V := hv.sm'
    have pt := R_put.mk zs q V (by omega)
    rw [ep] at pt
    have zN := zok_more zk (by omega : zs.length ≤ 5) pq hv
    have sn := put_same (zs := sortZ (zs ++ [(q, V)])) (by have := zN.few; omega) (fun z hz => by have := (zN.pt z hz).len; omega)
    have lm := let_more hg.ne zk.ne hL q V
    rw [hM, hN] at lm
    have ask : Ask n g zs q V [rowsD g, lstD (rowsD ps), valsD zs, .list (q.map frD), .list [.int V.num, .int (V.den : Int)]] := ⟨⟨_, _, _, _, _, rfl, tg2, tpl, tv, tup_list fun d hd => by
      obtain ⟨x, _, rfl⟩ := List.mem_map.mp hd
      exact fr_tup x, tup_list fun d hd => by
      rcases List.mem_cons.mp hd with e | e
      · rw [e]; rfl
      · rw [List.mem_singleton.mp e]; rfl⟩, hg, zk, by omega, pq, hv⟩
    refine r_seq (n_asg (i := 17) (v_call (v_cons (v_var rfl) (v_cons (v_var rfl) (v_cons (v_var rfl) (v_cons (v_var rfl) v_nil)))) pt)) ?_
    generalize hZ : sortZ (zs ++ [(q, V)]) = Y at zN sn pt ⊢
    show SR K _ [none, some (.int (n : Int)), some (rowsD g), some (rowsD ps), none, none, none, some (valsD zs), none, none, none, none, some (rowD q), some (frD M), some (frD N), none, some (frD V), some (.tuple [ptsD Y, valsD Y]), none, none] _
    have out := b_or (K := K) (Δ := [none, some (.int (n : Int)), some (rowsD g), some (rowsD ps), none, none, none, some (valsD zs), none, none, none, none, some (rowD q), some (frD M), some (frD N), none, some (frD V), some (.tuple [ptsD Y, valsD Y]), none, none]) (b_test (v_is (v_inT (ds := ps.map rowD) (v_var (i := 12) rfl) (v_var (i := 3) rfl) (shape_row q) (Nat.le_trans (row_depth q) (by decide)) (shape_rows ps)) (congrArg PyData.bool (any_rows ps q))))
      (fun _ => b_or (b_B (v_call (R := R_below) (v_cons (v_var (i := 16) rfl) (v_cons (v_var (i := 14) rfl) v_nil)) (.mk V N smV bN.sm'))) fun _ => b_B (v_call (R := R_below) (v_cons (v_var (i := 13) rfl) (v_cons (v_var (i := 16) rfl) v_nil)) (.mk M V bM.sm' smV)))
    by_cases ok : okW g zs q V
    · have hb : (decide (q ∈ ps) || (decide (V < N) || decide (M < V))) = false := by
        obtain ⟨_, o2, o3⟩ := ok
        rw [zp] at o2
        obtain ⟨o4, o5⟩ := lm.mp o3
        rw [decide_eq_false o2, decide_eq_false (by grind), decide_eq_false (by grind)]
        rfl
      rw [hb] at out
      have tl := R_heard.yes n g zs q V _ ask ok
      rw [hZ] at tl
      refine r_seq (n_if out (fun e => nomatch e) fun _ => n_next) ?_
      refine r_seq (n_asg (i := 18) (v_call (v_cons (v_var rfl) (v_cons (v_call (v_cons (v_var rfl) v_nil) (lists_rows pl2 plen)) (v_cons (v_var rfl) (v_cons (v_listOfT (v_var rfl)) (v_cons (v_listOfT (v_var rfl)) v_nil))))) tl)) ?_
      have lt : Let g Y := by
        rw [← hZ]
        exact (Let.perm (sortZ_perm _)).mpr ok.2.2
      refine r_ret (v_is (v_andV (v_call (v_cons (v_var rfl) (v_cons (v_var rfl) v_nil)) (R_same.mk _ sn.1 sn.2.1)) fun _ => v_orV (v_eqD (v_var rfl) v_cs sn.2.2 us) fun _ => v_call (v_cons (v_var rfl) (v_cons (v_ixT (n := 0) (v_var rfl) v_ci rfl) (v_cons (v_ixT (n := 1) (v_var rfl) v_ci rfl) v_nil))) (R_isLetL.mk n g Y hg zN lt)) (by rw [tupU]; rfl))
    · have hb : (decide (q ∈ ps) || (decide (V < N) || decide (M < V))) = true := by
        cases hq : (decide (q ∈ ps) || (decide (V < N) || decide (M < V))) with
        | true => rfl
        | false =>
          exfalso
          rw [Bool.or_eq_false_iff, Bool.or_eq_false_iff] at hq
          have o1 := of_decide_eq_false hq.1
          have o2 := of_decide_eq_false hq.2.1
          have o3 := of_decide_eq_false hq.2.2
          exact ok ⟨hL, by rw [zp]; exact o1, lm.mpr ⟨by grind, by grind⟩⟩
      rw [hb] at out
      refine r_seq (n_if out (fun _ => n_asg (i := 17) v_cs) fun e => nomatch e) ?_
      refine r_seq (n_asg (i := 18) (v_call (v_cons (v_var rfl) (v_cons (v_call (v_cons (v_var rfl) v_nil) (lists_rows pl2 plen)) (v_cons (v_var rfl) (v_cons (v_listOfT (v_var rfl)) (v_cons (v_listOfT (v_var rfl)) v_nil))))) (R_heard.no n g zs q V _ ask ok))) ?_
      exact r_ret (v_is (v_andV (v_call (v_cons (v_var rfl) (v_cons (v_var rfl) v_nil)) (R_same.mk (.str "unfit") (by decide +kernel) (by decide +kernel))) fun _ => v_orV (b := true) (v_eqD (v_var rfl) v_cs us us) fun e => by rw [uu] at e; cases e) (by rw [uu]; rfl))
end
end K17

end
section
set_option maxHeartbeats 8000000
/-! # law(script) -/
namespace K17
open PySem PySem.Spec PyProof.Rows L2 Evl RZ
def SpLaw (K : PySem.W.Frag) : Sp := fun vs H Q _ => ∃ (a : Addr) (ns : List Int), vs = [.ref a] ∧ SqL K H a (ns.map V.int) ∧ ns.length ≤ 63 ∧ ∀ H', Q (.bl true) H'
section
variable {P : Program} {w : World} {K : PySem.W.Frag} {mg : Str → Option Value} {base : Heap} {aN aL CU : Addr}
theorem c_law {f : Addr} {fd : FuncData} (T : Txt K mg aN aL) (D : Fun K "law" "law" s_law f fd) (C_l_cells : Cal P w K mg base CX0 1 "_law_cells" p_l_cells (SpCells K)) (C_l_by_hand_right : Cal P w K mg base CX0 13 "_law_by_hand_right" p_l_by_hand_right (SpD K R_hand))
    (C_l_right : Cal P w K mg base CX0 13 "_law_right" p_l_right (SpB K 60 R_right)) (C_l_box : Cal P w K mg base CX0 1 "_law_box" p_l_box (SpBox K)) : FnOk P w K mg base CX0 14 f fd p_law (SpLaw K) := by
  refine D.ok sc_law (fun vs H Q E ⟨a, ns, e, _⟩ => by rw [e]; rfl) fun cdv A outer s H vs Q E hr ⟨a, ns, e, hs, hl, q⟩ => ?_
  subst e
  refine ⟨_, (pss_cons (ps_set (i := 1) sc_law.nd rfl (.inr rfl) (pe_cal C_l_cells (hr.mono (by decide)) (pa_cons (pv 0) (pa_cons pe_int pa_nil))))
      (pss_one (ps_ret (pe_and (pe_cal0 C_l_by_hand_right (hr.mono (by decide))) (pe_one (pe_callB (cr_all rfl) (by rfl) T.n_all (by decide +kernel) (pa_cons (pe_lc (own := [("_law_k", 2), ("_law_own", 3)]) (g := (gTup K 2 (gCons (gName 2) (gCons (gName 3) gNil)))) (tt := tYes) (by rfl) sc_law.nd (pi_enum (by rfl) T.n_enumerate (pa_cons (pv 1) pa_nil)) (blkOk_by (own := [("_law_k", 2), ("_law_own", 3)]) (N := n_law) (sc := defScope s_law) (by decide +kernel)) (fun _ _ _ _ _ => (pg_tup (n := 2) rfl (pgs_cons (pg_name (i := 2) sc_law.nd rfl (.inl rfl) (.inr rfl)) (pgs_cons (pg_name (i := 3) sc_law.nd rfl (.inl rfl) (.inr rfl)) pgs_nil)))) (fun _ _ _ _ _ => pts_nil) (fun _ _ _ _ _ => (pe_cal C_l_right (hr.mono (by decide)) (pa_cons (pe_cal C_l_box (hr.mono (by decide)) (pa_cons (pv 1) (pa_cons (pv 2) pa_nil))) pa_nil)))) pa_nil))))))), ?_⟩
  have lone : List.length ns ≤ 1000 := by omega
  refine ⟨.ref a, rfl, ns, .cons (.lst hs (dps_ints ns)) (.cons (.int 2) .nil), lone, fun v H1 ms e1 hv hm => ?_⟩
  obtain ⟨l, xs, rfl, hl1, hx⟩ := dp_ref_lst hv
  obtain rfl := ints_dps ms xs hx
  unfold tRet tAndV
  dsimp only
  have st : Sl K [some (.ref a), some (.ref l), none, none] H1 [none, none, none, none] := ⟨rfl, fun i d h => by
    match i, h with
    | 0, h => simp at h
    | 1, h => simp at h
    | 2, h => simp at h
    | 3, h => simp at h
    | n + 4, h => simp at h⟩
  refine (v_call (K := K) (R := R_hand) (Δ := [none, none, none, none]) v_nil .mk) _ H1 st H1 (Ex.refl _) _ fun b H2 e2 hb => ?_
  rw [dp_bool hb]
  refine ⟨true, rfl, ?_⟩
  rw [if_pos rfl]
  have hl2 := ex_l e2 hl1
  refine ⟨.ref l, rfl, l, ms.map V.int, rfl, hl2, fun N hN => ?_⟩
  refine lc_it (walk_enum (K := K) (a := l) (xs := ms.map V.int)) (Pv := fun i H' => Ex H2 H' ∧ H' N = some (.lst ((List.replicate i true).map V.bl))) ⟨Ex.new hN, upd_same⟩ (fun i H' _ p => ex_l p.1 hl2) ?_ ?_
  · rintro i x H3 H4 hi ⟨p1, p2⟩ ⟨t, y1, y2, rfl, ht, rfl, g1, g2⟩
    have hy1 : y1 = .int (i : Nat) := (Option.some.inj g1).symm
    subst hy1
    have e4 : Ex H3 (upd H3 t (.tup [.int (i : Nat), y2])) := Ex.new ht
    have ilt : i < ms.length := by rw [List.length_map] at hi; exact hi
    refine ⟨t, [.int (i : Nat), y2], rfl, .of upd_same, rfl, _, _, rfl, _, [], rfl, rfl, rfl, ?_⟩
    dsimp only [tYes]
    rw [if_pos rfl]
    have p2' := e4 _ _ p2
    have p1' := p1.trans e4
    generalize upd H3 t (.tup [.int (i : Nat), y2]) = H5 at p1' p2' ⊢
    refine ⟨.ref l, rfl, .int (i : Nat), rfl, ms, i, .cons (.lst (ex_l p1' hl2) (dps_ints ms)) (.cons (.int _) .nil), ilt, by omega, fun b H6 e6 hb6 bx => ?_⟩
    refine ⟨b, 0, [], [], (· = .bool true), rfl, bx, by decide, .nil, .mk, fun v d H7 hd ex bx7 hvd => ?_⟩
    subst hd
    rw [dp_bool hvd]
    have e57 : Ex H5 H7 := fun c o hc => ex c o (fun z => by rw [z, hb6] at hc; cases hc) (e6 c o hc)
    refine ⟨_, e57 _ _ p2', sz_lt (by rw [List.length_map, List.length_replicate]; omega), Ex.mut (p1'.trans e57) hN, ?_⟩
    rw [upd_same]
    congr 2
    rw [List.replicate_succ', List.map_append]
    rfl
  · rintro H3 ⟨p1, p2⟩
    refine ⟨N, _, rfl, .of p2, ?_⟩
    have al : (List.replicate (ms.map V.int).length true).all id = true := by simp
    rw [al]
    exact q H3
end
end K17

end
section
set_option maxHeartbeats 8000000
/-! # All of it, from what the top has written -/
namespace K17
open PySem PySem.Spec PyProof.Rows L2 Evl RZ
section
variable {P : Program} {w : World} {K : PySem.W.Frag} {mg : Str → Option Value} {base : Heap} {aN aL CU : Addr}
theorem whole {f : Addr} {fd : FuncData} (T : Txt K mg aN aL) (U : Unf K mg CU) (D_tupled : Dfn K mg "tupled" s_tupled p_tupled) (D_part_of : Dfn K mg "part_of" s_part_of p_part_of) (D_part_plus : Dfn K mg "part_plus" s_part_plus p_part_plus) (D_part_minus : Dfn K mg "part_minus" s_part_minus p_part_minus) (D_part_less : Dfn K mg "part_less" s_part_less p_part_less) (D_part_times : Dfn K mg "part_times" s_part_times p_part_times) (D_part_below : Dfn K mg "part_below" s_part_below p_part_below) (D_part_sum : Dfn K mg "part_sum" s_part_sum p_part_sum) (D_cells_dot : Dfn K mg "cells_dot" s_cells_dot p_cells_dot) (D_cells_plus : Dfn K mg "cells_plus" s_cells_plus p_cells_plus) (D_cells_times : Dfn K mg "cells_times" s_cells_times p_cells_times) (D_cells_made : Dfn K mg "cells_made" s_cells_made p_cells_made) (D_greatest_part : Dfn K mg "greatest_part" s_greatest_part p_greatest_part) (D_least_part : Dfn K mg "least_part" s_least_part p_least_part) (D_cost : Dfn K mg "cost" s_cost p_cost) (D_cost_between : Dfn K mg "cost_between" s_cost_between p_cost_between) (D_broken_pair : Dfn K mg "broken_pair" s_broken_pair p_broken_pair) (D_is_let : Dfn K mg "is_let" s_is_let p_is_let) (D_sure_let : Dfn K mg "sure_let" s_sure_let p_sure_let) (D_shown_from : Dfn K mg "shown_from" s_shown_from p_shown_from) (D_law_at : Dfn K mg "law_at" s_law_at p_law_at) (D_least_law_at : Dfn K mg "least_law_at" s_least_law_at p_least_law_at) (D_with_point : Dfn K mg "with_point" s_with_point p_with_point) (D_l_box : Dfn K mg "_law_box" s_l_box p_l_box) (D_l_take : Dfn K mg "_law_take" s_l_take p_l_take) (D_l_cells : Dfn K mg "_law_cells" s_l_cells p_l_cells) (D_l_of : Dfn K mg "_law_of" s_l_of p_l_of) (D_l_lists : Dfn K mg "_law_lists" s_l_lists p_l_lists) (D_l_same : Dfn K mg "_law_same" s_l_same p_l_same) (D_l_gcd : Dfn K mg "_law_gcd" s_l_gcd p_l_gcd) (D_l_fr : Dfn K mg "_law_fr" s_l_fr p_l_fr) (D_l_sum : Dfn K mg "_law_sum" s_l_sum p_l_sum) (D_l_less_by : Dfn K mg "_law_less_by" s_l_less_by p_l_less_by) (D_l_mul : Dfn K mg "_law_mul" s_l_mul p_l_mul) (D_l_dot : Dfn K mg "_law_dot" s_l_dot p_l_dot) (D_l_many : Dfn K mg "_law_many" s_l_many p_l_many) (D_l_idle : Dfn K mg "_law_idle" s_l_idle p_l_idle) (D_l_less_rows : Dfn K mg "_law_less_rows" s_l_less_rows p_l_less_rows) (D_l_lower : Dfn K mg "_law_lower" s_l_lower p_l_lower) (D_l_lowest : Dfn K mg "_law_lowest" s_l_lowest p_l_lowest) (D_l_highest : Dfn K mg "_law_highest" s_l_highest p_l_highest) (D_l_cost : Dfn K mg "_law_cost" s_l_cost p_l_cost) (D_l_rise_cost : Dfn K mg "_law_rise_cost" s_l_rise_cost p_l_rise_cost) (D_l_settled : Dfn K mg "_law_settled" s_l_settled p_l_settled) (D_l_is_let : Dfn K mg "_law_is_let" s_l_is_let p_l_is_let) (D_l_made : Dfn K mg "_law_made" s_l_made p_l_made) (D_l_slope : Dfn K mg "_law_slope" s_l_slope p_l_slope) (D_l_growth : Dfn K mg "_law_growth" s_l_growth p_l_growth) (D_l_place : Dfn K mg "_law_place" s_l_place p_l_place) (D_l_points : Dfn K mg "_law_points" s_l_points p_l_points) (D_l_small : Dfn K mg "_law_small" s_l_small p_l_small) (D_l_let : Dfn K mg "_law_let" s_l_let p_l_let) (D_l_least_made : Dfn K mg "_law_least_made" s_l_least_made p_l_least_made) (D_l_pair_of : Dfn K mg "_law_pair_of" s_l_pair_of p_l_pair_of) (D_l_put_in : Dfn K mg "_law_put_in" s_l_put_in p_l_put_in) (D_l_heard : Dfn K mg "_law_heard" s_l_heard p_l_heard) (D_l_walked_right : Dfn K mg "_law_walked_right" s_l_walked_right p_l_walked_right) (D_l_right : Dfn K mg "_law_right" s_l_right p_l_right) (D_l_by_hand_right : Dfn K mg "_law_by_hand_right" s_l_by_hand_right p_l_by_hand_right) (D_law : Fun K "law" "law" s_law f fd) : FnOk P w K mg base CX0 14 f fd p_law (SpLaw K) := by
  have C_l_cells := c_l_cells (P := P) (w := w) (base := base) T D_l_cells
  have C_tupled := c_tupled (P := P) (w := w) (base := base) T D_tupled 4
  have C_part_of := c_part_of (P := P) (w := w) (base := base) T D_part_of
  have C_part_plus := c_part_plus (P := P) (w := w) (base := base) T D_part_plus C_part_of
  have C_part_minus := c_part_minus (P := P) (w := w) (base := base) T D_part_minus
  have C_part_less := c_part_less (P := P) (w := w) (base := base) T D_part_less C_part_plus C_part_minus
  have C_part_below := c_part_below (P := P) (w := w) (base := base) T D_part_below
  have C_greatest_part := c_greatest_part (P := P) (w := w) (base := base) T D_greatest_part C_part_below
  have C_part_sum := c_part_sum (P := P) (w := w) (base := base) T D_part_sum C_part_plus
  have C_part_times := c_part_times (P := P) (w := w) (base := base) T D_part_times C_part_of
  have C_cells_dot := c_cells_dot (P := P) (w := w) (base := base) T D_cells_dot C_part_sum C_part_times
  have C_cells_made := c_cells_made (P := P) (w := w) (base := base) T D_cells_made C_cells_dot
  have C_cost := c_cost (P := P) (w := w) (base := base) T D_cost C_tupled C_greatest_part C_cells_made
  have C_cells_plus := c_cells_plus (P := P) (w := w) (base := base) T D_cells_plus C_part_plus
  have C_cells_times := c_cells_times (P := P) (w := w) (base := base) T D_cells_times C_part_times
  have C_cost_between := c_cost_between (P := P) (w := w) (base := base) T D_cost_between C_cost C_cells_plus C_cells_times
  have C_broken_pair := c_broken_pair (P := P) (w := w) (base := base) T D_broken_pair C_tupled C_part_less C_part_below C_cost_between
  have C_is_let := c_is_let (P := P) (w := w) (base := base) T D_is_let C_broken_pair
  have C_sure_let := c_sure_let (P := P) (w := w) (base := base) T D_sure_let C_is_let C_tupled
  have C_least_part := c_least_part (P := P) (w := w) (base := base) T D_least_part C_part_below
  have C_shown_from := c_shown_from (P := P) (w := w) (base := base) T D_shown_from C_part_plus C_cost_between
  have C_law_at := c_law_at (P := P) (w := w) (base := base) T D_law_at C_sure_let C_tupled C_least_part C_shown_from
  have C_least_law_at := c_least_law_at (P := P) (w := w) (base := base) T D_least_law_at C_sure_let C_tupled C_greatest_part C_part_less C_cost_between
  have CX_sure_let := c_sure_let2 (P := P) (w := w) (base := base) T U D_sure_let C_is_let C_tupled
  have C_with_point := c_with_point (P := P) (w := w) (base := base) T U D_with_point CX_sure_let C_tupled
  have C_l_heard := c_l_heard (P := P) (w := w) (base := base) T U D_l_heard C_with_point
  have C_l_same := c_l_same (P := P) (w := w) (base := base) T D_l_same 8
  have C_l_by_hand_right := c_l_by_hand_right (P := P) (w := w) (base := base) T D_l_by_hand_right C_law_at C_least_law_at C_is_let C_l_heard C_l_same
  have C_l_take := c_l_take (P := P) (w := w) (base := base) T D_l_take
  have C_l_of := c_l_of (P := P) (w := w) (base := base) T D_l_of C_l_take
  have C_l_slope := c_l_slope (P := P) (w := w) (base := base) T D_l_slope C_l_of
  have C_l_settled := c_l_settled (P := P) (w := w) (base := base) T D_l_settled
  have C_l_idle := c_l_idle (P := P) (w := w) (base := base) T D_l_idle
  have C_l_gcd := c_l_gcd (P := P) (w := w) (base := base) T D_l_gcd
  have C_l_fr := c_l_fr (P := P) (w := w) (base := base) T D_l_fr C_l_gcd
  have C_l_mul := c_l_mul (P := P) (w := w) (base := base) T D_l_mul C_l_fr
  have C_l_many := c_l_many (P := P) (w := w) (base := base) T D_l_many C_l_mul
  have C_l_growth := c_l_growth (P := P) (w := w) (base := base) T D_l_growth C_l_take C_l_slope C_l_settled C_l_idle C_l_many
  have C_l_place := c_l_place (P := P) (w := w) (base := base) T D_l_place C_l_of
  have C_l_points := c_l_points (P := P) (w := w) (base := base) T D_l_points C_l_place C_l_settled
  have C_l_small := c_l_small (P := P) (w := w) (base := base) T D_l_small C_l_of
  have C_l_lower := c_l_lower (P := P) (w := w) (base := base) T D_l_lower
  have C_l_highest := c_l_highest (P := P) (w := w) (base := base) T D_l_highest C_l_lower
  have C_l_sum := c_l_sum (P := P) (w := w) (base := base) T D_l_sum C_l_fr
  have C_l_dot := c_l_dot (P := P) (w := w) (base := base) T D_l_dot C_l_sum C_l_mul
  have C_l_cost := c_l_cost (P := P) (w := w) (base := base) T D_l_cost C_l_highest C_l_dot
  have C_l_less_by := c_l_less_by (P := P) (w := w) (base := base) T D_l_less_by C_l_fr
  have C_l_less_rows := c_l_less_rows (P := P) (w := w) (base := base) T D_l_less_rows C_l_less_by
  have C_l_rise_cost := c_l_rise_cost (P := P) (w := w) (base := base) T D_l_rise_cost C_l_cost C_l_less_rows
  have C_l_pair_of := c_l_pair_of (P := P) (w := w) (base := base) T D_l_pair_of C_l_lower C_l_rise_cost C_l_less_by
  have C_l_lists := c_l_lists (P := P) (w := w) (base := base) T D_l_lists 8
  have C_l_lowest := c_l_lowest (P := P) (w := w) (base := base) T D_l_lowest C_l_lower
  have C_l_made := c_l_made2 (P := P) (w := w) (base := base) T D_l_made C_l_lowest C_l_rise_cost C_l_sum
  have C_l_let := c_l_let (P := P) (w := w) (base := base) T D_l_let C_l_small C_l_made
  have C_l_least_made := c_l_least_made (P := P) (w := w) (base := base) T D_l_least_made C_l_highest C_l_rise_cost C_l_less_by
  have C_l_is_let := c_l_is_let (P := P) (w := w) (base := base) T D_l_is_let C_l_lower C_l_rise_cost C_l_less_by
  have C_l_walked_right := c_l_walked_right (P := P) (w := w) (base := base) T D_l_walked_right C_l_is_let
  have C_l_put_in := c_l_put_in (P := P) (w := w) (base := base) T D_l_put_in
  have C_l_right := c_l_right (P := P) (w := w) (base := base) T D_l_right C_l_take C_l_growth C_l_points C_l_small C_l_pair_of C_broken_pair C_is_let C_l_lists C_l_same C_l_heard C_l_let C_law_at C_least_law_at C_l_made C_l_least_made C_l_walked_right C_l_of C_l_sum C_l_mul C_l_less_by C_l_put_in C_l_lower C_l_is_let
  have C_l_box := c_l_box (P := P) (w := w) (base := base) T D_l_box
  have C_law := c_law (P := P) (w := w) (base := base) T D_law C_l_cells C_l_by_hand_right C_l_right C_l_box
  exact C_law
end
/-- what is raised of the class is the class's own -/
theorem own_is {K : PySem.W.Frag} {a : Addr} (b : PySem.W.subIn K (.ref a) (.type "BaseException") = some true) (i : PySem.W.isClsIn K a = true) (t : PySem.W.typeIn K (.ref a) = some (.type "type"))
    (s : PySem.W.subIn K (.ref a) (.ref a) = some true) : PySem.W.exmOne K (.ref a) (.ref a) = some true := by
  have i' : (PySem.W.clsIn K a).isSome = true := i
  unfold PySem.W.exmOne PySem.W.kitCls
  simp only [b, i', t, s, beq_self_eq_true, Bool.and_self, if_true]
theorem own_kit {K : PySem.W.Frag} {a : Addr} (s : PySem.W.subIn K (.ref a) (.type "ValueError") = some true) : PySem.W.kitOne K (.ref a) (.type "ValueError") = some true := by
  unfold PySem.W.kitOne PySem.W.kitCls
  split
  · rfl
  · exact (if_pos (by decide +kernel)).trans s
theorem all_mk {l : PySem.W.OpenLaw} {w : World} {K : PySem.W.Frag} {h : Heap} {mg : Str → Option Value} {fa aN aL CU : Addr} {dN dL : Option Addr} {tN1 tN2 tL1 tL2 : Tok} {nN nL : Nat} {slN slL : Array (Option Value)} (X : K.In h) (G : h.Ns mainGlobals mg) (hfa : mg "law" = some (.ref fa))
    {f_tupled : Addr} {od_tupled an_tupled : Option Addr} {sl_tupled : Array (Option Value)} {oc_tupled kV_tupled dc_tupled pm_tupled cd_tupled ct_tupled : Value}
    {f_part_of : Addr} {od_part_of an_part_of : Option Addr} {sl_part_of : Array (Option Value)} {oc_part_of kV_part_of dc_part_of pm_part_of cd_part_of ct_part_of : Value}
    {f_part_plus : Addr} {od_part_plus an_part_plus : Option Addr} {sl_part_plus : Array (Option Value)} {oc_part_plus kV_part_plus dc_part_plus pm_part_plus cd_part_plus ct_part_plus : Value}
    {f_part_minus : Addr} {od_part_minus an_part_minus : Option Addr} {sl_part_minus : Array (Option Value)} {oc_part_minus kV_part_minus dc_part_minus pm_part_minus cd_part_minus ct_part_minus : Value}
    {f_part_less : Addr} {od_part_less an_part_less : Option Addr} {sl_part_less : Array (Option Value)} {oc_part_less kV_part_less dc_part_less pm_part_less cd_part_less ct_part_less : Value}
    {f_part_times : Addr} {od_part_times an_part_times : Option Addr} {sl_part_times : Array (Option Value)} {oc_part_times kV_part_times dc_part_times pm_part_times cd_part_times ct_part_times : Value}
    {f_part_below : Addr} {od_part_below an_part_below : Option Addr} {sl_part_below : Array (Option Value)} {oc_part_below kV_part_below dc_part_below pm_part_below cd_part_below ct_part_below : Value}
    {f_part_sum : Addr} {od_part_sum an_part_sum : Option Addr} {sl_part_sum : Array (Option Value)} {oc_part_sum kV_part_sum dc_part_sum pm_part_sum cd_part_sum ct_part_sum : Value}
    {f_cells_dot : Addr} {od_cells_dot an_cells_dot : Option Addr} {sl_cells_dot : Array (Option Value)} {oc_cells_dot kV_cells_dot dc_cells_dot pm_cells_dot cd_cells_dot ct_cells_dot : Value}
    {f_cells_plus : Addr} {od_cells_plus an_cells_plus : Option Addr} {sl_cells_plus : Array (Option Value)} {oc_cells_plus kV_cells_plus dc_cells_plus pm_cells_plus cd_cells_plus ct_cells_plus : Value}
    {f_cells_times : Addr} {od_cells_times an_cells_times : Option Addr} {sl_cells_times : Array (Option Value)} {oc_cells_times kV_cells_times dc_cells_times pm_cells_times cd_cells_times ct_cells_times : Value}
    {f_cells_made : Addr} {od_cells_made an_cells_made : Option Addr} {sl_cells_made : Array (Option Value)} {oc_cells_made kV_cells_made dc_cells_made pm_cells_made cd_cells_made ct_cells_made : Value}
    {f_greatest_part : Addr} {od_greatest_part an_greatest_part : Option Addr} {sl_greatest_part : Array (Option Value)} {oc_greatest_part kV_greatest_part dc_greatest_part pm_greatest_part cd_greatest_part ct_greatest_part : Value}
    {f_least_part : Addr} {od_least_part an_least_part : Option Addr} {sl_least_part : Array (Option Value)} {oc_least_part kV_least_part dc_least_part pm_least_part cd_least_part ct_least_part : Value}
    {f_cost : Addr} {od_cost an_cost : Option Addr} {sl_cost : Array (Option Value)} {oc_cost kV_cost dc_cost pm_cost cd_cost ct_cost : Value}
    {f_cost_between : Addr} {od_cost_between an_cost_between : Option Addr} {sl_cost_between : Array (Option Value)} {oc_cost_between kV_cost_between dc_cost_between pm_cost_between cd_cost_between ct_cost_between : Value}
    {f_broken_pair : Addr} {od_broken_pair an_broken_pair : Option Addr} {sl_broken_pair : Array (Option Value)} {oc_broken_pair kV_broken_pair dc_broken_pair pm_broken_pair cd_broken_pair ct_broken_pair : Value}
    {f_is_let : Addr} {od_is_let an_is_let : Option Addr} {sl_is_let : Array (Option Value)} {oc_is_let kV_is_let dc_is_let pm_is_let cd_is_let ct_is_let : Value}
    {f_sure_let : Addr} {od_sure_let an_sure_let : Option Addr} {sl_sure_let : Array (Option Value)} {oc_sure_let kV_sure_let dc_sure_let pm_sure_let cd_sure_let ct_sure_let : Value}
    {f_shown_from : Addr} {od_shown_from an_shown_from : Option Addr} {sl_shown_from : Array (Option Value)} {oc_shown_from kV_shown_from dc_shown_from pm_shown_from cd_shown_from ct_shown_from : Value}
    {f_law_at : Addr} {od_law_at an_law_at : Option Addr} {sl_law_at : Array (Option Value)} {oc_law_at kV_law_at dc_law_at pm_law_at cd_law_at ct_law_at : Value}
    {f_least_law_at : Addr} {od_least_law_at an_least_law_at : Option Addr} {sl_least_law_at : Array (Option Value)} {oc_least_law_at kV_least_law_at dc_least_law_at pm_least_law_at cd_least_law_at ct_least_law_at : Value}
    {f_with_point : Addr} {od_with_point an_with_point : Option Addr} {sl_with_point : Array (Option Value)} {oc_with_point kV_with_point dc_with_point pm_with_point cd_with_point ct_with_point : Value}
    {f_l_box : Addr} {od_l_box an_l_box : Option Addr} {sl_l_box : Array (Option Value)} {oc_l_box kV_l_box dc_l_box pm_l_box cd_l_box ct_l_box : Value}
    {f_l_take : Addr} {od_l_take an_l_take : Option Addr} {sl_l_take : Array (Option Value)} {oc_l_take kV_l_take dc_l_take pm_l_take cd_l_take ct_l_take : Value}
    {f_l_cells : Addr} {od_l_cells an_l_cells : Option Addr} {sl_l_cells : Array (Option Value)} {oc_l_cells kV_l_cells dc_l_cells pm_l_cells cd_l_cells ct_l_cells : Value}
    {f_l_of : Addr} {od_l_of an_l_of : Option Addr} {sl_l_of : Array (Option Value)} {oc_l_of kV_l_of dc_l_of pm_l_of cd_l_of ct_l_of : Value}
    {f_l_lists : Addr} {od_l_lists an_l_lists : Option Addr} {sl_l_lists : Array (Option Value)} {oc_l_lists kV_l_lists dc_l_lists pm_l_lists cd_l_lists ct_l_lists : Value}
    {f_l_same : Addr} {od_l_same an_l_same : Option Addr} {sl_l_same : Array (Option Value)} {oc_l_same kV_l_same dc_l_same pm_l_same cd_l_same ct_l_same : Value}
    {f_l_gcd : Addr} {od_l_gcd an_l_gcd : Option Addr} {sl_l_gcd : Array (Option Value)} {oc_l_gcd kV_l_gcd dc_l_gcd pm_l_gcd cd_l_gcd ct_l_gcd : Value}
    {f_l_fr : Addr} {od_l_fr an_l_fr : Option Addr} {sl_l_fr : Array (Option Value)} {oc_l_fr kV_l_fr dc_l_fr pm_l_fr cd_l_fr ct_l_fr : Value}
    {f_l_sum : Addr} {od_l_sum an_l_sum : Option Addr} {sl_l_sum : Array (Option Value)} {oc_l_sum kV_l_sum dc_l_sum pm_l_sum cd_l_sum ct_l_sum : Value}
    {f_l_less_by : Addr} {od_l_less_by an_l_less_by : Option Addr} {sl_l_less_by : Array (Option Value)} {oc_l_less_by kV_l_less_by dc_l_less_by pm_l_less_by cd_l_less_by ct_l_less_by : Value}
    {f_l_mul : Addr} {od_l_mul an_l_mul : Option Addr} {sl_l_mul : Array (Option Value)} {oc_l_mul kV_l_mul dc_l_mul pm_l_mul cd_l_mul ct_l_mul : Value}
    {f_l_dot : Addr} {od_l_dot an_l_dot : Option Addr} {sl_l_dot : Array (Option Value)} {oc_l_dot kV_l_dot dc_l_dot pm_l_dot cd_l_dot ct_l_dot : Value}
    {f_l_many : Addr} {od_l_many an_l_many : Option Addr} {sl_l_many : Array (Option Value)} {oc_l_many kV_l_many dc_l_many pm_l_many cd_l_many ct_l_many : Value}
    {f_l_idle : Addr} {od_l_idle an_l_idle : Option Addr} {sl_l_idle : Array (Option Value)} {oc_l_idle kV_l_idle dc_l_idle pm_l_idle cd_l_idle ct_l_idle : Value}
    {f_l_less_rows : Addr} {od_l_less_rows an_l_less_rows : Option Addr} {sl_l_less_rows : Array (Option Value)} {oc_l_less_rows kV_l_less_rows dc_l_less_rows pm_l_less_rows cd_l_less_rows ct_l_less_rows : Value}
    {f_l_lower : Addr} {od_l_lower an_l_lower : Option Addr} {sl_l_lower : Array (Option Value)} {oc_l_lower kV_l_lower dc_l_lower pm_l_lower cd_l_lower ct_l_lower : Value}
    {f_l_lowest : Addr} {od_l_lowest an_l_lowest : Option Addr} {sl_l_lowest : Array (Option Value)} {oc_l_lowest kV_l_lowest dc_l_lowest pm_l_lowest cd_l_lowest ct_l_lowest : Value}
    {f_l_highest : Addr} {od_l_highest an_l_highest : Option Addr} {sl_l_highest : Array (Option Value)} {oc_l_highest kV_l_highest dc_l_highest pm_l_highest cd_l_highest ct_l_highest : Value}
    {f_l_cost : Addr} {od_l_cost an_l_cost : Option Addr} {sl_l_cost : Array (Option Value)} {oc_l_cost kV_l_cost dc_l_cost pm_l_cost cd_l_cost ct_l_cost : Value}
    {f_l_rise_cost : Addr} {od_l_rise_cost an_l_rise_cost : Option Addr} {sl_l_rise_cost : Array (Option Value)} {oc_l_rise_cost kV_l_rise_cost dc_l_rise_cost pm_l_rise_cost cd_l_rise_cost ct_l_rise_cost : Value}
    {f_l_settled : Addr} {od_l_settled an_l_settled : Option Addr} {sl_l_settled : Array (Option Value)} {oc_l_settled kV_l_settled dc_l_settled pm_l_settled cd_l_settled ct_l_settled : Value}
    {f_l_is_let : Addr} {od_l_is_let an_l_is_let : Option Addr} {sl_l_is_let : Array (Option Value)} {oc_l_is_let kV_l_is_let dc_l_is_let pm_l_is_let cd_l_is_let ct_l_is_let : Value}
    {f_l_made : Addr} {od_l_made an_l_made : Option Addr} {sl_l_made : Array (Option Value)} {oc_l_made kV_l_made dc_l_made pm_l_made cd_l_made ct_l_made : Value}
    {f_l_slope : Addr} {od_l_slope an_l_slope : Option Addr} {sl_l_slope : Array (Option Value)} {oc_l_slope kV_l_slope dc_l_slope pm_l_slope cd_l_slope ct_l_slope : Value}
    {f_l_growth : Addr} {od_l_growth an_l_growth : Option Addr} {sl_l_growth : Array (Option Value)} {oc_l_growth kV_l_growth dc_l_growth pm_l_growth cd_l_growth ct_l_growth : Value}
    {f_l_place : Addr} {od_l_place an_l_place : Option Addr} {sl_l_place : Array (Option Value)} {oc_l_place kV_l_place dc_l_place pm_l_place cd_l_place ct_l_place : Value}
    {f_l_points : Addr} {od_l_points an_l_points : Option Addr} {sl_l_points : Array (Option Value)} {oc_l_points kV_l_points dc_l_points pm_l_points cd_l_points ct_l_points : Value}
    {f_l_small : Addr} {od_l_small an_l_small : Option Addr} {sl_l_small : Array (Option Value)} {oc_l_small kV_l_small dc_l_small pm_l_small cd_l_small ct_l_small : Value}
    {f_l_let : Addr} {od_l_let an_l_let : Option Addr} {sl_l_let : Array (Option Value)} {oc_l_let kV_l_let dc_l_let pm_l_let cd_l_let ct_l_let : Value}
    {f_l_least_made : Addr} {od_l_least_made an_l_least_made : Option Addr} {sl_l_least_made : Array (Option Value)} {oc_l_least_made kV_l_least_made dc_l_least_made pm_l_least_made cd_l_least_made ct_l_least_made : Value}
    {f_l_pair_of : Addr} {od_l_pair_of an_l_pair_of : Option Addr} {sl_l_pair_of : Array (Option Value)} {oc_l_pair_of kV_l_pair_of dc_l_pair_of pm_l_pair_of cd_l_pair_of ct_l_pair_of : Value}
    {f_l_put_in : Addr} {od_l_put_in an_l_put_in : Option Addr} {sl_l_put_in : Array (Option Value)} {oc_l_put_in kV_l_put_in dc_l_put_in pm_l_put_in cd_l_put_in ct_l_put_in : Value}
    {f_l_heard : Addr} {od_l_heard an_l_heard : Option Addr} {sl_l_heard : Array (Option Value)} {oc_l_heard kV_l_heard dc_l_heard pm_l_heard cd_l_heard ct_l_heard : Value}
    {f_l_walked_right : Addr} {od_l_walked_right an_l_walked_right : Option Addr} {sl_l_walked_right : Array (Option Value)} {oc_l_walked_right kV_l_walked_right dc_l_walked_right pm_l_walked_right cd_l_walked_right ct_l_walked_right : Value}
    {f_l_right : Addr} {od_l_right an_l_right : Option Addr} {sl_l_right : Array (Option Value)} {oc_l_right kV_l_right dc_l_right pm_l_right cd_l_right ct_l_right : Value}
    {f_l_by_hand_right : Addr} {od_l_by_hand_right an_l_by_hand_right : Option Addr} {sl_l_by_hand_right : Array (Option Value)} {oc_l_by_hand_right kV_l_by_hand_right dc_l_by_hand_right pm_l_by_hand_right cd_l_by_hand_right ct_l_by_hand_right : Value}
    {f_law : Addr} {od_law an_law : Option Addr} {sl_law : Array (Option Value)} {oc_law kV_law dc_law pm_law cd_law ct_law : Value}
    (a_tupled : PySem.W.nsIn K mainGlobals "tupled" = some (some (.ref f_tupled))) (l_tupled : K.lookup f_tupled = some ⟨oc_tupled, od_tupled, .func (PySem.W.fnOf "tupled" "tupled" (defArgs s_tupled) (defBody s_tupled) (defScope s_tupled) .none kV_tupled dc_tupled pm_tupled an_tupled cd_tupled ct_tupled), sl_tupled⟩) (c_tupled : PySem.W.codeIn K cd_tupled "tupled" = true) (k_tupled : PySem.W.keepIn K (.ref f_tupled) = true)
    (a_part_of : PySem.W.nsIn K mainGlobals "part_of" = some (some (.ref f_part_of))) (l_part_of : K.lookup f_part_of = some ⟨oc_part_of, od_part_of, .func (PySem.W.fnOf "part_of" "part_of" (defArgs s_part_of) (defBody s_part_of) (defScope s_part_of) .none kV_part_of dc_part_of pm_part_of an_part_of cd_part_of ct_part_of), sl_part_of⟩) (c_part_of : PySem.W.codeIn K cd_part_of "part_of" = true) (k_part_of : PySem.W.keepIn K (.ref f_part_of) = true)
    (a_part_plus : PySem.W.nsIn K mainGlobals "part_plus" = some (some (.ref f_part_plus))) (l_part_plus : K.lookup f_part_plus = some ⟨oc_part_plus, od_part_plus, .func (PySem.W.fnOf "part_plus" "part_plus" (defArgs s_part_plus) (defBody s_part_plus) (defScope s_part_plus) .none kV_part_plus dc_part_plus pm_part_plus an_part_plus cd_part_plus ct_part_plus), sl_part_plus⟩) (c_part_plus : PySem.W.codeIn K cd_part_plus "part_plus" = true) (k_part_plus : PySem.W.keepIn K (.ref f_part_plus) = true)
    (a_part_minus : PySem.W.nsIn K mainGlobals "part_minus" = some (some (.ref f_part_minus))) (l_part_minus : K.lookup f_part_minus = some ⟨oc_part_minus, od_part_minus, .func (PySem.W.fnOf "part_minus" "part_minus" (defArgs s_part_minus) (defBody s_part_minus) (defScope s_part_minus) .none kV_part_minus dc_part_minus pm_part_minus an_part_minus cd_part_minus ct_part_minus), sl_part_minus⟩) (c_part_minus : PySem.W.codeIn K cd_part_minus "part_minus" = true) (k_part_minus : PySem.W.keepIn K (.ref f_part_minus) = true)
    (a_part_less : PySem.W.nsIn K mainGlobals "part_less" = some (some (.ref f_part_less))) (l_part_less : K.lookup f_part_less = some ⟨oc_part_less, od_part_less, .func (PySem.W.fnOf "part_less" "part_less" (defArgs s_part_less) (defBody s_part_less) (defScope s_part_less) .none kV_part_less dc_part_less pm_part_less an_part_less cd_part_less ct_part_less), sl_part_less⟩) (c_part_less : PySem.W.codeIn K cd_part_less "part_less" = true) (k_part_less : PySem.W.keepIn K (.ref f_part_less) = true)
    (a_part_times : PySem.W.nsIn K mainGlobals "part_times" = some (some (.ref f_part_times))) (l_part_times : K.lookup f_part_times = some ⟨oc_part_times, od_part_times, .func (PySem.W.fnOf "part_times" "part_times" (defArgs s_part_times) (defBody s_part_times) (defScope s_part_times) .none kV_part_times dc_part_times pm_part_times an_part_times cd_part_times ct_part_times), sl_part_times⟩) (c_part_times : PySem.W.codeIn K cd_part_times "part_times" = true) (k_part_times : PySem.W.keepIn K (.ref f_part_times) = true)
    (a_part_below : PySem.W.nsIn K mainGlobals "part_below" = some (some (.ref f_part_below))) (l_part_below : K.lookup f_part_below = some ⟨oc_part_below, od_part_below, .func (PySem.W.fnOf "part_below" "part_below" (defArgs s_part_below) (defBody s_part_below) (defScope s_part_below) .none kV_part_below dc_part_below pm_part_below an_part_below cd_part_below ct_part_below), sl_part_below⟩) (c_part_below : PySem.W.codeIn K cd_part_below "part_below" = true) (k_part_below : PySem.W.keepIn K (.ref f_part_below) = true)
    (a_part_sum : PySem.W.nsIn K mainGlobals "part_sum" = some (some (.ref f_part_sum))) (l_part_sum : K.lookup f_part_sum = some ⟨oc_part_sum, od_part_sum, .func (PySem.W.fnOf "part_sum" "part_sum" (defArgs s_part_sum) (defBody s_part_sum) (defScope s_part_sum) .none kV_part_sum dc_part_sum pm_part_sum an_part_sum cd_part_sum ct_part_sum), sl_part_sum⟩) (c_part_sum : PySem.W.codeIn K cd_part_sum "part_sum" = true) (k_part_sum : PySem.W.keepIn K (.ref f_part_sum) = true)
    (a_cells_dot : PySem.W.nsIn K mainGlobals "cells_dot" = some (some (.ref f_cells_dot))) (l_cells_dot : K.lookup f_cells_dot = some ⟨oc_cells_dot, od_cells_dot, .func (PySem.W.fnOf "cells_dot" "cells_dot" (defArgs s_cells_dot) (defBody s_cells_dot) (defScope s_cells_dot) .none kV_cells_dot dc_cells_dot pm_cells_dot an_cells_dot cd_cells_dot ct_cells_dot), sl_cells_dot⟩) (c_cells_dot : PySem.W.codeIn K cd_cells_dot "cells_dot" = true) (k_cells_dot : PySem.W.keepIn K (.ref f_cells_dot) = true)
    (a_cells_plus : PySem.W.nsIn K mainGlobals "cells_plus" = some (some (.ref f_cells_plus))) (l_cells_plus : K.lookup f_cells_plus = some ⟨oc_cells_plus, od_cells_plus, .func (PySem.W.fnOf "cells_plus" "cells_plus" (defArgs s_cells_plus) (defBody s_cells_plus) (defScope s_cells_plus) .none kV_cells_plus dc_cells_plus pm_cells_plus an_cells_plus cd_cells_plus ct_cells_plus), sl_cells_plus⟩) (c_cells_plus : PySem.W.codeIn K cd_cells_plus "cells_plus" = true) (k_cells_plus : PySem.W.keepIn K (.ref f_cells_plus) = true)
    (a_cells_times : PySem.W.nsIn K mainGlobals "cells_times" = some (some (.ref f_cells_times))) (l_cells_times : K.lookup f_cells_times = some ⟨oc_cells_times, od_cells_times, .func (PySem.W.fnOf "cells_times" "cells_times" (defArgs s_cells_times) (defBody s_cells_times) (defScope s_cells_times) .none kV_cells_times dc_cells_times pm_cells_times an_cells_times cd_cells_times ct_cells_times), sl_cells_times⟩) (c_cells_times : PySem.W.codeIn K cd_cells_times "cells_times" = true) (k_cells_times : PySem.W.keepIn K (.ref f_cells_times) = true)
    (a_cells_made : PySem.W.nsIn K mainGlobals "cells_made" = some (some (.ref f_cells_made))) (l_cells_made : K.lookup f_cells_made = some ⟨oc_cells_made, od_cells_made, .func (PySem.W.fnOf "cells_made" "cells_made" (defArgs s_cells_made) (defBody s_cells_made) (defScope s_cells_made) .none kV_cells_made dc_cells_made pm_cells_made an_cells_made cd_cells_made ct_cells_made), sl_cells_made⟩) (c_cells_made : PySem.W.codeIn K cd_cells_made "cells_made" = true) (k_cells_made : PySem.W.keepIn K (.ref f_cells_made) = true)
    (a_greatest_part : PySem.W.nsIn K mainGlobals "greatest_part" = some (some (.ref f_greatest_part))) (l_greatest_part : K.lookup f_greatest_part = some ⟨oc_greatest_part, od_greatest_part, .func (PySem.W.fnOf "greatest_part" "greatest_part" (defArgs s_greatest_part) (defBody s_greatest_part) (defScope s_greatest_part) .none kV_greatest_part dc_greatest_part pm_greatest_part an_greatest_part cd_greatest_part ct_greatest_part), sl_greatest_part⟩) (c_greatest_part : PySem.W.codeIn K cd_greatest_part "greatest_part" = true) (k_greatest_part : PySem.W.keepIn K (.ref f_greatest_part) = true)
    (a_least_part : PySem.W.nsIn K mainGlobals "least_part" = some (some (.ref f_least_part))) (l_least_part : K.lookup f_least_part = some ⟨oc_least_part, od_least_part, .func (PySem.W.fnOf "least_part" "least_part" (defArgs s_least_part) (defBody s_least_part) (defScope s_least_part) .none kV_least_part dc_least_part pm_least_part an_least_part cd_least_part ct_least_part), sl_least_part⟩) (c_least_part : PySem.W.codeIn K cd_least_part "least_part" = true) (k_least_part : PySem.W.keepIn K (.ref f_least_part) = true)
    (a_cost : PySem.W.nsIn K mainGlobals "cost" = some (some (.ref f_cost))) (l_cost : K.lookup f_cost = some ⟨oc_cost, od_cost, .func (PySem.W.fnOf "cost" "cost" (defArgs s_cost) (defBody s_cost) (defScope s_cost) .none kV_cost dc_cost pm_cost an_cost cd_cost ct_cost), sl_cost⟩) (c_cost : PySem.W.codeIn K cd_cost "cost" = true) (k_cost : PySem.W.keepIn K (.ref f_cost) = true)
    (a_cost_between : PySem.W.nsIn K mainGlobals "cost_between" = some (some (.ref f_cost_between))) (l_cost_between : K.lookup f_cost_between = some ⟨oc_cost_between, od_cost_between, .func (PySem.W.fnOf "cost_between" "cost_between" (defArgs s_cost_between) (defBody s_cost_between) (defScope s_cost_between) .none kV_cost_between dc_cost_between pm_cost_between an_cost_between cd_cost_between ct_cost_between), sl_cost_between⟩) (c_cost_between : PySem.W.codeIn K cd_cost_between "cost_between" = true) (k_cost_between : PySem.W.keepIn K (.ref f_cost_between) = true)
    (a_broken_pair : PySem.W.nsIn K mainGlobals "broken_pair" = some (some (.ref f_broken_pair))) (l_broken_pair : K.lookup f_broken_pair = some ⟨oc_broken_pair, od_broken_pair, .func (PySem.W.fnOf "broken_pair" "broken_pair" (defArgs s_broken_pair) (defBody s_broken_pair) (defScope s_broken_pair) .none kV_broken_pair dc_broken_pair pm_broken_pair an_broken_pair cd_broken_pair ct_broken_pair), sl_broken_pair⟩) (c_broken_pair : PySem.W.codeIn K cd_broken_pair "broken_pair" = true) (k_broken_pair : PySem.W.keepIn K (.ref f_broken_pair) = true)
    (a_is_let : PySem.W.nsIn K mainGlobals "is_let" = some (some (.ref f_is_let))) (l_is_let : K.lookup f_is_let = some ⟨oc_is_let, od_is_let, .func (PySem.W.fnOf "is_let" "is_let" (defArgs s_is_let) (defBody s_is_let) (defScope s_is_let) .none kV_is_let dc_is_let pm_is_let an_is_let cd_is_let ct_is_let), sl_is_let⟩) (c_is_let : PySem.W.codeIn K cd_is_let "is_let" = true) (k_is_let : PySem.W.keepIn K (.ref f_is_let) = true)
    (a_sure_let : PySem.W.nsIn K mainGlobals "sure_let" = some (some (.ref f_sure_let))) (l_sure_let : K.lookup f_sure_let = some ⟨oc_sure_let, od_sure_let, .func (PySem.W.fnOf "sure_let" "sure_let" (defArgs s_sure_let) (defBody s_sure_let) (defScope s_sure_let) .none kV_sure_let dc_sure_let pm_sure_let an_sure_let cd_sure_let ct_sure_let), sl_sure_let⟩) (c_sure_let : PySem.W.codeIn K cd_sure_let "sure_let" = true) (k_sure_let : PySem.W.keepIn K (.ref f_sure_let) = true)
    (a_shown_from : PySem.W.nsIn K mainGlobals "shown_from" = some (some (.ref f_shown_from))) (l_shown_from : K.lookup f_shown_from = some ⟨oc_shown_from, od_shown_from, .func (PySem.W.fnOf "shown_from" "shown_from" (defArgs s_shown_from) (defBody s_shown_from) (defScope s_shown_from) .none kV_shown_from dc_shown_from pm_shown_from an_shown_from cd_shown_from ct_shown_from), sl_shown_from⟩) (c_shown_from : PySem.W.codeIn K cd_shown_from "shown_from" = true) (k_shown_from : PySem.W.keepIn K (.ref f_shown_from) = true)
    (a_law_at : PySem.W.nsIn K mainGlobals "law_at" = some (some (.ref f_law_at))) (l_law_at : K.lookup f_law_at = some ⟨oc_law_at, od_law_at, .func (PySem.W.fnOf "law_at" "law_at" (defArgs s_law_at) (defBody s_law_at) (defScope s_law_at) .none kV_law_at dc_law_at pm_law_at an_law_at cd_law_at ct_law_at), sl_law_at⟩) (c_law_at : PySem.W.codeIn K cd_law_at "law_at" = true) (k_law_at : PySem.W.keepIn K (.ref f_law_at) = true)
    (a_least_law_at : PySem.W.nsIn K mainGlobals "least_law_at" = some (some (.ref f_least_law_at))) (l_least_law_at : K.lookup f_least_law_at = some ⟨oc_least_law_at, od_least_law_at, .func (PySem.W.fnOf "least_law_at" "least_law_at" (defArgs s_least_law_at) (defBody s_least_law_at) (defScope s_least_law_at) .none kV_least_law_at dc_least_law_at pm_least_law_at an_least_law_at cd_least_law_at ct_least_law_at), sl_least_law_at⟩) (c_least_law_at : PySem.W.codeIn K cd_least_law_at "least_law_at" = true) (k_least_law_at : PySem.W.keepIn K (.ref f_least_law_at) = true)
    (a_with_point : PySem.W.nsIn K mainGlobals "with_point" = some (some (.ref f_with_point))) (l_with_point : K.lookup f_with_point = some ⟨oc_with_point, od_with_point, .func (PySem.W.fnOf "with_point" "with_point" (defArgs s_with_point) (defBody s_with_point) (defScope s_with_point) .none kV_with_point dc_with_point pm_with_point an_with_point cd_with_point ct_with_point), sl_with_point⟩) (c_with_point : PySem.W.codeIn K cd_with_point "with_point" = true) (k_with_point : PySem.W.keepIn K (.ref f_with_point) = true)
    (a_l_box : PySem.W.nsIn K mainGlobals "_law_box" = some (some (.ref f_l_box))) (l_l_box : K.lookup f_l_box = some ⟨oc_l_box, od_l_box, .func (PySem.W.fnOf "_law_box" "_law_box" (defArgs s_l_box) (defBody s_l_box) (defScope s_l_box) .none kV_l_box dc_l_box pm_l_box an_l_box cd_l_box ct_l_box), sl_l_box⟩) (c_l_box : PySem.W.codeIn K cd_l_box "_law_box" = true) (k_l_box : PySem.W.keepIn K (.ref f_l_box) = true)
    (a_l_take : PySem.W.nsIn K mainGlobals "_law_take" = some (some (.ref f_l_take))) (l_l_take : K.lookup f_l_take = some ⟨oc_l_take, od_l_take, .func (PySem.W.fnOf "_law_take" "_law_take" (defArgs s_l_take) (defBody s_l_take) (defScope s_l_take) .none kV_l_take dc_l_take pm_l_take an_l_take cd_l_take ct_l_take), sl_l_take⟩) (c_l_take : PySem.W.codeIn K cd_l_take "_law_take" = true) (k_l_take : PySem.W.keepIn K (.ref f_l_take) = true)
    (a_l_cells : PySem.W.nsIn K mainGlobals "_law_cells" = some (some (.ref f_l_cells))) (l_l_cells : K.lookup f_l_cells = some ⟨oc_l_cells, od_l_cells, .func (PySem.W.fnOf "_law_cells" "_law_cells" (defArgs s_l_cells) (defBody s_l_cells) (defScope s_l_cells) .none kV_l_cells dc_l_cells pm_l_cells an_l_cells cd_l_cells ct_l_cells), sl_l_cells⟩) (c_l_cells : PySem.W.codeIn K cd_l_cells "_law_cells" = true) (k_l_cells : PySem.W.keepIn K (.ref f_l_cells) = true)
    (a_l_of : PySem.W.nsIn K mainGlobals "_law_of" = some (some (.ref f_l_of))) (l_l_of : K.lookup f_l_of = some ⟨oc_l_of, od_l_of, .func (PySem.W.fnOf "_law_of" "_law_of" (defArgs s_l_of) (defBody s_l_of) (defScope s_l_of) .none kV_l_of dc_l_of pm_l_of an_l_of cd_l_of ct_l_of), sl_l_of⟩) (c_l_of : PySem.W.codeIn K cd_l_of "_law_of" = true) (k_l_of : PySem.W.keepIn K (.ref f_l_of) = true)
    (a_l_lists : PySem.W.nsIn K mainGlobals "_law_lists" = some (some (.ref f_l_lists))) (l_l_lists : K.lookup f_l_lists = some ⟨oc_l_lists, od_l_lists, .func (PySem.W.fnOf "_law_lists" "_law_lists" (defArgs s_l_lists) (defBody s_l_lists) (defScope s_l_lists) .none kV_l_lists dc_l_lists pm_l_lists an_l_lists cd_l_lists ct_l_lists), sl_l_lists⟩) (c_l_lists : PySem.W.codeIn K cd_l_lists "_law_lists" = true) (k_l_lists : PySem.W.keepIn K (.ref f_l_lists) = true)
    (a_l_same : PySem.W.nsIn K mainGlobals "_law_same" = some (some (.ref f_l_same))) (l_l_same : K.lookup f_l_same = some ⟨oc_l_same, od_l_same, .func (PySem.W.fnOf "_law_same" "_law_same" (defArgs s_l_same) (defBody s_l_same) (defScope s_l_same) .none kV_l_same dc_l_same pm_l_same an_l_same cd_l_same ct_l_same), sl_l_same⟩) (c_l_same : PySem.W.codeIn K cd_l_same "_law_same" = true) (k_l_same : PySem.W.keepIn K (.ref f_l_same) = true)
    (a_l_gcd : PySem.W.nsIn K mainGlobals "_law_gcd" = some (some (.ref f_l_gcd))) (l_l_gcd : K.lookup f_l_gcd = some ⟨oc_l_gcd, od_l_gcd, .func (PySem.W.fnOf "_law_gcd" "_law_gcd" (defArgs s_l_gcd) (defBody s_l_gcd) (defScope s_l_gcd) .none kV_l_gcd dc_l_gcd pm_l_gcd an_l_gcd cd_l_gcd ct_l_gcd), sl_l_gcd⟩) (c_l_gcd : PySem.W.codeIn K cd_l_gcd "_law_gcd" = true) (k_l_gcd : PySem.W.keepIn K (.ref f_l_gcd) = true)
    (a_l_fr : PySem.W.nsIn K mainGlobals "_law_fr" = some (some (.ref f_l_fr))) (l_l_fr : K.lookup f_l_fr = some ⟨oc_l_fr, od_l_fr, .func (PySem.W.fnOf "_law_fr" "_law_fr" (defArgs s_l_fr) (defBody s_l_fr) (defScope s_l_fr) .none kV_l_fr dc_l_fr pm_l_fr an_l_fr cd_l_fr ct_l_fr), sl_l_fr⟩) (c_l_fr : PySem.W.codeIn K cd_l_fr "_law_fr" = true) (k_l_fr : PySem.W.keepIn K (.ref f_l_fr) = true)
    (a_l_sum : PySem.W.nsIn K mainGlobals "_law_sum" = some (some (.ref f_l_sum))) (l_l_sum : K.lookup f_l_sum = some ⟨oc_l_sum, od_l_sum, .func (PySem.W.fnOf "_law_sum" "_law_sum" (defArgs s_l_sum) (defBody s_l_sum) (defScope s_l_sum) .none kV_l_sum dc_l_sum pm_l_sum an_l_sum cd_l_sum ct_l_sum), sl_l_sum⟩) (c_l_sum : PySem.W.codeIn K cd_l_sum "_law_sum" = true) (k_l_sum : PySem.W.keepIn K (.ref f_l_sum) = true)
    (a_l_less_by : PySem.W.nsIn K mainGlobals "_law_less_by" = some (some (.ref f_l_less_by))) (l_l_less_by : K.lookup f_l_less_by = some ⟨oc_l_less_by, od_l_less_by, .func (PySem.W.fnOf "_law_less_by" "_law_less_by" (defArgs s_l_less_by) (defBody s_l_less_by) (defScope s_l_less_by) .none kV_l_less_by dc_l_less_by pm_l_less_by an_l_less_by cd_l_less_by ct_l_less_by), sl_l_less_by⟩) (c_l_less_by : PySem.W.codeIn K cd_l_less_by "_law_less_by" = true) (k_l_less_by : PySem.W.keepIn K (.ref f_l_less_by) = true)
    (a_l_mul : PySem.W.nsIn K mainGlobals "_law_mul" = some (some (.ref f_l_mul))) (l_l_mul : K.lookup f_l_mul = some ⟨oc_l_mul, od_l_mul, .func (PySem.W.fnOf "_law_mul" "_law_mul" (defArgs s_l_mul) (defBody s_l_mul) (defScope s_l_mul) .none kV_l_mul dc_l_mul pm_l_mul an_l_mul cd_l_mul ct_l_mul), sl_l_mul⟩) (c_l_mul : PySem.W.codeIn K cd_l_mul "_law_mul" = true) (k_l_mul : PySem.W.keepIn K (.ref f_l_mul) = true)
    (a_l_dot : PySem.W.nsIn K mainGlobals "_law_dot" = some (some (.ref f_l_dot))) (l_l_dot : K.lookup f_l_dot = some ⟨oc_l_dot, od_l_dot, .func (PySem.W.fnOf "_law_dot" "_law_dot" (defArgs s_l_dot) (defBody s_l_dot) (defScope s_l_dot) .none kV_l_dot dc_l_dot pm_l_dot an_l_dot cd_l_dot ct_l_dot), sl_l_dot⟩) (c_l_dot : PySem.W.codeIn K cd_l_dot "_law_dot" = true) (k_l_dot : PySem.W.keepIn K (.ref f_l_dot) = true)
    (a_l_many : PySem.W.nsIn K mainGlobals "_law_many" = some (some (.ref f_l_many))) (l_l_many : K.lookup f_l_many = some ⟨oc_l_many, od_l_many, .func (PySem.W.fnOf "_law_many" "_law_many" (defArgs s_l_many) (defBody s_l_many) (defScope s_l_many) .none kV_l_many dc_l_many pm_l_many an_l_many cd_l_many ct_l_many), sl_l_many⟩) (c_l_many : PySem.W.codeIn K cd_l_many "_law_many" = true) (k_l_many : PySem.W.keepIn K (.ref f_l_many) = true)
    (a_l_idle : PySem.W.nsIn K mainGlobals "_law_idle" = some (some (.ref f_l_idle))) (l_l_idle : K.lookup f_l_idle = some ⟨oc_l_idle, od_l_idle, .func (PySem.W.fnOf "_law_idle" "_law_idle" (defArgs s_l_idle) (defBody s_l_idle) (defScope s_l_idle) .none kV_l_idle dc_l_idle pm_l_idle an_l_idle cd_l_idle ct_l_idle), sl_l_idle⟩) (c_l_idle : PySem.W.codeIn K cd_l_idle "_law_idle" = true) (k_l_idle : PySem.W.keepIn K (.ref f_l_idle) = true)
    (a_l_less_rows : PySem.W.nsIn K mainGlobals "_law_less_rows" = some (some (.ref f_l_less_rows))) (l_l_less_rows : K.lookup f_l_less_rows = some ⟨oc_l_less_rows, od_l_less_rows, .func (PySem.W.fnOf "_law_less_rows" "_law_less_rows" (defArgs s_l_less_rows) (defBody s_l_less_rows) (defScope s_l_less_rows) .none kV_l_less_rows dc_l_less_rows pm_l_less_rows an_l_less_rows cd_l_less_rows ct_l_less_rows), sl_l_less_rows⟩) (c_l_less_rows : PySem.W.codeIn K cd_l_less_rows "_law_less_rows" = true) (k_l_less_rows : PySem.W.keepIn K (.ref f_l_less_rows) = true)
    (a_l_lower : PySem.W.nsIn K mainGlobals "_law_lower" = some (some (.ref f_l_lower))) (l_l_lower : K.lookup f_l_lower = some ⟨oc_l_lower, od_l_lower, .func (PySem.W.fnOf "_law_lower" "_law_lower" (defArgs s_l_lower) (defBody s_l_lower) (defScope s_l_lower) .none kV_l_lower dc_l_lower pm_l_lower an_l_lower cd_l_lower ct_l_lower), sl_l_lower⟩) (c_l_lower : PySem.W.codeIn K cd_l_lower "_law_lower" = true) (k_l_lower : PySem.W.keepIn K (.ref f_l_lower) = true)
    (a_l_lowest : PySem.W.nsIn K mainGlobals "_law_lowest" = some (some (.ref f_l_lowest))) (l_l_lowest : K.lookup f_l_lowest = some ⟨oc_l_lowest, od_l_lowest, .func (PySem.W.fnOf "_law_lowest" "_law_lowest" (defArgs s_l_lowest) (defBody s_l_lowest) (defScope s_l_lowest) .none kV_l_lowest dc_l_lowest pm_l_lowest an_l_lowest cd_l_lowest ct_l_lowest), sl_l_lowest⟩) (c_l_lowest : PySem.W.codeIn K cd_l_lowest "_law_lowest" = true) (k_l_lowest : PySem.W.keepIn K (.ref f_l_lowest) = true)
    (a_l_highest : PySem.W.nsIn K mainGlobals "_law_highest" = some (some (.ref f_l_highest))) (l_l_highest : K.lookup f_l_highest = some ⟨oc_l_highest, od_l_highest, .func (PySem.W.fnOf "_law_highest" "_law_highest" (defArgs s_l_highest) (defBody s_l_highest) (defScope s_l_highest) .none kV_l_highest dc_l_highest pm_l_highest an_l_highest cd_l_highest ct_l_highest), sl_l_highest⟩) (c_l_highest : PySem.W.codeIn K cd_l_highest "_law_highest" = true) (k_l_highest : PySem.W.keepIn K (.ref f_l_highest) = true)
    (a_l_cost : PySem.W.nsIn K mainGlobals "_law_cost" = some (some (.ref f_l_cost))) (l_l_cost : K.lookup f_l_cost = some ⟨oc_l_cost, od_l_cost, .func (PySem.W.fnOf "_law_cost" "_law_cost" (defArgs s_l_cost) (defBody s_l_cost) (defScope s_l_cost) .none kV_l_cost dc_l_cost pm_l_cost an_l_cost cd_l_cost ct_l_cost), sl_l_cost⟩) (c_l_cost : PySem.W.codeIn K cd_l_cost "_law_cost" = true) (k_l_cost : PySem.W.keepIn K (.ref f_l_cost) = true)
    (a_l_rise_cost : PySem.W.nsIn K mainGlobals "_law_rise_cost" = some (some (.ref f_l_rise_cost))) (l_l_rise_cost : K.lookup f_l_rise_cost = some ⟨oc_l_rise_cost, od_l_rise_cost, .func (PySem.W.fnOf "_law_rise_cost" "_law_rise_cost" (defArgs s_l_rise_cost) (defBody s_l_rise_cost) (defScope s_l_rise_cost) .none kV_l_rise_cost dc_l_rise_cost pm_l_rise_cost an_l_rise_cost cd_l_rise_cost ct_l_rise_cost), sl_l_rise_cost⟩) (c_l_rise_cost : PySem.W.codeIn K cd_l_rise_cost "_law_rise_cost" = true) (k_l_rise_cost : PySem.W.keepIn K (.ref f_l_rise_cost) = true)
    (a_l_settled : PySem.W.nsIn K mainGlobals "_law_settled" = some (some (.ref f_l_settled))) (l_l_settled : K.lookup f_l_settled = some ⟨oc_l_settled, od_l_settled, .func (PySem.W.fnOf "_law_settled" "_law_settled" (defArgs s_l_settled) (defBody s_l_settled) (defScope s_l_settled) .none kV_l_settled dc_l_settled pm_l_settled an_l_settled cd_l_settled ct_l_settled), sl_l_settled⟩) (c_l_settled : PySem.W.codeIn K cd_l_settled "_law_settled" = true) (k_l_settled : PySem.W.keepIn K (.ref f_l_settled) = true)
    (a_l_is_let : PySem.W.nsIn K mainGlobals "_law_is_let" = some (some (.ref f_l_is_let))) (l_l_is_let : K.lookup f_l_is_let = some ⟨oc_l_is_let, od_l_is_let, .func (PySem.W.fnOf "_law_is_let" "_law_is_let" (defArgs s_l_is_let) (defBody s_l_is_let) (defScope s_l_is_let) .none kV_l_is_let dc_l_is_let pm_l_is_let an_l_is_let cd_l_is_let ct_l_is_let), sl_l_is_let⟩) (c_l_is_let : PySem.W.codeIn K cd_l_is_let "_law_is_let" = true) (k_l_is_let : PySem.W.keepIn K (.ref f_l_is_let) = true)
    (a_l_made : PySem.W.nsIn K mainGlobals "_law_made" = some (some (.ref f_l_made))) (l_l_made : K.lookup f_l_made = some ⟨oc_l_made, od_l_made, .func (PySem.W.fnOf "_law_made" "_law_made" (defArgs s_l_made) (defBody s_l_made) (defScope s_l_made) .none kV_l_made dc_l_made pm_l_made an_l_made cd_l_made ct_l_made), sl_l_made⟩) (c_l_made : PySem.W.codeIn K cd_l_made "_law_made" = true) (k_l_made : PySem.W.keepIn K (.ref f_l_made) = true)
    (a_l_slope : PySem.W.nsIn K mainGlobals "_law_slope" = some (some (.ref f_l_slope))) (l_l_slope : K.lookup f_l_slope = some ⟨oc_l_slope, od_l_slope, .func (PySem.W.fnOf "_law_slope" "_law_slope" (defArgs s_l_slope) (defBody s_l_slope) (defScope s_l_slope) .none kV_l_slope dc_l_slope pm_l_slope an_l_slope cd_l_slope ct_l_slope), sl_l_slope⟩) (c_l_slope : PySem.W.codeIn K cd_l_slope "_law_slope" = true) (k_l_slope : PySem.W.keepIn K (.ref f_l_slope) = true)
    (a_l_growth : PySem.W.nsIn K mainGlobals "_law_growth" = some (some (.ref f_l_growth))) (l_l_growth : K.lookup f_l_growth = some ⟨oc_l_growth, od_l_growth, .func (PySem.W.fnOf "_law_growth" "_law_growth" (defArgs s_l_growth) (defBody s_l_growth) (defScope s_l_growth) .none kV_l_growth dc_l_growth pm_l_growth an_l_growth cd_l_growth ct_l_growth), sl_l_growth⟩) (c_l_growth : PySem.W.codeIn K cd_l_growth "_law_growth" = true) (k_l_growth : PySem.W.keepIn K (.ref f_l_growth) = true)
    (a_l_place : PySem.W.nsIn K mainGlobals "_law_place" = some (some (.ref f_l_place))) (l_l_place : K.lookup f_l_place = some ⟨oc_l_place, od_l_place, .func (PySem.W.fnOf "_law_place" "_law_place" (defArgs s_l_place) (defBody s_l_place) (defScope s_l_place) .none kV_l_place dc_l_place pm_l_place an_l_place cd_l_place ct_l_place), sl_l_place⟩) (c_l_place : PySem.W.codeIn K cd_l_place "_law_place" = true) (k_l_place : PySem.W.keepIn K (.ref f_l_place) = true)
    (a_l_points : PySem.W.nsIn K mainGlobals "_law_points" = some (some (.ref f_l_points))) (l_l_points : K.lookup f_l_points = some ⟨oc_l_points, od_l_points, .func (PySem.W.fnOf "_law_points" "_law_points" (defArgs s_l_points) (defBody s_l_points) (defScope s_l_points) .none kV_l_points dc_l_points pm_l_points an_l_points cd_l_points ct_l_points), sl_l_points⟩) (c_l_points : PySem.W.codeIn K cd_l_points "_law_points" = true) (k_l_points : PySem.W.keepIn K (.ref f_l_points) = true)
    (a_l_small : PySem.W.nsIn K mainGlobals "_law_small" = some (some (.ref f_l_small))) (l_l_small : K.lookup f_l_small = some ⟨oc_l_small, od_l_small, .func (PySem.W.fnOf "_law_small" "_law_small" (defArgs s_l_small) (defBody s_l_small) (defScope s_l_small) .none kV_l_small dc_l_small pm_l_small an_l_small cd_l_small ct_l_small), sl_l_small⟩) (c_l_small : PySem.W.codeIn K cd_l_small "_law_small" = true) (k_l_small : PySem.W.keepIn K (.ref f_l_small) = true)
    (a_l_let : PySem.W.nsIn K mainGlobals "_law_let" = some (some (.ref f_l_let))) (l_l_let : K.lookup f_l_let = some ⟨oc_l_let, od_l_let, .func (PySem.W.fnOf "_law_let" "_law_let" (defArgs s_l_let) (defBody s_l_let) (defScope s_l_let) .none kV_l_let dc_l_let pm_l_let an_l_let cd_l_let ct_l_let), sl_l_let⟩) (c_l_let : PySem.W.codeIn K cd_l_let "_law_let" = true) (k_l_let : PySem.W.keepIn K (.ref f_l_let) = true)
    (a_l_least_made : PySem.W.nsIn K mainGlobals "_law_least_made" = some (some (.ref f_l_least_made))) (l_l_least_made : K.lookup f_l_least_made = some ⟨oc_l_least_made, od_l_least_made, .func (PySem.W.fnOf "_law_least_made" "_law_least_made" (defArgs s_l_least_made) (defBody s_l_least_made) (defScope s_l_least_made) .none kV_l_least_made dc_l_least_made pm_l_least_made an_l_least_made cd_l_least_made ct_l_least_made), sl_l_least_made⟩) (c_l_least_made : PySem.W.codeIn K cd_l_least_made "_law_least_made" = true) (k_l_least_made : PySem.W.keepIn K (.ref f_l_least_made) = true)
    (a_l_pair_of : PySem.W.nsIn K mainGlobals "_law_pair_of" = some (some (.ref f_l_pair_of))) (l_l_pair_of : K.lookup f_l_pair_of = some ⟨oc_l_pair_of, od_l_pair_of, .func (PySem.W.fnOf "_law_pair_of" "_law_pair_of" (defArgs s_l_pair_of) (defBody s_l_pair_of) (defScope s_l_pair_of) .none kV_l_pair_of dc_l_pair_of pm_l_pair_of an_l_pair_of cd_l_pair_of ct_l_pair_of), sl_l_pair_of⟩) (c_l_pair_of : PySem.W.codeIn K cd_l_pair_of "_law_pair_of" = true) (k_l_pair_of : PySem.W.keepIn K (.ref f_l_pair_of) = true)
    (a_l_put_in : PySem.W.nsIn K mainGlobals "_law_put_in" = some (some (.ref f_l_put_in))) (l_l_put_in : K.lookup f_l_put_in = some ⟨oc_l_put_in, od_l_put_in, .func (PySem.W.fnOf "_law_put_in" "_law_put_in" (defArgs s_l_put_in) (defBody s_l_put_in) (defScope s_l_put_in) .none kV_l_put_in dc_l_put_in pm_l_put_in an_l_put_in cd_l_put_in ct_l_put_in), sl_l_put_in⟩) (c_l_put_in : PySem.W.codeIn K cd_l_put_in "_law_put_in" = true) (k_l_put_in : PySem.W.keepIn K (.ref f_l_put_in) = true)
    (a_l_heard : PySem.W.nsIn K mainGlobals "_law_heard" = some (some (.ref f_l_heard))) (l_l_heard : K.lookup f_l_heard = some ⟨oc_l_heard, od_l_heard, .func (PySem.W.fnOf "_law_heard" "_law_heard" (defArgs s_l_heard) (defBody s_l_heard) (defScope s_l_heard) .none kV_l_heard dc_l_heard pm_l_heard an_l_heard cd_l_heard ct_l_heard), sl_l_heard⟩) (c_l_heard : PySem.W.codeIn K cd_l_heard "_law_heard" = true) (k_l_heard : PySem.W.keepIn K (.ref f_l_heard) = true)
    (a_l_walked_right : PySem.W.nsIn K mainGlobals "_law_walked_right" = some (some (.ref f_l_walked_right))) (l_l_walked_right : K.lookup f_l_walked_right = some ⟨oc_l_walked_right, od_l_walked_right, .func (PySem.W.fnOf "_law_walked_right" "_law_walked_right" (defArgs s_l_walked_right) (defBody s_l_walked_right) (defScope s_l_walked_right) .none kV_l_walked_right dc_l_walked_right pm_l_walked_right an_l_walked_right cd_l_walked_right ct_l_walked_right), sl_l_walked_right⟩) (c_l_walked_right : PySem.W.codeIn K cd_l_walked_right "_law_walked_right" = true) (k_l_walked_right : PySem.W.keepIn K (.ref f_l_walked_right) = true)
    (a_l_right : PySem.W.nsIn K mainGlobals "_law_right" = some (some (.ref f_l_right))) (l_l_right : K.lookup f_l_right = some ⟨oc_l_right, od_l_right, .func (PySem.W.fnOf "_law_right" "_law_right" (defArgs s_l_right) (defBody s_l_right) (defScope s_l_right) .none kV_l_right dc_l_right pm_l_right an_l_right cd_l_right ct_l_right), sl_l_right⟩) (c_l_right : PySem.W.codeIn K cd_l_right "_law_right" = true) (k_l_right : PySem.W.keepIn K (.ref f_l_right) = true)
    (a_l_by_hand_right : PySem.W.nsIn K mainGlobals "_law_by_hand_right" = some (some (.ref f_l_by_hand_right))) (l_l_by_hand_right : K.lookup f_l_by_hand_right = some ⟨oc_l_by_hand_right, od_l_by_hand_right, .func (PySem.W.fnOf "_law_by_hand_right" "_law_by_hand_right" (defArgs s_l_by_hand_right) (defBody s_l_by_hand_right) (defScope s_l_by_hand_right) .none kV_l_by_hand_right dc_l_by_hand_right pm_l_by_hand_right an_l_by_hand_right cd_l_by_hand_right ct_l_by_hand_right), sl_l_by_hand_right⟩) (c_l_by_hand_right : PySem.W.codeIn K cd_l_by_hand_right "_law_by_hand_right" = true) (k_l_by_hand_right : PySem.W.keepIn K (.ref f_l_by_hand_right) = true)
    (a_law : PySem.W.nsIn K mainGlobals "law" = some (some (.ref f_law))) (l_law : K.lookup f_law = some ⟨oc_law, od_law, .func (PySem.W.fnOf "law" "law" (defArgs s_law) (defBody s_law) (defScope s_law) .none kV_law dc_law pm_law an_law cd_law ct_law), sl_law⟩) (c_law : PySem.W.codeIn K cd_law "law" = true) (k_law : PySem.W.keepIn K (.ref f_law) = true)
    (z_isinstance : PySem.W.nsIn K mainGlobals "isinstance" = some none) (z_list : PySem.W.nsIn K mainGlobals "list" = some none) (z_tuple : PySem.W.nsIn K mainGlobals "tuple" = some none) (z_zip : PySem.W.nsIn K mainGlobals "zip" = some none) (z_enumerate : PySem.W.nsIn K mainGlobals "enumerate" = some none) (z_len : PySem.W.nsIn K mainGlobals "len" = some none) (z_sorted : PySem.W.nsIn K mainGlobals "sorted" = some none) (z_set : PySem.W.nsIn K mainGlobals "set" = some none) (z_abs : PySem.W.nsIn K mainGlobals "abs" = some none) (z_int : PySem.W.nsIn K mainGlobals "int" = some none) (z_all : PySem.W.nsIn K mainGlobals "all" = some none) (z_range : PySem.W.nsIn K mainGlobals "range" = some none) (z_ValueError : PySem.W.nsIn K mainGlobals "ValueError" = some none) (z_bool : PySem.W.nsIn K mainGlobals "bool" = some none) (z_str : PySem.W.nsIn K mainGlobals "str" = some none)
    (g_gcd : PySem.W.nsIn K mainGlobals "gcd" = some (some (.builtin "math.gcd"))) (g_NONE : PySem.W.nsIn K mainGlobals "NONE" = some (some (.ref aN))) (g_LESS : PySem.W.nsIn K mainGlobals "LESS" = some (some (.ref aL)))
    (t_NONE : K.lookup aN = some { cls := .type "tuple", dict := dN, data := .seq #[.int 0 tN1, .int 1 tN2] nN, slots := slN }) (t_LESS : K.lookup aL = some { cls := .type "tuple", dict := dL, data := .seq #[.int (-1) tL1, .int 1 tL2] nL, slots := slL })
    (u_g : PySem.W.nsIn K mainGlobals "Unfit" = some (some (.ref CU))) (u_x : PySem.W.excIn K CU [.type "ValueError", .type "Exception", .type "BaseException", .type "object"] "ValueError.__new__" = true) (u_k : PySem.W.keepIn K (.ref CU) = true) (u_b : PySem.W.subIn K (.ref CU) (.type "BaseException") = some true) (u_t : PySem.W.typeIn K (.ref CU) = some (.type "type"))
    (u_i : PySem.W.isClsIn K CU = true) (u_s : PySem.W.subIn K (.ref CU) (.ref CU) = some true) (u_w : PySem.W.subIn K (.ref CU) (.type "ValueError") = some true) (e_hg : PySem.W.findIn K (.ref CU) "__getattribute__" = some (some (.builtin "BaseException.__getattribute__"))) (e_hk : PySem.W.findIn K (.ref CU) "__getattr__" = some none) (e_hd : PySem.W.hasDictIn K CU = true)
    (e_ha : PySem.W.findIn K (.ref CU) "__class__" = some (some (.builtin "object.__class__"))) (e_hn : PySem.W.specialIn K (.builtin "object.__class__") "__get__" = some (some (.builtin "getset_descriptor.__get__"))) (e_ht : PySem.W.takesIn K (.builtin "object.__class__") = some true) (e_hm : PySem.W.mroIn K CU (.type "object") = some true) :
    ∃ fd : FuncData, (∀ (s : Shared) (v : Value), BindsTo s fd ⟨[v], []⟩ [("_law_script", v)]) ∧ ∀ base : Heap, K.In base → base.Ns mainGlobals mg → FnOk l.prog w K mg base CX0 14 fa fd ["_law_script"] (SpLaw K) := by
  have e := hfa.symm.trans (PySem.W.mg_of X G a_law)
  cases e
  have tup2 : ∀ (c : Addr) (i j : Int) (t u : Tok) (d : Option Addr) (n : Nat) (s : Array (Option Value)), K.lookup c = some { cls := .type "tuple", dict := d, data := .seq #[.int i t, .int j u] n, slots := s } → ∀ H, Dp K H (.ref c) (.tuple [.int i, .int j]) := fun c i j t u d n s hc H =>
    .tup (show SqT K H c [V.int i, V.int j] from .inr ⟨_, _, _, hc, rfl, rfl, (by show 2 ≤ sizeLine; decide), (.cons ⟨t, rfl⟩ (.cons ⟨u, rfl⟩ .nil) : Vals [V.int i, V.int j] [Value.int i t, Value.int j u])⟩) (.cons (.int i) (.cons (.int j) .nil))
  have T : Txt K mg aN aL := { n_isinstance := PySem.W.mg_none_of X G z_isinstance, n_list := PySem.W.mg_none_of X G z_list, n_tuple := PySem.W.mg_none_of X G z_tuple, n_zip := PySem.W.mg_none_of X G z_zip, n_enumerate := PySem.W.mg_none_of X G z_enumerate, n_len := PySem.W.mg_none_of X G z_len, n_sorted := PySem.W.mg_none_of X G z_sorted, n_set := PySem.W.mg_none_of X G z_set, n_abs := PySem.W.mg_none_of X G z_abs, n_int := PySem.W.mg_none_of X G z_int, n_all := PySem.W.mg_none_of X G z_all, n_range := PySem.W.mg_none_of X G z_range, n_ValueError := PySem.W.mg_none_of X G z_ValueError, n_bool := PySem.W.mg_none_of X G z_bool, n_str := PySem.W.mg_none_of X G z_str, ggcd := PySem.W.mg_of X G g_gcd, gNONE := PySem.W.mg_of X G g_NONE, gLESS := PySem.W.mg_of X G g_LESS, dNONE := tup2 _ _ _ _ _ _ _ _ t_NONE, dLESS := tup2 _ _ _ _ _ _ _ _ t_LESS }
  have U : Unf K mg CU := ⟨PySem.W.mg_of X G u_g, u_x, u_k, u_b, u_t, own_is u_b u_i u_t u_s, ⟨e_hg, e_hk, u_b, e_hd, e_ha, e_hn, e_ht, e_hm⟩, own_kit u_w⟩
  have F_tupled := fun_mk (st := s_tupled) l_tupled c_tupled k_tupled
  have D_tupled : Dfn K mg "tupled" s_tupled p_tupled := ⟨_, _, F_tupled, PySem.W.mg_of X G a_tupled, F_tupled.binds (ps := p_tupled) fun _ _ _ _ _ _ us hl => match us, hl with | [_], _ => rfl⟩
  have F_part_of := fun_mk (st := s_part_of) l_part_of c_part_of k_part_of
  have D_part_of : Dfn K mg "part_of" s_part_of p_part_of := ⟨_, _, F_part_of, PySem.W.mg_of X G a_part_of, F_part_of.binds (ps := p_part_of) fun _ _ _ _ _ _ us hl => match us, hl with | [_, _], _ => rfl⟩
  have F_part_plus := fun_mk (st := s_part_plus) l_part_plus c_part_plus k_part_plus
  have D_part_plus : Dfn K mg "part_plus" s_part_plus p_part_plus := ⟨_, _, F_part_plus, PySem.W.mg_of X G a_part_plus, F_part_plus.binds (ps := p_part_plus) fun _ _ _ _ _ _ us hl => match us, hl with | [_, _], _ => rfl⟩
  have F_part_minus := fun_mk (st := s_part_minus) l_part_minus c_part_minus k_part_minus
  have D_part_minus : Dfn K mg "part_minus" s_part_minus p_part_minus := ⟨_, _, F_part_minus, PySem.W.mg_of X G a_part_minus, F_part_minus.binds (ps := p_part_minus) fun _ _ _ _ _ _ us hl => match us, hl with | [_], _ => rfl⟩
  have F_part_less := fun_mk (st := s_part_less) l_part_less c_part_less k_part_less
  have D_part_less : Dfn K mg "part_less" s_part_less p_part_less := ⟨_, _, F_part_less, PySem.W.mg_of X G a_part_less, F_part_less.binds (ps := p_part_less) fun _ _ _ _ _ _ us hl => match us, hl with | [_, _], _ => rfl⟩
  have F_part_times := fun_mk (st := s_part_times) l_part_times c_part_times k_part_times
  have D_part_times : Dfn K mg "part_times" s_part_times p_part_times := ⟨_, _, F_part_times, PySem.W.mg_of X G a_part_times, F_part_times.binds (ps := p_part_times) fun _ _ _ _ _ _ us hl => match us, hl with | [_, _], _ => rfl⟩
  have F_part_below := fun_mk (st := s_part_below) l_part_below c_part_below k_part_below
  have D_part_below : Dfn K mg "part_below" s_part_below p_part_below := ⟨_, _, F_part_below, PySem.W.mg_of X G a_part_below, F_part_below.binds (ps := p_part_below) fun _ _ _ _ _ _ us hl => match us, hl with | [_, _], _ => rfl⟩
  have F_part_sum := fun_mk (st := s_part_sum) l_part_sum c_part_sum k_part_sum
  have D_part_sum : Dfn K mg "part_sum" s_part_sum p_part_sum := ⟨_, _, F_part_sum, PySem.W.mg_of X G a_part_sum, F_part_sum.binds (ps := p_part_sum) fun _ _ _ _ _ _ us hl => match us, hl with | [_], _ => rfl⟩
  have F_cells_dot := fun_mk (st := s_cells_dot) l_cells_dot c_cells_dot k_cells_dot
  have D_cells_dot : Dfn K mg "cells_dot" s_cells_dot p_cells_dot := ⟨_, _, F_cells_dot, PySem.W.mg_of X G a_cells_dot, F_cells_dot.binds (ps := p_cells_dot) fun _ _ _ _ _ _ us hl => match us, hl with | [_, _], _ => rfl⟩
  have F_cells_plus := fun_mk (st := s_cells_plus) l_cells_plus c_cells_plus k_cells_plus
  have D_cells_plus : Dfn K mg "cells_plus" s_cells_plus p_cells_plus := ⟨_, _, F_cells_plus, PySem.W.mg_of X G a_cells_plus, F_cells_plus.binds (ps := p_cells_plus) fun _ _ _ _ _ _ us hl => match us, hl with | [_, _], _ => rfl⟩
  have F_cells_times := fun_mk (st := s_cells_times) l_cells_times c_cells_times k_cells_times
  have D_cells_times : Dfn K mg "cells_times" s_cells_times p_cells_times := ⟨_, _, F_cells_times, PySem.W.mg_of X G a_cells_times, F_cells_times.binds (ps := p_cells_times) fun _ _ _ _ _ _ us hl => match us, hl with | [_, _], _ => rfl⟩
  have F_cells_made := fun_mk (st := s_cells_made) l_cells_made c_cells_made k_cells_made
  have D_cells_made : Dfn K mg "cells_made" s_cells_made p_cells_made := ⟨_, _, F_cells_made, PySem.W.mg_of X G a_cells_made, F_cells_made.binds (ps := p_cells_made) fun _ _ _ _ _ _ us hl => match us, hl with | [_, _], _ => rfl⟩
  have F_greatest_part := fun_mk (st := s_greatest_part) l_greatest_part c_greatest_part k_greatest_part
  have D_greatest_part : Dfn K mg "greatest_part" s_greatest_part p_greatest_part := ⟨_, _, F_greatest_part, PySem.W.mg_of X G a_greatest_part, F_greatest_part.binds (ps := p_greatest_part) fun _ _ _ _ _ _ us hl => match us, hl with | [_], _ => rfl⟩
  have F_least_part := fun_mk (st := s_least_part) l_least_part c_least_part k_least_part
  have D_least_part : Dfn K mg "least_part" s_least_part p_least_part := ⟨_, _, F_least_part, PySem.W.mg_of X G a_least_part, F_least_part.binds (ps := p_least_part) fun _ _ _ _ _ _ us hl => match us, hl with | [_], _ => rfl⟩
  have F_cost := fun_mk (st := s_cost) l_cost c_cost k_cost
  have D_cost : Dfn K mg "cost" s_cost p_cost := ⟨_, _, F_cost, PySem.W.mg_of X G a_cost, F_cost.binds (ps := p_cost) fun _ _ _ _ _ _ us hl => match us, hl with | [_, _], _ => rfl⟩
  have F_cost_between := fun_mk (st := s_cost_between) l_cost_between c_cost_between k_cost_between
  have D_cost_between : Dfn K mg "cost_between" s_cost_between p_cost_between := ⟨_, _, F_cost_between, PySem.W.mg_of X G a_cost_between, F_cost_between.binds (ps := p_cost_between) fun _ _ _ _ _ _ us hl => match us, hl with | [_, _, _], _ => rfl⟩
  have F_broken_pair := fun_mk (st := s_broken_pair) l_broken_pair c_broken_pair k_broken_pair
  have D_broken_pair : Dfn K mg "broken_pair" s_broken_pair p_broken_pair := ⟨_, _, F_broken_pair, PySem.W.mg_of X G a_broken_pair, F_broken_pair.binds (ps := p_broken_pair) fun _ _ _ _ _ _ us hl => match us, hl with | [_, _, _], _ => rfl⟩
  have F_is_let := fun_mk (st := s_is_let) l_is_let c_is_let k_is_let
  have D_is_let : Dfn K mg "is_let" s_is_let p_is_let := ⟨_, _, F_is_let, PySem.W.mg_of X G a_is_let, F_is_let.binds (ps := p_is_let) fun _ _ _ _ _ _ us hl => match us, hl with | [_, _, _], _ => rfl⟩
  have F_sure_let := fun_mk (st := s_sure_let) l_sure_let c_sure_let k_sure_let
  have D_sure_let : Dfn K mg "sure_let" s_sure_let p_sure_let := ⟨_, _, F_sure_let, PySem.W.mg_of X G a_sure_let, F_sure_let.binds (ps := p_sure_let) fun _ _ _ _ _ _ us hl => match us, hl with | [_, _, _], _ => rfl⟩
  have F_shown_from := fun_mk (st := s_shown_from) l_shown_from c_shown_from k_shown_from
  have D_shown_from : Dfn K mg "shown_from" s_shown_from p_shown_from := ⟨_, _, F_shown_from, PySem.W.mg_of X G a_shown_from, F_shown_from.binds (ps := p_shown_from) fun _ _ _ _ _ _ us hl => match us, hl with | [_, _, _, _], _ => rfl⟩
  have F_law_at := fun_mk (st := s_law_at) l_law_at c_law_at k_law_at
  have D_law_at : Dfn K mg "law_at" s_law_at p_law_at := ⟨_, _, F_law_at, PySem.W.mg_of X G a_law_at, F_law_at.binds (ps := p_law_at) fun _ _ _ _ _ _ us hl => match us, hl with | [_, _, _, _], _ => rfl⟩
  have F_least_law_at := fun_mk (st := s_least_law_at) l_least_law_at c_least_law_at k_least_law_at
  have D_least_law_at : Dfn K mg "least_law_at" s_least_law_at p_least_law_at := ⟨_, _, F_least_law_at, PySem.W.mg_of X G a_least_law_at, F_least_law_at.binds (ps := p_least_law_at) fun _ _ _ _ _ _ us hl => match us, hl with | [_, _, _, _], _ => rfl⟩
  have F_with_point := fun_mk (st := s_with_point) l_with_point c_with_point k_with_point
  have D_with_point : Dfn K mg "with_point" s_with_point p_with_point := ⟨_, _, F_with_point, PySem.W.mg_of X G a_with_point, F_with_point.binds (ps := p_with_point) fun _ _ _ _ _ _ us hl => match us, hl with | [_, _, _, _, _], _ => rfl⟩
  have F_l_box := fun_mk (st := s_l_box) l_l_box c_l_box k_l_box
  have D_l_box : Dfn K mg "_law_box" s_l_box p_l_box := ⟨_, _, F_l_box, PySem.W.mg_of X G a_l_box, F_l_box.binds (ps := p_l_box) fun _ _ _ _ _ _ us hl => match us, hl with | [_, _], _ => rfl⟩
  have F_l_take := fun_mk (st := s_l_take) l_l_take c_l_take k_l_take
  have D_l_take : Dfn K mg "_law_take" s_l_take p_l_take := ⟨_, _, F_l_take, PySem.W.mg_of X G a_l_take, F_l_take.binds (ps := p_l_take) fun _ _ _ _ _ _ us hl => match us, hl with | [_, _], _ => rfl⟩
  have F_l_cells := fun_mk (st := s_l_cells) l_l_cells c_l_cells k_l_cells
  have D_l_cells : Dfn K mg "_law_cells" s_l_cells p_l_cells := ⟨_, _, F_l_cells, PySem.W.mg_of X G a_l_cells, F_l_cells.binds (ps := p_l_cells) fun _ _ _ _ _ _ us hl => match us, hl with | [_, _], _ => rfl⟩
  have F_l_of := fun_mk (st := s_l_of) l_l_of c_l_of k_l_of
  have D_l_of : Dfn K mg "_law_of" s_l_of p_l_of := ⟨_, _, F_l_of, PySem.W.mg_of X G a_l_of, F_l_of.binds (ps := p_l_of) fun _ _ _ _ _ _ us hl => match us, hl with | [_, _], _ => rfl⟩
  have F_l_lists := fun_mk (st := s_l_lists) l_l_lists c_l_lists k_l_lists
  have D_l_lists : Dfn K mg "_law_lists" s_l_lists p_l_lists := ⟨_, _, F_l_lists, PySem.W.mg_of X G a_l_lists, F_l_lists.binds (ps := p_l_lists) fun _ _ _ _ _ _ us hl => match us, hl with | [_], _ => rfl⟩
  have F_l_same := fun_mk (st := s_l_same) l_l_same c_l_same k_l_same
  have D_l_same : Dfn K mg "_law_same" s_l_same p_l_same := ⟨_, _, F_l_same, PySem.W.mg_of X G a_l_same, F_l_same.binds (ps := p_l_same) fun _ _ _ _ _ _ us hl => match us, hl with | [_, _], _ => rfl⟩
  have F_l_gcd := fun_mk (st := s_l_gcd) l_l_gcd c_l_gcd k_l_gcd
  have D_l_gcd : Dfn K mg "_law_gcd" s_l_gcd p_l_gcd := ⟨_, _, F_l_gcd, PySem.W.mg_of X G a_l_gcd, F_l_gcd.binds (ps := p_l_gcd) fun _ _ _ _ _ _ us hl => match us, hl with | [_, _], _ => rfl⟩
  have F_l_fr := fun_mk (st := s_l_fr) l_l_fr c_l_fr k_l_fr
  have D_l_fr : Dfn K mg "_law_fr" s_l_fr p_l_fr := ⟨_, _, F_l_fr, PySem.W.mg_of X G a_l_fr, F_l_fr.binds (ps := p_l_fr) fun _ _ _ _ _ _ us hl => match us, hl with | [_, _], _ => rfl⟩
  have F_l_sum := fun_mk (st := s_l_sum) l_l_sum c_l_sum k_l_sum
  have D_l_sum : Dfn K mg "_law_sum" s_l_sum p_l_sum := ⟨_, _, F_l_sum, PySem.W.mg_of X G a_l_sum, F_l_sum.binds (ps := p_l_sum) fun _ _ _ _ _ _ us hl => match us, hl with | [_, _], _ => rfl⟩
  have F_l_less_by := fun_mk (st := s_l_less_by) l_l_less_by c_l_less_by k_l_less_by
  have D_l_less_by : Dfn K mg "_law_less_by" s_l_less_by p_l_less_by := ⟨_, _, F_l_less_by, PySem.W.mg_of X G a_l_less_by, F_l_less_by.binds (ps := p_l_less_by) fun _ _ _ _ _ _ us hl => match us, hl with | [_, _], _ => rfl⟩
  have F_l_mul := fun_mk (st := s_l_mul) l_l_mul c_l_mul k_l_mul
  have D_l_mul : Dfn K mg "_law_mul" s_l_mul p_l_mul := ⟨_, _, F_l_mul, PySem.W.mg_of X G a_l_mul, F_l_mul.binds (ps := p_l_mul) fun _ _ _ _ _ _ us hl => match us, hl with | [_, _], _ => rfl⟩
  have F_l_dot := fun_mk (st := s_l_dot) l_l_dot c_l_dot k_l_dot
  have D_l_dot : Dfn K mg "_law_dot" s_l_dot p_l_dot := ⟨_, _, F_l_dot, PySem.W.mg_of X G a_l_dot, F_l_dot.binds (ps := p_l_dot) fun _ _ _ _ _ _ us hl => match us, hl with | [_, _], _ => rfl⟩
  have F_l_many := fun_mk (st := s_l_many) l_l_many c_l_many k_l_many
  have D_l_many : Dfn K mg "_law_many" s_l_many p_l_many := ⟨_, _, F_l_many, PySem.W.mg_of X G a_l_many, F_l_many.binds (ps := p_l_many) fun _ _ _ _ _ _ us hl => match us, hl with | [_, _], _ => rfl⟩
  have F_l_idle := fun_mk (st := s_l_idle) l_l_idle c_l_idle k_l_idle
  have D_l_idle : Dfn K mg "_law_idle" s_l_idle p_l_idle := ⟨_, _, F_l_idle, PySem.W.mg_of X G a_l_idle, F_l_idle.binds (ps := p_l_idle) fun _ _ _ _ _ _ us hl => match us, hl with | [_], _ => rfl⟩
  have F_l_less_rows := fun_mk (st := s_l_less_rows) l_l_less_rows c_l_less_rows k_l_less_rows
  have D_l_less_rows : Dfn K mg "_law_less_rows" s_l_less_rows p_l_less_rows := ⟨_, _, F_l_less_rows, PySem.W.mg_of X G a_l_less_rows, F_l_less_rows.binds (ps := p_l_less_rows) fun _ _ _ _ _ _ us hl => match us, hl with | [_, _], _ => rfl⟩
  have F_l_lower := fun_mk (st := s_l_lower) l_l_lower c_l_lower k_l_lower
  have D_l_lower : Dfn K mg "_law_lower" s_l_lower p_l_lower := ⟨_, _, F_l_lower, PySem.W.mg_of X G a_l_lower, F_l_lower.binds (ps := p_l_lower) fun _ _ _ _ _ _ us hl => match us, hl with | [_, _], _ => rfl⟩
  have F_l_lowest := fun_mk (st := s_l_lowest) l_l_lowest c_l_lowest k_l_lowest
  have D_l_lowest : Dfn K mg "_law_lowest" s_l_lowest p_l_lowest := ⟨_, _, F_l_lowest, PySem.W.mg_of X G a_l_lowest, F_l_lowest.binds (ps := p_l_lowest) fun _ _ _ _ _ _ us hl => match us, hl with | [_], _ => rfl⟩
  have F_l_highest := fun_mk (st := s_l_highest) l_l_highest c_l_highest k_l_highest
  have D_l_highest : Dfn K mg "_law_highest" s_l_highest p_l_highest := ⟨_, _, F_l_highest, PySem.W.mg_of X G a_l_highest, F_l_highest.binds (ps := p_l_highest) fun _ _ _ _ _ _ us hl => match us, hl with | [_], _ => rfl⟩
  have F_l_cost := fun_mk (st := s_l_cost) l_l_cost c_l_cost k_l_cost
  have D_l_cost : Dfn K mg "_law_cost" s_l_cost p_l_cost := ⟨_, _, F_l_cost, PySem.W.mg_of X G a_l_cost, F_l_cost.binds (ps := p_l_cost) fun _ _ _ _ _ _ us hl => match us, hl with | [_, _], _ => rfl⟩
  have F_l_rise_cost := fun_mk (st := s_l_rise_cost) l_l_rise_cost c_l_rise_cost k_l_rise_cost
  have D_l_rise_cost : Dfn K mg "_law_rise_cost" s_l_rise_cost p_l_rise_cost := ⟨_, _, F_l_rise_cost, PySem.W.mg_of X G a_l_rise_cost, F_l_rise_cost.binds (ps := p_l_rise_cost) fun _ _ _ _ _ _ us hl => match us, hl with | [_, _, _], _ => rfl⟩
  have F_l_settled := fun_mk (st := s_l_settled) l_l_settled c_l_settled k_l_settled
  have D_l_settled : Dfn K mg "_law_settled" s_l_settled p_l_settled := ⟨_, _, F_l_settled, PySem.W.mg_of X G a_l_settled, F_l_settled.binds (ps := p_l_settled) fun _ _ _ _ _ _ us hl => match us, hl with | [_], _ => rfl⟩
  have F_l_is_let := fun_mk (st := s_l_is_let) l_l_is_let c_l_is_let k_l_is_let
  have D_l_is_let : Dfn K mg "_law_is_let" s_l_is_let p_l_is_let := ⟨_, _, F_l_is_let, PySem.W.mg_of X G a_l_is_let, F_l_is_let.binds (ps := p_l_is_let) fun _ _ _ _ _ _ us hl => match us, hl with | [_, _, _], _ => rfl⟩
  have F_l_made := fun_mk (st := s_l_made) l_l_made c_l_made k_l_made
  have D_l_made : Dfn K mg "_law_made" s_l_made p_l_made := ⟨_, _, F_l_made, PySem.W.mg_of X G a_l_made, F_l_made.binds (ps := p_l_made) fun _ _ _ _ _ _ us hl => match us, hl with | [_, _, _, _], _ => rfl⟩
  have F_l_slope := fun_mk (st := s_l_slope) l_l_slope c_l_slope k_l_slope
  have D_l_slope : Dfn K mg "_law_slope" s_l_slope p_l_slope := ⟨_, _, F_l_slope, PySem.W.mg_of X G a_l_slope, F_l_slope.binds (ps := p_l_slope) fun _ _ _ _ _ _ us hl => match us, hl with | [_], _ => rfl⟩
  have F_l_growth := fun_mk (st := s_l_growth) l_l_growth c_l_growth k_l_growth
  have D_l_growth : Dfn K mg "_law_growth" s_l_growth p_l_growth := ⟨_, _, F_l_growth, PySem.W.mg_of X G a_l_growth, F_l_growth.binds (ps := p_l_growth) fun _ _ _ _ _ _ us hl => match us, hl with | [_, _], _ => rfl⟩
  have F_l_place := fun_mk (st := s_l_place) l_l_place c_l_place k_l_place
  have D_l_place : Dfn K mg "_law_place" s_l_place p_l_place := ⟨_, _, F_l_place, PySem.W.mg_of X G a_l_place, F_l_place.binds (ps := p_l_place) fun _ _ _ _ _ _ us hl => match us, hl with | [_, _], _ => rfl⟩
  have F_l_points := fun_mk (st := s_l_points) l_l_points c_l_points k_l_points
  have D_l_points : Dfn K mg "_law_points" s_l_points p_l_points := ⟨_, _, F_l_points, PySem.W.mg_of X G a_l_points, F_l_points.binds (ps := p_l_points) fun _ _ _ _ _ _ us hl => match us, hl with | [_, _, _], _ => rfl⟩
  have F_l_small := fun_mk (st := s_l_small) l_l_small c_l_small k_l_small
  have D_l_small : Dfn K mg "_law_small" s_l_small p_l_small := ⟨_, _, F_l_small, PySem.W.mg_of X G a_l_small, F_l_small.binds (ps := p_l_small) fun _ _ _ _ _ _ us hl => match us, hl with | [_], _ => rfl⟩
  have F_l_let := fun_mk (st := s_l_let) l_l_let c_l_let k_l_let
  have D_l_let : Dfn K mg "_law_let" s_l_let p_l_let := ⟨_, _, F_l_let, PySem.W.mg_of X G a_l_let, F_l_let.binds (ps := p_l_let) fun _ _ _ _ _ _ us hl => match us, hl with | [_, _, _], _ => rfl⟩
  have F_l_least_made := fun_mk (st := s_l_least_made) l_l_least_made c_l_least_made k_l_least_made
  have D_l_least_made : Dfn K mg "_law_least_made" s_l_least_made p_l_least_made := ⟨_, _, F_l_least_made, PySem.W.mg_of X G a_l_least_made, F_l_least_made.binds (ps := p_l_least_made) fun _ _ _ _ _ _ us hl => match us, hl with | [_, _, _, _], _ => rfl⟩
  have F_l_pair_of := fun_mk (st := s_l_pair_of) l_l_pair_of c_l_pair_of k_l_pair_of
  have D_l_pair_of : Dfn K mg "_law_pair_of" s_l_pair_of p_l_pair_of := ⟨_, _, F_l_pair_of, PySem.W.mg_of X G a_l_pair_of, F_l_pair_of.binds (ps := p_l_pair_of) fun _ _ _ _ _ _ us hl => match us, hl with | [_, _, _], _ => rfl⟩
  have F_l_put_in := fun_mk (st := s_l_put_in) l_l_put_in c_l_put_in k_l_put_in
  have D_l_put_in : Dfn K mg "_law_put_in" s_l_put_in p_l_put_in := ⟨_, _, F_l_put_in, PySem.W.mg_of X G a_l_put_in, F_l_put_in.binds (ps := p_l_put_in) fun _ _ _ _ _ _ us hl => match us, hl with | [_, _, _, _], _ => rfl⟩
  have F_l_heard := fun_mk (st := s_l_heard) l_l_heard c_l_heard k_l_heard
  have D_l_heard : Dfn K mg "_law_heard" s_l_heard p_l_heard := ⟨_, _, F_l_heard, PySem.W.mg_of X G a_l_heard, F_l_heard.binds (ps := p_l_heard) fun _ _ _ _ _ _ us hl => match us, hl with | [_, _, _, _, _], _ => rfl⟩
  have F_l_walked_right := fun_mk (st := s_l_walked_right) l_l_walked_right c_l_walked_right k_l_walked_right
  have D_l_walked_right : Dfn K mg "_law_walked_right" s_l_walked_right p_l_walked_right := ⟨_, _, F_l_walked_right, PySem.W.mg_of X G a_l_walked_right, F_l_walked_right.binds (ps := p_l_walked_right) fun _ _ _ _ _ _ us hl => match us, hl with | [_, _, _], _ => rfl⟩
  have F_l_right := fun_mk (st := s_l_right) l_l_right c_l_right k_l_right
  have D_l_right : Dfn K mg "_law_right" s_l_right p_l_right := ⟨_, _, F_l_right, PySem.W.mg_of X G a_l_right, F_l_right.binds (ps := p_l_right) fun _ _ _ _ _ _ us hl => match us, hl with | [_], _ => rfl⟩
  have F_l_by_hand_right := fun_mk (st := s_l_by_hand_right) l_l_by_hand_right c_l_by_hand_right k_l_by_hand_right
  have D_l_by_hand_right : Dfn K mg "_law_by_hand_right" s_l_by_hand_right p_l_by_hand_right := ⟨_, _, F_l_by_hand_right, PySem.W.mg_of X G a_l_by_hand_right, F_l_by_hand_right.binds (ps := p_l_by_hand_right) fun _ _ _ _ _ _ us hl => match us, hl with | [], _ => rfl⟩
  have F_law := fun_mk (st := s_law) l_law c_law k_law
  have D_law : Dfn K mg "law" s_law p_law := ⟨_, _, F_law, PySem.W.mg_of X G a_law, F_law.binds (ps := p_law) fun _ _ _ _ _ _ us hl => match us, hl with | [_], _ => rfl⟩
  refine ⟨PySem.W.fnOf "law" "law" (defArgs s_law) (defBody s_law) (defScope s_law) .none kV_law dc_law pm_law an_law cd_law ct_law, fun s v => .of_eq rfl, fun base _ _ => ?_⟩
  exact whole (P := l.prog) (w := w) (base := base) T U D_tupled D_part_of D_part_plus D_part_minus D_part_less D_part_times D_part_below D_part_sum D_cells_dot D_cells_plus D_cells_times D_cells_made D_greatest_part D_least_part D_cost D_cost_between D_broken_pair D_is_let D_sure_let D_shown_from D_law_at D_least_law_at D_with_point D_l_box D_l_take D_l_cells D_l_of D_l_lists D_l_same D_l_gcd D_l_fr D_l_sum D_l_less_by D_l_mul D_l_dot D_l_many D_l_idle D_l_less_rows D_l_lower D_l_lowest D_l_highest D_l_cost D_l_rise_cost D_l_settled D_l_is_let D_l_made D_l_slope D_l_growth D_l_place D_l_points D_l_small D_l_let D_l_least_made D_l_pair_of D_l_put_in D_l_heard D_l_walked_right D_l_right D_l_by_hand_right F_law
end K17

end
open PyProof.Rows PySem PySem.W
set_option maxHeartbeats 0 in
theorem PySem.Challenge.cw_lawsunseen_k17_whole_laws_walked_and_tol_holds : PySem.Challenge.rw_lawsunseen_k17_whole_laws_walked_and_tol.Holds := by
  w_on; o_law; k_head
  case hw => w_witness2
  k_fill
  refine L2.walk_of (l := PySem.Challenge.rw_lawsunseen_k17_whole_laws_walked_and_tol) (n := 63) (k := 14) (x := "_law_script") (CX := fun _ => L2.CX0) (sp := fun w => K17.SpLaw _) rfl (by decide) rfl ⟨rfl, by decide, by decide⟩ (fun w h Y => PySem.W.kIn_of Y) ?F (fun _ _ a ns hl _ hS => ⟨a, ns, rfl, hS, hl, fun _ => rfl⟩) (fun _ _ _ _ _ h => h)
  case F =>
    intro w mg fa h KX G hmg
    refine' K17.all_mk KX G hmg ?a_tupled ?l_tupled ?c_tupled ?k_tupled ?a_part_of ?l_part_of ?c_part_of ?k_part_of ?a_part_plus ?l_part_plus ?c_part_plus ?k_part_plus ?a_part_minus ?l_part_minus ?c_part_minus ?k_part_minus ?a_part_less ?l_part_less ?c_part_less ?k_part_less ?a_part_times ?l_part_times ?c_part_times ?k_part_times ?a_part_below ?l_part_below ?c_part_below ?k_part_below ?a_part_sum ?l_part_sum ?c_part_sum ?k_part_sum ?a_cells_dot ?l_cells_dot ?c_cells_dot ?k_cells_dot ?a_cells_plus ?l_cells_plus ?c_cells_plus ?k_cells_plus ?a_cells_times ?l_cells_times ?c_cells_times ?k_cells_times ?a_cells_made ?l_cells_made ?c_cells_made ?k_cells_made ?a_greatest_part ?l_greatest_part ?c_greatest_part ?k_greatest_part ?a_least_part ?l_least_part ?c_least_part ?k_least_part ?a_cost ?l_cost ?c_cost ?k_cost ?a_cost_between ?l_cost_between ?c_cost_between ?k_cost_between ?a_broken_pair ?l_broken_pair ?c_broken_pair ?k_broken_pair ?a_is_let ?l_is_let ?c_is_let ?k_is_let ?a_sure_let ?l_sure_let ?c_sure_let ?k_sure_let ?a_shown_from ?l_shown_from ?c_shown_from ?k_shown_from ?a_law_at ?l_law_at ?c_law_at ?k_law_at ?a_least_law_at ?l_least_law_at ?c_least_law_at ?k_least_law_at ?a_with_point ?l_with_point ?c_with_point ?k_with_point ?a_l_box ?l_l_box ?c_l_box ?k_l_box ?a_l_take ?l_l_take ?c_l_take ?k_l_take ?a_l_cells ?l_l_cells ?c_l_cells ?k_l_cells ?a_l_of ?l_l_of ?c_l_of ?k_l_of ?a_l_lists ?l_l_lists ?c_l_lists ?k_l_lists ?a_l_same ?l_l_same ?c_l_same ?k_l_same ?a_l_gcd ?l_l_gcd ?c_l_gcd ?k_l_gcd ?a_l_fr ?l_l_fr ?c_l_fr ?k_l_fr ?a_l_sum ?l_l_sum ?c_l_sum ?k_l_sum ?a_l_less_by ?l_l_less_by ?c_l_less_by ?k_l_less_by ?a_l_mul ?l_l_mul ?c_l_mul ?k_l_mul ?a_l_dot ?l_l_dot ?c_l_dot ?k_l_dot ?a_l_many ?l_l_many ?c_l_many ?k_l_many ?a_l_idle ?l_l_idle ?c_l_idle ?k_l_idle ?a_l_less_rows ?l_l_less_rows ?c_l_less_rows ?k_l_less_rows ?a_l_lower ?l_l_lower ?c_l_lower ?k_l_lower ?a_l_lowest ?l_l_lowest ?c_l_lowest ?k_l_lowest ?a_l_highest ?l_l_highest ?c_l_highest ?k_l_highest ?a_l_cost ?l_l_cost ?c_l_cost ?k_l_cost ?a_l_rise_cost ?l_l_rise_cost ?c_l_rise_cost ?k_l_rise_cost ?a_l_settled ?l_l_settled ?c_l_settled ?k_l_settled ?a_l_is_let ?l_l_is_let ?c_l_is_let ?k_l_is_let ?a_l_made ?l_l_made ?c_l_made ?k_l_made ?a_l_slope ?l_l_slope ?c_l_slope ?k_l_slope ?a_l_growth ?l_l_growth ?c_l_growth ?k_l_growth ?a_l_place ?l_l_place ?c_l_place ?k_l_place ?a_l_points ?l_l_points ?c_l_points ?k_l_points ?a_l_small ?l_l_small ?c_l_small ?k_l_small ?a_l_let ?l_l_let ?c_l_let ?k_l_let ?a_l_least_made ?l_l_least_made ?c_l_least_made ?k_l_least_made ?a_l_pair_of ?l_l_pair_of ?c_l_pair_of ?k_l_pair_of ?a_l_put_in ?l_l_put_in ?c_l_put_in ?k_l_put_in ?a_l_heard ?l_l_heard ?c_l_heard ?k_l_heard ?a_l_walked_right ?l_l_walked_right ?c_l_walked_right ?k_l_walked_right ?a_l_right ?l_l_right ?c_l_right ?k_l_right ?a_l_by_hand_right ?l_l_by_hand_right ?c_l_by_hand_right ?k_l_by_hand_right ?a_law ?l_law ?c_law ?k_law ?z_isinstance ?z_list ?z_tuple ?z_zip ?z_enumerate ?z_len ?z_sorted ?z_set ?z_abs ?z_int ?z_all ?z_range ?z_ValueError ?z_bool ?z_str ?g_gcd ?g_NONE ?g_LESS ?t_NONE ?t_LESS ?u_g ?u_x ?u_k ?u_b ?u_t ?u_i ?u_s ?u_w ?e_hg ?e_hk ?e_hd ?e_ha ?e_hn ?e_ht ?e_hm
    (case a_tupled => first | k_is | k_exc)
    (case l_tupled => first | k_is | k_exc)
    (case c_tupled => first | k_is | k_exc)
    (case k_tupled => first | k_is | k_exc)
    (case a_part_of => first | k_is | k_exc)
    (case l_part_of => first | k_is | k_exc)
    (case c_part_of => first | k_is | k_exc)
    (case k_part_of => first | k_is | k_exc)
    (case a_part_plus => first | k_is | k_exc)
    (case l_part_plus => first | k_is | k_exc)
    (case c_part_plus => first | k_is | k_exc)
    (case k_part_plus => first | k_is | k_exc)
    (case a_part_minus => first | k_is | k_exc)
    (case l_part_minus => first | k_is | k_exc)
    (case c_part_minus => first | k_is | k_exc)
    (case k_part_minus => first | k_is | k_exc)
    (case a_part_less => first | k_is | k_exc)
    (case l_part_less => first | k_is | k_exc)
    (case c_part_less => first | k_is | k_exc)
    (case k_part_less => first | k_is | k_exc)
    (case a_part_times => first | k_is | k_exc)
    (case l_part_times => first | k_is | k_exc)
    (case c_part_times => first | k_is | k_exc)
    (case k_part_times => first | k_is | k_exc)
    (case a_part_below => first | k_is | k_exc)
    (case l_part_below => first | k_is | k_exc)
    (case c_part_below => first | k_is | k_exc)
    (case k_part_below => first | k_is | k_exc)
    (case a_part_sum => first | k_is | k_exc)
    (case l_part_sum => first | k_is | k_exc)
    (case c_part_sum => first | k_is | k_exc)
    (case k_part_sum => first | k_is | k_exc)
    (case a_cells_dot => first | k_is | k_exc)
    (case l_cells_dot => first | k_is | k_exc)
    (case c_cells_dot => first | k_is | k_exc)
    (case k_cells_dot => first | k_is | k_exc)
    (case a_cells_plus => first | k_is | k_exc)
    (case l_cells_plus => first | k_is | k_exc)
    (case c_cells_plus => first | k_is | k_exc)
    (case k_cells_plus => first | k_is | k_exc)
    (case a_cells_times => first | k_is | k_exc)
    (case l_cells_times => first | k_is | k_exc)
    (case c_cells_times => first | k_is | k_exc)
    (case k_cells_times => first | k_is | k_exc)
    (case a_cells_made => first | k_is | k_exc)
    (case l_cells_made => first | k_is | k_exc)
    (case c_cells_made => first | k_is | k_exc)
    (case k_cells_made => first | k_is | k_exc)
    (case a_greatest_part => first | k_is | k_exc)
    (case l_greatest_part => first | k_is | k_exc)
    (case c_greatest_part => first | k_is | k_exc)
    (case k_greatest_part => first | k_is | k_exc)
    (case a_least_part => first | k_is | k_exc)
    (case l_least_part => first | k_is | k_exc)
    (case c_least_part => first | k_is | k_exc)
    (case k_least_part => first | k_is | k_exc)
    (case a_cost => first | k_is | k_exc)
    (case l_cost => first | k_is | k_exc)
    (case c_cost => first | k_is | k_exc)
    (case k_cost => first | k_is | k_exc)
    (case a_cost_between => first | k_is | k_exc)
    (case l_cost_between => first | k_is | k_exc)
    (case c_cost_between => first | k_is | k_exc)
    (case k_cost_between => first | k_is | k_exc)
    (case a_broken_pair => first | k_is | k_exc)
    (case l_broken_pair => first | k_is | k_exc)
    (case c_broken_pair => first | k_is | k_exc)
    (case k_broken_pair => first | k_is | k_exc)
    (case a_is_let => first | k_is | k_exc)
    (case l_is_let => first | k_is | k_exc)
    (case c_is_let => first | k_is | k_exc)
    (case k_is_let => first | k_is | k_exc)
    (case a_sure_let => first | k_is | k_exc)
    (case l_sure_let => first | k_is | k_exc)
    (case c_sure_let => first | k_is | k_exc)
    (case k_sure_let => first | k_is | k_exc)
    (case a_shown_from => first | k_is | k_exc)
    (case l_shown_from => first | k_is | k_exc)
    (case c_shown_from => first | k_is | k_exc)
    (case k_shown_from => first | k_is | k_exc)
    (case a_law_at => first | k_is | k_exc)
    (case l_law_at => first | k_is | k_exc)
    (case c_law_at => first | k_is | k_exc)
    (case k_law_at => first | k_is | k_exc)
    (case a_least_law_at => first | k_is | k_exc)
    (case l_least_law_at => first | k_is | k_exc)
    (case c_least_law_at => first | k_is | k_exc)
    (case k_least_law_at => first | k_is | k_exc)
    (case a_with_point => first | k_is | k_exc)
    (case l_with_point => first | k_is | k_exc)
    (case c_with_point => first | k_is | k_exc)
    (case k_with_point => first | k_is | k_exc)
    (case a_l_box => first | k_is | k_exc)
    (case l_l_box => first | k_is | k_exc)
    (case c_l_box => first | k_is | k_exc)
    (case k_l_box => first | k_is | k_exc)
    (case a_l_take => first | k_is | k_exc)
    (case l_l_take => first | k_is | k_exc)
    (case c_l_take => first | k_is | k_exc)
    (case k_l_take => first | k_is | k_exc)
    (case a_l_cells => first | k_is | k_exc)
    (case l_l_cells => first | k_is | k_exc)
    (case c_l_cells => first | k_is | k_exc)
    (case k_l_cells => first | k_is | k_exc)
    (case a_l_of => first | k_is | k_exc)
    (case l_l_of => first | k_is | k_exc)
    (case c_l_of => first | k_is | k_exc)
    (case k_l_of => first | k_is | k_exc)
    (case a_l_lists => first | k_is | k_exc)
    (case l_l_lists => first | k_is | k_exc)
    (case c_l_lists => first | k_is | k_exc)
    (case k_l_lists => first | k_is | k_exc)
    (case a_l_same => first | k_is | k_exc)
    (case l_l_same => first | k_is | k_exc)
    (case c_l_same => first | k_is | k_exc)
    (case k_l_same => first | k_is | k_exc)
    (case a_l_gcd => first | k_is | k_exc)
    (case l_l_gcd => first | k_is | k_exc)
    (case c_l_gcd => first | k_is | k_exc)
    (case k_l_gcd => first | k_is | k_exc)
    (case a_l_fr => first | k_is | k_exc)
    (case l_l_fr => first | k_is | k_exc)
    (case c_l_fr => first | k_is | k_exc)
    (case k_l_fr => first | k_is | k_exc)
    (case a_l_sum => first | k_is | k_exc)
    (case l_l_sum => first | k_is | k_exc)
    (case c_l_sum => first | k_is | k_exc)
    (case k_l_sum => first | k_is | k_exc)
    (case a_l_less_by => first | k_is | k_exc)
    (case l_l_less_by => first | k_is | k_exc)
    (case c_l_less_by => first | k_is | k_exc)
    (case k_l_less_by => first | k_is | k_exc)
    (case a_l_mul => first | k_is | k_exc)
    (case l_l_mul => first | k_is | k_exc)
    (case c_l_mul => first | k_is | k_exc)
    (case k_l_mul => first | k_is | k_exc)
    (case a_l_dot => first | k_is | k_exc)
    (case l_l_dot => first | k_is | k_exc)
    (case c_l_dot => first | k_is | k_exc)
    (case k_l_dot => first | k_is | k_exc)
    (case a_l_many => first | k_is | k_exc)
    (case l_l_many => first | k_is | k_exc)
    (case c_l_many => first | k_is | k_exc)
    (case k_l_many => first | k_is | k_exc)
    (case a_l_idle => first | k_is | k_exc)
    (case l_l_idle => first | k_is | k_exc)
    (case c_l_idle => first | k_is | k_exc)
    (case k_l_idle => first | k_is | k_exc)
    (case a_l_less_rows => first | k_is | k_exc)
    (case l_l_less_rows => first | k_is | k_exc)
    (case c_l_less_rows => first | k_is | k_exc)
    (case k_l_less_rows => first | k_is | k_exc)
    (case a_l_lower => first | k_is | k_exc)
    (case l_l_lower => first | k_is | k_exc)
    (case c_l_lower => first | k_is | k_exc)
    (case k_l_lower => first | k_is | k_exc)
    (case a_l_lowest => first | k_is | k_exc)
    (case l_l_lowest => first | k_is | k_exc)
    (case c_l_lowest => first | k_is | k_exc)
    (case k_l_lowest => first | k_is | k_exc)
    (case a_l_highest => first | k_is | k_exc)
    (case l_l_highest => first | k_is | k_exc)
    (case c_l_highest => first | k_is | k_exc)
    (case k_l_highest => first | k_is | k_exc)
    (case a_l_cost => first | k_is | k_exc)
    (case l_l_cost => first | k_is | k_exc)
    (case c_l_cost => first | k_is | k_exc)
    (case k_l_cost => first | k_is | k_exc)
    (case a_l_rise_cost => first | k_is | k_exc)
    (case l_l_rise_cost => first | k_is | k_exc)
    (case c_l_rise_cost => first | k_is | k_exc)
    (case k_l_rise_cost => first | k_is | k_exc)
    (case a_l_settled => first | k_is | k_exc)
    (case l_l_settled => first | k_is | k_exc)
    (case c_l_settled => first | k_is | k_exc)
    (case k_l_settled => first | k_is | k_exc)
    (case a_l_is_let => first | k_is | k_exc)
    (case l_l_is_let => first | k_is | k_exc)
    (case c_l_is_let => first | k_is | k_exc)
    (case k_l_is_let => first | k_is | k_exc)
    (case a_l_made => first | k_is | k_exc)
    (case l_l_made => first | k_is | k_exc)
    (case c_l_made => first | k_is | k_exc)
    (case k_l_made => first | k_is | k_exc)
    (case a_l_slope => first | k_is | k_exc)
    (case l_l_slope => first | k_is | k_exc)
    (case c_l_slope => first | k_is | k_exc)
    (case k_l_slope => first | k_is | k_exc)
    (case a_l_growth => first | k_is | k_exc)
    (case l_l_growth => first | k_is | k_exc)
    (case c_l_growth => first | k_is | k_exc)
    (case k_l_growth => first | k_is | k_exc)
    (case a_l_place => first | k_is | k_exc)
    (case l_l_place => first | k_is | k_exc)
    (case c_l_place => first | k_is | k_exc)
    (case k_l_place => first | k_is | k_exc)
    (case a_l_points => first | k_is | k_exc)
    (case l_l_points => first | k_is | k_exc)
    (case c_l_points => first | k_is | k_exc)
    (case k_l_points => first | k_is | k_exc)
    (case a_l_small => first | k_is | k_exc)
    (case l_l_small => first | k_is | k_exc)
    (case c_l_small => first | k_is | k_exc)
    (case k_l_small => first | k_is | k_exc)
    (case a_l_let => first | k_is | k_exc)
    (case l_l_let => first | k_is | k_exc)
    (case c_l_let => first | k_is | k_exc)
    (case k_l_let => first | k_is | k_exc)
    (case a_l_least_made => first | k_is | k_exc)
    (case l_l_least_made => first | k_is | k_exc)
    (case c_l_least_made => first | k_is | k_exc)
    (case k_l_least_made => first | k_is | k_exc)
    (case a_l_pair_of => first | k_is | k_exc)
    (case l_l_pair_of => first | k_is | k_exc)
    (case c_l_pair_of => first | k_is | k_exc)
    (case k_l_pair_of => first | k_is | k_exc)
    (case a_l_put_in => first | k_is | k_exc)
    (case l_l_put_in => first | k_is | k_exc)
    (case c_l_put_in => first | k_is | k_exc)
    (case k_l_put_in => first | k_is | k_exc)
    (case a_l_heard => first | k_is | k_exc)
    (case l_l_heard => first | k_is | k_exc)
    (case c_l_heard => first | k_is | k_exc)
    (case k_l_heard => first | k_is | k_exc)
    (case a_l_walked_right => first | k_is | k_exc)
    (case l_l_walked_right => first | k_is | k_exc)
    (case c_l_walked_right => first | k_is | k_exc)
    (case k_l_walked_right => first | k_is | k_exc)
    (case a_l_right => first | k_is | k_exc)
    (case l_l_right => first | k_is | k_exc)
    (case c_l_right => first | k_is | k_exc)
    (case k_l_right => first | k_is | k_exc)
    (case a_l_by_hand_right => first | k_is | k_exc)
    (case l_l_by_hand_right => first | k_is | k_exc)
    (case c_l_by_hand_right => first | k_is | k_exc)
    (case k_l_by_hand_right => first | k_is | k_exc)
    (case a_law => first | k_is | k_exc)
    (case l_law => first | k_is | k_exc)
    (case c_law => first | k_is | k_exc)
    (case k_law => first | k_is | k_exc)
    (case z_isinstance => first | k_is | k_exc)
    (case z_list => first | k_is | k_exc)
    (case z_tuple => first | k_is | k_exc)
    (case z_zip => first | k_is | k_exc)
    (case z_enumerate => first | k_is | k_exc)
    (case z_len => first | k_is | k_exc)
    (case z_sorted => first | k_is | k_exc)
    (case z_set => first | k_is | k_exc)
    (case z_abs => first | k_is | k_exc)
    (case z_int => first | k_is | k_exc)
    (case z_all => first | k_is | k_exc)
    (case z_range => first | k_is | k_exc)
    (case z_ValueError => first | k_is | k_exc)
    (case z_bool => first | k_is | k_exc)
    (case z_str => first | k_is | k_exc)
    (case g_gcd => first | k_is | k_exc)
    (case g_NONE => first | k_is | k_exc)
    (case g_LESS => first | k_is | k_exc)
    (case t_NONE => first | k_is | k_exc)
    (case t_LESS => first | k_is | k_exc)
    (case u_g => first | k_is | k_exc)
    (case u_x => k_exc)
    (case u_k => first | k_is | k_exc)
    (case u_b => first | k_is | k_exc)
    (case u_t => first | k_is | k_exc)
    (case u_i => first | k_is | k_exc)
    (case u_s => first | k_is | k_exc)
    (case u_w => first | k_is | k_exc)
    (case e_hg => first | k_is | k_exc)
    (case e_hk => first | k_is | k_exc)
    (case e_hd => first | k_is | k_exc)
    (case e_ha => first | k_is | k_exc)
    (case e_hn => first | k_is | k_exc)
    (case e_ht => first | k_is | k_exc)
    (case e_hm => first | k_is | k_exc)
