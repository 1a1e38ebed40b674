import PyProof.Rows.All
import Wide.All
import OpenK.AllK
import Wide.FinOn
import HandS.ForMost
import HandS.ForExc
import HandS.EndTab
import HandS.Wide
import HandS.Gcd
import HandS.IsInst
import HandS.TupAny
import HandS.TupMul
import HandS.Zip
import HandS.Deep
import HandS.DictTup
import HandS.DictComp
import HandS.SortKw
import HandS.TupSets
import HandS.Style
import HandS.ExcSuper
import HandS.ExcField
import HandS.More
import HandS.Conv
import HandS.Rev
import HandS.Defaults
import PyProof.ReprRoads
import KE.KSortKeySt
import KE.KDictPairs
import KE.GoesMore
import KE.SortKeyHeap
import KE.KExcSuper
import HandS.ExcInit
import HandS.HeadWalk
import HandS.HeadHook4
import HandS.HeadHook2
import PySem.Challenge.RW_leastfield_k55_whole_floors_by_streams
set_option Elab.async false
set_option linter.all false
section

/-! Plain mathematics: fractions by size, networks of ties, the energy's form, points dropped. Core Lean alone. -/
namespace Lf

/-! ### sizes -/
/-- x has a denominator that divides E, and lies from -R to R -/
def IB (E R : Nat) (x : Rat) : Prop := 0 < E ∧ (∃ p : Int, x * (E : Rat) = (p : Rat)) ∧ -(R : Rat) ≤ x ∧ x ≤ (R : Rat)
/-- top and bottom are small enough for the walk -/
def Sm (x : Rat) : Prop := x.num.natAbs < 2 ^ 1400 ∧ x.den < 2 ^ 1400

theorem den_dvd {x : Rat} {E : Nat} {p : Int} (hE : 0 < E) (h : x * (E : Rat) = (p : Rat)) : x.den ∣ E := by
  have h1 : x = mkRat p E := by
    rw [Rat.mkRat_eq_div, Rat.div_def, ← h, Rat.mul_assoc, Rat.mul_inv_cancel, Rat.mul_one]
    intro z
    have : E = 0 := by exact_mod_cast z
    omega
  rw [h1, Rat.den_mkRat, if_neg (by omega)]
  exact Nat.div_dvd_of_dvd (Nat.gcd_dvd_left _ _)
theorem IB.den {E R : Nat} {x : Rat} (h : IB E R x) : x.den ≤ E := by
  obtain ⟨h0, ⟨p, hp⟩, _, _⟩ := h
  exact Nat.le_of_dvd h0 (den_dvd h0 hp)
theorem num_eq (x : Rat) : x * (x.den : Rat) = (x.num : Rat) := by
  have h : (x.den : Rat) ≠ 0 := by
    intro z
    have : x.den = 0 := by exact_mod_cast z
    exact x.den_nz this
  have e := Rat.mkRat_self x
  rw [Rat.mkRat_eq_div] at e
  rw (occs := .pos [1]) [← e]
  exact Rat.div_mul_cancel h
theorem IB.num {E R : Nat} {x : Rat} (h : IB E R x) : x.num.natAbs ≤ R * E := by
  have hd := h.den
  obtain ⟨h0, _, h1, h2⟩ := h
  have e := num_eq x
  have dn : (0 : Rat) ≤ (x.den : Rat) := Rat.natCast_nonneg
  have u : (x.num : Rat) ≤ (R : Rat) * (x.den : Rat) := by
    rw [← e]; exact Rat.mul_le_mul_of_nonneg_right h2 dn
  have l : -((R : Rat) * (x.den : Rat)) ≤ (x.num : Rat) := by
    rw [← e, ← Rat.neg_mul]; exact Rat.mul_le_mul_of_nonneg_right h1 dn
  have u' : x.num ≤ (R : Int) * (x.den : Int) := by exact_mod_cast u
  have l' : -((R : Int) * (x.den : Int)) ≤ x.num := by
    have l2 : (((-((R : Int) * (x.den : Int))) : Int) : Rat) ≤ ((x.num : Int) : Rat) := by
      rw [Rat.intCast_neg, Rat.intCast_mul]
      exact l
    exact Rat.intCast_le_intCast.mp l2
  have m : R * x.den ≤ R * E := Nat.mul_le_mul_left _ hd
  have m2 : ((R * x.den : Nat) : Int) ≤ ((R * E : Nat) : Int) := by exact_mod_cast m
  push_cast at m2
  omega
theorem IB.sm {E R : Nat} {x : Rat} (h : IB E R x) (h1 : E < 2 ^ 1400) (h2 : R * E < 2 ^ 1400) : Sm x := ⟨Nat.lt_of_le_of_lt h.num h2, Nat.lt_of_le_of_lt h.den h1⟩
theorem IB.zero {E R : Nat} (h : 0 < E) : IB E R 0 := ⟨h, ⟨0, by simp⟩, by have : (0:Rat) ≤ (R:Rat) := Rat.natCast_nonneg; grind, Rat.natCast_nonneg⟩
theorem IB.mono {E R S : Nat} {x : Rat} (h : IB E R x) (hS : R ≤ S) : IB E S x := by
  obtain ⟨h0, hp, h1, h2⟩ := h
  have : (R : Rat) ≤ (S : Rat) := Rat.natCast_le_natCast.mpr hS
  exact ⟨h0, hp, by grind, by grind⟩
theorem IB.lift {E R F : Nat} {x : Rat} (h : IB E R x) (hF : 0 < F) : IB (E * F) R x := by
  obtain ⟨h0, ⟨p, hp⟩, h1, h2⟩ := h
  refine ⟨Nat.mul_pos h0 hF, ⟨p * F, ?_⟩, h1, h2⟩
  push_cast
  rw [← Rat.mul_assoc, hp]
theorem IB.add {E R S : Nat} {x y : Rat} (h : IB E R x) (k : IB E S y) : IB E (R + S) (x + y) := by
  obtain ⟨h0, ⟨p, hp⟩, h1, h2⟩ := h
  obtain ⟨_, ⟨q, hq⟩, k1, k2⟩ := k
  refine ⟨h0, ⟨p + q, ?_⟩, ?_, ?_⟩
  · push_cast
    rw [Rat.add_mul, hp, hq]
  · push_cast; grind
  · push_cast; grind
theorem IB.neg {E R : Nat} {x : Rat} (h : IB E R x) : IB E R (-x) := by
  obtain ⟨h0, ⟨p, hp⟩, h1, h2⟩ := h
  exact ⟨h0, ⟨-p, by push_cast; rw [← hp, Rat.neg_mul]⟩, by grind, by grind⟩
theorem IB.sub {E R S : Nat} {x y : Rat} (h : IB E R x) (k : IB E S y) : IB E (R + S) (x - y) := by
  rw [Rat.sub_eq_add_neg]; exact h.add k.neg
theorem abs_mul_le {x y R S : Rat} (h1 : -R ≤ x) (h2 : x ≤ R) (k1 : -S ≤ y) (k2 : y ≤ S) : x * y ≤ R * S := by
  have a : 0 ≤ (R - x) * (S + y) := Rat.mul_nonneg (by grind) (by grind)
  have b : 0 ≤ (R + x) * (S - y) := Rat.mul_nonneg (by grind) (by grind)
  grind
theorem IB.mul {E F R S : Nat} {x y : Rat} (h : IB E R x) (k : IB F S y) : IB (E * F) (R * S) (x * y) := by
  obtain ⟨h0, ⟨p, hp⟩, h1, h2⟩ := h
  obtain ⟨k0, ⟨q, hq⟩, k1, k2⟩ := k
  refine ⟨Nat.mul_pos h0 k0, ⟨p * q, ?_⟩, ?_, ?_⟩
  · push_cast
    rw [← hp, ← hq]
    grind
  · push_cast
    have := abs_mul_le (x := -x) (y := y) (R := R) (S := S) (by grind) (by grind) k1 k2
    grind
  · push_cast
    exact abs_mul_le h1 h2 k1 k2
/-- x over z, z above 0: z * E is the whole number P -/
theorem IB.over {E R S P : Nat} {x z : Rat} (h : IB E R x) (hP : z * (E : Rat) = (P : Rat)) (hz : 0 < z) (b1 : -(S : Rat) * z ≤ x) (b2 : x ≤ (S : Rat) * z) : IB P S (x / z) := by
  obtain ⟨h0, ⟨p, hp⟩, h1, h2⟩ := h
  have hE : (0 : Rat) < (E : Rat) := Rat.natCast_pos.mpr h0
  have hz' : z ≠ 0 := by grind
  have hPp : 0 < P := by
    have : (0 : Rat) < (P : Rat) := by rw [← hP]; exact Rat.mul_pos hz hE
    exact Rat.natCast_pos.mp this
  have e : x / z * z = x := Rat.div_mul_cancel hz'
  refine ⟨hPp, ⟨p, ?_⟩, ?_, ?_⟩
  · rw [← hP, ← Rat.mul_assoc, e, hp]
  · refine Rat.le_of_mul_le_mul_right (c := z) ?_ hz
    rw [e]; exact b1
  · refine Rat.le_of_mul_le_mul_right (c := z) ?_ hz
    rw [e]; exact b2
theorem whole_of {x : Rat} {p : Int} {E : Nat} (h : x * (E : Rat) = (p : Rat)) (h0 : 0 < E) (hx : 0 < x) : ∃ P : Nat, 0 < P ∧ x * (E : Rat) = (P : Rat) := by
  have : (0 : Rat) < (p : Rat) := by rw [← h]; exact Rat.mul_pos hx (Rat.natCast_pos.mpr h0)
  have hp : 0 < p := by exact_mod_cast this
  refine ⟨p.toNat, by omega, ?_⟩
  rw [h]
  have e : ((p.toNat : Int)) = p := Int.toNat_of_nonneg (by omega)
  rw (occs := .pos [1]) [← e]
  rfl
end Lf
end

section

/-! Plain mathematics: networks as sorted rows of ties; one more tie; a point dropped; the energy's form. -/
namespace Lf
abbrev Tie := Int × Int × Rat
structure Net where
  pts : List Int
  ties : List Tie

/-- pairs in order -/
def KLt (a b c d : Int) : Prop := a < c ∨ (a = c ∧ b < d)
instance (a b c d : Int) : Decidable (KLt a b c d) := by unfold KLt; exact inferInstance
def TLt (t u : Tie) : Prop := KLt t.1 t.2.1 u.1 u.2.1
def insTie : List Tie → Int → Int → Rat → List Tie
  | [], a, b, m => [(a, b, m)]
  | (c, d, w) :: r, a, b, m => if a = c ∧ b = d then (c, d, w + m) :: r else if KLt a b c d then (a, b, m) :: (c, d, w) :: r else (c, d, w) :: insTie r a b m
/-- the energy's form -/
def bil : List Tie → (Int → Rat) → (Int → Rat) → Rat
  | [], _, _ => 0
  | (a, b, w) :: r, x, y => w * (x a - x b) * (y a - y b) + bil r x y

theorem bil_ins (x y : Int → Rat) (a b : Int) (m : Rat) : ∀ l : List Tie, bil (insTie l a b m) x y = bil l x y + m * (x a - x b) * (y a - y b)
  | [] => by simp only [insTie, bil]; grind
  | (c, d, w) :: r => by
    unfold insTie
    split
    · rename_i h
      obtain ⟨h1, h2⟩ := h
      subst h1; subst h2
      simp only [bil]; grind
    · split
      · simp only [bil]; grind
      · simp only [bil]
        rw [bil_ins x y a b m r]
        grind

theorem KLt.trans {a b c d e f : Int} (h : KLt a b c d) (k : KLt c d e f) : KLt a b e f := by unfold KLt at *; omega
theorem KLt.total {a b c d : Int} (h1 : ¬ (a = c ∧ b = d)) (h2 : ¬ KLt a b c d) : KLt c d a b := by unfold KLt at *; omega
theorem mem_ins {a b : Int} {m : Rat} : ∀ {l : List Tie} {t : Tie}, t ∈ insTie l a b m → t ∈ l ∨ t = (a, b, m) ∨ ∃ w, (a, b, w) ∈ l ∧ t = (a, b, w + m)
  | [], t, h => by simp only [insTie, List.mem_singleton] at h; exact .inr (.inl h)
  | (c, d, w) :: r, t, h => by
    unfold insTie at h
    split at h
    · rename_i e
      obtain ⟨h1, h2⟩ := e
      subst h1; subst h2
      rcases List.mem_cons.mp h with e | e
      · exact .inr (.inr ⟨w, List.mem_cons_self, e⟩)
      · exact .inl (List.mem_cons_of_mem _ e)
    · split at h
      · rcases List.mem_cons.mp h with e | e
        · exact .inr (.inl e)
        · exact .inl e
      · rcases List.mem_cons.mp h with e | e
        · exact .inl (e ▸ List.mem_cons_self)
        · rcases mem_ins e with e | e | ⟨v, e1, e2⟩
          · exact .inl (List.mem_cons_of_mem _ e)
          · exact .inr (.inl e)
          · exact .inr (.inr ⟨v, List.mem_cons_of_mem _ e1, e2⟩)
theorem ins_sorted (a b : Int) (m : Rat) : ∀ {l : List Tie}, l.Pairwise TLt → (insTie l a b m).Pairwise TLt
  | [], _ => by simp [insTie]
  | (c, d, w) :: r, h => by
    have hc := List.pairwise_cons.mp h
    unfold insTie
    split
    · exact List.pairwise_cons.mpr ⟨hc.1, hc.2⟩
    · rename_i h1
      split
      · rename_i h2
        refine List.pairwise_cons.mpr ⟨fun u hu => ?_, h⟩
        rcases List.mem_cons.mp hu with e | e
        · subst e; exact h2
        · exact KLt.trans h2 (hc.1 u e)
      · rename_i h2
        have h3 := KLt.total h1 h2
        refine List.pairwise_cons.mpr ⟨fun u hu => ?_, ins_sorted a b m hc.2⟩
        rcases mem_ins hu with e | e | ⟨v, e1, e2⟩
        · exact hc.1 u e
        · subst e; exact h3
        · subst e2; exact h3
/-- a tie that is there stays (with some weight) -/
theorem ins_keeps {a b c d : Int} {m : Rat} : ∀ {l : List Tie}, (∃ w, (c, d, w) ∈ l) → ∃ w, (c, d, w) ∈ insTie l a b m
  | [], ⟨w, h⟩ => by cases h
  | (e, f, v) :: r, ⟨w, h⟩ => by
    unfold insTie
    rcases List.mem_cons.mp h with q | q
    · cases q
      split
      · exact ⟨_, List.mem_cons_self⟩
      · split
        · exact ⟨_, List.mem_cons_of_mem _ List.mem_cons_self⟩
        · exact ⟨_, List.mem_cons_self⟩
    · split
      · exact ⟨w, List.mem_cons_of_mem _ q⟩
      · split
        · exact ⟨w, List.mem_cons_of_mem _ (List.mem_cons_of_mem _ q)⟩
        · obtain ⟨w', q'⟩ := ins_keeps (a := a) (b := b) (m := m) ⟨w, q⟩
          exact ⟨w', List.mem_cons_of_mem _ q'⟩
theorem ins_has (a b : Int) (m : Rat) : ∀ l : List Tie, ∃ w, (a, b, w) ∈ insTie l a b m
  | [] => ⟨m, by simp [insTie]⟩
  | (c, d, w) :: r => by
    unfold insTie
    split
    · rename_i h
      obtain ⟨h1, h2⟩ := h
      subst h1; subst h2
      exact ⟨_, List.mem_cons_self⟩
    · split
      · exact ⟨_, List.mem_cons_self⟩
      · obtain ⟨w', q⟩ := ins_has a b m r
        exact ⟨w', List.mem_cons_of_mem _ q⟩
theorem ins_len (a b : Int) (m : Rat) : ∀ l : List Tie, (insTie l a b m).length ≤ l.length + 1
  | [] => by simp [insTie]
  | (c, d, w) :: r => by
    unfold insTie
    split
    · simp
    · split
      · simp
      · have := ins_len a b m r
        simp only [List.length_cons]; omega

/-! ### what a point is tied to -/
def nbrs : List Tie → Int → List (Int × Rat)
  | [], _ => []
  | (a, b, w) :: r, p => if p = a ∨ p = b then (a + b - p, w) :: nbrs r p else nbrs r p
def psum : List (Int × Rat) → Rat
  | [] => 0
  | (_, w) :: r => w + psum r
/-- the ties that do not end at p -/
def offTies (l : List Tie) (p : Int) : List Tie := l.filter fun t => decide (¬ (p = t.1 ∨ p = t.2.1))
/-- the pairs' form at p -/
def star (x y : Int → Rat) (p : Int) : List (Int × Rat) → Rat
  | [] => 0
  | (j, w) :: r => w * (x p - x j) * (y p - y j) + star x y p r
theorem bil_split (x y : Int → Rat) (p : Int) : ∀ l : List Tie, (∀ t ∈ l, t.1 < t.2.1) → bil l x y = bil (offTies l p) x y + star x y p (nbrs l p)
  | [], _ => by simp only [bil, offTies, List.filter_nil, nbrs, star]; grind
  | (a, b, w) :: r, h => by
    have ih := bil_split x y p r fun t ht => h t (List.mem_cons_of_mem _ ht)
    have hab : a < b := h (a, b, w) List.mem_cons_self
    unfold nbrs
    by_cases q : p = a ∨ p = b
    · rw [if_pos q]
      have e : offTies ((a, b, w) :: r) p = offTies r p := by
        unfold offTies
        rw [List.filter_cons, if_neg]
        simp only [decide_eq_true_eq]
        exact fun z => z q
      rw [e]
      simp only [bil, star]
      rw [ih]
      rcases q with q | q
      · subst q
        have e2 : p + b - p = b := by omega
        rw [e2]; grind
      · subst q
        have e2 : a + p - p = a := by omega
        rw [e2]; grind
    · rw [if_neg q]
      have e : offTies ((a, b, w) :: r) p = (a, b, w) :: offTies r p := by
        unfold offTies
        rw [List.filter_cons, if_pos]
        simp only [decide_eq_true_eq]
        exact q
      rw [e]
      simp only [bil]
      rw [ih]; grind

/-! ### the neighbours tied to each other -/
def insRow (P : Rat) (j : Int) (wj : Rat) : List (Int × Rat) → List Tie → List Tie
  | [], t => t
  | (k, wk) :: r, t => insRow P j wj r (insTie t j k (wj * wk / P))
def insAll (P : Rat) : List (Int × Rat) → List Tie → List Tie
  | [], t => t
  | (j, wj) :: r, t => insAll P r (insRow P j wj r t)
def drop (N : Net) (p : Int) : Net := ⟨N.pts.filter fun q => decide (q ≠ p), insAll (psum (nbrs N.ties p)) (nbrs N.ties p) (offTies N.ties p)⟩

def wx (x : Int → Rat) : List (Int × Rat) → Rat
  | [] => 0
  | (j, w) :: r => w * x j + wx x r
def wxy (x y : Int → Rat) : List (Int × Rat) → Rat
  | [] => 0
  | (j, w) :: r => w * x j * y j + wxy x y r
theorem bil_row (P : Rat) (x y : Int → Rat) (j : Int) (wj : Rat) : ∀ (l : List (Int × Rat)) (t : List Tie),
    bil (insRow P j wj l t) x y = bil t x y + wj * P⁻¹ * (psum l * x j * y j - x j * wx y l - y j * wx x l + wxy x y l)
  | [], t => by simp only [insRow, psum, wx, wxy]; grind
  | (k, wk) :: r, t => by
    simp only [insRow]
    rw [bil_row P x y j wj r, bil_ins, Rat.div_def]
    simp only [psum, wx, wxy]; grind
theorem bil_all (P : Rat) (x y : Int → Rat) : ∀ (l : List (Int × Rat)) (t : List Tie),
    bil (insAll P l t) x y = bil t x y + P⁻¹ * (psum l * wxy x y l - wx x l * wx y l)
  | [], t => by simp only [insAll, psum, wx, wxy]; grind
  | (j, wj) :: r, t => by
    simp only [insAll]
    rw [bil_all P x y r, bil_row]
    simp only [psum, wx, wxy]; grind
theorem star_eq (x y : Int → Rat) (p : Int) : ∀ l : List (Int × Rat), star x y p l = psum l * x p * y p - x p * wx y l - y p * wx x l + wxy x y l
  | [] => by simp only [star, psum, wx, wxy]; grind
  | (j, w) :: r => by
    simp only [star, psum, wx, wxy]
    rw [star_eq x y p r]; grind
/-- where p's worth is the mean, the form stays -/
theorem bil_drop {N : Net} {p : Int} {x y : Int → Rat} (hl : ∀ t ∈ N.ties, t.1 < t.2.1) (hP : psum (nbrs N.ties p) ≠ 0) (hx : psum (nbrs N.ties p) * x p = wx x (nbrs N.ties p)) : bil (drop N p).ties x y = bil N.ties x y := by
  show bil (insAll _ _ _) x y = _
  rw [bil_all, bil_split x y p N.ties hl, star_eq, ← hx]
  have e := Rat.mul_inv_cancel _ hP
  generalize psum (nbrs N.ties p) = P at *
  have e2 : P⁻¹ * (P * wxy x y (nbrs N.ties p) - P * x p * wx y (nbrs N.ties p)) = (P * P⁻¹) * (wxy x y (nbrs N.ties p) - x p * wx y (nbrs N.ties p)) := by grind
  rw [e2, e]; grind
end Lf
end

section

/-! Plain mathematics: what stays when a point is dropped; the worths settled; floors and energies. -/
namespace Lf

/-- neighbours in the row are tied -/
def Ch (ts : List Tie) : List Int → Prop
  | a :: b :: r => (∃ w, (a, b, w) ∈ ts) ∧ Ch ts (b :: r)
  | _ => True
structure NetOk (N : Net) : Prop where
  srt : N.pts.Pairwise (· < ·)
  ts : N.ties.Pairwise TLt
  ok : ∀ t ∈ N.ties, t.1 < t.2.1 ∧ t.1 ∈ N.pts ∧ t.2.1 ∈ N.pts ∧ 0 < t.2.2
  ch : Ch N.ties N.pts
/-- all weights have one denominator, and lie below W -/
def TB (E W : Nat) (ts : List Tie) : Prop := ∀ t ∈ ts, IB E W t.2.2

theorem TB.ins {E B W : Nat} {ts : List Tie} {a b : Int} {m : Rat} (h : TB E B ts) (hm : IB E W m) : TB E (B + W) (insTie ts a b m) := fun t ht => by
  rcases mem_ins ht with e | e | ⟨w, e1, e2⟩
  · exact (h t e).mono (Nat.le_add_right _ _)
  · subst e; exact hm.mono (Nat.le_add_left _ _)
  · subst e2; exact (h _ e1).add hm
theorem TB.mono {E B C : Nat} {ts : List Tie} (h : TB E B ts) (k : B ≤ C) : TB E C ts := fun t ht => (h t ht).mono k
theorem TB.lift {E B F : Nat} {ts : List Tie} (h : TB E B ts) (k : 0 < F) : TB (E * F) B ts := fun t ht => (h t ht).lift k

theorem off_mem {l : List Tie} {p : Int} {t : Tie} : t ∈ offTies l p ↔ t ∈ l ∧ ¬ (p = t.1 ∨ p = t.2.1) := by
  unfold offTies
  rw [List.mem_filter]
  simp only [decide_eq_true_eq]
theorem mem_nbrs {p : Int} : ∀ {l : List Tie} {j : Int} {w : Rat}, (j, w) ∈ nbrs l p → (p, j, w) ∈ l ∨ (j, p, w) ∈ l
  | [], _, _, h => by cases h
  | (a, b, v) :: r, j, w, h => by
    unfold nbrs at h
    split at h
    · rename_i q
      rcases List.mem_cons.mp h with e | e
      · cases e
        rcases q with q | q
        · left
          have : p + b - p = b := by omega
          rw [← q, this]; exact List.mem_cons_self
        · right
          have : a + p - p = a := by omega
          rw [← q, this]; exact List.mem_cons_self
      · rcases mem_nbrs e with k | k
        · exact .inl (List.mem_cons_of_mem _ k)
        · exact .inr (List.mem_cons_of_mem _ k)
    · rcases mem_nbrs h with k | k
      · exact .inl (List.mem_cons_of_mem _ k)
      · exact .inr (List.mem_cons_of_mem _ k)
theorem nbrs_hi {p : Int} : ∀ {l : List Tie} {j : Int} {w : Rat}, (p, j, w) ∈ l → (j, w) ∈ nbrs l p
  | (a, b, v) :: r, j, w, h => by
    unfold nbrs
    rcases List.mem_cons.mp h with e | e
    · obtain ⟨e1, e2, e3⟩ : p = a ∧ j = b ∧ w = v := by simpa using e
      rw [if_pos (.inl e1), show a + b - p = j by omega, e3]
      exact List.mem_cons_self
    · split
      · exact List.mem_cons_of_mem _ (nbrs_hi e)
      · exact nbrs_hi e
theorem nbrs_lo {p : Int} : ∀ {l : List Tie} {j : Int} {w : Rat}, (j, p, w) ∈ l → (j, w) ∈ nbrs l p
  | (a, b, v) :: r, j, w, h => by
    unfold nbrs
    rcases List.mem_cons.mp h with e | e
    · obtain ⟨e1, e2, e3⟩ : j = a ∧ p = b ∧ w = v := by simpa using e
      rw [if_pos (.inr e2), show a + b - p = j by omega, e3]
      exact List.mem_cons_self
    · split
      · exact List.mem_cons_of_mem _ (nbrs_lo e)
      · exact nbrs_lo e
theorem nbrs_sorted (p : Int) : ∀ {l : List Tie}, l.Pairwise TLt → (∀ t ∈ l, t.1 < t.2.1) → (nbrs l p).Pairwise (fun a b => a.1 < b.1)
  | [], _, _ => by simp [nbrs]
  | (a, b, v) :: r, h, hl => by
    have hc := List.pairwise_cons.mp h
    have ih := nbrs_sorted p hc.2 fun t ht => hl t (List.mem_cons_of_mem _ ht)
    have hab : a < b := hl (a, b, v) List.mem_cons_self
    unfold nbrs
    split
    · rename_i q
      refine List.pairwise_cons.mpr ⟨fun u hu => ?_, ih⟩
      obtain ⟨j, w⟩ := u
      rcases mem_nbrs hu with k | k
      · have k1 : KLt a b p j := hc.1 _ k
        have k2 : p < j := hl _ (List.mem_cons_of_mem _ k)
        unfold KLt at k1
        show a + b - p < j
        omega
      · have k1 : KLt a b j p := hc.1 _ k
        have k2 : j < p := hl _ (List.mem_cons_of_mem _ k)
        unfold KLt at k1
        show a + b - p < j
        omega
    · exact ih
/-- rising rows within a row are no longer than it -/
theorem rise_len : ∀ {l m : List Int}, l.Pairwise (· < ·) → (∀ a ∈ l, a ∈ m) → l.length ≤ m.length
  | [], m, _, _ => by simp
  | a :: r, m, h, hm => by
    have hc := List.pairwise_cons.mp h
    have ha := hm a List.mem_cons_self
    have := rise_len (l := r) (m := m.erase a) hc.2 fun b hb => by
      have h1 : a < b := hc.1 b hb
      have h2 := hm b (List.mem_cons_of_mem _ hb)
      exact (List.mem_erase_of_ne (by omega)).mpr h2
    rw [List.length_erase_of_mem ha] at this
    have : 0 < m.length := List.length_pos_of_mem ha
    simp only [List.length_cons]
    omega
theorem nbrs_len {N : Net} (h : NetOk N) (p : Int) : (nbrs N.ties p).length ≤ N.pts.length := by
  have s := nbrs_sorted p h.ts fun t ht => (h.ok t ht).1
  have : ((nbrs N.ties p).map (·.1)).length ≤ N.pts.length := by
    refine rise_len (List.pairwise_map.mpr s) fun a ha => ?_
    obtain ⟨⟨j, w⟩, hq, rfl⟩ := List.mem_map.mp ha
    rcases mem_nbrs hq with k | k
    · exact (h.ok _ k).2.2.1
    · exact (h.ok _ k).2.1
  simpa using this
theorem nbrs_pos {N : Net} (h : NetOk N) {p j : Int} {w : Rat} (k : (j, w) ∈ nbrs N.ties p) : 0 < w ∧ j ∈ N.pts ∧ j ≠ p := by
  rcases mem_nbrs k with k | k
  · have z := h.ok _ k
    exact ⟨z.2.2.2, z.2.2.1, fun e => by have := z.1; simp only at this; omega⟩
  · have z := h.ok _ k
    exact ⟨z.2.2.2, z.2.1, fun e => by have := z.1; simp only at this; omega⟩
theorem psum_ge : ∀ {l : List (Int × Rat)}, (∀ q ∈ l, 0 < q.2) → 0 ≤ psum l ∧ ∀ q ∈ l, q.2 ≤ psum l
  | [], _ => ⟨by simp [psum], fun q h => by cases h⟩
  | (j, w) :: r, h => by
    have ih := psum_ge (l := r) fun q hq => h q (List.mem_cons_of_mem _ hq)
    have hw : 0 < w := h (j, w) List.mem_cons_self
    have e : psum ((j, w) :: r) = w + psum r := rfl
    refine ⟨by rw [e]; grind, fun q hq => ?_⟩
    rw [e]
    rcases List.mem_cons.mp hq with z | z
    · subst z; show w ≤ _; grind
    · have := ih.2 q z; grind
theorem psum_ib {E W : Nat} (hE : 0 < E) : ∀ {l : List (Int × Rat)}, (∀ q ∈ l, IB E W q.2) → IB E (l.length * W) (psum l)
  | [], _ => IB.zero hE
  | (j, w) :: r, h => by
    have ih := psum_ib hE (l := r) fun q hq => h q (List.mem_cons_of_mem _ hq)
    have hw : IB E W w := h (j, w) List.mem_cons_self
    show IB E ((r.length + 1) * W) (w + psum r)
    exact (hw.add ih).mono (by rw [Nat.add_mul, Nat.one_mul]; omega)

/-! ### dropped -/
theorem row_keeps {P : Rat} {j : Int} {wj : Rat} {c d : Int} : ∀ {l : List (Int × Rat)} {t : List Tie}, (∃ w, (c, d, w) ∈ t) → ∃ w, (c, d, w) ∈ insRow P j wj l t
  | [], _, h => h
  | (k, wk) :: r, t, h => row_keeps (l := r) (ins_keeps h)
theorem all_keeps {P : Rat} {c d : Int} : ∀ {l : List (Int × Rat)} {t : List Tie}, (∃ w, (c, d, w) ∈ t) → ∃ w, (c, d, w) ∈ insAll P l t
  | [], _, h => h
  | (j, wj) :: r, t, h => all_keeps (l := r) (row_keeps h)
theorem row_has {P : Rat} {j : Int} {wj : Rat} {k : Int} : ∀ {l : List (Int × Rat)} {t : List Tie}, k ∈ l.map (·.1) → ∃ w, (j, k, w) ∈ insRow P j wj l t
  | (a, wa) :: r, t, h => by
    have h : k ∈ a :: r.map (·.1) := h
    rcases List.mem_cons.mp h with e | e
    · subst e
      exact row_keeps (l := r) (ins_has _ _ _ _)
    · exact row_has (l := r) e
theorem all_has {P : Rat} {j k : Int} (hjk : j < k) : ∀ {l : List (Int × Rat)} {t : List Tie}, l.Pairwise (fun a b => a.1 < b.1) → j ∈ l.map (·.1) → k ∈ l.map (·.1) → ∃ w, (j, k, w) ∈ insAll P l t
  | (a, wa) :: r, t, h, hj, hk => by
    have hc := List.pairwise_cons.mp h
    have hj : j ∈ a :: r.map (·.1) := hj
    have hk : k ∈ a :: r.map (·.1) := hk
    rcases List.mem_cons.mp hj with e | e
    · rcases List.mem_cons.mp hk with f | f
      · omega
      · subst e
        exact all_keeps (l := r) (row_has f)
    · rcases List.mem_cons.mp hk with f | f
      · obtain ⟨q, hq, eq⟩ := List.mem_map.mp e
        have := hc.1 q hq
        simp only at this
        omega
      · exact all_has (l := r) hjk hc.2 e f
theorem row_sorted {P : Rat} {j : Int} {wj : Rat} : ∀ {l : List (Int × Rat)} {t : List Tie}, t.Pairwise TLt → (insRow P j wj l t).Pairwise TLt
  | [], _, h => h
  | (k, wk) :: r, t, h => row_sorted (l := r) (ins_sorted _ _ _ h)
theorem all_sorted {P : Rat} : ∀ {l : List (Int × Rat)} {t : List Tie}, t.Pairwise TLt → (insAll P l t).Pairwise TLt
  | [], _, h => h
  | (j, wj) :: r, t, h => all_sorted (l := r) (row_sorted h)
/-- a property of ties that holds of what is put in, and of sums -/
def Good (G : Int → Int → Prop) (t : Tie) : Prop := t.1 < t.2.1 ∧ G t.1 t.2.1 ∧ 0 < t.2.2
theorem ins_good {G : Int → Int → Prop} {a b : Int} {m : Rat} (h1 : a < b) (h2 : G a b) (h3 : 0 < m) {l : List Tie} (h : ∀ t ∈ l, Good G t) : ∀ t ∈ insTie l a b m, Good G t := fun t ht => by
  rcases mem_ins ht with e | e | ⟨w, e1, e2⟩
  · exact h t e
  · subst e; exact ⟨h1, h2, h3⟩
  · subst e2
    have z := (h _ e1).2.2
    exact ⟨h1, h2, by show (0 : Rat) < w + m; have : (0 : Rat) < w := z; grind⟩
theorem div_pos {x y : Rat} (h : 0 < x) (k : 0 < y) : 0 < x / y := by
  rw [Rat.div_def]; exact Rat.mul_pos h (Rat.inv_pos.mpr k)
theorem row_good {G : Int → Int → Prop} {P : Rat} (hP : 0 < P) {j : Int} {wj : Rat} (hw : 0 < wj) : ∀ {l : List (Int × Rat)} {t : List Tie}, (∀ q ∈ l, 0 < q.2 ∧ j < q.1 ∧ G j q.1) → (∀ u ∈ t, Good G u) → ∀ u ∈ insRow P j wj l t, Good G u
  | [], _, _, h => h
  | (k, wk) :: r, t, hq, h => by
    have z := hq (k, wk) List.mem_cons_self
    exact row_good (l := r) hP hw (fun q hm => hq q (List.mem_cons_of_mem _ hm)) (ins_good z.2.1 z.2.2 (div_pos (Rat.mul_pos hw z.1) hP) h)
theorem all_good {G : Int → Int → Prop} {P : Rat} (hP : 0 < P) : ∀ {l : List (Int × Rat)} {t : List Tie}, l.Pairwise (fun a b => a.1 < b.1) → (∀ q ∈ l, 0 < q.2) → (∀ q ∈ l, ∀ u ∈ l, G q.1 u.1) → (∀ u ∈ t, Good G u) → ∀ u ∈ insAll P l t, Good G u
  | [], _, _, _, _, h => h
  | (j, wj) :: r, t, hs, hw, hG, h => by
    have hc := List.pairwise_cons.mp hs
    refine all_good (l := r) hP hc.2 (fun q hq => hw q (List.mem_cons_of_mem _ hq)) (fun q hq u hu => hG q (List.mem_cons_of_mem _ hq) u (List.mem_cons_of_mem _ hu)) ?_
    exact row_good hP (hw (j, wj) List.mem_cons_self) (fun q hq => ⟨hw q (List.mem_cons_of_mem _ hq), hc.1 q hq, hG (j, wj) List.mem_cons_self q (List.mem_cons_of_mem _ hq)⟩) h
theorem ch_drop {ts ts' : List Tie} {p : Int} (h1 : ∀ a b, a ≠ p → b ≠ p → (∃ w, (a, b, w) ∈ ts) → ∃ w, (a, b, w) ∈ ts') (h2 : ∀ a b, a < b → (∃ w, (a, p, w) ∈ ts) → (∃ w, (p, b, w) ∈ ts) → ∃ w, (a, b, w) ∈ ts') :
    ∀ {l : List Int}, l.Pairwise (· < ·) → Ch ts l → Ch ts' (l.filter fun q => decide (q ≠ p))
  | [], _, _ => by simp [Ch]
  | [a], _, _ => by
    by_cases e : a = p
    · simp [e, Ch]
    · simp [e, Ch]
  | a :: b :: r, hs, h => by
    have hc := List.pairwise_cons.mp hs
    obtain ⟨t1, h⟩ := h
    have ih := ch_drop h1 h2 hc.2 h
    by_cases e : a = p
    · rw [List.filter_cons, if_neg (by simp [e])]
      exact ih
    · rw [List.filter_cons, if_pos (by simp [e])]
      by_cases f : b = p
      · rw [List.filter_cons, if_neg (by simp [f])] at ih ⊢
        cases r with
        | nil => simp [Ch]
        | cons c r =>
          obtain ⟨t2, h⟩ := h
          have hb := List.pairwise_cons.mp hc.2
          have hbc : b < c := hb.1 c List.mem_cons_self
          have hab : a < b := hc.1 b List.mem_cons_self
          have g : ¬ c = p := by omega
          rw [List.filter_cons, if_pos (by simp [g])] at ih ⊢
          subst f
          exact ⟨h2 a c (by omega) t1 t2, ih⟩
      · rw [List.filter_cons, if_pos (by simp [f])] at ih ⊢
        exact ⟨h1 a b e f t1, ih⟩
/-- some tie at a point of a row of two or more -/
theorem ch_tied {ts : List Tie} {p : Int} : ∀ {l : List Int}, 2 ≤ l.length → p ∈ l → Ch ts l → ∃ j w, (p, j, w) ∈ ts ∨ (j, p, w) ∈ ts
  | [], h, _, _ => by simp at h
  | [a], h, _, _ => by simp at h
  | a :: b :: r, _, hp, h => by
    obtain ⟨⟨w, t1⟩, h⟩ := h
    rcases List.mem_cons.mp hp with e | e
    · subst e; exact ⟨b, w, .inl t1⟩
    · rcases List.mem_cons.mp e with f | f
      · subst f; exact ⟨a, w, .inr t1⟩
      · cases r with
        | nil => cases f
        | cons c r => exact ch_tied (l := b :: c :: r) (by simp) e h
theorem pull_pos {N : Net} (h : NetOk N) {p : Int} (hp : p ∈ N.pts) (h2 : 2 ≤ N.pts.length) : 0 < psum (nbrs N.ties p) := by
  obtain ⟨j, w, k⟩ := ch_tied h2 hp h.ch
  have hm : (j, w) ∈ nbrs N.ties p := k.elim nbrs_hi nbrs_lo
  have z := psum_ge (l := nbrs N.ties p) fun q hq => (nbrs_pos h (j := q.1) (w := q.2) hq).1
  have z1 := z.2 _ hm
  have z2 := (nbrs_pos h hm).1
  simp only at z1
  grind
theorem drop_ok {N : Net} (h : NetOk N) {p : Int} (hp : p ∈ N.pts) (h2 : 2 ≤ N.pts.length) : NetOk (drop N p) := by
  have ps := pull_pos h hp h2
  have ns := nbrs_sorted p h.ts fun t ht => (h.ok t ht).1
  refine ⟨h.srt.filter _, all_sorted (h.ts.filter _), fun t ht => ?_, ?_⟩
  · have g := all_good (G := fun a b => (a ∈ N.pts ∧ a ≠ p) ∧ (b ∈ N.pts ∧ b ≠ p)) (P := psum (nbrs N.ties p)) ps (l := nbrs N.ties p) (t := offTies N.ties p) ns (fun q hq => (nbrs_pos h (j := q.1) (w := q.2) hq).1)
      (fun q hq u hu => ⟨(nbrs_pos h (j := q.1) (w := q.2) hq).2, (nbrs_pos h (j := u.1) (w := u.2) hu).2⟩) (fun u hu => by
        obtain ⟨k1, k2⟩ := off_mem.mp hu
        have z := h.ok u k1
        exact ⟨z.1, ⟨⟨z.2.1, fun e => k2 (.inl e.symm)⟩, z.2.2.1, fun e => k2 (.inr e.symm)⟩, z.2.2.2⟩) t ht
    obtain ⟨g1, ⟨g2, g3⟩, g4⟩ := g
    refine ⟨g1, ?_, ?_, g4⟩
    · exact List.mem_filter.mpr ⟨g2.1, decide_eq_true g2.2⟩
    · exact List.mem_filter.mpr ⟨g3.1, decide_eq_true g3.2⟩
  · refine ch_drop (ts := N.ties) (fun a b ha hb ⟨w, k⟩ => ?_) (fun a b hab ⟨w, k⟩ ⟨v, k2⟩ => ?_) h.srt h.ch
    · exact all_keeps ⟨w, off_mem.mpr ⟨k, fun z => z.elim (fun e => ha e.symm) fun e => hb e.symm⟩⟩
    · exact all_has hab ns (List.mem_map.mpr ⟨_, nbrs_lo k, rfl⟩) (List.mem_map.mpr ⟨_, nbrs_hi k2, rfl⟩)
/-- the quotient that is put in -/
theorem quot_ib {E W P0 : Nat} {P a b : Rat} (ha : IB E W a) (hb : IB E W b) (a0 : 0 < a) (b0 : 0 < b) (hP : P * (E : Rat) = (P0 : Rat)) (bP : b ≤ P) : IB (P0 * E) W (a * b / P) := by
  have P1 : 0 < P := by grind
  have hab := ha.mul hb
  refine IB.over hab (z := P) ?_ P1 ?_ ?_
  · push_cast
    rw [← hP]; grind
  · have : 0 < a * b := Rat.mul_pos a0 b0
    have : 0 ≤ (W : Rat) * P := Rat.mul_nonneg Rat.natCast_nonneg (by grind)
    grind
  · have h1 : a * b ≤ (W : Rat) * b := Rat.mul_le_mul_of_nonneg_right ha.2.2.2 (by grind)
    have h2 : (W : Rat) * b ≤ (W : Rat) * P := Rat.mul_le_mul_of_nonneg_left bP Rat.natCast_nonneg
    grind
theorem row_tb {E W P0 : Nat} {P wj : Rat} {j : Int} (hj : IB E W wj) (j0 : 0 < wj) (hP : P * (E : Rat) = (P0 : Rat)) : ∀ {l : List (Int × Rat)} {t : List Tie} {B : Nat}, (∀ q ∈ l, IB E W q.2 ∧ 0 < q.2 ∧ q.2 ≤ P) → TB (P0 * E) B t →
    TB (P0 * E) (B + l.length * W) (insRow P j wj l t)
  | [], t, B, _, h => by simpa [insRow] using h
  | (k, wk) :: r, t, B, hq, h => by
    have z := hq (k, wk) List.mem_cons_self
    have := row_tb (j := j) hj j0 hP (l := r) (fun q hm => hq q (List.mem_cons_of_mem _ hm)) (h.ins (a := j) (b := k) (quot_ib hj z.1 j0 z.2.1 hP z.2.2))
    refine this.mono ?_
    simp only [List.length_cons, Nat.add_mul, Nat.one_mul]
    omega
theorem all_tb {E W P0 : Nat} {P : Rat} (hP : P * (E : Rat) = (P0 : Rat)) : ∀ {l : List (Int × Rat)} {t : List Tie} {B n : Nat}, l.length ≤ n → (∀ q ∈ l, IB E W q.2 ∧ 0 < q.2 ∧ q.2 ≤ P) → TB (P0 * E) B t →
    TB (P0 * E) (B + l.length * (n * W)) (insAll P l t)
  | [], t, B, n, _, _, h => by simpa [insAll] using h
  | (j, wj) :: r, t, B, n, hn, hq, h => by
    have z := hq (j, wj) List.mem_cons_self
    have hr : r.length ≤ n := by simp only [List.length_cons] at hn; omega
    have h1 := row_tb (j := j) z.1 z.2.1 hP (l := r) (fun q hm => hq q (List.mem_cons_of_mem _ hm)) h
    have := all_tb hP (l := r) hr (fun q hm => hq q (List.mem_cons_of_mem _ hm)) h1
    refine this.mono ?_
    have : r.length * W ≤ n * W := Nat.mul_le_mul_right _ hr
    simp only [List.length_cons, Nat.add_mul, Nat.one_mul]
    omega
end Lf
end

section

/-! Plain mathematics: the worths settled, their sizes, that no others have less energy; floors. -/
namespace Lf
def upf (x : Int → Rat) (p : Int) (v : Rat) : Int → Rat := fun q => if q = p then v else x q
theorem upf_same {x : Int → Rat} {p : Int} {v : Rat} : upf x p v p = v := by unfold upf; rw [if_pos rfl]
theorem upf_ne {x : Int → Rat} {p q : Int} {v : Rat} (h : q ≠ p) : upf x p v q = x q := by unfold upf; rw [if_neg h]
/-- shares of the pull -/
def shares (N : Net) (p : Int) : List (Int × Rat) := (nbrs N.ties p).map fun q => (q.1, q.2 / psum (nbrs N.ties p))
def means : Net → List Int → List (Int × List (Int × Rat))
  | _, [] => []
  | N, p :: r => (p, shares N p) :: means (drop N p) r
def recon : List (Int × List (Int × Rat)) → (Int → Rat) → (Int → Rat)
  | [], t => t
  | (p, sh) :: r, t => upf (recon r t) p (wx (recon r t) sh)
def settle (N : Net) (t : Int → Rat) (order : List Int) : Int → Rat := recon (means N order) t

theorem wx_shares (x : Int → Rat) (P : Rat) : ∀ l : List (Int × Rat), wx x (l.map fun q => (q.1, q.2 / P)) = P⁻¹ * wx x l
  | [] => by simp only [List.map_nil, wx]; grind
  | (j, w) :: r => by
    simp only [List.map_cons, wx]
    rw [wx_shares x P r, Rat.div_def]; grind
theorem wx_congr {x y : Int → Rat} : ∀ {l : List (Int × Rat)}, (∀ q ∈ l, x q.1 = y q.1) → wx x l = wx y l
  | [], _ => rfl
  | (j, w) :: r, h => by
    simp only [wx]
    rw [wx_congr fun q hq => h q (List.mem_cons_of_mem _ hq), show x j = y j from h (j, w) List.mem_cons_self]
theorem bil_congr {x y x' y' : Int → Rat} : ∀ {l : List Tie}, (∀ t ∈ l, x t.1 = x' t.1 ∧ x t.2.1 = x' t.2.1 ∧ y t.1 = y' t.1 ∧ y t.2.1 = y' t.2.1) → bil l x y = bil l x' y'
  | [], _ => rfl
  | (a, b, w) :: r, h => by
    simp only [bil]
    obtain ⟨h1, h2, h3, h4⟩ := h (a, b, w) List.mem_cons_self
    simp only at h1 h2 h3 h4
    rw [bil_congr fun q hq => h q (List.mem_cons_of_mem _ hq), h1, h2, h3, h4]
/-- what may be dropped, in this order -/
structure Elim (N : Net) (told order : List Int) : Prop where
  all : ∀ q ∈ N.pts, q ∈ told ∨ q ∈ order
  nd : order.Nodup
  sub : ∀ q ∈ order, q ∈ N.pts ∧ q ∉ told
  some : ∃ q, q ∈ told ∧ q ∈ N.pts
theorem two_of {l : List Int} {p q : Int} (hp : p ∈ l) (hq : q ∈ l) (h : p ≠ q) : 2 ≤ l.length := by
  match l, hp, hq with
  | [], hp, _ => cases hp
  | [a], hp, hq =>
    have e1 : p = a := by simpa using hp
    have e2 : q = a := by simpa using hq
    exact absurd (e1.trans e2.symm) h
  | _ :: _ :: _, _, _ => simp
theorem Elim.two {N : Net} {told r : List Int} {p : Int} (h : Elim N told (p :: r)) : p ∈ N.pts ∧ 2 ≤ N.pts.length := by
  obtain ⟨q, h1, h2⟩ := h.some
  have hp := h.sub p List.mem_cons_self
  exact ⟨hp.1, two_of hp.1 h2 fun e => hp.2 (e ▸ h1)⟩
theorem Elim.drop {N : Net} {told r : List Int} {p : Int} (h : Elim N told (p :: r)) : Elim (drop N p) told r := by
  have hn := List.nodup_cons.mp h.nd
  have hp := h.sub p List.mem_cons_self
  refine ⟨fun q hq => ?_, hn.2, fun q hq => ?_, ?_⟩
  · obtain ⟨k1, k2⟩ := List.mem_filter.mp (show q ∈ N.pts.filter fun q => decide (q ≠ p) from hq)
    have k2 : q ≠ p := of_decide_eq_true k2
    rcases h.all q k1 with z | z
    · exact .inl z
    · rcases List.mem_cons.mp z with e | e
      · exact absurd e k2
      · exact .inr e
  · have k := h.sub q (List.mem_cons_of_mem _ hq)
    refine ⟨List.mem_filter.mpr ⟨k.1, decide_eq_true fun e => hn.1 (e ▸ hq)⟩, k.2⟩
  · obtain ⟨q, h1, h2⟩ := h.some
    exact ⟨q, h1, List.mem_filter.mpr ⟨h2, decide_eq_true fun e => hp.2 (e ▸ h1)⟩⟩
theorem settle_told {told : List Int} {t : Int → Rat} : ∀ {order : List Int} {N : Net}, Elim N told order → ∀ q ∈ told, settle N t order q = t q
  | [], N, _, q, _ => rfl
  | p :: r, N, h, q, hq => by
    have : q ≠ p := fun e => (h.sub p List.mem_cons_self).2 (e ▸ hq)
    show upf _ _ _ q = _
    rw [upf_ne this]
    exact settle_told h.drop q hq
/-- the settled worths: the form is 0 with all that is 0 at told points -/
theorem settle_harm {told : List Int} {t : Int → Rat} : ∀ {order : List Int} {N : Net}, NetOk N → Elim N told order → ∀ y : Int → Rat, (∀ q ∈ told, y q = 0) → bil N.ties (settle N t order) y = 0
  | [], N, hN, h, y, hy => by
    have : ∀ l : List Tie, (∀ u ∈ l, y u.1 = 0 ∧ y u.2.1 = 0) → bil l (settle N t []) y = 0 := by
      intro l
      induction l with
      | nil => intro _; rfl
      | cons u r ih =>
        intro hu
        obtain ⟨a, b, w⟩ := u
        obtain ⟨h1, h2⟩ := hu (a, b, w) List.mem_cons_self
        simp only at h1 h2
        simp only [bil]
        rw [ih fun v hv => hu v (List.mem_cons_of_mem _ hv), h1, h2]; grind
    refine this _ fun u hu => ?_
    have z := hN.ok u hu
    exact ⟨hy _ ((h.all _ z.2.1).elim id fun k => by cases k), hy _ ((h.all _ z.2.2.1).elim id fun k => by cases k)⟩
  | p :: r, N, hN, h, y, hy => by
    obtain ⟨hp, h2⟩ := h.two
    have hP := pull_pos hN hp h2
    have ih := settle_harm (t := t) (order := r) (drop_ok hN hp h2) h.drop y hy
    rw [← bil_drop (fun t ht => (hN.ok t ht).1) (p := p) (by grind) ?_]
    · rw [← ih]
      refine bil_congr fun u hu => ?_
      have z := (drop_ok hN hp h2).ok u hu
      have n1 : u.1 ≠ p := of_decide_eq_true (List.mem_filter.mp (show u.1 ∈ N.pts.filter fun q => decide (q ≠ p) from z.2.1)).2
      have n2 : u.2.1 ≠ p := of_decide_eq_true (List.mem_filter.mp (show u.2.1 ∈ N.pts.filter fun q => decide (q ≠ p) from z.2.2.1)).2
      exact ⟨upf_ne n1, upf_ne n2, rfl, rfl⟩
    · have e1 : settle N t (p :: r) p = wx (settle (drop N p) t r) (shares N p) := upf_same
      have e2 : wx (settle N t (p :: r)) (nbrs N.ties p) = wx (settle (drop N p) t r) (nbrs N.ties p) := wx_congr fun q hq => upf_ne (nbrs_pos hN (j := q.1) (w := q.2) hq).2.2
      rw [e1, e2]
      unfold shares
      rw [wx_shares, ← Rat.mul_assoc, Rat.mul_inv_cancel _ (by grind), Rat.one_mul]

/-! ### sizes of the settled worths -/
theorem share_ib {E W P0 : Nat} {P w : Rat} (hw : IB E W w) (w0 : 0 < w) (hP : P * (E : Rat) = (P0 : Rat)) (bP : w ≤ P) : IB P0 1 (w / P) := by
  have P1 : 0 < P := by grind
  exact IB.over hw hP P1 (by push_cast; grind) (by push_cast; grind)
theorem wx_ib {A F R : Nat} {x : Int → Rat} (hA : 0 < A) (hF : 0 < F) : ∀ {l : List (Int × Rat)}, (∀ q ∈ l, IB A 1 q.2 ∧ IB F R (x q.1)) → IB (A * F) (l.length * R) (wx x l)
  | [], _ => IB.zero (Nat.mul_pos hA hF)
  | (j, w) :: r, h => by
    have z := h (j, w) List.mem_cons_self
    have ih := wx_ib hA hF (l := r) fun q hq => h q (List.mem_cons_of_mem _ hq)
    have m := z.1.mul z.2
    rw [Nat.one_mul] at m
    show IB _ ((r.length + 1) * R) (w * x j + wx x r)
    exact (m.add ih).mono (by rw [Nat.add_mul, Nat.one_mul]; omega)
/-- a mean of worths between -R and R lies there -/
theorem wx_mean {R : Rat} {x : Int → Rat} (hR : 0 ≤ R) : ∀ {l : List (Int × Rat)}, (∀ q ∈ l, 0 < q.2 ∧ -R ≤ x q.1 ∧ x q.1 ≤ R) → wx x l ≤ R * psum l ∧ -(R * psum l) ≤ wx x l
  | [], _ => by simp only [wx, psum]; grind
  | (j, w) :: r, h => by
    obtain ⟨z1, z2, z3⟩ := h (j, w) List.mem_cons_self
    have ih := wx_mean hR (l := r) fun q hq => h q (List.mem_cons_of_mem _ hq)
    simp only at z1 z2 z3
    have a1 : w * x j ≤ w * R := Rat.mul_le_mul_of_nonneg_left z3 (by grind)
    have a2 : w * -R ≤ w * x j := Rat.mul_le_mul_of_nonneg_left z2 (by grind)
    simp only [wx, psum]
    grind
/-- the sizes along the way: the exponents e, w of denominators and weights -/
def Fit : Nat → Nat → Nat → Prop
  | 0, _, _ => True
  | n + 1, e, w => e + w ≤ 300 ∧ Fit n (2 * e + w + 3) (w + 6)
def fin : Nat → Nat → Nat → Nat
  | 0, _, _ => 4
  | n + 1, e, w => fin n (2 * e + w + 3) (w + 6) + (e + w + 3)
/-- what the walk knows of a network: weights with one denominator, of sizes 2 ^ e, 2 ^ w -/
structure NB (e w : Nat) (N : Net) : Prop where
  ok : NetOk N
  six : N.pts.length ≤ 6
  tb : ∃ E W : Nat, 0 < E ∧ E ≤ 2 ^ e ∧ W ≤ 2 ^ w ∧ TB E W N.ties
theorem pull_whole {N : Net} (h : NetOk N) {p : Int} {E W : Nat} (hE : 0 < E) (hT : TB E W N.ties) (hp : p ∈ N.pts) (h2 : 2 ≤ N.pts.length) (h6 : N.pts.length ≤ 6) :
    (∀ q ∈ nbrs N.ties p, IB E W q.2 ∧ 0 < q.2 ∧ q.2 ≤ psum (nbrs N.ties p)) ∧ ∃ P0 : Nat, 0 < P0 ∧ psum (nbrs N.ties p) * (E : Rat) = (P0 : Rat) ∧ P0 ≤ 6 * W * E ∧ IB E (6 * W) (psum (nbrs N.ties p)) := by
  have hq : ∀ q ∈ nbrs N.ties p, IB E W q.2 := fun q hq => by
    rcases mem_nbrs (j := q.1) (w := q.2) hq with k | k <;> exact hT _ k
  have hpos : ∀ q ∈ nbrs N.ties p, 0 < q.2 := fun q hq => (nbrs_pos h (j := q.1) (w := q.2) hq).1
  have z := psum_ge hpos
  refine ⟨fun q hm => ⟨hq q hm, hpos q hm, z.2 q hm⟩, ?_⟩
  have ib := (psum_ib hE hq).mono (S := 6 * W) (Nat.mul_le_mul_right _ (Nat.le_trans (nbrs_len h p) h6))
  obtain ⟨_, ⟨pp, e1⟩, b1, b2⟩ := id ib
  obtain ⟨P0, e2, e3⟩ := whole_of e1 hE (pull_pos h hp h2)
  refine ⟨P0, e2, e3, ?_, ib⟩
  have : (P0 : Rat) ≤ ((6 * W * E : Nat) : Rat) := by
    rw [← e3]
    push_cast
    push_cast at b2
    exact Rat.mul_le_mul_of_nonneg_right b2 Rat.natCast_nonneg
  exact Rat.natCast_le_natCast.mp this
theorem pow_bd {E W P0 e w : Nat} (h1 : E ≤ 2 ^ e) (h2 : W ≤ 2 ^ w) (h3 : P0 ≤ 6 * W * E) : P0 ≤ 2 ^ (e + w + 3) := by
  have : 6 * W * E ≤ 8 * 2 ^ w * 2 ^ e := Nat.mul_le_mul (Nat.mul_le_mul (by omega) h2) h1
  have e1 : 8 * 2 ^ w * 2 ^ e = 2 ^ (e + w + 3) := by
    rw [Nat.pow_add, Nat.pow_add]
    show _ = 2 ^ e * 2 ^ w * 8
    rw [Nat.mul_comm 8, Nat.mul_assoc, Nat.mul_comm 8, ← Nat.mul_assoc, Nat.mul_comm (2 ^ w)]
  omega
theorem NB.drop {N : Net} {e w : Nat} (h : NB e w N) {p : Int} (hp : p ∈ N.pts) (h2 : 2 ≤ N.pts.length) : NB (2 * e + w + 3) (w + 6) (drop N p) := by
  obtain ⟨E, W, hE, bE, bW, hT⟩ := h.tb
  obtain ⟨hq, P0, hP0, eP, bP, _⟩ := pull_whole h.ok hE hT hp h2 h.six
  refine ⟨drop_ok h.ok hp h2, Nat.le_trans (List.length_filter_le _ _) h.six, P0 * E, W + 6 * (6 * W), Nat.mul_pos hP0 hE, ?_, ?_, ?_⟩
  · have := pow_bd bE bW bP
    have e1 : 2 ^ (2 * e + w + 3) = 2 ^ (e + w + 3) * 2 ^ e := by rw [← Nat.pow_add]; congr 1; omega
    rw [e1]
    exact Nat.mul_le_mul this bE
  · have e1 : 2 ^ (w + 6) = 2 ^ w * 64 := by rw [Nat.pow_add]
    omega
  · have off : TB (P0 * E) W (offTies N.ties p) := by
      rw [Nat.mul_comm]
      exact TB.lift (fun t ht => hT t (off_mem.mp ht).1) hP0
    have hl : (nbrs N.ties p).length ≤ 6 := Nat.le_trans (nbrs_len h.ok p) h.six
    exact (all_tb eP hl hq off).mono (Nat.add_le_add_left (Nat.mul_le_mul_right _ hl) _)
theorem settle_ib {told : List Int} {t : Int → Rat} : ∀ {order : List Int} {N : Net} {e w : Nat}, NB e w N → Elim N told order → (∀ q ∈ told, IB 12 9 (t q)) → ∃ F, 0 < F ∧ F ≤ 2 ^ fin order.length e w ∧ ∀ q ∈ N.pts, IB F 9 (settle N t order q)
  | [], N, e, w, h, hE, ht => ⟨12, by omega, by show 12 ≤ 2 ^ 4; omega, fun q hq => ht q ((hE.all q hq).elim id fun k => by cases k)⟩
  | p :: r, N, e, w, h, hE, ht => by
    obtain ⟨hp, h2⟩ := hE.two
    obtain ⟨F, F0, bF, hF⟩ := settle_ib (order := r) (h.drop hp h2) hE.drop ht
    obtain ⟨E, W, hE0, bE, bW, hT⟩ := h.tb
    obtain ⟨hq, P0, hP0, eP, bP, _⟩ := pull_whole h.ok hE0 hT hp h2 h.six
    have hP := pull_pos h.ok hp h2
    refine ⟨P0 * F, Nat.mul_pos hP0 F0, ?_, fun q hqp => ?_⟩
    · have := pow_bd bE bW bP
      show P0 * F ≤ 2 ^ (fin r.length (2 * e + w + 3) (w + 6) + (e + w + 3))
      rw [Nat.pow_add, Nat.mul_comm]
      exact Nat.mul_le_mul bF this
    · have inD : ∀ q, q ∈ N.pts → q ≠ p → q ∈ (Lf.drop N p).pts := fun q h1 h2 => List.mem_filter.mpr ⟨h1, decide_eq_true h2⟩
      by_cases e1 : q = p
      · subst e1
        have e2 : settle N t (q :: r) q = wx (settle (Lf.drop N q) t r) (shares N q) := upf_same
        have hsh : ∀ u ∈ shares N q, IB P0 1 u.2 ∧ IB F 9 (settle (Lf.drop N q) t r u.1) := fun u hu => by
          obtain ⟨v, hv, rfl⟩ := List.mem_map.mp hu
          have z := hq v hv
          have n := nbrs_pos h.ok (j := v.1) (w := v.2) hv
          exact ⟨share_ib z.1 z.2.1 eP z.2.2, hF _ (inD _ n.2.1 n.2.2)⟩
        have ib := wx_ib hP0 F0 hsh
        rw [e2]
        refine ⟨ib.1, ib.2.1, ?_⟩
        have m := wx_mean (R := 9) (x := settle (Lf.drop N q) t r) (by decide +kernel) (l := nbrs N.ties q) fun u hu => by
          have n := nbrs_pos h.ok (j := u.1) (w := u.2) hu
          have k := hF _ (inD _ n.2.1 n.2.2)
          exact ⟨n.1, k.2.2.1, k.2.2.2⟩
        have e3 : wx (settle (Lf.drop N q) t r) (shares N q) = (psum (nbrs N.ties q))⁻¹ * wx (settle (Lf.drop N q) t r) (nbrs N.ties q) := wx_shares _ _ _
        have hi : 0 < (psum (nbrs N.ties q))⁻¹ := Rat.inv_pos.mpr hP
        have e4 := Rat.mul_inv_cancel (psum (nbrs N.ties q)) (by grind)
        rw [e3]
        have a1 := Rat.mul_le_mul_of_nonneg_left m.1 (Rat.le_of_lt hi)
        have a2 := Rat.mul_le_mul_of_nonneg_left m.2 (Rat.le_of_lt hi)
        push_cast
        constructor <;> grind
      · have e2 : settle N t (p :: r) q = settle (Lf.drop N p) t r q := upf_ne e1
        rw [e2, Nat.mul_comm]
        exact (hF q (inD q hqp e1)).lift hP0
end Lf
end

section

/-! Plain mathematics: streams, sources, floors; that no energy is less than a floor; sums' sizes. -/
namespace Lf
def tot : List Rat → Rat
  | [] => 0
  | x :: r => x + tot r
/-- what flows through each tie -/
def strm (ts : List Tie) (x : Int → Rat) : List Rat := ts.map fun t => t.2.2 * (x t.1 - x t.2.1)
/-- how much a stream brings out of p -/
def src : List Tie → List Rat → Int → Rat
  | (a, b, _) :: ts, m :: ms, p => (if a = p then m else 0) - (if b = p then m else 0) + src ts ms p
  | _, _, _ => 0
def dot : List Tie → List Rat → (Int → Rat) → Rat
  | (a, b, _) :: ts, m :: ms, y => m * (y a - y b) + dot ts ms y
  | _, _, _ => 0
def losts : List Tie → List Rat → List Rat
  | (_, _, w) :: ts, m :: ms => m * m / w :: losts ts ms
  | _, _ => []
/-- the told worths as a function -/
def tf : List (Int × Rat) → Int → Rat
  | [], _ => 0
  | (p, v) :: r, q => if q = p then v else tf r q
def tsum : List (Int × Rat) → (Int → Rat) → Rat
  | [], _ => 0
  | (p, v) :: r, f => v * f p + tsum r f
def floorV (ts : List Tie) (T : List (Int × Rat)) (s : List Rat) : Rat := tsum T (src ts s) - tot (losts ts s) / 2
/-- half the form -/
def en (ts : List Tie) (x : Int → Rat) : Rat := bil ts x x / 2

def psumf (l : List Int) (f : Int → Rat) : Rat := tot (l.map f)
theorem psumf_cons (a : Int) (l : List Int) (f : Int → Rat) : psumf (a :: l) f = f a + psumf l f := rfl
theorem psumf_add (f g : Int → Rat) : ∀ l : List Int, psumf l (fun p => f p + g p) = psumf l f + psumf l g
  | [] => by simp only [psumf, List.map_nil, tot]; grind
  | a :: l => by rw [psumf_cons, psumf_cons, psumf_cons, psumf_add f g l]; grind
theorem psumf_zero : ∀ {l : List Int} {f : Int → Rat}, (∀ p ∈ l, f p = 0) → psumf l f = 0
  | [], _, _ => rfl
  | a :: l, f, h => by rw [psumf_cons, h a List.mem_cons_self, psumf_zero fun p hp => h p (List.mem_cons_of_mem _ hp)]; grind
theorem psumf_at {y : Int → Rat} {m : Rat} {a : Int} : ∀ {l : List Int}, l.Nodup → a ∈ l → psumf l (fun p => y p * (if a = p then m else 0)) = y a * m
  | [], _, h => by cases h
  | b :: l, hn, h => by
    have hc := List.nodup_cons.mp hn
    rw [psumf_cons]
    by_cases e : a = b
    · subst e
      rw [if_pos rfl, psumf_zero fun p hp => ?_]
      · grind
      · have : a ≠ p := fun q => hc.1 (q ▸ hp)
        simp only [if_neg this]; grind
    · have h' : a ∈ l := by
        rcases List.mem_cons.mp h with q | q
        · exact absurd q e
        · exact q
      rw [if_neg e, psumf_at hc.2 h']; grind
theorem dot_src (y : Int → Rat) {l : List Int} (hn : l.Nodup) : ∀ {ts : List Tie} {s : List Rat}, (∀ t ∈ ts, t.1 ∈ l ∧ t.2.1 ∈ l) → psumf l (fun p => y p * src ts s p) = dot ts s y
  | [], s, _ => by
    have : ∀ p, src [] s p = 0 := fun p => by cases s <;> rfl
    rw [psumf_zero fun p _ => by rw [this]; grind]
    cases s <;> rfl
  | (a, b, w) :: ts, [], _ => by
    rw [psumf_zero fun p _ => by show y p * 0 = 0; grind]
    rfl
  | (a, b, w) :: ts, m :: ms, h => by
    have ih := dot_src y hn (ts := ts) (s := ms) fun t ht => h t (List.mem_cons_of_mem _ ht)
    obtain ⟨ha, hb⟩ := h (a, b, w) List.mem_cons_self
    have e : (fun p => y p * src ((a, b, w) :: ts) (m :: ms) p) = fun p => (y p * (if a = p then m else 0) + y p * (if b = p then -m else 0)) + y p * src ts ms p := by
      funext p
      show y p * ((if a = p then m else 0) - (if b = p then m else 0) + src ts ms p) = _
      split <;> split <;> grind
    rw [e, psumf_add, psumf_add, psumf_at hn ha, psumf_at hn hb, ih]
    show _ = m * (y a - y b) + dot ts ms y
    grind
theorem tsum_eq {T : List (Int × Rat)} {f : Int → Rat} : ∀ {l : List Int}, (T.map (·.1)).Sublist l → l.Nodup → (∀ p ∈ l, p ∉ T.map (·.1) → f p = 0) → ∀ y : Int → Rat, (∀ q ∈ T, y q.1 = q.2) → tsum T f = psumf l (fun p => y p * f p) := by
  intro l h
  induction l generalizing T with
  | nil =>
    intro _ _ y _
    have : T.map (·.1) = [] := List.eq_nil_of_sublist_nil h
    have : T = [] := List.map_eq_nil_iff.mp this
    subst this; rfl
  | cons a l ih =>
    intro hn hz y hy
    have hc := List.nodup_cons.mp hn
    rw [psumf_cons]
    cases T with
    | nil =>
      have e1 : tsum [] f = 0 := rfl
      rw [e1, hz a List.mem_cons_self (by simp), psumf_zero fun p hp => by rw [hz p (List.mem_cons_of_mem _ hp) (by simp)]; grind]
      grind
    | cons q T =>
      obtain ⟨p, v⟩ := q
      have h : (p :: T.map (·.1)).Sublist (a :: l) := h
      by_cases e : p = a
      · subst e
        have h' : (T.map (·.1)).Sublist l := List.cons_sublist_cons.mp h
        have := ih h' hc.2 (fun q hq hne => hz q (List.mem_cons_of_mem _ hq) fun k => by
          rcases List.mem_cons.mp (show q ∈ p :: T.map (·.1) from k) with z | z
          · exact hc.1 (z ▸ hq)
          · exact hne z) y fun q hq => hy q (List.mem_cons_of_mem _ hq)
        show v * f p + tsum T f = _
        rw [this, hy (p, v) List.mem_cons_self]
      · have h' : (p :: T.map (·.1)).Sublist l := by
          cases h with
          | cons _ h => exact h
          | cons_cons _ h => exact absurd rfl e
        have na : a ∉ ((p, v) :: T).map (·.1) := fun k => hc.1 (h'.subset k)
        rw [hz a List.mem_cons_self na, ih (T := (p, v) :: T) h' hc.2 (fun q hq hne => hz q (List.mem_cons_of_mem _ hq) hne) y hy]
        grind
theorem dot_strm (x y : Int → Rat) : ∀ ts : List Tie, dot ts (strm ts x) y = bil ts x y
  | [] => rfl
  | (a, b, w) :: ts => by
    show w * (x a - x b) * (y a - y b) + dot ts (strm ts x) y = w * (x a - x b) * (y a - y b) + bil ts x y
    rw [dot_strm x y ts]
theorem tot_losts (x : Int → Rat) : ∀ {ts : List Tie}, (∀ t ∈ ts, 0 < t.2.2) → tot (losts ts (strm ts x)) = bil ts x x
  | [], _ => rfl
  | (a, b, w) :: ts, h => by
    have hw : 0 < w := h (a, b, w) List.mem_cons_self
    show (w * (x a - x b)) * (w * (x a - x b)) / w + tot (losts ts (strm ts x)) = w * (x a - x b) * (x a - x b) + bil ts x x
    rw [tot_losts x fun t ht => h t (List.mem_cons_of_mem _ ht), Rat.div_def]
    have := Rat.mul_inv_cancel w (by grind)
    grind
theorem bil_add (x y z : Int → Rat) : ∀ ts : List Tie, bil ts x (fun p => y p - z p) = bil ts x y - bil ts x z
  | [] => by simp only [bil]; grind
  | (a, b, w) :: ts => by
    simp only [bil]
    rw [bil_add x y z ts]; grind
/-- a stream of the told worths' points -/
def SrcOk (N : Net) (T : List (Int × Rat)) (s : List Rat) : Prop := ∀ p ∈ N.pts, p ∉ T.map (·.1) → src N.ties s p = 0
theorem nodup_of {l : List Int} (h : l.Pairwise (· < ·)) : l.Nodup := h.imp fun h => by omega
/-- the settled worths bring nothing out of the points that aren't told -/
theorem src_strm {N : Net} (h : NetOk N) {T : List (Int × Rat)} {x : Int → Rat} (hx : ∀ y : Int → Rat, (∀ q ∈ T.map (·.1), y q = 0) → bil N.ties x y = 0) : SrcOk N T (strm N.ties x) := by
  intro p hp hn
  have e := hx (fun q => if q = p then 1 else 0) fun q hq => if_neg fun (z : q = p) => hn (z ▸ hq)
  rw [← dot_strm, ← dot_src _ (nodup_of h.srt) fun t ht => ⟨(h.ok t ht).2.1, (h.ok t ht).2.2.1⟩] at e
  have e2 : (fun q => (if q = p then (1 : Rat) else 0) * src N.ties (strm N.ties x) q) = fun q => src N.ties (strm N.ties x) q * (if p = q then 1 else 0) := by
    funext q
    by_cases z : q = p
    · subst z; simp only [if_pos]; grind
    · rw [if_neg z, if_neg (fun k => z k.symm)]; grind
  rw [e2, psumf_at (nodup_of h.srt) hp] at e
  grind
/-- F1: the floor of the settled worths' stream is their energy -/
theorem floor_own {N : Net} (h : NetOk N) {T : List (Int × Rat)} {x : Int → Rat} (hT : (T.map (·.1)).Sublist N.pts) (hx : ∀ y : Int → Rat, (∀ q ∈ T.map (·.1), y q = 0) → bil N.ties x y = 0) (ht : ∀ q ∈ T, x q.1 = q.2) :
    floorV N.ties T (strm N.ties x) = en N.ties x := by
  unfold floorV en
  rw [tot_losts x fun t ht => (h.ok t ht).2.2.2, tsum_eq hT (nodup_of h.srt) (src_strm h hx) x ht, dot_src x (nodup_of h.srt) fun t ht => ⟨(h.ok t ht).2.1, (h.ok t ht).2.2.1⟩, dot_strm, Rat.div_def]
  grind
theorem dot_le (y : Int → Rat) : ∀ {ts : List Tie} {s : List Rat}, (∀ t ∈ ts, 0 < t.2.2) → dot ts s y ≤ bil ts y y / 2 + tot (losts ts s) / 2
  | [], s, _ => by
    cases s <;> (simp only [dot, bil, losts, tot]; decide +kernel)
  | (a, b, w) :: ts, [], h => by
    have hw : 0 < w := h (a, b, w) List.mem_cons_self
    have ih := dot_le y (ts := ts) (s := []) fun t ht => h t (List.mem_cons_of_mem _ ht)
    have e1 : dot ts [] y = 0 := by cases ts <;> rfl
    have e2 : losts ts [] = [] := by cases ts <;> rfl
    rw [e1, e2] at ih
    show 0 ≤ (w * (y a - y b) * (y a - y b) + bil ts y y) / 2 + tot [] / 2
    have sq : 0 ≤ (y a - y b) * (y a - y b) := by
      rcases Rat.le_total (a := 0) (b := y a - y b) with k | k
      · exact Rat.mul_nonneg k k
      · have := Rat.mul_nonneg (a := -(y a - y b)) (b := -(y a - y b)) (by grind) (by grind)
        grind
    have := Rat.mul_nonneg (Rat.le_of_lt hw) sq
    simp only [tot, Rat.div_def] at *
    grind
  | (a, b, w) :: ts, m :: ms, h => by
    have hw : 0 < w := h (a, b, w) List.mem_cons_self
    have ih := dot_le y (ts := ts) (s := ms) fun t ht => h t (List.mem_cons_of_mem _ ht)
    show m * (y a - y b) + dot ts ms y ≤ (w * (y a - y b) * (y a - y b) + bil ts y y) / 2 + (m * m / w + tot (losts ts ms)) / 2
    have hi : 0 < w⁻¹ := Rat.inv_pos.mpr hw
    have wi := Rat.mul_inv_cancel w (by grind)
    have sq : 0 ≤ (w * (y a - y b) - m) * (w * (y a - y b) - m) := by
      rcases Rat.le_total (a := 0) (b := w * (y a - y b) - m) with k | k
      · exact Rat.mul_nonneg k k
      · have := Rat.mul_nonneg (a := -(w * (y a - y b) - m)) (b := -(w * (y a - y b) - m)) (by grind) (by grind)
        grind
    have := Rat.mul_nonneg (Rat.le_of_lt hi) sq
    simp only [Rat.div_def] at *
    have e : w⁻¹ * ((w * (y a - y b) - m) * (w * (y a - y b) - m)) = (w * w⁻¹) * w * (y a - y b) * (y a - y b) - 2 * (w * w⁻¹) * m * (y a - y b) + w⁻¹ * m * m := by grind
    rw [e, wi] at this
    grind
/-- F2: no energy is less than a floor -/
theorem floor_le {N : Net} (h : NetOk N) {T : List (Int × Rat)} {s : List Rat} (hT : (T.map (·.1)).Sublist N.pts) (hs : SrcOk N T s) {y : Int → Rat} (ht : ∀ q ∈ T, y q.1 = q.2) : floorV N.ties T s ≤ en N.ties y := by
  unfold floorV en
  rw [tsum_eq hT (nodup_of h.srt) hs y ht, dot_src y (nodup_of h.srt) fun t ht => ⟨(h.ok t ht).2.1, (h.ok t ht).2.2.1⟩]
  have := dot_le y (ts := N.ties) (s := s) fun t ht => (h.ok t ht).2.2.2
  grind
/-- F3: more weight lowers no least energy -/
theorem en_more {ts : List Tie} {a b : Int} {m : Rat} (hm : 0 < m) (x : Int → Rat) : en ts x ≤ en (insTie ts a b m) x := by
  unfold en
  rw [bil_ins]
  have sq : 0 ≤ (x a - x b) * (x a - x b) := by
    rcases Rat.le_total (a := 0) (b := x a - x b) with k | k
    · exact Rat.mul_nonneg k k
    · have := Rat.mul_nonneg (a := -(x a - x b)) (b := -(x a - x b)) (by grind) (by grind)
      grind
  have := Rat.mul_nonneg (Rat.le_of_lt hm) sq
  simp only [Rat.div_def] at *
  grind

/-! ### sums as the walk makes them -/
def SumOk : Rat → List Rat → Prop
  | _, [] => True
  | acc, x :: r => Sm acc ∧ Sm x ∧ SumOk (acc + x) r
theorem sumOk_ib {A R : Nat} (hA : A < 2 ^ 1400) : ∀ {l : List Rat} {acc : Rat} {M : Nat}, IB A M acc → (∀ x ∈ l, IB A R x) → (M + (l.length + 1) * R) * A < 2 ^ 1400 → SumOk acc l
  | [], _, _, _, _, _ => True.intro
  | x :: r, acc, M, h, hx, hb => by
    have z := hx x List.mem_cons_self
    have e : M + ((x :: r).length + 1) * R = (M + R) + (r.length + 1) * R := by
      simp only [List.length_cons, Nat.add_mul, Nat.one_mul]; omega
    rw [e] at hb
    refine ⟨h.sm hA (Nat.lt_of_le_of_lt (Nat.mul_le_mul_right _ (by omega)) hb), z.sm hA (Nat.lt_of_le_of_lt (Nat.mul_le_mul_right _ (by omega)) hb), ?_⟩
    exact sumOk_ib hA (h.add z) (fun y hy => hx y (List.mem_cons_of_mem _ hy)) hb
/-- denominators that grow by a factor below G each time -/
theorem sumOk_grow {A R G : Nat} (hA : 0 < A) (hG : 0 < G) : ∀ {l : List Rat} {acc : Rat} {B M : Nat}, 0 < B → IB (A * B) M acc → (∀ x ∈ l, ∃ m, 0 < m ∧ m ≤ G ∧ IB (A * m) R x) → A * B * G ^ (l.length + 1) * (M + (l.length + 1) * R + 1) < 2 ^ 1400 → SumOk acc l
  | [], _, _, _, _, _, _, _ => True.intro
  | x :: r, acc, B, M, hB, h, hx, hb => by
    obtain ⟨m, m0, mG, z⟩ := hx x List.mem_cons_self
    have hlen : (x :: r).length + 1 = (r.length + 1) + 1 := rfl
    rw [hlen] at hb
    have g1 : 1 ≤ G ^ (r.length + 1) := Nat.pow_pos hG
    have g2 : G ≤ G ^ (r.length + 1 + 1) := by
      rw [Nat.pow_succ]
      calc G = 1 * G := (Nat.one_mul G).symm
        _ ≤ _ := Nat.mul_le_mul_right _ g1
    have g0 : 1 ≤ G ^ (r.length + 1 + 1) := Nat.pow_pos hG
    have bound : ∀ u v : Nat, u ≤ A * B * G ^ (r.length + 1 + 1) → v ≤ M + (r.length + 1 + 1) * R + 1 → u * v < 2 ^ 1400 := fun u v hu hv => Nat.lt_of_le_of_lt (Nat.mul_le_mul hu hv) hb
    have b1 : A * B ≤ A * B * G ^ (r.length + 1 + 1) := Nat.le_mul_of_pos_right _ g0
    have b2 : A * m ≤ A * B * G ^ (r.length + 1 + 1) := by
      refine Nat.mul_le_mul (Nat.le_mul_of_pos_right _ hB) (Nat.le_trans mG g2)
    have rr : R ≤ (r.length + 1 + 1) * R := Nat.le_mul_of_pos_left _ (by omega)
    refine ⟨h.sm ?_ ?_, z.sm ?_ ?_, ?_⟩
    · have := bound (A * B) 1 b1 (by omega); rwa [Nat.mul_one] at this
    · rw [Nat.mul_comm]; exact bound _ _ b1 (by omega)
    · have := bound (A * m) 1 b2 (by omega); rwa [Nat.mul_one] at this
    · rw [Nat.mul_comm]; exact bound _ _ b2 (by omega)
    · have h' : IB (A * (B * m)) (M + R) (acc + x) := by
        have k1 := h.lift m0
        have k2 := z.lift hB
        rw [Nat.mul_assoc] at k1 k2
        rw [Nat.mul_comm m B] at k2
        exact k1.add k2
      refine sumOk_grow hA hG (Nat.mul_pos hB m0) h' (fun y hy => hx y (List.mem_cons_of_mem _ hy)) (Nat.lt_of_le_of_lt ?_ hb)
      have e1 : M + R + (r.length + 1) * R + 1 = M + (r.length + 1 + 1) * R + 1 := by
        rw [Nat.add_mul (r.length + 1) 1 R, Nat.one_mul]; omega
      rw [e1]
      refine Nat.mul_le_mul_right _ ?_
      calc A * (B * m) * G ^ (r.length + 1) = A * B * (m * G ^ (r.length + 1)) := by rw [← Nat.mul_assoc, Nat.mul_assoc (A * B)]
        _ ≤ A * B * (G * G ^ (r.length + 1)) := Nat.mul_le_mul_left _ (Nat.mul_le_mul_right _ mG)
        _ = A * B * G ^ (r.length + 1 + 1) := by rw [Nat.pow_succ G (r.length + 1), Nat.mul_comm G]
end Lf
end

section
set_option maxRecDepth 100000
/-! The walk's own words: data, heaps that grow, what a reading evaluates to. -/
namespace Lf
open PySem PySem.Spec PyProof.Rows L2
abbrev Tabl := List (Addr × Str)

/-! ### data made of tuples -/
mutual
inductive Dt (K : PySem.W.Frag) (H : Hp) : V → PyData → Prop
  | non : Dt K H .non .none
  | bl (b : Bool) : Dt K H (.bl b) (.bool b)
  | int (i : Int) : Dt K H (.int i) (.int i)
  | str (x : Str) : Dt K H (.str x) (.str x)
  | tup {a : Addr} {xs : List V} {ds : List PyData} : SqT K H a xs → Dts K H xs ds → Dt K H (.ref a) (.tuple ds)
inductive Dts (K : PySem.W.Frag) (H : Hp) : List V → List PyData → Prop
  | nil : Dts K H [] []
  | cons {v : V} {vs : List V} {d : PyData} {ds : List PyData} : Dt K H v d → Dts K H vs ds → Dts K H (v :: vs) (d :: ds)
end
/-- tuples are kept -/
def TK (H H' : Hp) : Prop := ∀ a xs, Rd H a (.tup xs) → Rd H' a (.tup xs)
theorem TK.sq {K : PySem.W.Frag} {H H' : Hp} (e : TK H H') {a : Addr} {xs : List V} (h : SqT K H a xs) : SqT K H' a xs := h.elim (fun z => .inl (e a xs z)) .inr
mutual
theorem Dt.tk {K : PySem.W.Frag} {H H' : Hp} (e : TK H H') : ∀ (d : PyData) (v : V), Dt K H v d → Dt K H' v d
  | .none, _, h => by cases h; exact .non
  | .bool b, _, h => by cases h; exact .bl b
  | .int i, _, h => by cases h; exact .int i
  | .str x, _, h => by cases h; exact .str x
  | .tuple ds, _, h => by
    cases h with
    | tup hs ha => exact .tup (e.sq hs) (Dts.tk e ds _ ha)
  | .list _, _, h => by cases h
  | .dict _, _, h => by cases h
theorem Dts.tk {K : PySem.W.Frag} {H H' : Hp} (e : TK H H') : ∀ (ds : List PyData) (vs : List V), Dts K H vs ds → Dts K H' vs ds
  | [], _, h => by cases h; exact .nil
  | d :: ds, _, h => by
    cases h with
    | cons h1 h2 => exact .cons (Dt.tk e d _ h1) (Dts.tk e ds _ h2)
end
mutual
theorem Dt.dp {K : PySem.W.Frag} {H : Hp} : ∀ (d : PyData) (v : V), Dt K H v d → Dp K H v d
  | .none, _, h => by cases h; exact .non
  | .bool b, _, h => by cases h; exact .bl b
  | .int i, _, h => by cases h; exact .int i
  | .str x, _, h => by cases h; exact .str x
  | .tuple ds, _, h => by
    cases h with
    | tup hs ha => exact .tup hs (Dts.dp ds _ ha)
  | .list _, _, h => by cases h
  | .dict _, _, h => by cases h
theorem Dts.dp {K : PySem.W.Frag} {H : Hp} : ∀ (ds : List PyData) (vs : List V), Dts K H vs ds → DpAll K H vs ds
  | [], _, h => by cases h; exact .nil
  | d :: ds, _, h => by
    cases h with
    | cons h1 h2 => exact .cons (Dt.dp d _ h1) (Dts.dp ds _ h2)
end
section
variable {K : PySem.W.Frag} {H H' : Hp}
theorem Dts.length : ∀ {vs : List V} {ds : List PyData}, Dts K H vs ds → vs.length = ds.length
  | [], [], _ => rfl
  | _ :: _, [], h => by cases h
  | [], _ :: _, h => by cases h
  | _ :: vs, _ :: ds, h => by
    cases h with
    | cons _ h2 => exact congrArg (· + 1) (Dts.length h2)
theorem Dts.get : ∀ {vs : List V} {ds : List PyData}, Dts K H vs ds → ∀ {i : Nat} {d : PyData}, ds[i]? = some d → ∃ v, vs[i]? = some v ∧ Dt K H v d
  | [], [], _, i, d, e => by simp at e
  | _ :: _, [], h, _, _, _ => by cases h
  | [], _ :: _, h, _, _, _ => by cases h
  | v :: vs, _ :: ds, h, 0, d, e => by
    cases h with
    | cons h1 _ =>
      have e : _ = d := Option.some.inj e
      subst e
      exact ⟨v, rfl, h1⟩
  | v :: vs, _ :: ds, h, i + 1, d, e => by
    cases h with
    | cons _ h2 =>
      obtain ⟨w, e1, e2⟩ := Dts.get h2 (i := i) (d := d) (by simpa using e)
      exact ⟨w, by simpa using e1, e2⟩
theorem Dts.getV : ∀ {vs : List V} {ds : List PyData}, Dts K H vs ds → ∀ {i : Nat} {v : V}, vs[i]? = some v → ∃ d, ds[i]? = some d ∧ Dt K H v d
  | [], [], _, i, d, e => by simp at e
  | _ :: _, [], h, _, _, _ => by cases h
  | [], _ :: _, h, _, _, _ => by cases h
  | v :: vs, d :: ds, h, 0, w, e => by
    cases h with
    | cons h1 _ =>
      have e : _ = w := Option.some.inj e
      subst e
      exact ⟨d, rfl, h1⟩
  | v :: vs, _ :: ds, h, i + 1, w, e => by
    cases h with
    | cons _ h2 =>
      obtain ⟨w, e1, e2⟩ := Dts.getV h2 (i := i) (v := w) (by simpa using e)
      exact ⟨w, by simpa using e1, e2⟩
theorem Dts.append : ∀ {vs : List V} {ds : List PyData}, Dts K H vs ds → ∀ {ws : List V} {es : List PyData}, Dts K H ws es → Dts K H (vs ++ ws) (ds ++ es)
  | [], [], _, _, _, h => h
  | _ :: _, [], h, _, _, _ => by cases h
  | [], _ :: _, h, _, _, _ => by cases h
  | _ :: _, _ :: _, h, _, _, k => by
    cases h with
    | cons h1 h2 => exact .cons h1 (Dts.append h2 k)
theorem Dts.snoc {vs : List V} {ds : List PyData} {v : V} {d : PyData} (h : Dts K H vs ds) (k : Dt K H v d) : Dts K H (vs ++ [v]) (ds ++ [d]) := h.append (.cons k .nil)
theorem Dts.take : ∀ {vs : List V} {ds : List PyData}, Dts K H vs ds → ∀ n : Nat, Dts K H (vs.take n) (ds.take n)
  | [], [], _, n => by simp only [List.take_nil]; exact .nil
  | _ :: _, [], h, _ => by cases h
  | [], _ :: _, h, _ => by cases h
  | _ :: _, _ :: _, _, 0 => .nil
  | _ :: _, _ :: _, h, n + 1 => by
    cases h with
    | cons h1 h2 => exact .cons h1 (Dts.take h2 n)
theorem Dts.drop : ∀ {vs : List V} {ds : List PyData}, Dts K H vs ds → ∀ n : Nat, Dts K H (vs.drop n) (ds.drop n)
  | [], [], _, n => by simp only [List.drop_nil]; exact .nil
  | _ :: _, [], h, _ => by cases h
  | [], _ :: _, h, _ => by cases h
  | _ :: _, _ :: _, h, 0 => h
  | _ :: _, _ :: _, h, n + 1 => by
    cases h with
    | cons _ h2 => exact Dts.drop h2 n
theorem Dts.rev {vs : List V} {ds : List PyData} (h : Dts K H vs ds) : Dts K H vs.reverse ds.reverse := by
  induction vs generalizing ds with
  | nil => cases h; exact .nil
  | cons v vs ih =>
    cases h with
    | cons h1 h2 =>
      rw [List.reverse_cons, List.reverse_cons]
      exact (ih h2).snoc h1
theorem Dt.mono {v : V} {d : PyData} (h : Dt K H v d) (e : TK H H') : Dt K H' v d := Dt.tk e d v h
theorem Dts.mono {vs : List V} {ds : List PyData} (h : Dts K H vs ds) (e : TK H H') : Dts K H' vs ds := Dts.tk e ds vs h
theorem Dt.new {p : Addr} {vs : List V} {ds : List PyData} (h : H p = some (.tup vs)) (k : Dts K H vs ds) : Dt K H (.ref p) (.tuple ds) := .tup (SqT.of h) k
end

/-! ### heaps that grow; T: the tables of code objects -/
structure Le (T : Tabl) (H H' : Hp) : Prop where
  ext : LamX.ExtN H H'
  tab : LamX.Tabs T H'
section
variable {T : Tabl} {H H1 H2 H' : Hp}
theorem Le.refl (h : LamX.Tabs T H) : Le T H H := ⟨LamX.ExtN.refl H, h⟩
theorem Le.trans (a : Le T H H1) (b : Le T H1 H2) : Le T H H2 := ⟨a.ext.trans b.ext, b.tab⟩
theorem Le.tk (a : Le T H H1) : TK H H1 := fun b xs h => by
  rcases h with h | ⟨o, h⟩
  · exact .inl (a.ext b _ h fun _ z => by cases z)
  · exact .inr ⟨o, a.ext b _ h fun _ z => by cases z⟩
theorem Le.new {p : Addr} {o : HO} (h : LamX.Tabs T H) (n : H p = none) : Le T H (upd H p o) := by
  have e : ∀ b u, H b = some u → upd H p o b = some u := fun b u k => by rw [upd_ne (ne_of_none k n)]; exact k
  exact ⟨LamX.ExtN.of e, h.ext e⟩
/-- what is tracked, but no table and no code object -/
def Pln (o : HO) : Prop := (∀ ps, o ≠ .tbl ps) ∧ ∀ φ, o ≠ .ext φ
theorem tabs_mut {p : Addr} {o u : HO} (h : LamX.Tabs T H) (hp : H p = some u) (hu : Pln u) : LamX.Tabs T (upd H p o) := fun q hq => by
  obtain ⟨ps, h1, h2, h3⟩ := h q hq
  refine ⟨ps, ?_, h2, fun pos cv hc => ?_⟩
  · rw [upd_ne fun e => hu.1 ps (Option.some.inj (by rw [← hp, ← e]; exact h1))]; exact h1
  · obtain ⟨c, e1, e2⟩ := h3 pos cv hc
    refine ⟨c, e1, ?_⟩
    rw [upd_ne fun e => hu.2 _ (Option.some.inj (by rw [← hp, ← e]; exact e2))]; exact e2
/-- no object that H keeps stands at p -/
def Nf (H : Hp) (p : Addr) : Prop := ∀ o, H p = some o → ∃ ps, o = .tbl ps
theorem Nf.of {p : Addr} (h : H p = none) : Nf H p := fun o e => by rw [h] at e; cases e
/-- an object that H does not know is changed -/
theorem Le.mut {p : Addr} {o u : HO} (a : Le T H H1) (n : Nf H p) (hp : H1 p = some u) (hu : Pln u) : Le T H (upd H1 p o) :=
  ⟨fun b w k z => by
    have : b ≠ p := fun e => by
      obtain ⟨ps, q⟩ := n w (e ▸ k)
      exact z ps q
    rw [upd_ne this]; exact a.ext b w k z, tabs_mut a.tab hp hu⟩
theorem Le.fresh (a : Le T H H1) {p : Addr} (h : H1 p = none) : Nf H p := fun o q => by
  by_cases z : ∀ ps, o ≠ .tbl ps
  · have := a.ext p o q z
    rw [h] at this; cases this
  · exact Classical.byContradiction fun k => z fun ps e => k ⟨ps, e⟩
theorem Le.nf (a : Le T H H1) {p : Addr} (h : Nf H1 p) : Nf H p := fun o q => by
  by_cases z : ∀ ps, o ≠ .tbl ps
  · exact h o (a.ext p o q z)
  · exact Classical.byContradiction fun k => z fun ps e => k ⟨ps, e⟩
theorem Le.at_ (a : Le T H H1) {p : Addr} {o : HO} (h : H p = some o) (z : Pln o) : H1 p = some o := a.ext p o h z.1
theorem pl_lst {xs : List V} : Pln (.lst xs) := ⟨fun _ e => (by cases e), fun _ e => (by cases e)⟩
theorem pl_tup {xs : List V} : Pln (.tup xs) := ⟨fun _ e => (by cases e), fun _ e => (by cases e)⟩
theorem pl_dK {xs : List (Key × V)} : Pln (.dK xs) := ⟨fun _ e => (by cases e), fun _ e => (by cases e)⟩
theorem pl_dT {xs : List (List Key × V)} : Pln (.dT xs) := ⟨fun _ e => (by cases e), fun _ e => (by cases e)⟩
end
end Lf
end

section
set_option maxRecDepth 100000
/-! The walk's own words: what a reading evaluates to, in data. -/
namespace Lf
open PySem PySem.Spec PyProof.Rows L2
section
variable {H H1 H2 H' : Hp}
theorem TK.refl (H : Hp) : TK H H := fun _ _ h => h
theorem TK.trans (a : TK H H1) (b : TK H1 H2) : TK H H2 := fun p xs h => b p xs (a p xs h)
theorem TK.mut {p : Addr} {o u : HO} (a : TK H H1) (hp : H1 p = some u) (h1 : ∀ xs, u ≠ .tup xs) (h2 : ∀ q xs, u ≠ .frz q (.tup xs)) : TK H (upd H1 p o) := fun b xs h => by
  have z := a b xs h
  have : b ≠ p := fun e => by
    subst e
    rcases z with z | ⟨q, z⟩
    · rw [hp] at z; exact h1 xs (Option.some.inj z)
    · rw [hp] at z; exact h2 q xs (Option.some.inj z)
  rcases z with z | ⟨q, z⟩
  · exact .inl (by rw [upd_ne this]; exact z)
  · exact .inr ⟨q, by rw [upd_ne this]; exact z⟩
theorem TK.lst {p : Addr} {o : HO} {xs : List V} (a : TK H H1) (hp : H1 p = some (.lst xs)) : TK H (upd H1 p o) := a.mut hp (fun _ e => (by cases e)) fun _ _ e => (by cases e)
theorem TK.dK {p : Addr} {o : HO} {xs : List (Key × V)} (a : TK H H1) (hp : H1 p = some (.dK xs)) : TK H (upd H1 p o) := a.mut hp (fun _ e => (by cases e)) fun _ _ e => (by cases e)
theorem TK.dT {p : Addr} {o : HO} {xs : List (List Key × V)} (a : TK H H1) (hp : H1 p = some (.dT xs)) : TK H (upd H1 p o) := a.mut hp (fun _ e => (by cases e)) fun _ _ e => (by cases e)
theorem TK.new {p : Addr} {o : HO} (a : TK H H1) (hp : H1 p = none) : TK H (upd H1 p o) := fun b xs h => by
  have z := a b xs h
  have : b ≠ p := fun e => by
    subst e
    rcases z with z | ⟨q, z⟩ <;> rw [hp] at z <;> cases z
  rcases z with z | ⟨q, z⟩
  · exact .inl (by rw [upd_ne this]; exact z)
  · exact .inr ⟨q, by rw [upd_ne this]; exact z⟩
end

/-! ### what evaluates to what -/
section
variable (T : Tabl) (K : PySem.W.Frag)
def EvD (te : TE) (σ : L2.St) (H : Hp) (d : PyData) : Prop := ∀ H1, Le T H H1 → ∀ Q : VK, (∀ v H2, Le T H1 H2 → Dt K H2 v d → Q v H2) → te σ H1 Q
def EvDs (ta : TA) (σ : L2.St) (H : Hp) (ds : List PyData) : Prop := ∀ H1, Le T H H1 → ∀ Q : List V → Hp → Prop, (∀ vs H2, Le T H1 H2 → Dts K H2 vs ds → Q vs H2) → ta σ H1 Q
def EvB (tt : TT) (σ : L2.St) (H : Hp) (b : Bool) : Prop := ∀ H1, Le T H H1 → ∀ Q : Bool → Hp → Prop, (∀ H2, Le T H1 H2 → Q b H2) → tt σ H1 Q
/-- a new list -/
def EvL (te : TE) (σ : L2.St) (H : Hp) (ds : List PyData) : Prop := ∀ H1, Le T H H1 → ∀ Q : VK, (∀ p vs H2, Le T H1 H2 → Nf H1 p → H2 p = some (.lst vs) → Dts K H2 vs ds → Q (.ref p) H2) → te σ H1 Q
/-- a def that makes data of data -/
def Pur (P : List PyData → PyData → Prop) : Sp := fun vs H Q _ => LamX.Tabs T H ∧ ∃ ds r, Dts K H vs ds ∧ P ds r ∧ ∀ v H', Le T H H' → Dt K H' v r → Q v H'
end
section
variable {T : Tabl} {K : PySem.W.Frag} {σ : L2.St} {H H' : Hp} {ta tb tc te : TE} {d e : PyData} {ds es : List PyData}
theorem EvD.mono (h : EvD T K te σ H d) (a : Le T H H') : EvD T K te σ H' d := fun H1 b Q q => h H1 (a.trans b) Q q
theorem EvB.mono {tt : TT} {b : Bool} (h : EvB T tt σ H b) (a : Le T H H') : EvB T tt σ H' b := fun H1 c Q q => h H1 (a.trans c) Q q
theorem ev_var {i : Nat} {v : V} (hd : Dt K H v d) (h : σ[i]? = some (some v) := by rfl) : EvD T K (tVar i) σ H d := fun H1 a Q q => ⟨v, h, q v H1 (Le.refl a.tab) (hd.mono a.tk)⟩
theorem ev_int {i : Int} : EvD T K (tC (.int i)) σ H (.int i) := fun H1 a Q q => q _ H1 (Le.refl a.tab) (.int i)
theorem ev_str {x : Str} : EvD T K (tC (.str x)) σ H (.str x) := fun H1 a Q q => q _ H1 (Le.refl a.tab) (.str x)
theorem ev_bl {b : Bool} : EvD T K (tC (.bl b)) σ H (.bool b) := fun H1 a Q q => q _ H1 (Le.refl a.tab) (.bl b)
theorem ev_non : EvD T K (tC .non) σ H .none := fun H1 a Q q => q _ H1 (Le.refl a.tab) .non
theorem ev_con {v : V} (h : ∀ H, Dt K H v d) : EvD T K (tC v) σ H d := fun H1 a Q q => q v H1 (Le.refl a.tab) (h H1)
theorem evs_nil : EvDs T K tNil σ H [] := fun H1 a Q q => q [] H1 (Le.refl a.tab) .nil
theorem evs_cons {tr : TA} (h : EvD T K ta σ H d) (hr : EvDs T K tr σ H ds) : EvDs T K (tCons ta tr) σ H (d :: ds) := fun H1 a Q q =>
  h H1 a _ fun v H2 a2 hv => hr H2 (a.trans a2) _ fun vs H3 a3 hvs => q (v :: vs) H3 (a2.trans a3) (.cons (hv.mono a3.tk) hvs)
theorem ev_tup {ta : TA} (h : EvDs T K ta σ H ds) (hl : ds.length ≤ 100000 := by first | decide | simp) : EvD T K (tTup ta) σ H (.tuple ds) := fun H1 a Q q =>
  h H1 a _ fun vs H2 a2 hvs => ⟨by rw [hvs.length]; exact Nat.le_trans hl (by decide), fun p hp => by
    have n := Le.new (o := .tup vs) a2.tab hp
    exact q _ _ (a2.trans n) (.new upd_same (hvs.mono n.tk))⟩
/-- the place of an index -/
def dAt (ds : List PyData) (i : Int) : Option PyData := (ixN ds.length i).bind fun j => ds[j]?
theorem dat_at {xs : List V} {i : Int} (h : Dts K H xs ds) (hi : dAt ds i = some d) : ∃ v, atI xs i = some v ∧ Dt K H v d := by
  unfold dAt at hi
  unfold atI
  rw [h.length]
  cases e : ixN ds.length i with
  | none => rw [e] at hi; cases hi
  | some j =>
    rw [e] at hi
    obtain ⟨v, e1, e2⟩ := h.get (show ds[j]? = some d from hi)
    exact ⟨v, e1, e2⟩
theorem dat_nat {j : Nat} (h : ds[j]? = some d) : dAt ds (j : Int) = some d := by
  have hj : j < ds.length := (List.getElem?_eq_some_iff.mp h).1
  unfold dAt ixN
  rw [if_pos (by omega), if_pos (by omega)]
  simpa using h
theorem ev_ix {i : Int} (ha : EvD T K ta σ H (.tuple ds)) (hb : EvD T K tb σ H (.int i)) (hi : dAt ds i = some d) : EvD T K (tOp (rIxT K) ta tb) σ H d := fun H1 a Q q =>
  ha H1 a _ fun v H2 a2 hv => hb H2 (a.trans a2) _ fun u H3 a3 hu => by
    have hv3 := hv.mono a3.tk
    cases hv3 with
    | tup hs hd =>
      cases hu
      obtain ⟨w, e1, e2⟩ := dat_at hd hi
      exact ⟨_, _, i, w, rfl, rfl, hs, e1, q w H3 (a2.trans a3) e2⟩
/-- ints in, an int out -/
theorem ev_op {g : Int → Int → Int} {i j : Int} (ha : EvD T K ta σ H (.int i)) (hb : EvD T K tb σ H (.int j)) : EvD T K (tOp (rI0 fun i j => .int (g i j)) ta tb) σ H (.int (g i j)) := fun H1 a Q q =>
  ha H1 a _ fun v H2 a2 hv => hb H2 (a.trans a2) _ fun u H3 a3 hu => by
    cases hv; cases hu
    exact ⟨i, j, rfl, rfl, q _ H3 (a2.trans a3) (.int _)⟩
theorem ev_opC {C : Int → Int → Prop} {g : Int → Int → Int} {i j : Int} (ha : EvD T K ta σ H (.int i)) (hb : EvD T K tb σ H (.int j)) (hc : C i j) : EvD T K (tOp (rI C fun i j => .int (g i j)) ta tb) σ H (.int (g i j)) := fun H1 a Q q =>
  ha H1 a _ fun v H2 a2 hv => hb H2 (a.trans a2) _ fun u H3 a3 hu => by
    cases hv; cases hu
    exact ⟨i, j, rfl, rfl, hc, q _ H3 (a2.trans a3) (.int _)⟩
theorem ev_opB {g : Int → Int → Bool} {i j : Int} (ha : EvD T K ta σ H (.int i)) (hb : EvD T K tb σ H (.int j)) : EvD T K (tOp (rI0 fun i j => .bl (g i j)) ta tb) σ H (.bool (g i j)) := fun H1 a Q q =>
  ha H1 a _ fun v H2 a2 hv => hb H2 (a.trans a2) _ fun u H3 a3 hu => by
    cases hv; cases hu
    exact ⟨i, j, rfl, rfl, q _ H3 (a2.trans a3) (.bl _)⟩
theorem ev_eqI {i j : Int} (ha : EvD T K ta σ H (.int i)) (hb : EvD T K tb σ H (.int j)) : EvD T K (tOp rEq ta tb) σ H (.bool (decide (i = j))) := fun H1 a Q q =>
  ha H1 a _ fun v H2 a2 hv => hb H2 (a.trans a2) _ fun u H3 a3 hu => by
    cases hv; cases hu
    refine ⟨rfl, ?_⟩
    have e : decide (V.int i = V.int j) = decide (i = j) := by rw [dec_int, Bool.beq_eq_decide_eq]
    rw [e]
    exact q _ H3 (a2.trans a3) (.bl _)
theorem ev_neI {i j : Int} (ha : EvD T K ta σ H (.int i)) (hb : EvD T K tb σ H (.int j)) : EvD T K (tOp rNe ta tb) σ H (.bool (!decide (i = j))) := fun H1 a Q q =>
  ha H1 a _ fun v H2 a2 hv => hb H2 (a.trans a2) _ fun u H3 a3 hu => by
    cases hv; cases hu
    refine ⟨rfl, ?_⟩
    have e : decide (V.int i = V.int j) = decide (i = j) := by rw [dec_int, Bool.beq_eq_decide_eq]
    rw [e]
    exact q _ H3 (a2.trans a3) (.bl _)
theorem ev_eqD (ha : EvD T K ta σ H d) (hb : EvD T K tb σ H e) (h1 : SeqAt.shaped d = true) (h2 : SeqAt.shaped e = true) : EvD T K (tOp (rEqD K) ta tb) σ H (.bool (PyData.eqv d e)) := fun H1 a Q q =>
  ha H1 a _ fun v H2 a2 hv => hb H2 (a.trans a2) _ fun u H3 a3 hu => ⟨d, e, (hv.mono a3.tk).dp, hu.dp, h1, h2, q _ H3 (a2.trans a3) (.bl _)⟩
theorem ev_neD (ha : EvD T K ta σ H d) (hb : EvD T K tb σ H e) (h1 : SeqAt.shaped d = true) (h2 : SeqAt.shaped e = true) : EvD T K (tOp (rNeD K) ta tb) σ H (.bool (!PyData.eqv d e)) := fun H1 a Q q =>
  ha H1 a _ fun v H2 a2 hv => hb H2 (a.trans a2) _ fun u H3 a3 hu => ⟨d, e, (hv.mono a3.tk).dp, hu.dp, h1, h2, q _ H3 (a2.trans a3) (.bl _)⟩
theorem ev_un {g : Int → Int} {i : Int} (ha : EvD T K ta σ H (.int i)) : EvD T K (tUn (rU fun i => .int (g i)) ta) σ H (.int (g i)) := fun H1 a Q q =>
  ha H1 a _ fun v H2 a2 hv => by
    cases hv
    exact ⟨i, rfl, q _ H2 a2 (.int _)⟩
theorem ev_call {P : List PyData → PyData → Prop} {E : XK} {ta : TA} (h : EvDs T K ta σ H ds) (hp : P ds d) : EvD T K (tCall (Pur T K P) [] E ta) σ H d := fun H1 a Q q =>
  h H1 a _ fun vs H2 a2 hvs => by
    show Pur T K P (vs ++ []) H2 Q E
    rw [List.append_nil]
    exact ⟨a2.tab, ds, d, hvs, hp, fun v H3 a3 hv => q v H3 (a2.trans a3) hv⟩
theorem ev_is {d' : PyData} (h : EvD T K te σ H d) (e : d = d') : EvD T K te σ H d' := e ▸ h
/-! tests -/
variable {t u : TT} {b c : Bool}
theorem eb_test (h : EvD T K te σ H (.bool b)) : EvB T (tTest te) σ H b := fun H1 a Q q => h H1 a _ fun v H2 a2 hv => by
  cases hv
  exact ⟨b, rfl, q H2 a2⟩
theorem eb_tB (h : EvD T K te σ H (.bool b)) : EvB T (tB te) σ H b := fun H1 a Q q => h H1 a _ fun v H2 a2 hv => by
  cases hv
  exact ⟨b, rfl, q H2 a2⟩
theorem eb_and (h1 : EvB T t σ H b) (h2 : b = true → EvB T u σ H c) : EvB T (tAnd t u) σ H (b && c) := fun H1 a Q q => h1 H1 a _ fun H2 a2 => by
  cases b with
  | true =>
    show u σ H2 Q
    exact h2 rfl H2 (a.trans a2) Q fun H3 a3 => q H3 (a2.trans a3)
  | false => exact q H2 a2
theorem eb_or (h1 : EvB T t σ H b) (h2 : b = false → EvB T u σ H c) : EvB T (tOr t u) σ H (b || c) := fun H1 a Q q => h1 H1 a _ fun H2 a2 => by
  cases b with
  | true => exact q H2 a2
  | false =>
    show u σ H2 Q
    exact h2 rfl H2 (a.trans a2) Q fun H3 a3 => q H3 (a2.trans a3)
theorem eb_not (h1 : EvB T t σ H b) : EvB T (tNot t) σ H (!b) := fun H1 a Q q => h1 H1 a _ fun H2 a2 => q H2 a2
theorem eb_is (h : EvB T t σ H b) (e : b = c) : EvB T t σ H c := e ▸ h
theorem ev_if (h : EvB T t σ H b) (h1 : b = true → EvD T K ta σ H d) (h2 : b = false → EvD T K tb σ H d) : EvD T K (tIf t ta tb) σ H d := fun H1 a Q q => h H1 a _ fun H2 a2 => by
  cases b with
  | true =>
    show ta σ H2 Q
    exact h1 rfl H2 (a.trans a2) Q fun v H3 a3 => q v H3 (a2.trans a3)
  | false =>
    show tb σ H2 Q
    exact h2 rfl H2 (a.trans a2) Q fun v H3 a3 => q v H3 (a2.trans a3)
theorem ev_andV (h1 : EvD T K ta σ H (.bool b)) (h2 : b = true → EvD T K tb σ H (.bool c)) : EvD T K (tAndV ta tb) σ H (.bool (b && c)) := fun H1 a Q q => h1 H1 a _ fun v H2 a2 hv => by
  cases hv
  refine ⟨b, rfl, ?_⟩
  cases b with
  | true =>
    show tb σ H2 Q
    exact h2 rfl H2 (a.trans a2) Q fun v H3 a3 => q v H3 (a2.trans a3)
  | false => exact q _ H2 a2 (.bl false)
theorem ev_notV (h1 : EvD T K ta σ H (.bool b)) : EvD T K (tNotV ta) σ H (.bool (!b)) := fun H1 a Q q => h1 H1 a _ fun v H2 a2 hv => by
  cases hv
  exact ⟨b, rfl, q _ H2 a2 (.bl _)⟩

/-! ### statements -/
variable {D : Ends}
theorem sd_set {i : Nat} (h : EvD T K te σ H d) (tH : LamX.Tabs T H) (q : ∀ v H', Le T H H' → Dt K H' v d → D.nx (σ.set i (some v)) H') : tAsg te (gName i) D σ H := h H (Le.refl tH) _ fun v H2 a hv => q v H2 a hv
theorem sd_ret (h : EvD T K te σ H d) (tH : LamX.Tabs T H) (q : ∀ v H', Le T H H' → Dt K H' v d → D.rt v H') : tRet te D σ H := h H (Le.refl tH) _ fun v H2 a hv => q v H2 a hv
theorem sd_yes {ts us : TS} (h : EvB T t σ H true) (tH : LamX.Tabs T H) (q : ∀ H', Le T H H' → ts D σ H') : tIfS t ts us D σ H := h H (Le.refl tH) _ fun H2 a => iteT (q H2 a)
theorem sd_no {ts us : TS} (h : EvB T t σ H false) (tH : LamX.Tabs T H) (q : ∀ H', Le T H H' → us D σ H') : tIfS t ts us D σ H := h H (Le.refl tH) _ fun H2 a => iteF (q H2 a)
theorem sd_par {i j : Nat} {ta : TA} {d e : PyData} (h : EvDs T K ta σ H [d, e]) (tH : LamX.Tabs T H) (q : ∀ v w H', Le T H H' → Dt K H' v d → Dt K H' w e → D.nx ((σ.set i (some v)).set j (some w)) H') : tPar i j ta D σ H := h H (Le.refl tH) _ fun vs H2 a hv => by
  cases hv with
  | cons h1 h2 =>
    cases h2 with
    | cons h2 h3 =>
      cases h3
      exact ⟨_, _, rfl, q _ _ H2 a h1 h2⟩

/-! ### targets -/
theorem g_tup {n : Nat} {t : TGs} {v : V} {Q : L2.St → Hp → Prop} (h : Dt K H v (.tuple ds)) (hn : ds.length = n) (q : ∀ xs, Dts K H xs ds → t xs σ H Q) : gTup K n t v σ H Q := by
  cases h with
  | tup hs hd => exact ⟨_, _, rfl, hs, by rw [hd.length]; exact hn, q _ hd⟩
theorem g_cons {t : TG} {u : TGs} {xs : List V} {Q : L2.St → Hp → Prop} (h : Dts K H xs (d :: ds)) (q : ∀ v r, Dt K H v d → Dts K H r ds → t v σ H fun σ' H' => u r σ' H' Q) : gCons t u xs σ H Q := by
  cases h with
  | cons h1 h2 => exact ⟨_, _, rfl, q _ _ h1 h2⟩
theorem g_nil {xs : List V} {Q : L2.St → Hp → Prop} (h : Dts K H xs []) (q : Q σ H) : gNil xs σ H Q := by
  cases h
  exact ⟨rfl, q⟩
theorem g_two {i j : Nat} {v : V} {Q : L2.St → Hp → Prop} (h : Dt K H v (.tuple [d, e])) (q : ∀ v w, Dt K H v d → Dt K H w e → Q ((σ.set i (some v)).set j (some w)) H) : gTup K 2 (gCons (gName i) (gCons (gName j) gNil)) v σ H Q :=
  g_tup h rfl fun _ hx => g_cons hx fun v _ h1 hx => g_cons hx fun w _ h2 hx => g_nil hx (q v w h1 h2)
theorem g_three {i j k : Nat} {f : PyData} {v : V} {Q : L2.St → Hp → Prop} (h : Dt K H v (.tuple [d, e, f])) (q : ∀ v w z, Dt K H v d → Dt K H w e → Dt K H z f → Q (((σ.set i (some v)).set j (some w)).set k (some z)) H) : gTup K 3 (gCons (gName i) (gCons (gName j) (gCons (gName k) gNil))) v σ H Q :=
  g_tup h rfl fun _ hx => g_cons hx fun v _ h1 hx => g_cons hx fun w _ h2 hx => g_cons hx fun z _ h3 hx => g_nil hx (q v w z h1 h2 h3)

/-! ### for x in a tuple: P by what is left -/
theorem for_tupD {α : Type} {f : α → PyData} {l : List α} {g : TG} {tb : TS} (he : EvD T K te σ H (.tuple (l.map f))) (tH : LamX.Tabs T H)
    (q : ∀ H1, Le T H H1 → ∃ Pv : List α → L2.St → Hp → Prop, Pv l σ H1 ∧
      (∀ x r σ' H' v, Pv (x :: r) σ' H' → Dt K H' v (f x) → g v σ' H' fun σ2 H2 => tb { D with nx := fun σ3 H3 => Pv r σ3 H3 ∧ TK H' H3, ct := fun σ3 H3 => Pv r σ3 H3 ∧ TK H' H3, bk := D.nx } σ2 H2) ∧
      ∀ σ' H', Pv [] σ' H' → D.nx σ' H') : tFor (iTup K te) g tb D σ H := by
  refine he H (Le.refl tH) _ fun v H1 a hv => ?_
  obtain ⟨Pv, h0, hs, hd⟩ := q H1 a
  cases hv with
  | tup hq hx =>
    rename_i p xs
    refine ⟨p, rfl, ⟨xs, hq⟩, ?_⟩
    refine ⟨fun i m σ' H' => m = l.length - i ∧ i ≤ l.length ∧ Pv (l.drop i) σ' H' ∧ TK H1 H', ⟨l.length, by simp, Nat.zero_le _, by simpa using h0, TK.refl _⟩, ?_⟩
    rintro i m σ' H' ⟨rfl, hi, hp, hk⟩
    have hq' := hk.sq hq
    have hx' := hx.mono hk
    by_cases hlt : i < l.length
    · have e1 : (l.map f)[i]? = some (f l[i]) := by rw [List.getElem?_map, List.getElem?_eq_getElem hlt]; rfl
      obtain ⟨w, e2, e3⟩ := hx'.get e1
      refine .inr ⟨⟨xs, w, hq', e2⟩, fun σ3 H3 => Pv (l.drop (i + 1)) σ3 H3 ∧ TK H' H3, fun σ3 H3 ⟨p3, k3⟩ => ⟨l.length - (i + 1), by omega, rfl, hlt, p3, hk.trans k3⟩, fun x H2 y => ?_⟩
      obtain ⟨rfl, y⟩ := y
      have ex : x = w := Option.some.inj ((y xs hq').symm.trans e2)
      subst ex
      refine hs l[i] (l.drop (i + 1)) σ' H2 x ?_ e3
      rw [← List.drop_eq_getElem_cons hlt]
      exact hp
    · have e : i = l.length := by omega
      refine .inl ⟨⟨xs, hq', ?_⟩, hd σ' H' ?_⟩
      · rw [hx'.length, List.length_map]; omega
      · subst e
        rw [List.drop_length] at hp
        exact hp

/-! ### [e for x in a tuple if ..], pure -/
theorem el_lc {α : Type} {f h : α → PyData} {p : α → Bool} {l : List α} {g : TG} {tt : TT} {vs : List Nat} (hl : l.length ≤ 100000) (he : EvD T K ta σ H (.tuple (l.map f)))
    (hs : ∀ x ∈ l, ∀ H1 v, Le T H H1 → Dt K H1 v (f x) → g v (wipe σ vs) H1 fun σ2 H2 => H2 = H1 ∧ wipe σ2 vs = wipe σ vs ∧ EvB T tt σ2 H1 (p x) ∧ (p x = true → EvD T K te σ2 H1 (h x)))
    (hg : ∀ v σ' H' Q Q', (∀ σ2 H2, Q σ2 H2 → Q' σ2 H2) → g v σ' H' Q → g v σ' H' Q') :
    EvL T K (tLc (iTup K ta) g tt te vs) σ H ((l.filter p).map h) := by
  intro H0 a0 Q q
  refine he H0 a0 _ fun v H1 a hv => ?_
  cases hv with
  | tup hq hx =>
    rename_i pa xs
    refine ⟨pa, rfl, ⟨xs, hq⟩, fun D hD => ?_⟩
    have nD : Nf H1 D := Nf.of hD
    refine ⟨fun i m H' => m = l.length - i ∧ i ≤ l.length ∧ Le T H1 H' ∧ ∃ acc, H' D = some (.lst acc) ∧ acc.length ≤ i ∧ Dts K H' acc (((l.take i).filter p).map h), ⟨l.length, by simp, Nat.zero_le _, Le.new a.tab hD, [], upd_same, Nat.zero_le _, by simpa using .nil⟩, ?_⟩
    rintro i m H' ⟨rfl, hi, a', acc, eD, hlen, hacc⟩
    have hq' := a'.tk.sq hq
    have hx' := hx.mono a'.tk
    by_cases hlt : i < l.length
    · have e1 : (l.map f)[i]? = some (f l[i]) := by rw [List.getElem?_map, List.getElem?_eq_getElem hlt]; rfl
      obtain ⟨w, e2, e3⟩ := hx'.get e1
      have et : ((l.take (i + 1)).filter p).map h = ((l.take i).filter p).map h ++ (if p l[i] = true then [h l[i]] else []) := by
        rw [List.take_add_one, List.getElem?_eq_getElem hlt, List.filter_append, List.map_append]
        by_cases hp : p l[i] = true
        · simp [hp]
        · simp [hp]
      refine .inr ⟨⟨xs, w, hq', e2⟩, fun H3 => Le T H1 H3 ∧ ∃ acc, H3 D = some (.lst acc) ∧ acc.length ≤ i + 1 ∧ Dts K H3 acc (((l.take (i + 1)).filter p).map h), fun H3 ⟨k1, k2⟩ => ⟨l.length - (i + 1), by omega, rfl, hlt, k1, k2⟩, fun x H2 y => ?_⟩
      obtain ⟨rfl, y⟩ := y
      have ex : x = w := Option.some.inj ((y xs hq').symm.trans e2)
      subst ex
      refine hg _ _ _ _ _ (fun σ2 H3 z => ?_) (hs l[i] (List.getElem_mem hlt) H2 x ((a0.trans a).trans a') e3)
      obtain ⟨rfl, z1, z2, z3⟩ := z
      refine ⟨z1, z2 H3 (Le.refl a'.tab) _ fun H4 a4 => ?_⟩
      have eD4 : H4 D = some (.lst acc) := a4.at_ eD pl_lst
      cases hp : p l[i] with
      | true =>
        refine iteT (z3 hp H4 a4 _ fun y H5 a5 hy => ?_)
        have eD5 : H5 D = some (.lst acc) := a5.at_ eD4 pl_lst
        refine ⟨acc, eD5, ?_, (((a'.trans a4).trans a5).mut nD eD5 pl_lst), acc ++ [y], upd_same, by simp; omega, ?_⟩
        · exact Nat.lt_of_lt_of_le (Nat.lt_of_le_of_lt hlen hlt) (Nat.le_trans hl (by decide))
        · rw [et, if_pos hp]
          have tk : TK H3 (upd H5 D (.lst (acc ++ [y]))) := (a4.tk.trans a5.tk).lst eD5
          exact (hacc.mono tk).snoc (hy.mono ((TK.refl _).lst eD5))
      | false =>
        refine iteF ⟨a'.trans a4, acc, eD4, by omega, ?_⟩
        rw [et, if_neg (by rw [hp]; exact Bool.false_ne_true), List.append_nil]
        exact hacc.mono a4.tk
    · have e : i = l.length := by omega
      subst e
      refine .inl ⟨⟨xs, hq', by rw [hx'.length, List.length_map]; omega⟩, ?_⟩
      rw [List.take_length] at hacc
      refine q D acc H' (a.trans a') ?_ eD hacc
      exact a.nf nD
/-- a new list as a tuple -/
theorem ev_tupleL {r : List V → Hp → VK → Prop} (hr : r = fun xs H Q => ∃ p ys, xs = [V.ref p] ∧ ((SqL K H p ys ∧ ∀ l, H l = none → Q (.ref l) (upd H l (.tup ys))) ∨ (SqT K H p ys ∧ Q (.ref p) H))) (h : EvL T K ta σ H ds) : EvD T K (tCB r (tCons ta tNil)) σ H (.tuple ds) := fun H1 a Q q =>
  h H1 a _ fun p vs H2 a2 n e hv => by
    subst hr
    refine ⟨p, vs, rfl, .inl ⟨SqL.of e, fun l hl => ?_⟩⟩
    have n2 := Le.new (o := .tup vs) a2.tab hl
    exact q _ _ (a2.trans n2) (.new upd_same (hv.mono n2.tk))
end
end Lf
end

section
set_option maxRecDepth 100000
/-! The layer's rules with the written part K by name (for blocks of comprehensions), defs called, built-ins. -/
namespace Lf
open PySem PySem.Spec PyProof.Rows L2

section
variable {X : Cx} {K : PySem.W.Frag}
theorem w_ixT (h : X.K = K := by rfl) : IxR X (rIxT K) := h ▸ ix_tup
theorem w_ixL (h : X.K = K := by rfl) : IxR X (rIxL K) := h ▸ ix_list
theorem w_slT (h : X.K = K := by rfl) : SlR X (rSlA K) := h ▸ sl_tupA
theorem w_slL (h : X.K = K := by rfl) : SlR X (rSlL K) := h ▸ sl_list
theorem w_eqD (hu : X.A.units + 64 < cLine) (h : X.K = K := by rfl) : OpR X (compareOp .Eq) (rEqD K) := h ▸ op_eqD hu
theorem w_neD (hu : X.A.units + 64 < cLine) (h : X.K = K := by rfl) : OpR X (compareOp .NotEq) (rNeD K) := h ▸ op_neD hu
theorem w_inD (hu : X.A.units + 65 < cLine) (h : X.K = K := by rfl) : OpR X (compareOp .In) (rInD K) := h ▸ op_inD hu
theorem w_notInD (hu : X.A.units + 65 < cLine) (h : X.K = K := by rfl) : OpR X (compareOp .NotIn) (rNotInD K) := h ▸ op_notInD hu
theorem w_in (h : X.K = K := by rfl) : OpR X (compareOp .In) (rIn K false) := h ▸ op_in_seq
theorem w_notIn (h : X.K = K := by rfl) : OpR X (compareOp .NotIn) (rIn K true) := h ▸ op_notIn_seq
theorem w_cat (h : X.K = K := by rfl) : OpR X (binaryOp .Add) (rCatA K) := h ▸ op_catA
/-- len(s), list(s), tuple(s) -/
def rLen (K : PySem.W.Frag) : List V → Hp → VK → Prop := fun xs H Q => ∃ p ys, xs = [.ref p] ∧ (SqL K H p ys ∨ SqT K H p ys) ∧ Q (.int ys.length) H
def rLst (K : PySem.W.Frag) : List V → Hp → VK → Prop := fun xs H Q => ∃ p ys, xs = [.ref p] ∧ (SqL K H p ys ∨ SqT K H p ys) ∧ ∀ l, H l = none → Q (.ref l) (upd H l (.lst ys))
def rTup (K : PySem.W.Frag) : List V → Hp → VK → Prop := fun xs H Q => ∃ p ys, xs = [.ref p] ∧ ((SqL K H p ys ∧ ∀ l, H l = none → Q (.ref l) (upd H l (.tup ys))) ∨ (SqT K H p ys ∧ Q (.ref p) H))
theorem w_len (h : X.K = K := by rfl) : CallR X (.builtin "len") (rLen K) := by subst h; exact call_len_seq
theorem w_list (h : X.K = K := by rfl) : CallR X (.type "list") (rLst K) := by subst h; exact call_list_of
theorem w_tuple (h : X.K = K := by rfl) : CallR X (.type "tuple") (rTup K) := by subst h; exact call_tuple_of
theorem w_all (hc : X.calm = true) (h : X.K = K := by rfl) : CallR X (.builtin "all") (rAll K) := by subst h; exact cr_all hc
theorem w_isi (h : X.K = K := by rfl) : CallR X (.builtin "isinstance") (rIsi K) := by subst h; exact call_isi
def rDictP (K : PySem.W.Frag) : List V → Hp → VK → Prop := fun xs H Q => ∃ (a : Addr) (ps : List Addr) (kvs : List (Key × V)), xs = [.ref a] ∧ SqL K H a (ps.map V.ref) ∧ Paired (fun p kv => SqT K H p [kV kv.1, kv.2]) ps kvs ∧ ∀ p, H p = none → Q (.ref p) (upd H p (.dK (mergeK [] kvs)))
theorem w_dictP (hc : X.calm = true) (h : X.K = K := by rfl) : CallR X (.type "dict") (rDictP K) := by subst h; exact call_dictP hc
def rAbs : List V → Hp → VK → Prop := fun xs H Q => ∃ i, xs = [.int i] ∧ Q (.int (if i < 0 then -i else i)) H
theorem w_abs : CallR X (.builtin "abs") rAbs := call_abs
def rInt : List V → Hp → VK → Prop := fun xs H Q => (∃ i, xs = [.int i] ∧ Q (.int i) H) ∨ ∃ k, xs = [.bl k] ∧ Q (.int (if k then 1 else 0)) H
theorem w_int : CallR X (.type "int") rInt := call_int1
variable {tg l e : Expr} {tl te : TE} {ta : TA} {es : List Expr}
theorem w_piT (hl : PE X l tl) (h : X.K = K := by rfl) : PI X tg l (iTup K tl) := h ▸ pi_tup hl
theorem w_piL (hl : PE X l tl) (h : X.K = K := by rfl) : PI X tg l (iList K tl) := h ▸ pi_list hl
theorem w_pg {t : TGs} {n k : Nat} {pos : Pos} (hc : X.calm = true) (hp : PGs X es t) (hn : (assignEach es X.env).length = n := by rfl) (hst : (assignEach es X.env).findIdx? (·.1) = none := by rfl) (h : X.K = K := by rfl) : PG X (.Tuple es k pos) (gTup K n t) := h ▸ pg_tup hc hp hn hst
theorem w_zip {e2 : Expr} {elts : List Expr} {kk : Nat} {tpos p pos : Pos} (hg : Gl X "zip") (hm : X.mg "zip" = none) (ha : PA X [e, e2] ta) (h : X.K = K := by rfl) (hs : starEach [e, e2] X.env = (false, eval e X.env) :: starEach [e2] X.env := by rfl) (hpl : (backTo pos (starEach [e2] X.env)).any (·.1) = false := by rfl) : PI X (.Tuple elts kk tpos) (.Call (.Name "zip" p) [e, e2] [] pos) (RZ.iZipA K ta) := by
  subst h
  exact RZ.pi_zipA hg hm ha hs hpl
end

/-! ### defs called -/
/-- the def x stands, and keeps the promise sp, at level k -/
structure Cal (P : Program) (w : World) (K : PySem.W.Frag) (mg : Str → Option Value) (base : Heap) (x : Str) (ps : List Str) (k : Nat) (sp : Sp) : Prop where
  ex : ∃ (f : Addr) (fd : FuncData), FnOk P w K mg base CX0 k f fd ps sp ∧ mg x = some (.ref f) ∧ PySem.W.keepIn K (.ref f) = true ∧ Binds K fd ps []
theorem pe_cal {X : Cx} {x : Str} {ps : List Str} {k : Nat} {sp : Sp} {e : Expr} {es : List Expr} {t : TA} {p pos : Pos} (C : Cal X.prog X.w X.K X.mg X.base x ps k sp) (hr : Room k X.A) (hg : Gl X x) (ha : PA X (e :: es) t)
    (hdb : (x == ("__debug__" : Str)) = false := by decide) (he : starEach (e :: es) X.env = (false, eval e X.env) :: starEach es X.env := by rfl) (hpl : (backTo pos (starEach es X.env)).any (·.1) = false := by rfl) :
    PE X (.Call (.Name x p) (e :: es) [] pos) (tCall sp [] E0 t) := by
  obtain ⟨f, fd, F, hm, hk, hb⟩ := C.ex
  exact pe_call F hr hg hm hk hb .nil pass0 ha hdb he hpl
/-- f(k = v, ..), keywords alone -/
structure CalK (P : Program) (w : World) (K : PySem.W.Frag) (mg : Str → Option Value) (base : Heap) (x : Str) (ps : List Str) (k : Nat) (sp : Sp) (ks : List Str) (gV : List V → List V → List V) : Prop where
  ex : ∃ (f : Addr) (fd : FuncData) (g : List Value → List Value → List Value), FnOk P w K mg base CX0 k f fd ps sp ∧ mg x = some (.ref f) ∧ PySem.W.keepIn K (.ref f) = true ∧ KBinds K fd ps ks g gV
theorem pe_calK {X : Cx} {x : Str} {ps ks : List Str} {k : Nat} {sp : Sp} {gV : List V → List V → List V} {kws : List Keyword} {tk : TA} {p pos : Pos} (C : CalK X.prog X.w X.K X.mg X.base x ps k sp ks gV) (hr : Room k X.A) (hg : Gl X x) (hkw : PK X kws tk)
    (hall : (backToKw pos (keywordEach kws X.env)).all (·.1.isSome) = true := by rfl) (hks : (backToKw pos (keywordEach kws X.env)).filterMap (·.1) = ks := by rfl) (hdb : (x == ("__debug__" : Str)) = false := by decide)
    (hpl : ((backTo pos (starEach [] X.env)).any (·.1) || (backToKw pos (keywordEach kws X.env)).any (·.1.isNone)) = false := by rfl) :
    PE X (.Call (.Name x p) [] kws pos) (tCallK sp gV E0 tNil tk) := by
  obtain ⟨f, fd, g, F, hm, hk, hb⟩ := C.ex
  refine ⟨fun pins s σ H Q I h => ?_⟩
  refine wpAny_Call_Name_kw (ld_glob I hg hm ?_ hdb)
  refine PySem.W.callWith_KW0 (h₀ := X.base) I.ok.mod.kin hk hall ?_ hpl
  refine thn (hkw.run pos pins s σ H _ I h) fun ws s2 ⟨zs, H2, I2, rz, q2⟩ => ⟨I2.kIn, ?_⟩
  rw [hks]
  exact run_fnk (us := []) (vs := []) F hr hb pass0 I2 .nil rz q2

/-- what the module's names are -/
structure Mg (K : PySem.W.Frag) (mg : Str → Option Value) : Prop where
  len : mg "len" = none
  tup : mg "tuple" = none
  lst : mg "list" = none
  dct : mg "dict" = none
  srt : mg "sorted" = none
  all : mg "all" = none
  zip : mg "zip" = none
  enu : mg "enumerate" = none
  rng : mg "range" = none
  isi : mg "isinstance" = none
  abs : mg "abs" = none
  int : mg "int" = none
  bool : mg "bool" = none
  repr : mg "repr" = none
  gcd : mg "gcd" = some (.builtin "math.gcd")
  zero : ∃ z : Addr, mg "ZERO" = some (.ref z) ∧ ∀ H, Dt K H (.ref z) (.tuple [.int 0, .int 1])

/-! ### what they evaluate to -/
section
variable {T : Tabl} {K : PySem.W.Frag} {σ : L2.St} {H H' : Hp} {ta tb tc te : TE} {d e : PyData} {ds es : List PyData}
theorem ev_len (h : EvD T K ta σ H (.tuple ds)) : EvD T K (tCB (rLen K) (tCons ta tNil)) σ H (.int (ds.length : Int)) := fun H1 a Q q =>
  h H1 a _ fun v H2 a2 hv => by
    cases hv with
    | tup hs hd =>
      rename_i p xs
      refine ⟨p, xs, rfl, .inr hs, ?_⟩
      rw [hd.length]
      exact q _ H2 a2 (.int _)
theorem ev_tupL (h : EvL T K ta σ H ds) : EvD T K (tCB (rTup K) (tCons ta tNil)) σ H (.tuple ds) := ev_tupleL rfl h
theorem ev_tupT (h : EvD T K ta σ H (.tuple ds)) : EvD T K (tCB (rTup K) (tCons ta tNil)) σ H (.tuple ds) := fun H1 a Q q =>
  h H1 a _ fun v H2 a2 hv => by
    cases hv with
    | tup hs hd =>
      rename_i p xs
      exact ⟨p, xs, rfl, .inr ⟨hs, q _ H2 a2 (.tup hs hd)⟩⟩
theorem bools_of : ∀ {vs : List V} {bs : List Bool}, Dts K H vs (bs.map PyData.bool) → vs = bs.map V.bl
  | [], [], _ => rfl
  | _ :: _, [], h => by cases h
  | [], _ :: _, h => by cases h
  | v :: vs, b :: bs, h => by
    cases h with
    | cons h1 h2 =>
      cases h1
      exact congrArg _ (bools_of h2)
theorem ints_of : ∀ {vs : List V} {ns : List Int}, Dts K H vs (ns.map PyData.int) → vs = ns.map V.int
  | [], [], _ => rfl
  | _ :: _, [], h => by cases h
  | [], _ :: _, h => by cases h
  | v :: vs, b :: bs, h => by
    cases h with
    | cons h1 h2 =>
      cases h1
      exact congrArg _ (ints_of h2)
theorem ev_all {bs : List Bool} (h : EvL T K ta σ H (bs.map PyData.bool)) : EvD T K (tCB (rAll K) (tCons ta tNil)) σ H (.bool (bs.all id)) := fun H1 a Q q =>
  h H1 a _ fun p vs H2 a2 n e hv => by
    have ev := bools_of hv
    subst ev
    exact ⟨p, bs, rfl, SqL.of e, q _ H2 a2 (.bl _)⟩
theorem ev_abs {i : Int} (h : EvD T K ta σ H (.int i)) : EvD T K (tCB rAbs (tCons ta tNil)) σ H (.int (if i < 0 then -i else i)) := fun H1 a Q q =>
  h H1 a _ fun v H2 a2 hv => by
    cases hv
    exact ⟨i, rfl, q _ H2 a2 (.int _)⟩
theorem ev_int1 {i : Int} (h : EvD T K ta σ H (.int i)) : EvD T K (tCB rInt (tCons ta tNil)) σ H (.int i) := fun H1 a Q q =>
  h H1 a _ fun v H2 a2 hv => by
    cases hv
    exact .inl ⟨i, rfl, q _ H2 a2 (.int _)⟩
theorem ev_gcd {i j : Int} (ha : EvD T K ta σ H (.int i)) (hb : EvD T K tb σ H (.int j)) : EvD T K (tCB rGcd (tCons ta (tCons tb tNil))) σ H (.int ((Nat.gcd i.natAbs j.natAbs : Nat) : Int)) := fun H1 a Q q =>
  ha H1 a _ fun v H2 a2 hv => hb H2 (a.trans a2) _ fun u H3 a3 hu => by
    cases hv; cases hu
    exact ⟨i, j, rfl, q _ H3 (a2.trans a3) (.int _)⟩
/-- an int in a tuple of ints -/
theorem inV_ints (i : Int) : ∀ ns : List Int, inV (.int i) (ns.map V.int) = decide (i ∈ ns)
  | [] => by simp [inV]
  | n :: ns => by
    have ih := inV_ints i ns
    unfold inV at *
    rw [List.map_cons, List.any_cons, ih]
    have e : eqV (.int n) (.int i) = (n == i) := rfl
    rw [e, Bool.eq_iff_iff]
    simp only [Bool.or_eq_true, decide_eq_true_eq, List.mem_cons, beq_iff_eq]
    exact ⟨fun h => h.elim (fun z => .inl z.symm) .inr, fun h => h.elim (fun z => .inl z.symm) .inr⟩
theorem flat_ints : ∀ ns : List Int, (ns.map V.int).all flatV = true
  | [] => rfl
  | _ :: ns => by rw [List.map_cons, List.all_cons, flat_ints ns]; rfl
theorem ev_in {i : Int} {ns : List Int} (ha : EvD T K ta σ H (.int i)) (hb : EvD T K tb σ H (.tuple (ns.map PyData.int))) : EvD T K (tOp (rIn K false) ta tb) σ H (.bool (decide (i ∈ ns))) := fun H1 a Q q =>
  ha H1 a _ fun v H2 a2 hv => hb H2 (a.trans a2) _ fun u H3 a3 hu => by
    cases hv
    cases hu with
    | tup hs hd =>
      rename_i p xs
      have e := ints_of hd
      subst e
      refine ⟨p, _, rfl, .inr hs, rfl, flat_ints ns, ?_⟩
      rw [if_neg Bool.false_ne_true, inV_ints]
      exact q _ H3 (a2.trans a3) (.bl _)
theorem ev_notIn {i : Int} {ns : List Int} (ha : EvD T K ta σ H (.int i)) (hb : EvD T K tb σ H (.tuple (ns.map PyData.int))) : EvD T K (tOp (rIn K true) ta tb) σ H (.bool (!decide (i ∈ ns))) := fun H1 a Q q =>
  ha H1 a _ fun v H2 a2 hv => hb H2 (a.trans a2) _ fun u H3 a3 hu => by
    cases hv
    cases hu with
    | tup hs hd =>
      rename_i p xs
      have e := ints_of hd
      subst e
      refine ⟨p, _, rfl, .inr hs, rfl, flat_ints ns, ?_⟩
      rw [if_pos rfl, inV_ints]
      exact q _ H3 (a2.trans a3) (.bl _)
/-- a list of ints at a -/
theorem ev_notInL {i : Int} {ns : List Int} {p : Addr} (ha : EvD T K ta σ H (.int i)) (hb : ∀ H1, Le T H H1 → ∀ Q : VK, Q (.ref p) H1 → tb σ H1 Q) (hp : ∀ H1, Le T H H1 → SqL K H1 p (ns.map V.int)) : EvD T K (tOp (rIn K true) ta tb) σ H (.bool (!decide (i ∈ ns))) := fun H1 a Q q =>
  ha H1 a _ fun v H2 a2 hv => hb H2 (a.trans a2) _ (by
    cases hv
    refine ⟨p, _, rfl, .inl (hp H2 (a.trans a2)), rfl, flat_ints ns, ?_⟩
    rw [if_pos rfl, inV_ints]
    exact q _ H2 a2 (.bl _))
/-- t + u -/
theorem ev_cat (ha : EvD T K ta σ H (.tuple ds)) (hb : EvD T K tb σ H (.tuple es)) (hl : ds.length + es.length ≤ 100000) : EvD T K (tOp (rCatA K) ta tb) σ H (.tuple (ds ++ es)) := fun H1 a Q q =>
  ha H1 a _ fun v H2 a2 hv => hb H2 (a.trans a2) _ fun u H3 a3 hu => by
    have hv3 := hv.mono a3.tk
    cases hv3 with
    | tup hs hd =>
      rename_i p xs
      cases hu with
      | tup ks kd =>
        rename_i r ys
        refine ⟨p, r, xs, ys, rfl, rfl, hs, ks, ?_, fun e => ?_, fun _ e => ?_, fun _ _ b hb => ?_⟩
        · rw [hd.length, kd.length]; exact Nat.le_trans hl (by decide)
        · subst e
          cases hd
          exact q _ H3 (a2.trans a3) (.tup ks kd)
        · subst e
          cases kd
          rw [List.append_nil] at q
          exact q _ H3 (a2.trans a3) (.tup hs hd)
        · have n := Le.new (o := .tup (xs ++ ys)) a3.tab hb
          exact q _ _ ((a2.trans a3).trans n) (.new upd_same ((hd.append kd).mono n.tk))
/-- slices -/
def cutD (ds : List PyData) (lo hi : Option Int) : List PyData := (ds.drop (HT.sIx ds.length 0 lo)).take (HT.sIx ds.length ds.length hi - HT.sIx ds.length 0 lo)
def EvO (T : Tabl) (to : TO) (σ : L2.St) (H : Hp) (o : Option Int) : Prop := ∀ H1, Le T H H1 → ∀ Q : Option Int → Hp → Prop, (∀ H2, Le T H1 H2 → Q o H2) → to σ H1 Q
theorem eo_none : EvO T tNoPart σ H none := fun H1 a Q q => q H1 (Le.refl a.tab)
theorem eo_some {i : Int} (h : EvD T K te σ H (.int i)) : EvO T (tPart te) σ H (some i) := fun H1 a Q q => h H1 a _ fun v H2 a2 hv => by
  cases hv
  exact ⟨i, rfl, q H2 a2⟩
theorem ev_sl {tl th : TO} {lo hi : Option Int} (h : EvD T K te σ H (.tuple ds)) (h1 : EvO T tl σ H lo) (h2 : EvO T th σ H hi) : EvD T K (tSl (rSlA K) te tl th) σ H (.tuple (cutD ds lo hi)) := fun H1 a Q q =>
  h H1 a _ fun v H2 a2 hv => h1 H2 (a.trans a2) _ fun H3 a3 => h2 H3 ((a.trans a2).trans a3) _ fun H4 a4 => by
    have hv4 := hv.mono (a3.tk.trans a4.tk)
    have a24 := (a2.trans a3).trans a4
    cases hv4 with
    | tup hs hd =>
      rename_i p xs
      refine ⟨p, xs, rfl, hs, fun e => ?_, fun _ b hb => ?_⟩
      · rw [hd.length] at e
        have e2 : cutD ds lo hi = ds := by
          unfold cutD
          rw [e.1, e.2]
          simp
        rw [e2] at q
        exact q _ H4 a24 (.tup hs hd)
      · have n := Le.new (o := .tup (cutV xs lo hi)) a4.tab hb
        refine q _ _ (a24.trans n) (.new upd_same ?_)
        have hd' := hd.mono n.tk
        unfold cutD
        have e1 : cutV xs lo hi = (xs.drop (HT.sIx ds.length 0 lo)).take (HT.sIx ds.length ds.length hi - HT.sIx ds.length 0 lo) := by
          unfold cutV
          rw [hd.length]
        have hd2 := (hd'.drop (HT.sIx ds.length 0 lo)).take (HT.sIx ds.length ds.length hi - HT.sIx ds.length 0 lo)
        rw [← e1] at hd2
        exact hd2
end
end Lf
end

section
set_option maxRecDepth 100000
set_option maxHeartbeats 2000000
/-! Rules that the layer lacks: a tuple made of a list, known to its object; dict(t) of such a tuple of pairs; enumerate(t) of a tuple. -/
namespace Lf
open PySem PySem.Spec PyProof.Rows L2

/-- x is a tuple that is known to its object, which has no dict -/
def Fz (H : Hp) (x : V) : Prop := ∃ (a : Addr) (o : Obj) (xs : List V), x = .ref a ∧ H a = some (.frz o (.tup xs)) ∧ o.dict = none
theorem Fz.ext {H H' : Hp} {x : V} (h : Fz H x) (e : LamX.ExtN H H') : Fz H' x := by
  obtain ⟨a, o, xs, h1, h2, h3⟩ := h
  exact ⟨a, o, xs, h1, e a _ h2 (fun _ z => (by cases z)), h3⟩
/-- tuple(l): the new tuple is known to its object -/
def rTupF (K : PySem.W.Frag) : List V → Hp → VK → Prop := fun xs H Q => ∃ p ys, xs = [.ref p] ∧ SqL K H p ys ∧ ∀ (l : Addr) (o : Obj), H l = none → o.dict = none → Q (.ref l) (upd H l (.frz o (.tup ys)))
section
variable {X : Cx} {K : PySem.W.Frag}
theorem w_tupleF (hK : X.K = K := by rfl) : CallR X (.type "tuple") (rTupF K) := by
  subst hK
  intro pins s σ H xs us Q I r h
  obtain ⟨p, ys, rfl, hq, q⟩ := h
  obtain ⟨u, rfl, rx⟩ := vals1 r
  cases rx
  obtain ⟨its, r', pl, hz⟩ := I.list hq
  have hlen := r'.length
  refine call_tuple_list pl.isList (fun h' kp => ?_) (by simp only [List.size_toArray] <;> omega)
  have I1 : Inv X pins σ H { s with heap := h' } := I.kept (t' := s.toks) kp
  have new : ObjOk X.prog X.w (upd H h'.objs.size (.frz { cls := .type "tuple", data := .seq its.toArray } (.tup ys))) (h'.push { cls := .type "tuple", data := .seq its.toArray }) h'.objs.size (.frz { cls := .type "tuple", data := .seq its.toArray } (.tup ys)) :=
    ⟨Heap.get?_push_size _ rfl, hz, its, r', IsTup.new _ _⟩
  exact ⟨.ref h'.objs.size, _, I1.laid (t' := s.toks) (fun b o e => Heap.get?_push_of_some _ e) (Nat.le_refl _) new, rfl, q _ _ (I1.hok.fresh (Nat.le_refl _)) rfl⟩

/-- dict(t), t a tuple of pairs that is known to its object -/
def rDictT (K : PySem.W.Frag) : List V → Hp → VK → Prop := fun xs H Q => ∃ (a : Addr) (o : Obj) (ps : List Addr) (kvs : List (Key × V)), xs = [.ref a] ∧ H a = some (.frz o (.tup (ps.map V.ref))) ∧ o.dict = none ∧ Paired (fun p kv => SqT K H p [kV kv.1, kv.2]) ps kvs ∧ ∀ p, H p = none → Q (.ref p) (upd H p (.dK (mergeK [] kvs)))
/-- the pairs, as the tuples stand -/
theorem prs_of {pins : List (Addr × Obj)} {σ : L2.St} {H : Hp} {s : Shared} (I : Inv X pins σ H s) : ∀ {ps : List Addr} {kvs : List (Key × V)}, Paired (fun p kv => SqT X.K H p [kV kv.1, kv.2]) ps kvs →
    ∃ (prs : List (Key × Value)) (us : List Value), KV kvs prs ∧ prs.length = ps.length ∧ us.length = ps.length ∧ (∀ (j : Nat) (k v : Value), (us.zip (prs.map Prod.snd))[j]? = some (k, v) → ∃ (b : Addr) (q : Key × Value), ps[j]? = some b ∧ prs[j]? = some q ∧ s.heap.IsTuple b #[k, v] ∧ q.2 = v ∧ keyIs q.1 k = true)
  | _, _, .nil => ⟨[], [], .nil, rfl, rfl, fun j k v e => by simp at e⟩
  | _, _, .cons (a := p) (b := kv) h t => by
    obtain ⟨prs, us, r, hl, hu, hp⟩ := prs_of I t
    obtain ⟨its, rv, ht, _⟩ := I.tuple h
    obtain ⟨u, y, ei, ru, ry⟩ := vals2 rv
    subst ei
    refine ⟨(kv.1, y) :: prs, u :: us, .cons ⟨rfl, ry⟩ r, by rw [List.length_cons, List.length_cons, hl], by rw [List.length_cons, List.length_cons, hu], fun j k v e => ?_⟩
    cases j with
    | zero =>
      have e' : (u, y) = (k, v) := Option.some.inj e
      cases e'
      exact ⟨p, (kv.1, y), rfl, rfl, ht, rfl, kV_is (P := X.prog) (w := X.w) ru⟩
    | succ j =>
      obtain ⟨b, q, e1, e2, e3, e4, e5⟩ := hp j k v (by simpa using e)
      exact ⟨b, q, by simpa using e1, by simpa using e2, e3, e4, e5⟩
theorem w_dictT (hcalm : X.calm = true) (hK : X.K = K := by rfl) : CallR X (.type "dict") (rDictT K) := by
  subst hK
  intro pins s σ H xs us Q I r q
  obtain ⟨a, o, ps, kvs, rfl, ha, hod, hp, q⟩ := q
  obtain ⟨u, rfl, rx⟩ := vals1 r
  cases rx
  obtain ⟨ho, hz, its, rv, hT⟩ := I.hok a _ ha
  have ei := refs_at rv
  subst ei
  rw [List.length_map] at hz
  obtain ⟨prs, us, rel, hl, hu, hpr⟩ := prs_of I hp
  obtain ⟨o', ho', hc, n, hdat⟩ := hT
  rw [ho] at ho'
  cases ho'
  have hzl : (us.zip (prs.map Prod.snd)).length = ps.length := by simp [hu, hl]
  have P := PairArg.tuple (prog := X.prog) (w := X.w) a (ps.map Value.ref).toArray (fun j => ps.getD j 0) (us.zip (prs.map Prod.snd))
  refine call_dict_pairs (knd := mixKind X.prog X.w) (kvs := prs) P (I.ok.hd hcalm) ⟨⟨o, n, ho, hc, hod, hdat⟩, by simp [hu, hl], fun j k v e => ?_⟩ ?_ (by rw [hzl]; exact hz) fun h' tk hd' k => ?_
  · obtain ⟨b, q', e1, _, e3, _, _⟩ := hpr j k v e
    have eb : ps.getD j 0 = b := by rw [List.getD_eq_getElem?_getD, e1]; rfl
    refine ⟨?_, .inl ?_⟩
    · show (List.map Value.ref ps).toArray[j]? = some (Value.ref (ps.getD j 0))
      rw [eb]; simp [e1]
    · show s.heap.IsTuple (ps.getD j 0) #[k, v]
      rw [eb]; exact e3
  · refine ⟨by rw [hl, hzl], fun i key v e => ?_⟩
    obtain ⟨b, q', e1, e2, e3, e4, e5⟩ := hpr i key v e
    exact ⟨q'.1, by rw [e2, ← e4], e5⟩
  · have hm : (s.heap.objs.size == sysModules) = false := beq_eq_false_iff_ne.mpr (Nat.ne_of_gt I.big)
    have hlen : (mergeK [] kvs).length ≤ sizeLine := by
      refine Nat.le_trans (length_mergeK kvs []) ?_
      rw [List.length_nil, Nat.zero_add, rel.length, hl]
      exact hz
    exact ⟨.ref s.heap.objs.size, upd H s.heap.objs.size (.dK (mergeK [] kvs)), I.laid (t' := tk) (fun b o e => k b o (by simp) e) (Nat.le_refl _) (show ObjOk X.prog X.w _ _ _ (.dK (mergeK [] kvs)) from ⟨hlen, hm, merged [] prs, KV.merge rel .nil, hd'⟩), rfl, q _ (I.hok.fresh (Nat.le_refl _))⟩

/-! ### enumerate(t) -/
def IteT (K : PySem.W.Frag) (a : Addr) : It :=
  ⟨fun i H => ∃ (xs : List V) (x : V), SqT K H a xs ∧ xs[i]? = some x, fun i H v H' => ∃ T x, v = .ref T ∧ H T = none ∧ H' = upd H T (.tup [.int (i : Nat), x]) ∧ ∀ xs, SqT K H a xs → xs[i]? = some x, fun i H => ∃ xs : List V, SqT K H a xs ∧ xs.length = i⟩
theorem turn_enumT {P : Program} {w : World} {K : PySem.W.Frag} {elts : List Expr} {kk : Nat} {tpos : Pos} (a e it : Addr) :
    Turn P w K (.Tuple elts kk tpos) (IteT K a) [e, it] e (fun i h => (∃ old, IsEnum h e it ((i : Nat) : Int) old) ∧ h.IsTupleIter it a i ∧ e ≠ it) where
  mem := by simp
  obj := fun i h st b hb => by
    obtain ⟨⟨old, he⟩, ⟨o, ho, hc, hd⟩, _⟩ := st
    have e' : b = e ∨ b = it := by simpa using hb
    rcases e' with z | z
    · rw [z]; exact ⟨_, he, fun v q => nomatch q⟩
    · rw [z]; exact ⟨o, ho, fun v q => by rw [hd] at q; cases q⟩
  keep := fun i h h' st k => let ⟨⟨old, he⟩, hi, hne⟩ := st; ⟨⟨old, k e (by simp) _ he⟩, hi.at fun o q => k it (by simp) o q, hne⟩
  item := by
    intro X hP hw hK hc i pins s σ H E I hf st hg
    subst hP hw hK
    obtain ⟨⟨old, he⟩, hit, hne⟩ := st
    obtain ⟨xs, x, hq, hx⟩ := hg
    obtain ⟨its, rv, p, hz⟩ := I.tuple hq
    obtain ⟨u, hu, ru⟩ := rv.get hx
    have hel : e < s.heap.objs.size := Heap.lt_size he
    have hil : it < s.heap.objs.size := by obtain ⟨_, q, _⟩ := hit; exact Heap.lt_size q
    have hai : a ≠ it := fun z => by
      obtain ⟨o1, q1, c1, _⟩ := hit
      obtain ⟨o2, q2, c2, _⟩ := p
      rw [z, q1] at q2
      cases q2
      rw [c1] at c2
      exact absurd c2 (by decide)
    have hae : e ≠ a := fun z => by
      obtain ⟨o2, q2, c2, _⟩ := p
      have he' : s.heap.get? e = some _ := he
      rw [z, q2] at he'
      cases he'
      have c3 : Value.type "enumerate" = Value.type "tuple" := c2
      exact absurd (Value.type.inj c3) (by decide)
    have D := Draws.tuple (prog := X.prog) (w := X.w) (A := X.A.in1) (show X.A.in1.handled = none from I.ok.hd hc) it a hai its.toArray
    have hef : e ∉ [it, a] := by simp [hne, hae]
    have hlt : i < its.toArray.size := by
      have := (List.getElem?_eq_some_iff.mp hu).1
      simpa using this
    refine wpAny_pyNext_enum_itemD D he ⟨hit, p⟩ hlt hne hef fun x' h' tk hP ho hst hT hsz hk => ?_
    have ex : x' = u := by
      have q1 : its.toArray[i]? = some x' := hP
      have q2 : its.toArray[i]? = some u := by simpa using hu
      rw [q1] at q2
      exact Option.some.inj q2
    subst ex
    refine ⟨_, rfl, wpAny_letOwnedTupleGo_enum (s := { s with heap := h', toks := tk + 1 }) ho fun h'' he' sb => ?_⟩
    have hT2 : h''.get? s.heap.objs.size = some { cls := .type "tuple", data := .seq #[.int i tk, x'] } := (sb.2 _ (Nat.ne_of_gt hel)).trans hT
    have new : ObjOk X.prog X.w (upd H s.heap.objs.size (.tup [.int (i : Nat), x])) h'' s.heap.objs.size (.tup [.int (i : Nat), x]) :=
      ⟨by show 2 ≤ sizeLine; decide, [.int i tk, x'], .cons ⟨_, rfl⟩ (.cons ru .nil), ⟨_, hT2, rfl, _, rfl⟩⟩
    have I1 : Inv X pins σ (upd H s.heap.objs.size (.tup [.int (i : Nat), x])) { s with heap := h'', toks := tk + 1 } :=
      I.turnedNew (ch := [e, it]) (fun b ob hb q => (sb.2 b (fun z => hb (by simp [z]))).trans (hk b ob (fun z => hb (by simp [z])) (fun z => hb (by simp [z])) q)) hf (Nat.le_refl _) new
    refine ⟨.ref s.heap.objs.size, _, I1, rfl, ⟨_, x, rfl, I.hok.fresh (Nat.le_refl _), rfl, fun ys hy => by rw [I.tuple_inj hy hq]; exact hx⟩, ⟨⟨x', ?_⟩, hst.1.at fun o q => (sb.2 it (Ne.symm hne)).trans q, hne⟩, fun b hb => ?_⟩
    · have e1 : ((i + 1 : Nat) : Int) = (i : Int) + 1 := by omega
      rw [e1]; exact he'
    · have hb' : b < s.heap.objs.size := by
        have e' : b = e ∨ b = it := by simpa using hb
        rcases e' with z | z
        · rw [z]; exact hel
        · rw [z]; exact hil
      rw [upd_ne (Nat.ne_of_lt hb')]
      exact (hf b hb).1
  done := by
    intro X hP hw hK hc i pins s σ H E I hf st hg
    subst hP hw hK
    obtain ⟨⟨old, he⟩, hit, hne⟩ := st
    obtain ⟨xs, hq, hx⟩ := hg
    obtain ⟨its, rv, p, hz⟩ := I.tuple hq
    obtain ⟨f0, f1, f2, f3, f4, f5⟩ := hf it (by simp)
    have hl := rv.length
    have hai : a ≠ it := fun z => by
      obtain ⟨o1, q1, c1, _⟩ := hit
      obtain ⟨o2, q2, c2, _⟩ := p
      rw [z, q1] at q2
      cases q2
      rw [c1] at c2
      exact absurd c2 (by decide)
    have D := Draws.tuple (prog := X.prog) (w := X.w) (A := X.A.in1) (show X.A.in1.handled = none from I.ok.hd hc) it a hai its.toArray
    have en : i = its.toArray.size := by rw [List.size_toArray, ← hl, hx]
    exact wpAny_pyNext_enum_endD D he (by rw [← en]; exact ⟨hit, p⟩) fun h' eb => ⟨rfl, I.turned (t' := s.toks) (fun b o hb q => eb b o hb q) f0 f1 f3 f4 f5⟩
  self := fun A i s Q E st h => let ⟨⟨_, he⟩, _⟩ := st; wpAny_pyIter_enum he h
theorem meets_enum_newT (t : Addr) (items : Array Value) :
    Meets (Builtin.«enumerate.__new__» ⟨[.type "enumerate", .ref t], []⟩) (fun _ R s => s.heap.IsTuple t items ∧
      R (.ok (.ret (.ref (s.heap.push { cls := .type "tuple_iterator", data := .fields #[.ref t, .int 0 0] }).objs.size))) { s with heap := (s.heap.push { cls := .type "tuple_iterator", data := .fields #[.ref t, .int 0 0] }).push { cls := .type "enumerate", data := .fields #[.none, .bool false, .ref s.heap.objs.size, rawInt 0, .none, .none] } }) :=
  .of_wp fun prog w A R s h => by
    obtain ⟨hp, g, d, tk, os⟩ := s
    obtain ⟨h1, h⟩ := h
    have hsub := sub_enumerate
    have q1 : ∀ {A' : Around} {E : Value → Shared → Prop} {Q : Value → Shared → Prop}, Q (.ref hp.objs.size) ⟨hp.push { cls := .type "tuple_iterator", data := .fields #[.ref t, .int 0 0] }, g, d, tk, os⟩ → wpAny (model prog w) A' (pyIter (.ref t)) Q E ⟨hp, g, d, tk, os⟩ :=
      fun q => wpAny_pyIter_tuple (s := ⟨hp, g, d, tk, os⟩) h1 q
    wp_walk using q1
    refine wpAny_stack_any fun st => wpAny_pure ?_
    split
    · rename_i c _ _ _ _ _
      cases (c == Value.type "enumerate")
      · wp_walk using q1
        exact ⟨_, rfl, h⟩
      · wp_walk using q1
        exact ⟨_, rfl, h⟩
    · wp_walk using q1
      exact ⟨_, rfl, h⟩
theorem call_enumT {prog : Program} {w : World} {A : Around} {E : Value → Shared → Prop} {s : Shared} {l : Addr} {items : Array Value} {Q : Value → Shared → Prop} (hL : s.heap.IsTuple l items)
    (h : ∀ h', IsEnum h' (s.heap.objs.size + 1) s.heap.objs.size 0 .none → h'.IsTupleIter s.heap.objs.size l 0 → h'.objs.size = s.heap.objs.size + 2 →
      (∀ b o, s.heap.get? b = some o → h'.get? b = some o) → Q (.ref (s.heap.objs.size + 1)) { s with heap := h' }) :
    wpAny (model prog w) A (call (.type "enumerate") [.ref l]) Q E s := by
  refine callType_new F.called_enumerate (by decide) (F.typeCall_enumerate_1 _) (F.newCall_enumerate_1 _) (fun obj => F.args_object_init_2 obj _) F.entry_enumerate_new (meets_enum_newT l items) ⟨hL, ?_⟩
  have hz : (s.heap.push { cls := .type "tuple_iterator", data := .fields #[.ref l, .int 0 0] }).objs.size = s.heap.objs.size + 1 := Heap.size_push ..
  show _ ∧ _
  rw [hz]
  have he : IsEnum ((s.heap.push { cls := .type "tuple_iterator", data := .fields #[.ref l, .int 0 0] }).push
      { cls := .type "enumerate", data := .fields #[.none, .bool false, .ref s.heap.objs.size, rawInt 0, .none, .none] }) (s.heap.objs.size + 1) s.heap.objs.size 0 .none := by
    have := Heap.get?_push_size (s.heap.push { cls := .type "tuple_iterator", data := .fields #[.ref l, .int 0 0] })
      (o := { cls := .type "enumerate", data := .fields #[.none, .bool false, .ref s.heap.objs.size, rawInt 0, .none, .none] }) rfl
    rw [hz] at this; exact this
  refine ⟨⟨_, he, rfl⟩, h _ he ⟨_, Heap.get?_push_of_some _ (Heap.get?_push_size _ rfl), rfl, rfl⟩ (by rw [Heap.size_push, hz]) fun b o x => Heap.get?_push_of_some _ (Heap.get?_push_of_some _ x)⟩
def iEnumT (K : PySem.W.Frag) (ta : TA) : TI := fun σ H R => ta σ H fun vs H1 => ∃ a xs, vs = [.ref a] ∧ SqT K H1 a xs ∧ R (IteT K a) H1
theorem w_enumT {e : Expr} {ta : TA} {p pos tpos : Pos} {elts : List Expr} {kk : Nat} (hg : Gl X "enumerate") (hm : X.mg "enumerate" = none) (ha : PA X [e] ta) (hs : starEach [e] X.env = [(false, eval e X.env)] := by rfl) (hK : X.K = K := by rfl) :
    PI X (.Tuple elts kk tpos) (.Call (.Name "enumerate" p) [e] [] pos) (iEnumT K ta) := by
  subst hK
  refine ⟨fun pins s σ H R I h => ?_⟩
  refine Call_ (ld_blt I hg hm boot_enumerate (PyProof.Rows.callWith_type1 (thn (ha.run pos pins s σ H _ I h) fun us s1 ⟨vs, H1, I1, r1, q1⟩ => ?_) hs rfl))
  obtain ⟨a, xs, ex, hq, q⟩ := q1
  subst ex
  cases r1 with
  | cons r rr =>
    cases rr
    cases r
    obtain ⟨its, rv, p', hz⟩ := I1.tuple hq
    refine call_enumT p' fun h' he hit hsz hk => wpAny_pyIter_enum he ?_
    have I2 : Inv X pins σ H1 { s1 with heap := h' } := I1.kept (t' := s1.toks) hk
    refine ⟨s1.heap.objs.size + 1, [s1.heap.objs.size + 1, s1.heap.objs.size], _, _, H1, rfl, I2, turn_enumT a (s1.heap.objs.size + 1) s1.heap.objs.size, ⟨⟨.none, he⟩, hit, Nat.succ_ne_self _⟩, fun b hb => ?_, q⟩
    have e' : b = s1.heap.objs.size + 1 ∨ b = s1.heap.objs.size := by simpa using hb
    have hle : s1.heap.objs.size ≤ b := by
      rcases e' with z | z
      · rw [z]; exact Nat.le_add_right _ _
      · rw [z]; exact Nat.le_refl _
    exact I1.fpOk hle (I1.hok.fresh hle)
end
end Lf
end

section
set_option maxRecDepth 100000
set_option maxHeartbeats 2000000
/-! Rules that the layer lacks: t[::-1] of a tuple; sorted(d) of a dict with pairs of ints as keys; sorted(l) of triples by their first two ints. -/
namespace Lf
open PySem PySem.Spec PyProof.Rows L2 HT

/-! ### t[::-1] -/
section
variable {prog : Program} {w : World} {A : Around} {E : Value → Shared → Prop} {s : Shared}
theorem applied_rev {sl : Addr} {t : Tok} {n : Nat} {Q : Int × Int × Nat → Shared → Prop} (hs : s.heap.IsSliceOf sl .none .none (.int (-1) t)) (h : Q ((n : Int) - 1, -1, n) s) :
    wpAny (model prog w) A (Builtin.Slice.sliceApplied (.ref sl) (pure (n : Int))) Q E s := by
  obtain ⟨os, hos, hcs, hds⟩ := id hs
  unfold Builtin.Slice.sliceApplied Builtin.Slice.sliceFields
  refine wpAny_bind (wpAny_bind (wpAny_field hos hds (x := .none) rfl (wpAny_bind (wpAny_field hos hds (x := .none) rfl (wpAny_bind (wpAny_field hos hds (x := .int (-1) t) rfl (wpAny_pure ?_)))))))
  refine wpAny_bind (slicePart_int ?_)
  show wpAny _ _ (if ((-1 : Int) == 0) = true then _ else _) _ _ s
  rw [if_neg (by decide)]
  refine wpAny_bind (slicePart_none (wpAny_bind (slicePart_none (wpAny_bind (wpAny_pure ?_)))))
  show wpAny _ _ (match Builtin.Slice.sliceAdjust none none (-1) (n : Int) with | (lo, hi) => pure (lo, (-1 : Int), Builtin.Slice.slicePlaces lo hi (-1))) _ _ s
  have e : Builtin.Slice.sliceAdjust none none (-1) (n : Int) = ((n : Int) - 1, -1) := by first | rfl | simp [Builtin.Slice.sliceAdjust]
  rw [e]
  show wpAny _ _ (pure ((n : Int) - 1, (-1 : Int), Builtin.Slice.slicePlaces ((n : Int) - 1) (-1) (-1))) _ _ s
  have e2 : Builtin.Slice.slicePlaces ((n : Int) - 1) (-1) (-1) = n := by
    unfold Builtin.Slice.slicePlaces
    simp only [show ¬ ((-1 : Int) > 0) by decide, if_false, show (- -1 : Int) = 1 by decide, Int.ediv_one]
    split <;> omega
  rw [e2]
  exact wpAny_pure h
theorem fm_congr {α β : Type} {f g : α → Option β} : ∀ {l : List α}, (∀ m ∈ l, f m = g m) → l.filterMap f = l.filterMap g
  | [], _ => rfl
  | x :: l, h => by
    rw [List.filterMap_cons, List.filterMap_cons, h x List.mem_cons_self, fm_congr fun m hm => h m (List.mem_cons_of_mem _ hm)]
theorem pick_rev (xs : Array Value) : ((List.range xs.size).filterMap fun (m : Nat) => xs[((xs.size : Int) - 1 + (m : Int) * -1).toNat]?).toArray = xs.toList.reverse.toArray := by
  have e : ((List.range xs.size).filterMap fun (m : Nat) => xs[((xs.size : Int) - 1 + (m : Int) * -1).toNat]?) = ((List.range xs.size).map fun k => xs.size - 1 - k).filterMap (xs[·]?) := by
    rw [List.filterMap_map]
    refine fm_congr fun m hm => ?_
    have := List.mem_range.mp hm
    show _ = xs[xs.size - 1 - m]?
    have e : ((xs.size : Int) - 1 + (m : Int) * -1).toNat = xs.size - 1 - m := by omega
    rw [e]
  rw [e, PySem.W.krv_range, List.filterMap_reverse, PySem.W.krv_all]
theorem getItem_tuple_rev {t sl : Addr} {items : Array Value} {u : Tok} {Q : Value → Shared → Prop} (ht : IsTup s.heap t items) (hs : s.heap.IsSliceOf sl .none .none (.int (-1) u))
    (h : Q (.ref s.heap.objs.size) { s with heap := s.heap.push { cls := .type "tuple", data := .seq items.toList.reverse.toArray } })
    (hsz : items.size ≤ sizeLine) : wpAny (model prog w) A (getItem (.ref t) (.ref sl)) Q E s := by
  have htake : sizeOk (.seq items.toList.reverse.toArray) := by
    show items.toList.reverse.toArray.size ≤ sizeLine
    rw [List.size_toArray, List.length_reverse, Array.length_toList]
    exact hsz
  obtain ⟨os, hos, hcs, hds⟩ := id hs
  have hTs : s.TypeIs (.ref sl) "slice" := ⟨os, hos, hcs⟩
  unfold getItem
  try with_reducible refine wpAny_holding ?_
  first | refine wpAny_bind (wpAny_pure ?_) | skip
  refine wpAny_bind (wpAny_sequenceKey ht.typeIs (by decide) ?_)
  refine wpAny_bind (wpAny_callSpecial?_slot (name := Str.ofString "__getitem__") ht.typeIs PyProof.Rows.slot_tuple_getitem
    (wpAny_call_entry PyProof.Rows.slot_tuple_getitem ht.typeIs entry_tuple_getitem ?_ (args_tuple_getitem _ _)))
  show wpAny _ _ (Builtin.Tuple.tupleItemsOf (.ref t) >>= _) _ _ s
  refine wpAny_bind (tupleItemsOf_ ht ?_)
  refine wpAny_bind (wpAny_typeOf hTs ?_)
  rw [if_pos (by decide)]
  refine wpAny_bind (applied_rev hs ?_)
  have hno : ¬ ((((items.size : Int) - 1) == 0 && (-1 : Int) == 1 && items.size == items.size) = true) := by
    rw [show ((-1 : Int) == 1) = false by decide, Bool.and_false, Bool.false_and]
    exact Bool.false_ne_true
  show wpAny _ _ (if (((items.size : Int) - 1) == 0 && (-1 : Int) == 1 && items.size == items.size) = true then _ else _) _ _ s
  rw [if_neg hno, pick_rev]
  first
    | exact wpAny_bind (m := Builtin.Tuple.tupleExact _) (wpAny_newObj_type (wpAny_pure ⟨_, rfl, wpAny_pure h⟩) htake)
    | exact wpAny_bind (m := Builtin.Tuple.tupleExact _) (wpAny_newObj_type (wpAny_bind (wpAny_pure (wpAny_pure ⟨_, rfl, wpAny_pure h⟩))) htake)
    | exact wpAny_bind (wpAny_bind (m := Builtin.Tuple.tupleExact _) (wpAny_newObj_type (wpAny_pure (wpAny_pure ⟨_, rfl, wpAny_pure h⟩)) htake))
    | exact wpAny_bind (wpAny_bind (m := Builtin.Tuple.tupleExact _) (wpAny_newObj_type (wpAny_pure ⟨_, rfl, wpAny_pure h⟩) htake))
end
def tRevT (K : PySem.W.Frag) (te : TE) : TE := fun σ H Q => te σ H fun x H1 => ∃ a xs, x = .ref a ∧ SqT K H1 a xs ∧ ∀ p, H1 p = none → Q (.ref p) (upd H1 p (.tup xs.reverse))
section
variable {X : Cx} {K : PySem.W.Frag}
theorem pe_revT {e : Expr} {te : TE} {k : Nat} {p1 p2 p3 pos : Pos} (he : PE X e te) (hK : X.K = K := by rfl) : PE X (.Subscript e (.Slice none none (some (.UnaryOp .USub (.Constant (.int 1) k p1) p2)) p3) pos) (tRevT K te) := by
  subst hK
  refine ⟨fun pins s σ H Q I h => ?_⟩
  refine Subscript_ (thn (he.run pins s σ H _ I h) fun v s1 ⟨x, H1, I1, r1, q1⟩ => ?_)
  obtain ⟨a, xs, ex, hx, q⟩ := q1
  subst ex
  cases r1
  have hst : PO X (some (.UnaryOp .USub (.Constant (.int 1) k p1) p2)) (tPart (tUn (rU fun i => .int (-i)) (tC (.int 1)))) := po_some (pe_un un_neg pe_int)
  refine wpAny_Slice (thn (po_none.run pins s1 σ H1 (fun o H2 => o = none ∧ H2 = H1) I1 ⟨rfl, rfl⟩) fun vl s2 ⟨l, H2, I2, pl, el, e2⟩ => ?_)
  subst el e2
  refine thn (po_none.run pins s2 σ H2 (fun o H3 => o = none ∧ H3 = H2) I2 ⟨rfl, rfl⟩) fun vu s3 ⟨u, H3, I3, pu, eu, e3⟩ => ?_
  subst eu e3
  refine thn (hst.run pins s3 σ H3 (fun o H4 => o = some (-1) ∧ H4 = H3) I3 ⟨1, rfl, -1, rfl, rfl, rfl⟩) fun vs s4 ⟨o, H4, I4, ps, eo, e4⟩ => ?_
  subst eo e4
  cases pl
  cases pu
  cases ps with
  | int _ tk =>
  have I5 : Inv X pins σ H4 { s4 with heap := s4.heap.push { cls := .type "slice", data := .fields #[.none, .none, .int (-1) tk] } } := I4.kept (t' := s4.toks) fun b ob q => Heap.get?_push_of_some _ q
  obtain ⟨its, r, ht, hz⟩ := I5.tuple hx
  have hlen := r.length
  show wpAny (model X.prog X.w) X.A (subscriptTail e (.Slice none none (some (.UnaryOp .USub (.Constant (.int 1) k p1) p2)) p3) (.ref a) (.ref s4.heap.objs.size)) (EP X pins σ Q) X.xe { s4 with heap := s4.heap.push { cls := .type "slice", data := .fields #[.none, .none, .int (-1) tk] } }
  refine tail_any (ops := [.ref a, .ref s4.heap.objs.size]) ht.typeIs (PyProof.Rows.slot_tuple_getitem.lookup) ?_ (by with_unfolding_all rfl)
  refine getItem_tuple_rev ht (Heap.IsSliceOf.new _ .none .none (.int (-1) tk)) ?_ (by rw [List.size_toArray]; omega)
  refine ⟨.ref _, _, I5.laid (t' := s4.toks) (o := .tup xs.reverse) (fun b ob q => Heap.get?_push_of_some _ q) (Nat.le_refl _) ?_, rfl, q _ (I5.hok.fresh (Nat.le_refl _))⟩
  exact ⟨by rw [List.length_reverse]; exact hz, _, r.reverse, IsTup.new _ _⟩
end

/-! ### sorted(d), the keys pairs of ints -/
def rSortDT : List V → Hp → VK → Prop := fun xs H Q => ∃ (a : Addr) (kvs : List (List Key × V)) (ks : List (List Int)) (d : Nat) (B : Int), xs = [.ref a] ∧ H a = some (.dT kvs) ∧ kvs.map (·.1) = ks.map (List.map Sum.inl) ∧ ks.length < 64 ∧ 1 ≤ d ∧
  (∀ n ∈ ks, n.length = d ∧ TS.Bd B n) ∧ ∀ (L : List (Addr × List Int)) (p : Addr), (L.map (·.2)).Perm ks → L.Pairwise (fun q r => TS.code B q.2 ≤ TS.code B r.2) → (∀ q ∈ L, H q.1 = some (.tup (q.2.map V.int))) → H p = none → Q (.ref p) (upd H p (.lst (L.map fun q => V.ref q.1)))
/-- what the raw keys are -/
theorem keys_raw {H : Hp} : ∀ {kvs : List (List Key × V)} {xs : List (List Key × Addr × Value)} {ks : List (List Int)}, KT H kvs xs → kvs.map (·.1) = ks.map (List.map Sum.inl) →
    ∃ L : List (Addr × List Int), L.map (·.2) = ks ∧ xs.map (fun x => x.2.1) = L.map (·.1) ∧ ∀ q ∈ L, H q.1 = some (.tup (q.2.map V.int))
  | [], [], [], .nil, _ => ⟨[], rfl, rfl, fun q hq => by cases hq⟩
  | [], [], _ :: _, .nil, e => by simp at e
  | _ :: _, _ :: _, [], .cons _ _, e => by simp at e
  | p :: ps, x :: xs, k :: ks, .cons h t, e => by
    rw [List.map_cons, List.map_cons] at e
    injection e with e1 e2
    obtain ⟨L, l1, l2, l3⟩ := keys_raw t e2
    refine ⟨(x.2.1, k) :: L, by rw [List.map_cons, l1], by rw [List.map_cons, List.map_cons, l2], fun q hq => ?_⟩
    rcases List.mem_cons.mp hq with z | z
    · subst z
      have h2 := h.2.1
      rw [e1, List.map_map] at h2
      exact h2
    · exact l3 q z
theorem perm_map {α β : Type} (f : α → β) : ∀ (m : List β) (l : List α), m.Perm (l.map f) → ∃ l' : List α, m = l'.map f ∧ l'.Perm l
  | [], l, h => ⟨[], rfl, by
    have := h.length_eq
    rw [List.length_nil, List.length_map] at this
    rw [List.length_eq_zero_iff.mp this.symm]⟩
  | x :: r, l, h => by
    obtain ⟨q, hq, e⟩ := List.mem_map.mp (h.mem_iff.mp List.mem_cons_self)
    obtain ⟨A, B, eL⟩ := List.append_of_mem hq
    subst eL
    have h2 : (x :: r).Perm (x :: (A ++ B).map f) := by
      refine h.trans ?_
      rw [List.map_append, List.map_cons, e, List.map_append]
      exact List.perm_middle
    obtain ⟨l', e', h3⟩ := perm_map f r (A ++ B) (List.Perm.cons_inv h2)
    exact ⟨q :: l', by rw [List.map_cons, e, e'], (h3.cons q).trans List.perm_middle.symm⟩
section
variable {X : Cx}
theorem w_sortDT (hcalm : X.calm = true) : CallR X (.builtin "sorted") rSortDT := by
  intro pins s σ H xs us Q I r h
  obtain ⟨a, kvs, ks, d, B, rfl, hd, hks, h64, hd1, hB, q⟩ := h
  obtain ⟨u, rfl, rx⟩ := r.one
  cases rx
  obtain ⟨z, hs, xr, pr, o, es, ep, ho, hx, hdt, he, hn⟩ := (show ObjOk X.prog X.w H s.heap a (.dT kvs) from I.hok a _ hd)
  have l1 : es.size = xr.length := size_of_entries he
  have l2 : kvs.length = xr.length := Paired.length pr
  obtain ⟨L, e1, e2, e3⟩ := keys_raw pr hks
  have lL : L.length = ks.length := by rw [← e1, List.length_map]
  have l3 : kvs.length = ks.length := by
    have := congrArg List.length hks
    rwa [List.length_map, List.length_map] at this
  refine Calls.call_function_entry PyProof.Rows.kind_sorted PyProof.Rows.plain_sorted PyProof.Rows.entry_sorted (PyProof.Rows.args_sorted1 _) ?_
  unfold Builtin.«sorted»
  refine wpAny_bind (m := checkCount "sorted" 1 1 _) (wpAny_pure ?_)
  refine wpAny_bind (PySem.W.kdu_collect (A := X.A.in1) (kdl_raw hs hx hdt) (I.ok.hd hcalm) ho (by omega) fun h' tk acc hk it => ?_)
  have ea : acc.toList = L.map fun q => Value.ref q.1 := by
    have e4 : acc.toList = xr.map fun x => Value.ref x.2.1 := by
      have hl : acc.toList.length = xr.length := by rw [Array.length_toList, it.1]; exact l1
      apply List.ext_getElem?
      intro j
      rw [List.getElem?_map]
      cases hj : acc.toList[j]? with
      | none =>
        have h1 := List.getElem?_eq_none_iff.mp hj
        rw [List.getElem?_eq_none (by omega)]
        all_goals rfl
      | some v =>
        obtain ⟨en, hen, hv⟩ := it.2 j v (by rw [← Array.getElem?_toList]; exact hj)
        have qe := entry_at he j
        rw [hen] at qe
        cases hb : xr[j]? with
        | none =>
          rw [hb] at qe
          exact nomatch (show some en = none from qe)
        | some b =>
          rw [hb] at qe
          have e2 : en = entryOfKey (tupleKind (mixKind X.prog X.w)) b := Option.some.inj qe
          rw [hv, e2]
          all_goals rfl
    have e5 : (xr.map fun x => x.2.1).map Value.ref = (L.map (·.1)).map Value.ref := by rw [e2]
    rw [List.map_map, List.map_map] at e5
    exact e4.trans e5
  have I1 : Inv X pins σ H { s with heap := h', toks := tk } := I.kept hk
  have hal : acc.toList.length = ks.length := by rw [ea, List.length_map, lL]
  refine wpAny_bind (wpAny_newList ?_ (by rw [hal, sizeLine_eq]; omega))
  have hoL : (h'.push (seqObj "list" acc.toList.toArray 0)).get? h'.objs.size = some (seqObj "list" acc.toList.toArray 0) := Heap.get?_push_size _ rfl
  have tk : ∀ q ∈ L, TS.TupInts (h'.push (seqObj "list" acc.toList.toArray 0)) (.ref q.1) q.2 := fun q hq =>
    (tupI_raw I1 (SqT.of (K := X.K) (e3 q hq))).keeps fun b ob e _ => Heap.get?_push_of_some _ e
  have x : TS.TupsOk (h'.push (seqObj "list" acc.toList.toArray 0)) d B acc.toList := fun v hv => by
    rw [ea] at hv
    obtain ⟨q, hq, e⟩ := List.mem_map.mp hv
    rw [← e]
    have hm : q.2 ∈ ks := by rw [← e1]; exact List.mem_map.mpr ⟨q, hq, rfl⟩
    exact ⟨q.2, tk q hq, (hB _ hm).1, (hB _ hm).2⟩
  show wpAny _ _ _ _ _ { s with heap := h'.push (seqObj "list" acc.toList.toArray 0), toks := _ }
  refine wpAny_bind (wpAny_holding (TS.call_sort_tups (s := { s with heap := h'.push (seqObj "list" acc.toList.toArray 0), toks := _ }) hoL (by rw [hal]; exact h64) hd1 x fun out a1 a2 => ?_))
  obtain ⟨c, hc⟩ := sortedHeap_at (vs := acc.toList) (out := out) hoL
  have a1' : out.toList.Perm (L.map fun q => Value.ref q.1) := by rw [← ea]; exact a1
  obtain ⟨L', e', pL⟩ := perm_map (fun q : Addr × List Int => Value.ref q.1) out.toList L a1'
  have inL : ∀ q ∈ L', q ∈ L := fun q hq => pL.mem_iff.mp hq
  have pw : L'.Pairwise (fun q r => TS.code B q.2 ≤ TS.code B r.2) := by
    rw [e'] at a2
    refine List.Pairwise.imp_of_mem (fun {q r} hq hr hle => ?_) (List.pairwise_map.mp a2)
    have f1 : TS.intsOf (h'.push (seqObj "list" acc.toList.toArray 0)) (.ref q.1) = q.2 := (tk q (inL q hq)).ints
    have f2 : TS.intsOf (h'.push (seqObj "list" acc.toList.toArray 0)) (.ref r.1) = r.2 := (tk r (inL r hr)).ints
    rw [← f1, ← f2]
    exact hle
  have rv : Vals (L'.map fun q => V.ref q.1) out.toList := by
    rw [e']
    exact vals_of_refs L'
  have hlen : (L'.map fun q => V.ref q.1).length ≤ sizeLine := by
    rw [List.length_map, pL.length_eq, lL]
    exact Nat.le_trans (Nat.le_of_lt h64) (by decide)
  refine wpAny_pure ⟨_, rfl, .ref h'.objs.size, upd H h'.objs.size (.lst (L'.map fun q => V.ref q.1)), I1.laid (t' := _) (fun b u e => ?_) (Nat.le_refl _)
    (show ObjOk X.prog X.w _ _ _ (.lst (L'.map fun q => V.ref q.1)) from ⟨hlen, out.toList, c, rv, by rw [Array.toArray_toList]; exact hc⟩), rfl, q L' _ (by rw [← e1]; exact pL.map _) pw (fun q hq => e3 q (inL q hq)) (I1.hok.fresh (Nat.le_refl _))⟩
  have hb : b < h'.objs.size := Heap.lt_size e
  rw [PyProof.Rows.sortedHeap_old (Nat.ne_of_lt hb) (by rw [size_push']; exact Nat.lt_succ_of_lt hb)]
  exact Heap.get?_push_of_some _ e
end
end Lf
end

section
set_option maxRecDepth 100000
set_option maxHeartbeats 4000000
/-! {k: v for .. in ..} with tuples as keys: the walk of HandS' dict comprehension (dc_core), turned to keys that are tuples. -/
namespace Lf
open PySem PySem.Spec PyProof.Rows L2
theorem d_dictSetT {X : Cx} {pins : List (Addr × Obj)} {σ : L2.St} {H : Hp} {s : Shared} {E : Value → Shared → Prop} {D b : Addr} {kvs : List (List Key × V)} {k : List Key} {v : V} {u r : Value} {Q : Unit → Shared → Prop} (hu : X.A.units + 1 < cLine) (I : Inv X pins σ H s) (hD : H D = some (.dT kvs)) (hz : kvs.length < sizeLine)
    (hb : H b = some (.tup (k.map kV))) (ry : RelV (.ref b) u) (rv : RelV v r) (h : ∀ s', Inv X pins σ (upd H D (.dT (putK kvs k v))) s' → Q () s') : wpAny (model X.prog X.w) X.A (dictSet D u r) Q E s := by
  cases (show u = Value.ref b from ry)
  obtain ⟨z, hd, xs, rel, dd⟩ := dt_of I.hok hD
  have hzv : xs.length ≤ sizeLine := by rw [← Paired.length rel]; exact z
  have hl : (putK kvs k v).length ≤ sizeLine := by have := length_putK kvs k v; omega
  refine wpAny_dictSet_heap (hsz := hzv) (show X.A.units < cLine by omega) (key_of I.hok hb) dd fun h' dd' hs => h _ ?_
  obtain ⟨q, es, ep, hq, h2, h3, h4, _, h5⟩ := dd'
  refine d_write I (by rw [hD]; exact True.intro) hs ⟨q, hq⟩ ⟨hl, hd, _, (rel.put k hb rv).keeps fun c ys ec => ?_, q, es, ep, hq, h2, h3, h4, h5⟩
  rw [upd_ne (ne_of ec hD (fun z => nomatch z))]
  exact ec
section
variable {X : Cx}
/-- {k: v for target in iter if ..}, keys tuples of ints or texts: D the new dict -/
def tDcT (wi : TI) (g : TG) (tt : TT) (tk tv : TE) (vs : List Nat) : TE := fun σ H Q => wi σ H fun J H1 => ∀ D, H1 D = none → ∃ W : Nat → Nat → Hp → Prop, (∃ m, W 0 m (upd H1 D (.dT []))) ∧ ∀ i m H, W i m H →
  (J.stop i H ∧ Q (.ref D) H) ∨ (J.go i H ∧ ∃ Nx : Hp → Prop, (∀ H', Nx H' → ∃ m', m' < m ∧ W (i + 1) m' H') ∧ ∀ x H', J.yld i H x H' → g x (wipe σ vs) H' fun σ2 H2 => wipe σ2 vs = wipe σ vs ∧ tt σ2 H2 fun b H3 =>
    if b = true then tk σ2 H3 fun y H4 => tv σ2 H4 fun z H5 => ∃ kvs k b, y = .ref b ∧ H5 b = some (.tup (k.map kV)) ∧ H5 D = some (.dT kvs) ∧ kvs.length < sizeLine ∧ Nx (upd H5 D (.dT (putK kvs k z))) else Nx H3)
theorem dt_core {pins : List (Addr × Obj)} {s : Shared} {σ : L2.St} {H : Hp} {Q : VK} {kx vx tg iter : Expr} {ifs : List Expr} {scope : Scope} {own : List (Str × Nat)} {pos pos' : Pos} {wi : TI} {g : TG} {tt : TT} {tk tv : TE} {use : Option (Value → Sem Unit)} {Qf : Value → Shared → Prop}
    (hc : X.calm = true) (hu : X.A.units + 1 < cLine) (hN : X.N.Nodup) (I : Inv X pins σ H s) (hi : PI X tg iter wi) (ok : BlkOk X.N X.env.scope scope own)
    (hg : ∀ (s : Shared) (H : Hp) (C : Addr) (cl : List (Str × Addr)) (fp : List Addr), PG (X.blk s H scope (compEnvC scope cl C X.env) fp) tg g) (ht : ∀ (s : Shared) (H : Hp) (C : Addr) (cl : List (Str × Addr)) (fp : List Addr), PTs (X.blk s H scope (compEnvC scope cl C X.env) fp) ifs tt)
    (hk : ∀ (s : Shared) (H : Hp) (C : Addr) (cl : List (Str × Addr)) (fp : List Addr), PE (X.blk s H scope (compEnvC scope cl C X.env) fp) kx tk)
    (he : ∀ (s : Shared) (H : Hp) (C : Addr) (cl : List (Str × Addr)) (fp : List Addr), PE (X.blk s H scope (compEnvC scope cl C X.env) fp) vx tv) (hs : ∀ x, foldedSetIterable iter X.env x = pure x)
    (h : tDcT wi g tt tk tv (own.map (·.2)) σ H Q)
    (hRR : ∀ D C s' m H', Inv X pins σ H' s' → Q (.ref D) H' → s'.heap.Ns C m → FpOk X pins H' C → compPost (model X.prog X.w) X.A X.xe use Qf (.ref D) C (.ok .next) s') :
    wpAny (model X.prog X.w) X.A (comprehension (.DictComp kx vx [⟨tg, iter, ifs, 0⟩] scope pos) scope X.env pos' newDict false (eval iter X.env) use) Qf X.xe s := by
  have hfree : ∀ y ∈ scope.names, y.2 = .free → ∃ c, X.env.cells.lookup y.1 = some c := fun y hy e => by
    rcases ok.free y hy e with k | k
    · exact I.ok.has _ (.inl k)
    · exact I.ok.has _ (.inr k)
  refine wpAny_comprehension_free (use := use) rfl hs (closure_ok hfree) ok.kind (fun y hy e => by rw [ok.uniq y hy, e])
    (thn (hi.run pins s σ H _ I h) fun xv s1 hx => thn hx fun itv s2 h2 => ?_)
  obtain ⟨it, fp, tn, J, H2, e, I2, T, st2, f2, q⟩ := h2
  subst e
  refine wpAny_newObj_type (newEnv_comp ?_)
  generalize hD : s2.heap.objs.size = D
  have hDn : H2 D = none := I2.hok.fresh (Nat.le_of_eq hD)
  obtain ⟨W, ⟨m0, w0⟩, turn⟩ := q D hDn
  -- the new list
  generalize hs3 : ({ s2 with heap := s2.heap.push { cls := .type "dict", data := .dict #[] } } : Shared) = s3
  have I3 : Inv X pins σ (upd H2 D (.dT [])) s3 := by
    rw [← hs3]
    refine I2.laid (t' := s2.toks) (fun b o e => Heap.get?_push_of_some _ e) (Nat.le_of_eq hD) ?_
    rw [← hD]
    exact dt_empty s2.heap I2.big
  have h3 : s3.heap = s2.heap.push { cls := .type "dict", data := .dict #[] } := by rw [← hs3]
  have sz : ∀ b ∈ fp, b < s2.heap.objs.size := fun b hb => by
    obtain ⟨o, e, _⟩ := T.obj _ _ st2 b hb
    exact Heap.lt_size e
  have f3 : ∀ b ∈ fp, FpOk X pins (upd H2 D (.dT [])) b ∧ b < s3.heap.objs.size := fun b hb => by
    have hlt := sz b hb
    refine ⟨⟨?_, (f2 b hb).2⟩, by rw [h3, Heap.size_push]; exact Nat.lt_succ_of_lt hlt⟩
    rw [upd_ne (by rw [← hD]; exact Nat.ne_of_lt hlt)]
    exact (f2 b hb).1
  have st3 : tn 0 s3.heap := T.keep _ _ _ st2 fun b _ o e => by rw [h3]; exact Heap.get?_push_of_some _ e
  have I4 := block_start I3 ok hN f3
  have pg := hg s3 (upd H2 D (.dT [])) s3.heap.objs.size (cellsFrom (s3.heap.objs.size + 1) scope.names (cloFrom X.env.cells scope.names [])) fp
  have pt := ht s3 (upd H2 D (.dT [])) s3.heap.objs.size (cellsFrom (s3.heap.objs.size + 1) scope.names (cloFrom X.env.cells scope.names [])) fp
  have pk := hk s3 (upd H2 D (.dT [])) s3.heap.objs.size (cellsFrom (s3.heap.objs.size + 1) scope.names (cloFrom X.env.cells scope.names [])) fp
  have pe := he s3 (upd H2 D (.dT [])) s3.heap.objs.size (cellsFrom (s3.heap.objs.size + 1) scope.names (cloFrom X.env.cells scope.names [])) fp
  show codeAny _ _ (.compStart (.DictComp kx vx [⟨tg, iter, ifs, 0⟩] scope pos) 0 (.ref it) (.ref D) (compEnvC scope (cellsFrom (s3.heap.objs.size + 1) scope.names (cloFrom X.env.cells scope.names [])) s3.heap.objs.size X.env)) (compPost (model X.prog X.w) X.A X.xe use Qf (.ref D) s3.heap.objs.size) { s3 with heap := pushCells (s3.heap.push { cls := .type "dict", data := .dict #[] }) scope.names }
  have nfp : ∀ b ∈ fp, (upd H2 D (.dT [])) b = none := fun b hb => (f3 b hb).1.1
  generalize hce : compEnvC scope (cellsFrom (s3.heap.objs.size + 1) scope.names (cloFrom X.env.cells scope.names [])) s3.heap.objs.size X.env = ce at I4 pg pt pk pe ⊢
  have cL : ce.locals = s3.heap.objs.size := by subst hce; rfl
  generalize hH3 : upd H2 D (.dT []) = H3 at I3 I4 pg pt pk pe w0 nfp f3
  generalize hs4 : ({ s3 with heap := pushCells (s3.heap.push { cls := .type "dict", data := .dict #[] }) scope.names } : Shared) = s4 at I4 ⊢
  have st4 : tn 0 s4.heap := T.keep _ _ _ st3 fun b _ o e => by rw [← hs4]; exact pushCells_keeps _ _ _ _ (Heap.get?_push_of_some _ e)
  have stat : ∀ {σ' : L2.St} {H' : Hp} {s' : Shared}, Inv (X.blk s3 H3 scope ce fp) [] σ' H' s' → (∀ b ∈ fp, H' b = none) → ∀ b ∈ fp, FpOk (X.blk s3 H3 scope ce fp) [] H' b := fun {σ' H' s'} I' hn b hb =>
    ⟨hn b hb, (I'.ok.exf b hb).1, I'.ok.exfs b hb, .inl hb, fun x c e => (I'.ok.exf b hb).2 x c e, fun p hp => absurd (show p ∈ ([] : List (Addr × Obj)) ++ [] from hp) (by simp)⟩
  have loop : codeAny (model X.prog X.w) X.A (.compLoop (.DictComp kx vx [⟨tg, iter, ifs, 0⟩] scope pos) 0 (.ref it) (.ref D) ce) (compPost (model X.prog X.w) X.A X.xe use Qf (.ref D) s3.heap.objs.size) s4 := by
    refine compLoop_anyD (fun n s' => ∃ i H', Inv (X.blk s3 H3 scope ce fp) [] (wipe σ (own.map (·.2))) H' s' ∧ tn i s'.heap ∧ (∀ b ∈ fp, H' b = none) ∧ W i n H') ?_ m0 ⟨0, H3, I4, st4, nfp, w0⟩
    rintro n s5 ⟨i, H5, I5, st5, n5, w5⟩
    rcases turn i n H5 w5 with ⟨stop, qq⟩ | ⟨go, Nx, hNx, step⟩
    · have td := T.done (X.blk s3 H3 scope ce fp) rfl rfl rfl hc i [] s5 _ H5 (fun _ _ => False) I5 (stat I5 n5) st5 stop
      refine thnF td fun r s6 ⟨hr, I6⟩ => ?_
      subst hr
      -- back in the def's context
      have I7 : Inv X pins σ H5 s6 := I3.call' (ch := fp) I6.os I6.base I6.hok I6.bare fun b hb => ⟨(f3 b hb).1.2.2.2.1, (f3 b hb).1.2.1, (f3 b hb).1.2.2.2.2.1, (f3 b hb).1.2.2.2.2.2⟩
      have nC : H5 s3.heap.objs.size = none := by
        have z : H5 ce.locals = none := I6.free
        rw [cL] at z
        exact z
      obtain ⟨m, hn, _⟩ := I6.loc
      have hn : s6.heap.Ns ce.locals m := hn
      rw [cL] at hn
      exact hRR D s3.heap.objs.size s6 m H5 I7 qq hn (I3.fpOk (Nat.le_refl _) nC)
    · have ti := T.item (X.blk s3 H3 scope ce fp) rfl rfl rfl hc i [] s5 _ H5 (fun _ _ => False) I5 (stat I5 n5) st5 go
      refine thnF ti fun r s6 ⟨u, hr, h6⟩ => ?_
      subst hr
      refine thnF h6 fun _ s7 ⟨x, H7, I7, r7, y7, st7, n7⟩ => ?_
      have I7' := I7.pinned (stat I7 n7) (T.obj _ _ st7)
      refine thnF (pg.run _ s7 _ H7 x u _ I7' r7 (step x H7 y7)) fun _ s8 ⟨σ8, H8, I8, hw8, q8⟩ => ?_
      refine thnF (pt.run _ s8 σ8 H8 _ I8 q8) fun b s9 ⟨H9, I9, q9⟩ => ?_
      -- the turn's end
      have fin : ∀ {s' : Shared} {H' : Hp}, Inv (X.blk s3 H3 scope ce fp) ([] ++ pinsAt fp s7.heap) σ8 H' s' → Nx H' → ∃ m, m < n ∧ ∃ i H', Inv (X.blk s3 H3 scope ce fp) [] (wipe σ (own.map (·.2))) H' s' ∧ tn i s'.heap ∧ (∀ b ∈ fp, H' b = none) ∧ W i m H' := fun {s' H'} I' nx => by
        obtain ⟨m', hm, w'⟩ := hNx H' nx
        have pin' : ∀ b ∈ fp, ∀ o, s7.heap.get? b = some o → s'.heap.get? b = some o ∧ H' b = none := fun b hb o e =>
          let z := I'.pin (b, o) (List.mem_append_right _ (List.mem_append_right _ (mem_pinsAt hb e)))
          ⟨z.1, z.2.1⟩
        have hl : (wipe σ (own.map (·.2))).length = σ8.length := by rw [← hw8, wipe_length]
        refine ⟨m', hm, i + 1, H', (I'.unpinned (pins := [])).weak hl (fun j v e => ?_), T.keep _ _ _ st7 fun b hb o e => (pin' b hb o e).1, fun b hb => ?_, w'⟩
        · rw [← hw8] at e
          exact (wipe_some e).1
        · obtain ⟨o, e, _⟩ := T.obj _ _ st7 b hb
          exact (pin' b hb o e).2
      cases b with
      | false =>
        simp only [Bool.false_eq_true, if_false] at q9 ⊢
        exact fin I9 q9
      | true =>
        simp only [if_true] at q9 ⊢
        refine thnF (pk.run _ s9 σ8 H9 _ I9 q9) fun z s10 ⟨yk, H10, I10, r10, q10⟩ => ?_
        refine thnF (pe.run _ s10 σ8 H10 _ I10 q10) fun z2 s11 ⟨yv, H11, I11, r11, kvs, k, kb, ek, hk11, hD11, hz11, nx⟩ => ?_
        subst ek
        exact d_dictSetT (X := X.blk s3 H3 scope ce fp) hu I11 hD11 hz11 hk11 r10 r11 fun s12 I12 => fin I12 nx
  exact codeAny_compStart_dict loop (T.self X.A 0 _ _ _ st4 loop)
/-- as a value -/
theorem pe_dcX {kx vx tg iter : Expr} {ifs : List Expr} {scope : Scope} {own : List (Str × Nat)} {pos : Pos} {wi : TI} {g : TG} {tt : TT} {tk tv : TE} (hc : X.calm = true) (hu : X.A.units + 1 < cLine) (hN : X.N.Nodup) (hi : PI X tg iter wi) (ok : BlkOk X.N X.env.scope scope own)
    (hg : ∀ (s : Shared) (H : Hp) (C : Addr) (cl : List (Str × Addr)) (fp : List Addr), PG (X.blk s H scope (compEnvC scope cl C X.env) fp) tg g) (ht : ∀ (s : Shared) (H : Hp) (C : Addr) (cl : List (Str × Addr)) (fp : List Addr), PTs (X.blk s H scope (compEnvC scope cl C X.env) fp) ifs tt)
    (hk : ∀ (s : Shared) (H : Hp) (C : Addr) (cl : List (Str × Addr)) (fp : List Addr), PE (X.blk s H scope (compEnvC scope cl C X.env) fp) kx tk)
    (he : ∀ (s : Shared) (H : Hp) (C : Addr) (cl : List (Str × Addr)) (fp : List Addr), PE (X.blk s H scope (compEnvC scope cl C X.env) fp) vx tv) (hs : ∀ x, foldedSetIterable iter X.env x = pure x := by intro _; rfl) :
    PE X (.DictComp kx vx [⟨tg, iter, ifs, 0⟩] scope pos) (tDcT wi g tt tk tv (own.map (·.2))) := by
  refine ⟨fun pins s σ H Q I h => ?_⟩
  rw [arm_eval_DictComp]
  refine dt_core hc hu hN I hi ok hg ht hk he hs h fun D C s' m H' I' q hn f => ⟨m, hn, fun h'' sb => ?_⟩
  obtain ⟨f0, f1, f2, f3, f4, f5⟩ := f
  exact ⟨.ref D, H', I'.turned (t' := s'.toks) (fun b o hb e => (sb.2 b hb).trans e) f0 f1 f3 f4 f5, rfl, q⟩
end
end Lf
end

section
set_option maxRecDepth 100000
set_option maxHeartbeats 2000000
/-! sorted(l) of triples (int, int, pair of ints), by their first two ints. -/
namespace Lf
open PySem PySem.Spec PyProof.Rows L2 TS

/-- the value is a triple of i, j and a pair p, q -/
def TriIs (P : Program) (w : World) (h : Heap) (v : Value) (i j p q : Int) : Prop :=
  ∃ (a f : Addr) (t u : Tok), v = .ref a ∧ IsTup h a #[.int i t, .int j u, .ref f] ∧ IsTupleKey (mixKind P w) h [Sum.inl p, Sum.inl q] f
theorem TriIs.keeps {P : Program} {w : World} {h h' : Heap} {v : Value} {i j p q : Int} (x : TriIs P w h v i j p q) (k : ∀ b o, h.get? b = some o → o.cls = .type "tuple" → h'.get? b = some o) : TriIs P w h' v i j p q := by
  obtain ⟨a, f, t, u, e, ⟨o, ho, hc, r⟩, ⟨o3, it3, n3, ho3, hc3, r3⟩⟩ := x
  exact ⟨a, f, t, u, e, ⟨o, k _ _ ho hc, hc, r⟩, ⟨o3, it3, n3, k _ _ ho3 hc3, hc3, r3⟩⟩
/-- the rank of a triple -/
def rkTri (h : Heap) (v : Value) : Int := TS.code 64 ((TS.intsOf h v).take 2)
theorem TriIs.rk {P : Program} {w : World} {h : Heap} {v : Value} {i j p q : Int} (x : TriIs P w h v i j p q) : rkTri h v = i * 64 + j := by
  obtain ⟨a, f, t, u, rfl, ⟨o, ho, hc, n, hd⟩, _⟩ := x
  have e : TS.intsOf h (.ref a) = [i, j, numOf (.ref f)] := by
    simp only [TS.intsOf, ho, hd]
    rfl
  unfold rkTri
  rw [e]
  show TS.code 64 [i, j] = _
  simp [TS.code]
section
variable {prog : Program} {w : World} {A : Around} {E : Value → Shared → Prop} {s : Shared}
theorem tri_firsts {h : Heap} : ∀ vs : List Value, (∀ v ∈ vs, ∃ i j p q, TriIs prog w h v i j p q) → ∃ fs, PySem.W.KatTups h vs fs ∧ fs.length = vs.length ∧ ∀ f, f ∈ fs → ∃ n t, f = Value.int n t
  | [], _ => ⟨[], PySem.W.KatTups.nil, rfl, fun f hf => by simp at hf⟩
  | v :: vs, x => by
    obtain ⟨fs, k, hl, hi⟩ := tri_firsts vs fun u hu => x u (List.mem_cons_of_mem _ hu)
    obtain ⟨i, j, p, q, a, f, t, u, rfl, ⟨o, ho, hc, n, hdt⟩, _⟩ := x v (List.mem_cons_self ..)
    refine ⟨.int i t :: fs, PySem.W.KatTups.cons ho hc hdt rfl k, by simp [hl], ?_⟩
    intro g hg
    rcases List.mem_cons.mp hg with rfl | hg
    · exact ⟨i, t, rfl⟩
    · exact hi g hg
theorem kind_tri {vs : List Value} (h2 : 2 ≤ vs.length) (hu : A.units < cLine) (x : ∀ v ∈ vs, ∃ i j p q, TriIs prog w s.heap v i j p q ∧ 0 ≤ j ∧ j < 64)
    (same : ∀ v ∈ vs, ∀ u ∈ vs, ∀ i j p q p' q', TriIs prog w s.heap v i j p q → TriIs prog w s.heap u i j p' q' → p = p' ∧ q = q') (r : Value → Int) (hr : ∀ v ∈ vs, ∀ i j p q, TriIs prog w s.heap v i j p q → r v = i * 64 + j) (Q : SortKind → Shared → Prop)
    (h : ∀ κ, Cmp prog w A s κ (pairsOf vs) r → Q κ s) : wpAny (model prog w) A (keyKind' vs.toArray) Q E s := by
  obtain ⟨fs, k, hl, hi⟩ := tri_firsts (prog := prog) (w := w) vs fun v hv => let ⟨i, j, p, q, t, _⟩ := x v hv; ⟨i, j, p, q, t⟩
  refine PySem.W.kat_kind (T := Value.type "int") k (by omega) (fun f hf => ?_) rfl (h _ ?_)
  · obtain ⟨n, t, rfl⟩ := hi f hf
    exact PySem.W.Looks.of_pure rfl
  · intro y z hy hz Q' E' hQ
    rw [pairsOf_toList] at hy hz
    have my := (mem_zip_self hy).2
    have mz := (mem_zip_self hz).2
    obtain ⟨i, j, p, q, ty, b0, b1⟩ := x _ my
    obtain ⟨i', j', p', q', tz, c0, c1⟩ := x _ mz
    have ey := hr _ my _ _ _ _ ty
    have ez := hr _ mz _ _ _ _ tz
    have sm := same _ my _ mz
    have hQ' : Q' (decide (i * 64 + j < i' * 64 + j')) s := by
      have e : decide (r y.1 < r z.1) = decide (i * 64 + j < i' * 64 + j') := by rw [ey, ez]
      rw [← e]; exact hQ
    have sm' : i = i' → j = j' → p = p' ∧ q = q' := fun e1 e2 => by
      subst e1 e2
      exact sm _ _ _ _ _ _ ty tz
    clear hQ ey ez sm
    obtain ⟨a, f, t, u, e1, ⟨o, ho, hc, n, hdt⟩, kf⟩ := ty
    obtain ⟨a', f', t', u', e2, ⟨o', ho', hc', n', hdt'⟩, kf'⟩ := tz
    rw [e1, e2]
    refine PySem.W.kat_lt ho hdt ho' hdt' ?_
    show PySem.W.KatLex prog w A true (decide (3 < 3)) Q' [(.int i t, .int i' t'), (.int j u, .int j' u'), (.ref f, .ref f')] 0 s
    refine PySem.W.kat_cons (wpAny_eqBool_int ?_)
    by_cases e : i = i'
    · rw [show (i == i') = true from by rw [e]; exact beq_self_eq_true _]
      refine PySem.W.kat_yes (PySem.W.kat_cons (wpAny_eqBool_int ?_))
      by_cases e' : j = j'
      · rw [show (j == j') = true from by rw [e']; exact beq_self_eq_true _]
        obtain ⟨ep, eq⟩ := sm' e e'
        refine PySem.W.kat_yes (PySem.W.kat_cons (wpAny_eqBool_tuple hu kf kf' ?_))
        rw [show decide ([(Sum.inl p : Key), Sum.inl q] = [Sum.inl p', Sum.inl q']) = true from decide_eq_true (by rw [ep, eq])]
        refine PySem.W.kat_yes (PySem.W.kat_nil ?_)
        have d : decide (i * 64 + j < i' * 64 + j') = decide (3 < 3) := by rw [e, e']; exact (decide_eq_false (by omega)).trans (decide_eq_false (by omega)).symm
        rw [d] at hQ'
        exact hQ'
      · rw [show (j == j') = false from beq_eq_false_iff_ne.mpr e']
        refine PySem.W.kat_no (oneLt_ints _ ?_)
        have d : decide (i * 64 + j < i' * 64 + j') = decide (j < j') := decide_eq_decide.mpr (by rw [e]; omega)
        rw [d] at hQ'
        exact hQ'
    · rw [show (i == i') = false from beq_eq_false_iff_ne.mpr e]
      refine PySem.W.kat_no (oneLt_ints _ ?_)
      have d : decide (i * 64 + j < i' * 64 + j') = decide (i < i') := decide_eq_decide.mpr (by omega)
      rw [d] at hQ'
      exact hQ'
end

/-- a tie's data -/
structure Tri where
  lo : Int
  hi : Int
  num : Int
  den : Int
def Tri.d (t : Tri) : PyData := .tuple [.int t.lo, .int t.hi, .tuple [.int t.num, .int t.den]]
def Tri.rk (t : Tri) : Int := t.lo * 64 + t.hi
section
variable {X : Cx} {K : PySem.W.Frag}
theorem tri_raw {pins : List (Addr × Obj)} {σ : L2.St} {H : Hp} {s : Shared} (I : Inv X pins σ H s) {v : V} {u : Value} {t : Tri} (r : RelV v u) (h : Dt X.K H v t.d) : TriIs X.prog X.w s.heap u t.lo t.hi t.num t.den := by
  unfold Tri.d at h
  cases h with
  | tup hs hd =>
  cases hd with
  | cons h1 hd =>
  cases hd with
  | cons h2 hd =>
  cases hd with
  | cons h3 hd =>
  cases hd
  cases h1
  cases h2
  cases h3 with
  | tup hs3 hd3 =>
  cases hd3 with
  | cons h4 hd3 =>
  cases hd3 with
  | cons h5 hd3 =>
  cases hd3
  cases h4
  cases h5
  cases r
  obtain ⟨its, rv, hT, _⟩ := I.tuple hs
  obtain ⟨its3, rv3, hT3, _⟩ := I.tuple hs3
  cases rv with
  | cons r1 rv =>
  cases rv with
  | cons r2 rv =>
  cases rv with
  | cons r3 rv =>
  cases rv
  obtain ⟨t1, rfl⟩ := r1
  obtain ⟨t2, rfl⟩ := r2
  cases r3
  obtain ⟨o3, ho3, hc3, n3, hd3⟩ := hT3
  exact ⟨_, _, t1, t2, rfl, hT, o3, its3.toArray, n3, ho3, hc3, hd3, by
    have := items_are (P := X.prog) (w := X.w) (ks := [Sum.inl t.num, Sum.inl t.den]) (us := its3) rv3
    simpa using this⟩
/-- sorted(l) or sorted(t), of ties with distinct places -/
def rSortTri (K : PySem.W.Frag) : List V → Hp → VK → Prop := fun xs H Q => ∃ (a : Addr) (vs : List V) (l : List Tri), xs = [.ref a] ∧ (SqL K H a vs ∨ SqT K H a vs) ∧ Dts K H vs (l.map Tri.d) ∧ l.length < 64 ∧ (∀ t ∈ l, 0 ≤ t.hi ∧ t.hi < 64) ∧
  (∀ t ∈ l, ∀ u ∈ l, t.lo = u.lo → t.hi = u.hi → t = u) ∧
  ∀ (l' : List Tri) (ys : List V) (p : Addr), l'.Perm l → l'.Pairwise (fun t u => t.rk ≤ u.rk) → Dts K H ys (l'.map Tri.d) → H p = none → Q (.ref p) (upd H p (.lst ys))
theorem dts_at {H : Hp} : ∀ {vs : List V} {l : List Tri}, Dts K H vs (l.map Tri.d) → ∃ L : List (Addr × Tri), vs = L.map (fun q => V.ref q.1) ∧ l = L.map (·.2) ∧ ∀ q ∈ L, Dt K H (.ref q.1) q.2.d
  | [], [], _ => ⟨[], rfl, rfl, fun q hq => by cases hq⟩
  | _ :: _, [], h => by cases h
  | [], _ :: _, h => by cases h
  | v :: vs, t :: l, h => by
    cases h with
    | cons h1 h2 =>
    obtain ⟨L, e1, e2, e3⟩ := dts_at h2
    have h1' := h1
    unfold Tri.d at h1'
    cases h1' with
    | tup hs hd =>
    rename_i a _
    refine ⟨(a, t) :: L, by rw [List.map_cons, e1], by rw [List.map_cons, e2], fun q hq => ?_⟩
    rcases List.mem_cons.mp hq with z | z
    · subst z; exact h1
    · exact e3 q z
theorem dts_of {H : Hp} : ∀ {L : List (Addr × Tri)}, (∀ q ∈ L, Dt K H (.ref q.1) q.2.d) → Dts K H (L.map fun q => V.ref q.1) ((L.map (·.2)).map Tri.d)
  | [], _ => .nil
  | q :: L, h => .cons (h q List.mem_cons_self) (dts_of fun r hr => h r (List.mem_cons_of_mem _ hr))
theorem vals_adr (L : List (Addr × Tri)) : Vals (L.map fun q => V.ref q.1) (L.map fun q => Value.ref q.1) := by
  induction L with
  | nil => exact .nil
  | cons q L ih => exact .cons rfl ih
theorem w_sortTri (hu : X.A.units + 64 < cLine) (hK : X.K = K := by rfl) : CallR X (.builtin "sorted") (rSortTri K) := by
  subst hK
  intro pins s σ H xs us Q I r h
  obtain ⟨a, vs, l, rfl, hs, hd, h64, hb, hinj, q⟩ := h
  obtain ⟨u, rfl, rx⟩ := r.one
  cases rx
  obtain ⟨L, e1, e2, e3⟩ := dts_at hd
  subst e1 e2
  have ob : ∃ (its : List Value) (o : Obj) (T : String) (n : Nat), Vals (L.map fun q => V.ref q.1) its ∧ s.heap.get? a = some o ∧ o.cls = .type T ∧ (T = "list" ∨ T = "tuple") ∧ o.data = .seq its.toArray n := by
    rcases hs with hs | hs
    · obtain ⟨its, rv, pl, hz⟩ := I.list hs
      obtain ⟨o, ho, hc, n, hdat⟩ := pl.isList
      exact ⟨its, o, "list", n, rv, ho, hc, .inl rfl, hdat⟩
    · obtain ⟨its, rv, ⟨o, ho, hc, n, hdat⟩, hz⟩ := I.tuple hs
      exact ⟨its, o, "tuple", n, rv, ho, hc, .inr rfl, hdat⟩
  obtain ⟨its, o, T, n, rv, ho, hc, hT, hdat⟩ := ob
  have ei : its = L.map fun q => Value.ref q.1 := by
    have := refs_at (ps := L.map (·.1)) (us := its) (by rw [List.map_map]; exact rv)
    rw [this, List.map_map]
    rfl
  subst ei
  rw [List.length_map] at h64
  refine Calls.call_function_entry PyProof.Rows.kind_sorted PyProof.Rows.plain_sorted PyProof.Rows.entry_sorted (PyProof.Rows.args_sorted1 _) ?_
  unfold Builtin.«sorted»
  refine wpAny_bind (m := checkCount "sorted" 1 1 _) (wpAny_pure ?_)
  refine wpAny_bind (wpAny_collect_seq a hT ho hc hdat (fun h' hk => ?_) (by rw [List.size_toArray, List.length_map, sizeLine_eq]; omega))
  have I1 : Inv X pins σ H { s with heap := h' } := I.kept (t' := s.toks) hk
  generalize hvs : (L.map fun q => Value.ref q.1) = us
  have hvl : us.length < 64 := by rw [← hvs, List.length_map]; exact h64
  show wpAny _ _ (newList us >>= _) _ _ { s with heap := h' }
  refine wpAny_bind (wpAny_newList ?_ (by rw [sizeLine_eq]; omega))
  have hoL : (h'.push (seqObj "list" us.toArray 0)).get? h'.objs.size = some (seqObj "list" us.toArray 0) := Heap.get?_push_size _ rfl
  have kb : ∀ b ob, h'.get? b = some ob → ob.cls = .type "tuple" → (TS.midHeap (h'.push (seqObj "list" us.toArray 0)) h'.objs.size us).get? b = some ob := fun b ob e _ =>
    TS.midHeap_old (Nat.ne_of_lt (Heap.lt_size e)) (Heap.get?_push_of_some _ e)
  have tri : ∀ q ∈ L, TriIs X.prog X.w (TS.midHeap (h'.push (seqObj "list" us.toArray 0)) h'.objs.size us) (.ref q.1) q.2.lo q.2.hi q.2.num q.2.den := fun q hq =>
    (tri_raw I1 (v := .ref q.1) (u := .ref q.1) rfl (e3 q hq)).keeps kb
  have mem : ∀ v ∈ us, ∃ q ∈ L, v = Value.ref q.1 := fun v hv => by
    rw [← hvs] at hv
    obtain ⟨q, hq, e⟩ := List.mem_map.mp hv
    exact ⟨q, hq, e.symm⟩
  have uq : ∀ {v i j p q i' j' p' q'}, TriIs X.prog X.w (TS.midHeap (h'.push (seqObj "list" us.toArray 0)) h'.objs.size us) v i j p q → TriIs X.prog X.w (TS.midHeap (h'.push (seqObj "list" us.toArray 0)) h'.objs.size us) v i' j' p' q' → i = i' ∧ j = j' ∧ p = p' ∧ q = q' := by
    intro v i j p q i' j' p' q' t1 t2
    obtain ⟨a1, f1, x1, y1, rfl, ⟨o1, g1, c1, n1, d1⟩, k1⟩ := t1
    obtain ⟨a2, f2, x2, y2, ee, ⟨o2, g2, c2, n2, d2⟩, k2⟩ := t2
    cases ee
    rw [g1] at g2
    cases g2
    rw [d1] at d2
    cases d2
    have := k1.inj k2
    cases this
    exact ⟨rfl, rfl, rfl, rfl⟩
  refine wpAny_bind (wpAny_holding (wpAny_call_entry PyProof.Rows.slot_list_sort ⟨_, hoL, rfl⟩ PyProof.Rows.entry_list_sort
    (SK.plain_sort (s := { s with heap := h'.push (seqObj "list" us.toArray 0) }) (r := rkTri (TS.midHeap (h'.push (seqObj "list" us.toArray 0)) h'.objs.size us)) hoL hvl (fun h2' Qk hQk => ?_) fun ps out o1 o2 o3 => ⟨.none, rfl, ?_⟩) (PyProof.Rows.args_list_sort _)))
  · refine kind_tri (prog := X.prog) (w := X.w) (s := { s with heap := TS.midHeap (h'.push (seqObj "list" us.toArray 0)) h'.objs.size us }) h2' (by show X.A.units + 1 + 1 < cLine; omega) (fun v hv => ?_) (fun v hv v2 hv2 i j p q p' q' t1 t2 => ?_) _ (fun v hv i j p q t => t.rk) Qk hQk
    · obtain ⟨q, hq, rfl⟩ := mem v hv
      exact ⟨_, _, _, _, tri q hq, hb _ (List.mem_map.mpr ⟨q, hq, rfl⟩)⟩
    · obtain ⟨y, hy, rfl⟩ := mem v hv
      obtain ⟨z, hz, rfl⟩ := mem v2 hv2
      obtain ⟨a1, a2, a3, a4⟩ := uq t1 (tri y hy)
      obtain ⟨b1, b2, b3, b4⟩ := uq t2 (tri z hz)
      have e := hinj y.2 (List.mem_map.mpr ⟨y, hy, rfl⟩) z.2 (List.mem_map.mpr ⟨z, hz, rfl⟩) (a1.symm.trans b1) (a2.symm.trans b2)
      rw [a3, b3, a4, b4, e]
      exact ⟨rfl, rfl⟩
  · obtain ⟨c, hc'⟩ := sortedHeap_at (vs := us) (out := out) hoL
    obtain ⟨o4, o5⟩ := TS.out_rank o1 o2 o3
    obtain ⟨L', e', pL⟩ := perm_map (fun q : Addr × Tri => Value.ref q.1) out.toList L (by rw [hvs]; exact o4)
    have inL : ∀ q ∈ L', q ∈ L := fun q hq => pL.mem_iff.mp hq
    have pw : L'.Pairwise (fun q r => q.2.rk ≤ r.2.rk) := by
      rw [e'] at o5
      refine List.Pairwise.imp_of_mem (fun {q r} hq hr hle => ?_) (List.pairwise_map.mp o5)
      have f1 := (tri q (inL q hq)).rk
      have f2 := (tri r (inL r hr)).rk
      show q.2.lo * 64 + q.2.hi ≤ r.2.lo * 64 + r.2.hi
      rw [← f1, ← f2]
      exact hle
    have rv' : Vals (L'.map fun q => V.ref q.1) out.toList := by
      rw [e']
      exact vals_adr L'
    have hlen : (L'.map fun q => V.ref q.1).length ≤ sizeLine := by
      rw [List.length_map, pL.length_eq]
      exact Nat.le_trans (Nat.le_of_lt h64) (by decide)
    refine wpAny_pure ⟨_, rfl, .ref h'.objs.size, upd H h'.objs.size (.lst (L'.map fun q => V.ref q.1)), I1.laid (t' := s.toks) (fun b ob e => ?_) (Nat.le_refl _)
      (show ObjOk X.prog X.w _ _ _ (.lst (L'.map fun q => V.ref q.1)) from ⟨hlen, out.toList, c, rv', by rw [Array.toArray_toList]; exact hc'⟩), rfl, q (L'.map (·.2)) _ _ (pL.map _) (List.pairwise_map.mpr pw) (dts_of fun q hq => e3 q (inL q hq)) (I1.hok.fresh (Nat.le_refl _))⟩
    have hb : b < h'.objs.size := Heap.lt_size e
    rw [PyProof.Rows.sortedHeap_old (Nat.ne_of_lt hb) (by rw [size_push']; exact Nat.lt_succ_of_lt hb)]
    exact Heap.get?_push_of_some _ e
end
end Lf
end

section
set_option maxRecDepth 100000
set_option maxHeartbeats 2000000
/-! sorted(l, key=lambda x: x[0]) of a list of tuples that already ascend by their first item, an int: a new list of the same. -/
namespace Lf
open PySem PySem.Spec PyProof.Rows L2 LamX

/-- the lambda's params and scope, by its one name -/
def lamP (x : Str) (p : Pos) : Arguments := { posonlyargs := [], args := [{ arg := x, annotation := none, pos := p : Arg }], vararg := none, kwonlyargs := [], kw_defaults := [], kwarg := none, defaults := [] }
def lamSc (x : Str) : Scope := { kind := .function, names := [(x, .local)], isGenerator := false, isCoroutine := false, more := [] }
/-- f[0] of a tuple, by the lambda, keeps all -/
theorem lam_head {P : Program} {w : World} {A : Around} {s : Shared} {x q : Str} {f c' a : Addr} {pm ctv : Value} {body : Expr} {p : Pos} {items : Array Value} {n : Int} {p1 p2 p3 : Pos} {j : Nat} {Q : Value → Shared → Prop} {E : Value → Shared → Prop}
    (hb : body = .Subscript (.Name x p1) (.Constant (.int 0) j p2) p3) (hd : (x == ("__debug__" : Str)) = false) (hroom : A.depth < recursionLimit) (lim : s.heap.NoLimit)
    (hf : s.heap.get? f = some (PySem.W.kla_obj "<lambda>" q (lamP x p) body (lamSc x) [] pm c' ctv)) (hc : ∃ (oc : Obj) (vs : Array Value) (t : Tok), s.heap.get? c' = some oc ∧ oc.data = .fields vs ∧ vs[1]? = some (.str q t))
    (hbind : ∀ u : Value, bindArgs (PySem.W.kla_fn "<lambda>" q (lamP x p) body (lamSc x) [] pm (.ref c') ctv) ⟨[u], []⟩ = pure [(x, u)])
    (ht : IsTup s.heap a items) (t : Tok) (h0 : items[0]? = some (.int n t)) (hz : items.size ≤ sizeLine)
    (h : ∀ h' tk, (∀ b o, s.heap.get? b = some o → h'.get? b = some o) → Q (.int n t) { s with heap := h', toks := tk }) : wpAny (model P w) A (call (.ref f) [.ref a]) Q E s := by
  subst hb
  obtain ⟨oc, vs, tt, hoc, hdc, hvc⟩ := hc
  refine wpAny_call (codeAny_mono (R := fun r s' => ∃ h' tk, r = .ok (.ret (.int n t)) ∧ s' = { s with heap := h', toks := tk } ∧ ∀ b o, s.heap.get? b = some o → h'.get? b = some o) ?_ fun r s' hq => ?_)
  · refine PySem.W.kla_callFunE hroom hf rfl rfl rfl rfl ⟨c', oc, vs, tt, rfl, hoc, hdc, hvc⟩ ?_
    rw [hbind]
    refine wpAny_pure (wpAny_newFunctionEnv (fun y hy => ?_) (fun y hy => ?_) (fun h₁ hns hsb => ⟨lim.fresh _ hsb, ?_⟩) rfl)
    · rw [List.mem_singleton.mp hy]
      exact fun z => nomatch (show NameKind.local = NameKind.cell from z)
    · rw [List.mem_singleton.mp hy]
      exact List.lookup_cons_self
    have kp : ∀ b o, s.heap.get? b = some o → h₁.get? b = some o := fun b o e => hsb.extBut b o (Nat.ne_of_lt (Heap.lt_size e)) (Heap.get?_push_of_some _ e)
    refine PySem.W.kla_codeExpr (Subscript_ (wpAny_Name (wpAny_loadName_local (v := .ref a) rfl List.lookup_cons_self hns (by show List.lookup x [(x, Value.ref a)] = _; exact List.lookup_cons_self) ?_) hd))
    refine wpAny_Constant_int ?_
    have ht' : IsTup h₁ a items := by
      obtain ⟨o, ho, r⟩ := ht
      exact ⟨o, kp _ _ ho, r⟩
    have hn := line63
    refine subscriptTail_builtinR (x := .int n t) ht'.typeIs slot_tuple_getitem.lookup (getItem_tuple (j := 0) (Q := fun r s' => r = .int n t ∧ ∃ h' tk, (Except.ok (Flow.ret r) : Result) = .ok (.ret (.int n t)) ∧ s' = { s with heap := h', toks := tk } ∧ ∀ b o, s.heap.get? b = some o → h'.get? b = some o) ht' (by decide) (by decide) ?_ h0 ⟨rfl, ⟨h₁, _, rfl, rfl, kp⟩⟩) (by with_unfolding_all rfl)
    have hs : 0 < items.size := (Array.getElem?_eq_some_iff.mp h0).1
    unfold seqIndex?
    first
      | (simp only; split <;> simp_all <;> omega)
      | simp [hs]
  · obtain ⟨h', tk, rfl, rfl, k⟩ := hq
    exact h h' tk k

def tSortKey (K : PySem.W.Frag) (T : Tabl) (te : TE) : TE := fun σ H Q => te σ H fun x H1 => ∃ (a : Addr) (ps : List Addr) (ns : List Int), x = .ref a ∧ SqL K H1 a (ps.map V.ref) ∧ Tabs T H1 ∧ ps.length = ns.length ∧ ns.Pairwise (· ≤ ·) ∧
  (∀ z ∈ ps.zip ns, ∃ xs, SqT K H1 z.1 (.int z.2 :: xs)) ∧ ∀ H2, ExtN H1 H2 → Tabs T H2 → ∀ p, H2 p = none → Q (.ref p) (upd H2 p (.lst (ps.map V.ref)))

theorem each_zip {R : Value → Addr × Int → Prop} : ∀ {ps : List Addr} {ns : List Int}, ps.length = ns.length → (∀ z ∈ ps.zip ns, R (.ref z.1) z) → PySem.W.EachIs R (ps.map Value.ref) (ps.zip ns)
  | [], [], _, _ => .nil
  | _ :: _, [], h, _ => by simp at h
  | [], _ :: _, h, _ => by simp at h
  | p :: ps, n :: ns, h, k => .cons (k (p, n) List.mem_cons_self) (each_zip (by simpa using h) fun z hz => k z (List.mem_cons_of_mem _ hz))
theorem each_refs {R : Value → Addr × Int → Prop} (hR : ∀ v z, R v z → v = .ref z.1) : ∀ {out : List Value} {bs : List (Addr × Int)}, PySem.W.EachIs R out bs → out = bs.map fun z => Value.ref z.1
  | _, _, .nil => rfl
  | _, _, .cons h t => by rw [List.map_cons, hR _ _ h, each_refs hR t]
section
variable {X : Cx} {K : PySem.W.Frag}
theorem pe_sortKey {T : Tabl} {c P : Addr} {k : Nat} {x : Str} {xs : Expr} {te : TE} {body : Expr} {j : Nat} {p pp p1 p2 p3 lpos kpos pos : Pos} (hg : Gl X "sorted") (hm : X.mg "sorted" = none) (ha : PE X xs te) (hr : Room (k + 1) X.A) (TB : TabB X.base X.mg c P) (hcode : X.env.code = .ref c)
    (hmT : (P, X.env.qual ++ "<lambda>") ∈ T) (hu : ∀ p ∈ T, p.1 = P → p.2 = X.env.qual ++ "<lambda>") (hb : body = .Subscript (.Name x p1) (.Constant (.int 0) j p2) p3) (hd : (x == ("__debug__" : Str)) = false)
    (hbind : ∀ (q : Str) (pm c' ctv u : Value), bindArgs (PySem.W.kla_fn "<lambda>" q (lamP x pp) body (lamSc x) [] pm c' ctv) ⟨[u], []⟩ = pure [(x, u)]) (hdef : defaultsOf (lamP x pp) X.env = ([], []))
    (he : backTo pos (starEach [xs] X.env) = (false, eval xs X.env) :: backTo pos (starEach [] X.env) := by rfl) (hpl : (backTo pos (starEach [xs] X.env)).any (·.1) = false := by rfl) (hK : X.K = K := by rfl) :
    PE X (.Call (.Name "sorted" p) [xs] [⟨some "key", .Lambda (lamP x pp) body (lamSc x) lpos, kpos⟩] pos) (tSortKey K T te) := by
  subst hK
  refine ⟨fun pins s σ H Q I h => ?_⟩
  refine wpAny_Call_Name_kw (ld_blt I hg hm PyProof.Rows.boot_sorted ?_)
  refine PyProof.Rows.callWith_kw ?_ he hpl rfl rfl
  show wpAny _ _ (spliced (backTo pos (starEach [xs] X.env))) _ _ s
  rw [he]
  refine Calls.spliced_cons (thn (ha.run pins s σ H _ I h) fun u s1 ⟨v, H1, I1, r1, a, ps, ns, ev, hl, hT, hlen, hasc, hhd, q⟩ => ?_)
  subst ev
  cases r1
  refine Calls.spliced_nil ?_
  show wpAny _ _ (evalAll ((do let v ← eval (.Lambda (lamP x pp) body (lamSc x) lpos) X.env; standAt pos; pure v) :: [])) _ _ s1
  refine wpAny_evalAll_cons (wpAny_bind (lam_make2 I1 TB hcode hmT hu hT hdef (fun y hy e => ?_) fun f c' pm ctv H2 s2 I2 eN T2 hf hfn hfr hco => wpAny_bind (wpAny_standAt (wpAny_pure ?_))))
  · rw [List.mem_singleton.mp hy] at e
    exact nomatch (show NameKind.local = NameKind.free from e)
  refine wpAny_evalAll_nil ?_
  show wpAny _ _ (call (.builtin "sorted") [.ref a] [(Str.ofString "key", .ref f)]) _ _ s2
  have hl2 : SqL X.K H2 a (ps.map V.ref) := by
    rcases hl with hl | hl
    · rcases hl with hl | ⟨o, hl⟩
      · exact .inl (.inl (eN a _ hl fun _ z => by cases z))
      · exact .inl (.inr ⟨o, eN a _ hl fun _ z => by cases z⟩)
    · exact .inr hl
  obtain ⟨its, rv, pl, hz⟩ := I2.list hl2
  have ei := refs_at rv
  subst ei
  rw [List.length_map] at hz
  have clos : cloFrom X.env.cells (lamSc x).names [] = [] := rfl
  rw [clos] at hf
  obtain ⟨hcO, _, _⟩ := I2.hok c' _ hco
  have u12 := hr.un
  refine PySem.W.sorted_key_data (b := false) (R := fun v z => v = Value.ref z.1 ∧ ∃ xs, SqT X.K H2 z.1 (.int z.2 :: xs)) (fun z : Addr × Int => .int z.2) pl.isList (each_zip hlen fun z hzz => ⟨rfl, ?_⟩) (PySem.W.AllAlike.of fun _ _ => by simp [PySem.W.alike]) (.inr fun d hdm => ?_) (by rw [List.length_zip]; omega) (fun z _ => ?_) (PyProof.Rows.ksk_s1 _ _) (fun _ => PyProof.Rows.ksk_l1 _ _) (fun _ => PyProof.Rows.ksk_t1 _ _)
    (fun v z hR _ h' tk kp => ?_) fun out e h' tk kp fr hD lo eo => ?_
  · obtain ⟨ys, hy⟩ := hhd z hzz
    refine ⟨ys, ?_⟩
    rcases hy with hy | hy
    · rcases hy with hy | ⟨o, hy⟩
      · exact .inl (.inl (eN _ _ hy fun _ z => by cases z))
      · exact .inl (.inr ⟨o, eN _ _ hy fun _ z => by cases z⟩)
    · exact .inr hy
  · obtain ⟨z, _, e⟩ := List.mem_map.mp hdm
    rw [← e]
    exact ⟨(fun h => by cases h), fun _ h => by cases h⟩
  · show X.A.units + 2 + PyData.depth (.int z.2) < cLine
    simp only [PyData.depth]
    omega
  · obtain ⟨ev, ys, hy⟩ := hR
    subst ev
    have I3 : Inv X pins σ H2 { s2 with heap := h', toks := tk } := I2.kept kp
    obtain ⟨iz, rz, tz, zz⟩ := I3.tuple hy
    cases rz with
    | cons ri rz =>
      obtain ⟨t, rfl⟩ := ri
      obtain ⟨oc, vs, tt, hoc, hdc, hvc⟩ := hcO
      refine lam_head (s := { s2 with heap := h', toks := tk }) (p := pp) (c' := c') (pm := pm) (ctv := ctv) (q := X.env.qual ++ "<lambda>") (n := z.2) hb hd (by have := hr.dp; show X.A.depth < _; omega) I3.nolimit (kp _ _ hf) ⟨oc, vs, tt, kp _ _ hoc, hdc, hvc⟩ (fun u => hbind _ _ _ _ u) tz t rfl ?_ fun h2 tk2 kp2 => ⟨h2, tk2, rfl, kp2, .int z.2 t⟩
      have := rz.length
      rw [List.size_toArray, List.length_cons] 
      simp only [List.length_cons] at zz
      omega
  · have em : (ps.zip ns).mergeSort (PySem.W.dataLe false fun z : Addr × Int => .int z.2) = ps.zip ns := by
      rw [PySem.W.dataLe_int (fun z : Addr × Int => z.2)]
      refine List.mergeSort_of_pairwise ?_
      have e2 : (ps.zip ns).map Prod.snd = ns := List.map_snd_zip (by omega)
      rw [← e2, List.pairwise_map] at hasc
      exact hasc.imp fun h => decide_eq_true h
    rw [em] at eo
    have eo2 := each_refs (fun v z h => h.1) eo
    have e3 : (ps.zip ns).map (fun z => Value.ref z.1) = ps.map Value.ref := by
      have : (ps.zip ns).map Prod.fst = ps := List.map_fst_zip (by omega)
      rw (occs := .pos [2]) [← this]
      rw [List.map_map]
      rfl
    rw [e3] at eo2
    subst eo2
    refine ⟨.ref (s2.heap.objs.size + 1), upd H2 (s2.heap.objs.size + 1) (.lst (ps.map V.ref)), I2.laid (t' := tk) kp (Nat.le_succ _) ⟨by rw [List.length_map]; exact hz, _, e, rv, hD⟩, rfl, q H2 eN T2 _ (I2.hok.fresh (Nat.le_succ _))⟩
end
end Lf
end

section
set_option maxRecDepth 100000
set_option maxHeartbeats 1000000
/-! The walk's own words: sources of loops and comprehensions; dicts as tables of data. -/
namespace Lf
open PySem PySem.Spec PyProof.Rows L2

/-! ### sources -/
/-- J hands out l, while St stands -/
structure Itr {α : Type} (T : Tabl) (J : It) (St : Hp → Prop) (l : List α) (R : Hp → V → α → Prop) : Prop where
  stop : ∀ H', St H' → J.stop l.length H'
  go : ∀ i x H', St H' → LamX.Tabs T H' → l[i]? = some x → J.go i H' ∧ ∀ v H'', J.yld i H' v H'' → Le T H' H'' ∧ R H'' v x
def Src {α : Type} (T : Tabl) (wi : TI) (σ : L2.St) (H : Hp) (kp : Hp → Hp → Prop) (l : List α) (R : Hp → V → α → Prop) : Prop :=
  ∀ H1, Le T H H1 → ∀ Rk : It → Hp → Prop, (∀ J H2 (St : Hp → Prop), Le T H1 H2 → Itr T J St l R → (∀ H', kp H2 H' → St H') → Rk J H2) → wi σ H1 Rk
section
variable {α : Type} {T : Tabl} {K : PySem.W.Frag} {σ : L2.St} {H : Hp} {wi : TI} {kp : Hp → Hp → Prop} {l : List α} {R : Hp → V → α → Prop} {g : TG} {tb : TS} {D : Ends}
theorem for_src (hs : Src T wi σ H kp l R) (tH : LamX.Tabs T H)
    (q : ∀ H1, Le T H H1 → ∃ Pv : List α → L2.St → Hp → Prop, Pv l σ H1 ∧ (∀ r σ' H', Pv r σ' H' → kp H1 H' ∧ LamX.Tabs T H') ∧
      (∀ x r σ' H' H'' v, x ∈ l → Pv (x :: r) σ' H' → Le T H' H'' → R H'' v x → g v σ' H'' fun σ2 H2 => tb { D with nx := Pv r, ct := Pv r, bk := D.nx } σ2 H2) ∧
      ∀ σ' H', Pv [] σ' H' → D.nx σ' H') : tFor wi g tb D σ H := by
  refine hs H (Le.refl tH) _ fun J H1 St a it hk => ?_
  obtain ⟨Pv, h0, hst, hs, hd⟩ := q H1 a
  refine ⟨fun i m σ' H' => m = l.length - i ∧ i ≤ l.length ∧ Pv (l.drop i) σ' H', ⟨l.length, by simp, Nat.zero_le _, by simpa using h0⟩, ?_⟩
  rintro i m σ' H' ⟨rfl, hi, hp⟩
  obtain ⟨k1, k2⟩ := hst _ _ _ hp
  have st := hk H' k1
  by_cases hlt : i < l.length
  · obtain ⟨g1, g2⟩ := it.go i l[i] H' st k2 (List.getElem?_eq_getElem hlt)
    refine .inr ⟨g1, Pv (l.drop (i + 1)), fun σ3 H3 p3 => ⟨l.length - (i + 1), by omega, rfl, hlt, p3⟩, fun v H2 y => ?_⟩
    obtain ⟨y1, y2⟩ := g2 v H2 y
    refine hs l[i] (l.drop (i + 1)) σ' H' H2 v (List.getElem_mem hlt) ?_ y1 y2
    rw [← List.drop_eq_getElem_cons hlt]
    exact hp
  · have e : i = l.length := by omega
    subst e
    refine .inl ⟨it.stop H' st, hd σ' H' ?_⟩
    rw [List.drop_length] at hp
    exact hp
theorem lc_src {te : TE} {tt : TT} {vs : List Nat} {p : α → Bool} {h : α → PyData} (hl : l.length ≤ 100000) (hs : Src T wi σ H kp l R) (hkp : ∀ H1 H2, Le T H1 H2 → kp H1 H2)
    (step : ∀ x ∈ l, ∀ H1 v, Le T H H1 → R H1 v x → ∀ Q : L2.St → Hp → Prop, (∀ σ2, wipe σ2 vs = wipe σ vs → EvB T tt σ2 H1 (p x) → (p x = true → EvD T K te σ2 H1 (h x)) → Q σ2 H1) → g v (wipe σ vs) H1 Q) :
    EvL T K (tLc wi g tt te vs) σ H ((l.filter p).map h) := by
  intro H0 a0 Q q
  refine hs H0 a0 _ fun J H1 St a it hk D hD => ?_
  have nD : Nf H1 D := Nf.of hD
  refine ⟨fun i m H' => m = l.length - i ∧ i ≤ l.length ∧ Le T H1 H' ∧ ∃ acc, H' D = some (.lst acc) ∧ acc.length ≤ i ∧ Dts K H' acc (((l.take i).filter p).map h), ⟨l.length, by simp, Nat.zero_le _, Le.new a.tab hD, [], upd_same, Nat.zero_le _, by simpa using .nil⟩, ?_⟩
  rintro i m H' ⟨rfl, hi, a', acc, eD, hlen, hacc⟩
  have st := hk H' (hkp _ _ a')
  by_cases hlt : i < l.length
  · have et : ((l.take (i + 1)).filter p).map h = ((l.take i).filter p).map h ++ (if p l[i] = true then [h l[i]] else []) := by
      rw [List.take_add_one, List.getElem?_eq_getElem hlt, List.filter_append, List.map_append]
      by_cases hp : p l[i] = true
      · simp [hp]
      · simp [hp]
    obtain ⟨g1, g2⟩ := it.go i l[i] H' st a'.tab (List.getElem?_eq_getElem hlt)
    refine .inr ⟨g1, fun H3 => Le T H1 H3 ∧ ∃ acc, H3 D = some (.lst acc) ∧ acc.length ≤ i + 1 ∧ Dts K H3 acc (((l.take (i + 1)).filter p).map h), fun H3 ⟨k1, k2⟩ => ⟨l.length - (i + 1), by omega, rfl, hlt, k1, k2⟩, fun x H2 y => ?_⟩
    obtain ⟨y1, y2⟩ := g2 x H2 y
    refine step l[i] (List.getElem_mem hlt) H2 x (((a0.trans a).trans a').trans y1) y2 _ fun σ2 z1 z2 z3 => ?_
    refine ⟨z1, z2 H2 (Le.refl y1.tab) _ fun H4 a4 => ?_⟩
    have eD4 : H4 D = some (.lst acc) := a4.at_ (y1.at_ eD pl_lst) pl_lst
    cases hp : p l[i] with
    | true =>
      refine iteT (z3 hp H4 a4 _ fun y H5 a5 hy => ?_)
      have eD5 : H5 D = some (.lst acc) := a5.at_ eD4 pl_lst
      refine ⟨acc, eD5, ?_, ((((a'.trans y1).trans a4).trans a5).mut nD eD5 pl_lst), acc ++ [y], upd_same, by simp; omega, ?_⟩
      · exact Nat.lt_of_lt_of_le (Nat.lt_of_le_of_lt hlen hlt) (Nat.le_trans hl (by decide))
      · rw [et, if_pos hp]
        have tk : TK H' (upd H5 D (.lst (acc ++ [y]))) := (y1.tk.trans (a4.tk.trans a5.tk)).lst eD5
        exact (hacc.mono tk).snoc (hy.mono ((TK.refl _).lst eD5))
    | false =>
      refine iteF ⟨(a'.trans y1).trans a4, acc, eD4, by omega, ?_⟩
      rw [et, if_neg (by rw [hp]; exact Bool.false_ne_true), List.append_nil]
      exact hacc.mono (y1.tk.trans a4.tk)
  · have e : i = l.length := by omega
    subst e
    refine .inl ⟨it.stop H' st, ?_⟩
    rw [List.take_length] at hacc
    exact q D acc H' (a.trans a') (a.nf nD) eD hacc
theorem eb_yes : EvB T tYes σ H true := fun H1 a Q q => q H1 (Le.refl a.tab)
/-- the items of a tuple -/
theorem src_tup {te : TE} {f : α → PyData} (he : EvD T K te σ H (.tuple (l.map f))) : Src T (iTup K te) σ H TK l fun H v x => Dt K H v (f x) := by
  intro H1 a Rk q
  refine he H1 a _ fun v H2 a2 hv => ?_
  cases hv with
  | tup hq hx =>
    rename_i pa xs
    refine ⟨pa, rfl, ⟨xs, hq⟩, q _ H2 (fun H' => SqT K H' pa xs ∧ Dts K H' xs (l.map f)) a2 ⟨fun H' st => ⟨xs, st.1, by rw [st.2.length, List.length_map]; exact Nat.le_refl _⟩, fun i x H' st tb hi => ?_⟩ fun H' k => ⟨k.sq hq, hx.mono k⟩⟩
    have e1 : (l.map f)[i]? = some (f x) := by rw [List.getElem?_map, hi]; rfl
    obtain ⟨w, e2, e3⟩ := st.2.get e1
    refine ⟨⟨xs, w, st.1, e2⟩, fun v H'' y => ?_⟩
    obtain ⟨rfl, y⟩ := y
    have ex : v = w := Option.some.inj ((y xs st.1).symm.trans e2)
    subst ex
    exact ⟨Le.refl tb, e3⟩
/-- values and what they stand for -/
inductive Fa (R : V → α → Prop) : List V → List α → Prop
  | nil : Fa R [] []
  | cons {v : V} {x : α} {vs : List V} {xs : List α} : R v x → Fa R vs xs → Fa R (v :: vs) (x :: xs)
theorem Fa.length {R : V → α → Prop} : ∀ {vs : List V} {xs : List α}, Fa R vs xs → vs.length = xs.length
  | _, _, .nil => rfl
  | _, _, .cons _ h => congrArg (· + 1) h.length
theorem Fa.get {R : V → α → Prop} : ∀ {vs : List V} {xs : List α}, Fa R vs xs → ∀ {i : Nat} {x : α}, xs[i]? = some x → ∃ v, vs[i]? = some v ∧ R v x
  | _, _, .nil, i, x, e => by simp at e
  | _, _, .cons h t, 0, x, e => by
    cases Option.some.inj e
    exact ⟨_, rfl, h⟩
  | _, _, .cons h t, i + 1, x, e => t.get (by simpa using e)
theorem Fa.imp {R S : V → α → Prop} (h : ∀ v x, R v x → S v x) : ∀ {vs : List V} {xs : List α}, Fa R vs xs → Fa S vs xs
  | _, _, .nil => .nil
  | _, _, .cons k t => .cons (h _ _ k) (Fa.imp h t)
theorem fa_dts {f : α → PyData} : ∀ {vs : List V} {l : List α}, Dts K H vs (l.map f) → Fa (fun v x => Dt K H v (f x)) vs l
  | [], [], _ => .nil
  | _ :: _, [], h => by cases h
  | [], _ :: _, h => by cases h
  | _ :: _, _ :: _, h => by
    cases h with
    | cons h1 h2 => exact .cons h1 (fa_dts h2)
/-- a list at a that keeps -/
def KL (K : PySem.W.Frag) (a : Addr) (H H' : Hp) : Prop := TK H H' ∧ ∀ xs, SqL K H a xs → SqL K H' a xs
theorem sql_le {a : Addr} {xs : List V} {H' : Hp} (h : SqL K H a xs) (e : Le T H H') : SqL K H' a xs := by
  rcases h with h | h
  · rcases h with h | ⟨o, h⟩
    · exact .inl (.inl (e.ext a _ h fun _ z => by cases z))
    · exact .inl (.inr ⟨o, e.ext a _ h fun _ z => by cases z⟩)
  · exact .inr h
theorem KL.le {a : Addr} {H1 H2 : Hp} (h : Le T H1 H2) : KL K a H1 H2 := ⟨h.tk, fun xs k => sql_le k h⟩
/-- te makes a list: l, by R -/
def EvLs (T : Tabl) (K : PySem.W.Frag) (te : TE) (σ : L2.St) (H : Hp) (l : List α) (R : Hp → V → α → Prop) : Prop :=
  ∀ H1, Le T H H1 → ∀ Q : VK, (∀ a xs H2, Le T H1 H2 → SqL K H2 a xs → Fa (R H2) xs l → Q (.ref a) H2) → te σ H1 Q
theorem src_lst {te : TE} (he : EvLs T K te σ H l R) (hm : ∀ H1 H2 v x, Le T H1 H2 → R H1 v x → R H2 v x) : Src T (iList K te) σ H (fun H1 H2 => Le T H1 H2) l R := by
  intro H1 a Rk q
  refine he H1 a _ fun pa xs H2 a2 hq hx => ?_
  refine ⟨pa, rfl, ⟨xs, hq⟩, q _ H2 (fun H' => SqL K H' pa xs ∧ Fa (R H') xs l) a2 ⟨fun H' st => ⟨xs, st.1, by rw [st.2.length]; exact Nat.le_refl _⟩, fun i x H' st tb hi => ?_⟩ fun H' k => ⟨sql_le hq k, hx.imp fun v x h => hm _ _ v x k h⟩⟩
  obtain ⟨w, e2, e3⟩ := st.2.get hi
  refine ⟨⟨xs, w, st.1, e2⟩, fun v H'' y => ?_⟩
  obtain ⟨rfl, y⟩ := y
  have ex : v = w := Option.some.inj ((y xs st.1).symm.trans e2)
  subst ex
  exact ⟨Le.refl tb, e3⟩
/-- a list in a variable -/
theorem src_var {i : Nat} {a : Addr} {xs : List V} {f : α → PyData} (hq : SqL K H a xs) (hx : Dts K H xs (l.map f)) (h : σ[i]? = some (some (.ref a)) := by rfl) : Src T (iList K (tVar i)) σ H (KL K a) l fun H v x => Dt K H v (f x) := by
  intro H1 a1 Rk q
  refine ⟨.ref a, h, a, rfl, ⟨xs, sql_le hq a1⟩, q _ H1 (fun H' => SqL K H' a xs ∧ Dts K H' xs (l.map f)) (Le.refl a1.tab) ⟨fun H' st => ⟨xs, st.1, by rw [st.2.length, List.length_map]; exact Nat.le_refl _⟩, fun i x H' st tb hi => ?_⟩ fun H' k => ⟨k.2 xs (sql_le hq a1), (hx.mono a1.tk).mono k.1⟩⟩
  have e1 : (l.map f)[i]? = some (f x) := by rw [List.getElem?_map, hi]; rfl
  obtain ⟨w, e2, e3⟩ := st.2.get e1
  refine ⟨⟨xs, w, st.1, e2⟩, fun v H'' y => ?_⟩
  obtain ⟨rfl, y⟩ := y
  have ex : v = w := Option.some.inj ((y xs st.1).symm.trans e2)
  subst ex
  exact ⟨Le.refl tb, e3⟩
/-- zip of two tuples -/
theorem src_zip {β : Type} {ta tc : TE} {f : α → PyData} {h : β → PyData} {m : List β} (h1 : EvD T K ta σ H (.tuple (l.map f))) (h2 : EvD T K tc σ H (.tuple (m.map h))) :
    Src T (RZ.iZipA K (tCons ta (tCons tc tNil))) σ H TK (l.zip m) fun H v x => Dt K H v (.tuple [f x.1, h x.2]) := by
  intro H1 a Rk q
  refine h1 H1 a _ fun v H2 a2 hv => h2 H2 (a.trans a2) _ fun u H3 a3 hu => ?_
  have hv3 := hv.mono a3.tk
  cases hv3 with
  | tup hq hx =>
    rename_i pa xs
    cases hu with
    | tup hq' hx' =>
      rename_i pb ys
      refine ⟨pa, pb, xs, ys, rfl, .inr ⟨hq, hq', q _ H3 (fun H' => (SqT K H' pa xs ∧ Dts K H' xs (l.map f)) ∧ SqT K H' pb ys ∧ Dts K H' ys (m.map h)) (a2.trans a3) ⟨fun H' st => ⟨xs, ys, st.1.1, st.2.1, ?_⟩, fun i x H' st tb hi => ?_⟩ fun H' k => ⟨⟨k.sq hq, hx.mono k⟩, k.sq hq', hx'.mono k⟩⟩⟩
      · rw [st.1.2.length, st.2.2.length, List.length_map, List.length_map, List.length_zip]
        omega
      · obtain ⟨i1, i2⟩ := List.getElem?_zip_eq_some.mp hi
        have e1 : (l.map f)[i]? = some (f x.1) := by rw [List.getElem?_map, i1]; rfl
        have e2 : (m.map h)[i]? = some (h x.2) := by rw [List.getElem?_map, i2]; rfl
        obtain ⟨w, w1, w2⟩ := st.1.2.get e1
        obtain ⟨z, z1, z2⟩ := st.2.2.get e2
        refine ⟨⟨xs, ys, w, z, st.1.1, st.2.1, w1, z1⟩, fun v H'' y => ?_⟩
        obtain ⟨b, x', y', rfl, hb, rfl, y1, y2⟩ := y
        have ex : x' = w := Option.some.inj ((y1 xs st.1.1).symm.trans w1)
        have ey : y' = z := Option.some.inj ((y2 ys st.2.1).symm.trans z1)
        subst ex ey
        have n := Le.new (o := .tup [x', y']) tb hb
        exact ⟨n, .new upd_same (.cons (w2.mono n.tk) (.cons (z2.mono n.tk) .nil))⟩
/-- enumerate of a tuple -/
theorem src_enum {ta : TE} {f : α → PyData} (h1 : EvD T K ta σ H (.tuple (l.map f))) :
    Src T (iEnumT K (tCons ta tNil)) σ H TK (l.zipIdx) fun H v x => Dt K H v (.tuple [.int (x.2 : Int), f x.1]) := by
  intro H1 a Rk q
  refine h1 H1 a _ fun v H2 a2 hv => ?_
  cases hv with
  | tup hq hx =>
    rename_i pa xs
    refine ⟨pa, xs, rfl, hq, q _ H2 (fun H' => SqT K H' pa xs ∧ Dts K H' xs (l.map f)) a2 ⟨fun H' st => ⟨xs, st.1, by rw [st.2.length, List.length_map, List.length_zipIdx]⟩, fun i x H' st tb hi => ?_⟩ fun H' k => ⟨k.sq hq, hx.mono k⟩⟩
    rw [List.getElem?_zipIdx] at hi
    obtain ⟨y0, hy0, ey0⟩ := Option.map_eq_some_iff.mp hi
    subst ey0
    have e1 : (l.map f)[i]? = some (f y0) := by rw [List.getElem?_map, hy0]; rfl
    obtain ⟨w, w1, w2⟩ := st.2.get e1
    refine ⟨⟨xs, w, st.1, w1⟩, fun v H'' y => ?_⟩
    obtain ⟨b, x', rfl, hb, rfl, y1⟩ := y
    have ex : x' = w := Option.some.inj ((y1 xs st.1).symm.trans w1)
    subst ex
    have n := Le.new (o := .tup [.int (i : Nat), x']) tb hb
    refine ⟨n, .new upd_same ?_⟩
    rw [Nat.zero_add]
    exact .cons (.int _) (.cons (w2.mono n.tk) .nil)
end
end Lf
end

section
set_option maxRecDepth 100000
set_option maxHeartbeats 1000000
/-! The walk's own words: dicts as tables of data; lists that grow; tuples known to their objects. -/
namespace Lf
open PySem PySem.Spec PyProof.Rows L2

section
variable {κ κ' : Type} [DecidableEq κ] [DecidableEq κ']
def getL (l : List (κ' × PyData)) (k : κ') : Option PyData := (l.find? fun q => decide (q.1 = k)).map (·.2)
def putL (l : List (κ' × PyData)) (k : κ') (d : PyData) : List (κ' × PyData) :=
  if (l.any fun q => decide (q.1 = k)) = true then l.map (fun q => if q.1 = k then (q.1, d) else q) else l ++ [(k, d)]
/-- the table kvs stands for l -/
inductive DR (emb : κ' → κ) (K : PySem.W.Frag) (H : Hp) : List (κ × V) → List (κ' × PyData) → Prop
  | nil : DR emb K H [] []
  | cons {k : κ'} {v : V} {d : PyData} {kvs : List (κ × V)} {l : List (κ' × PyData)} : Dt K H v d → DR emb K H kvs l → DR emb K H ((emb k, v) :: kvs) ((k, d) :: l)
variable {emb : κ' → κ} {K : PySem.W.Frag} {H H' : Hp}
theorem DR.mono (e : TK H H') : ∀ {kvs : List (κ × V)} {l : List (κ' × PyData)}, DR emb K H kvs l → DR emb K H' kvs l
  | _, _, .nil => .nil
  | _, _, .cons h t => .cons (h.mono e) (t.mono e)
theorem DR.length : ∀ {kvs : List (κ × V)} {l : List (κ' × PyData)}, DR emb K H kvs l → kvs.length = l.length
  | _, _, .nil => rfl
  | _, _, .cons _ t => congrArg (· + 1) t.length
theorem DR.keys : ∀ {kvs : List (κ × V)} {l : List (κ' × PyData)}, DR emb K H kvs l → kvs.map (·.1) = (l.map (·.1)).map emb
  | _, _, .nil => rfl
  | _, _, .cons _ t => by rw [List.map_cons, List.map_cons, List.map_cons, t.keys]
theorem DR.any (inj : ∀ a b, emb a = emb b → a = b) (k : κ') : ∀ {kvs : List (κ × V)} {l : List (κ' × PyData)}, DR emb K H kvs l → (kvs.any fun kv => decide (kv.1 = emb k)) = l.any fun q => decide (q.1 = k)
  | _, _, .nil => rfl
  | _, _, .cons (k := k') h t => by
    rw [List.any_cons, List.any_cons, t.any inj k]
    congr 1
    exact decide_eq_decide.mpr ⟨inj _ _, fun z => congrArg emb z⟩
theorem DR.val (inj : ∀ a b, emb a = emb b → a = b) (k : κ') : ∀ {kvs : List (κ × V)} {l : List (κ' × PyData)}, DR emb K H kvs l →
    (getL l k = none ∧ valV kvs (emb k) = none) ∨ ∃ d v, getL l k = some d ∧ valV kvs (emb k) = some v ∧ Dt K H v d
  | _, _, .nil => .inl ⟨rfl, rfl⟩
  | _, _, .cons (k := k') (v := v) (d := d) h t => by
    by_cases e : k' = k
    · exact .inr ⟨d, v, by simp [getL, List.find?_cons, e], valV_pos (p := (emb k', v)) (congrArg emb e), h⟩
    · have n1 : ∀ r : List (κ × V), valV ((emb k', v) :: r) (emb k) = valV r (emb k) := fun r => valV_neg (p := (emb k', v)) (r := r) fun z => e (inj _ _ z)
      have n2 : ∀ l, getL ((k', d) :: l) k = getL l k := fun l => by simp [getL, List.find?_cons, e]
      rw [n1, n2]
      exact t.val inj k
theorem DR.repl (inj : ∀ a b, emb a = emb b → a = b) {k : κ'} {v : V} {d : PyData} (hv : Dt K H v d) : ∀ {kvs : List (κ × V)} {l : List (κ' × PyData)}, DR emb K H kvs l →
    DR emb K H (kvs.map fun kv => if kv.1 = emb k then (kv.1, v) else kv) (l.map fun q => if q.1 = k then (q.1, d) else q)
  | _, _, .nil => .nil
  | _, _, .cons (k := k') h t => by
    rw [List.map_cons, List.map_cons]
    by_cases e : k' = k
    · rw [if_pos (show (emb k', _).1 = emb k from congrArg emb e), if_pos (show (k', _).1 = k from e)]
      exact .cons hv (t.repl inj hv)
    · rw [if_neg (show ¬ (emb k', _).1 = emb k from fun z => e (inj _ _ z)), if_neg (show ¬ (k', _).1 = k from e)]
      exact .cons h (t.repl inj hv)
theorem DR.snoc {k : κ'} {v : V} {d : PyData} (hv : Dt K H v d) : ∀ {kvs : List (κ × V)} {l : List (κ' × PyData)}, DR emb K H kvs l → DR emb K H (kvs ++ [(emb k, v)]) (l ++ [(k, d)])
  | _, _, .nil => .cons hv .nil
  | _, _, .cons h t => .cons h (t.snoc hv)
theorem DR.put (inj : ∀ a b, emb a = emb b → a = b) {k : κ'} {v : V} {d : PyData} (hv : Dt K H v d) {kvs : List (κ × V)} {l : List (κ' × PyData)} (h : DR emb K H kvs l) : DR emb K H (putK kvs (emb k) v) (putL l k d) := by
  unfold putK putL
  rw [h.any inj k]
  by_cases e : (l.any fun q => decide (q.1 = k)) = true
  · rw [if_pos e, if_pos e]; exact h.repl inj hv
  · rw [if_neg e, if_neg e]; exact h.snoc hv
theorem putL_len (l : List (κ' × PyData)) (k : κ') (d : PyData) : (putL l k d).length ≤ l.length + 1 := by
  unfold putL
  split
  · rw [List.length_map]; omega
  · rw [List.length_append]; exact Nat.le_refl _
theorem putL_new {l : List (κ' × PyData)} {k : κ'} {d : PyData} (h : k ∉ l.map (·.1)) : putL l k d = l ++ [(k, d)] := by
  unfold putL
  rw [if_neg]
  intro z
  obtain ⟨q, hq, e⟩ := List.any_eq_true.mp z
  exact h (List.mem_map.mpr ⟨q, hq, of_decide_eq_true e⟩)
/-- tables over a list of keys -/
theorem getL_map (f : κ' → PyData) {k : κ'} : ∀ {ks : List κ'}, k ∈ ks → getL (ks.map fun p => (p, f p)) k = some (f k)
  | [], h => by cases h
  | a :: ks, h => by
    by_cases e : a = k
    · subst e
      simp [getL, List.find?_cons]
    · have h' : k ∈ ks := by
        rcases List.mem_cons.mp h with z | z
        · exact absurd z.symm e
        · exact z
      have := getL_map f h'
      simp only [getL, List.map_cons, List.find?_cons, e, decide_false] at this ⊢
      exact this
theorem getL_none (f : κ' → PyData) {k : κ'} : ∀ {ks : List κ'}, k ∉ ks → getL (ks.map fun p => (p, f p)) k = none
  | [], _ => rfl
  | a :: ks, h => by
    have e : ¬ a = k := fun z => h (z ▸ List.mem_cons_self)
    have := getL_none f (k := k) (ks := ks) fun z => h (List.mem_cons_of_mem _ z)
    simp only [getL, List.map_cons, List.find?_cons, e, decide_false] at this ⊢
    exact this
theorem putL_map (f : κ' → PyData) {k : κ'} {d : PyData} {ks : List κ'} (h : k ∈ ks) : putL (ks.map fun p => (p, f p)) k d = ks.map fun p => (p, if p = k then d else f p) := by
  unfold putL
  have e : ((ks.map fun p => (p, f p)).any fun q => decide (q.1 = k)) = true := List.any_eq_true.mpr ⟨(k, f k), List.mem_map.mpr ⟨k, h, rfl⟩, decide_eq_true rfl⟩
  rw [if_pos e, List.map_map]
  refine List.map_congr_left fun p _ => ?_
  show (if p = k then (p, d) else (p, f p)) = _
  by_cases z : p = k
  · rw [if_pos z, if_pos z]
  · rw [if_neg z, if_neg z]
theorem getL_app_none {l m : List (κ' × PyData)} {k : κ'} (h : getL l k = none) : getL (l ++ m) k = getL m k := by
  unfold getL at *
  rw [List.find?_append]
  cases e : l.find? fun q => decide (q.1 = k) with
  | none => rfl
  | some q => rw [e] at h; cases h
end

/-! ### int keys -/
def emI (i : Int) : Key := .inl i
theorem emI_inj (a b : Int) (h : emI a = emI b) : a = b := Sum.inl.inj h
def Dic (K : PySem.W.Frag) (H : Hp) (p : Addr) (l : List (Int × PyData)) : Prop := ∃ kvs : List (Key × V), H p = some (.dK kvs) ∧ DR emI K H kvs l
/-! ### pairs of ints as keys -/
def emP (q : Int × Int) : List Key := [.inl q.1, .inl q.2]
theorem emP_inj (a b : Int × Int) (h : emP a = emP b) : a = b := by
  unfold emP at h
  injection h with h1 h2
  injection h2 with h2 _
  exact Prod.ext (Sum.inl.inj h1) (Sum.inl.inj h2)
def DicP (K : PySem.W.Frag) (H : Hp) (p : Addr) (l : List ((Int × Int) × PyData)) : Prop := ∃ kvs : List (List Key × V), H p = some (.dT kvs) ∧ DR emP K H kvs l
section
variable {T : Tabl} {K : PySem.W.Frag} {σ : L2.St} {H H0 H' : Hp} {tv ty te : TE} {d e : PyData} {D : Ends} {p : Addr} {l : List (Int × PyData)} {lp : List ((Int × Int) × PyData)}
theorem Dic.le (h : Dic K H p l) (a : Le T H H') : Dic K H' p l := by
  obtain ⟨kvs, h1, h2⟩ := h
  exact ⟨kvs, a.at_ h1 pl_dK, h2.mono a.tk⟩
theorem DicP.le (h : DicP K H p lp) (a : Le T H H') : DicP K H' p lp := by
  obtain ⟨kvs, h1, h2⟩ := h
  exact ⟨kvs, a.at_ h1 pl_dT, h2.mono a.tk⟩
/-- d[k] -/
theorem ev_dget {i : Nat} {k : Int} (hD : Dic K H p l) (hk : EvD T K ty σ H (.int k)) (hl : getL l k = some d) (hσ : σ[i]? = some (some (.ref p)) := by rfl) : EvD T K (tDGet (tVar i) ty) σ H d := fun H1 a Q q =>
  ⟨.ref p, hσ, hk H1 a _ fun v H2 a2 hv => by
    cases hv
    obtain ⟨kvs, h1, h2⟩ := hD.le (a.trans a2)
    rcases h2.val emI_inj k with ⟨z, _⟩ | ⟨d', v, z, z2, hv⟩
    · rw [hl] at z; cases z
    · rw [hl] at z
      cases z
      exact ⟨p, v, rfl, .inl ⟨kvs, emI k, .inl h1, rfl, z2.symm⟩, q v H2 a2 hv⟩⟩
/-- d[k] = v, d a local dict -/
theorem sd_dput {i : Nat} {k : Int} (hD : Dic K H p l) (a : Le T H0 H) (n : Nf H0 p) (hv : EvD T K tv σ H d) (hk : EvD T K ty σ H (.int k)) (hz : l.length ≤ 100000)
    (q : ∀ H', Le T H0 H' → TK H H' → (∀ b o, b ≠ p → H b = some o → (∀ ps, o ≠ .tbl ps) → H' b = some o) → Dic K H' p (putL l k d) → D.nx σ H') (hσ : σ[i]? = some (some (.ref p)) := by rfl) : sDPut (tVar i) ty tv D σ H :=
  hv H (Le.refl a.tab) _ fun v H1 a1 hv => ⟨.ref p, hσ, hk H1 a1 _ fun u H2 a2 hu => by
    cases hu
    obtain ⟨kvs, h1, h2⟩ := hD.le (a1.trans a2)
    have tk : TK H2 (upd H2 p (.dK (putK kvs (emI k) v))) := (TK.refl H2).dK h1
    refine ⟨p, _, rfl, .inl ⟨kvs, emI k, h1, rfl, by rw [h2.length]; exact Nat.lt_of_le_of_lt hz (by decide), rfl⟩, q _ (((a.trans a1).trans a2).mut n h1 pl_dK) ((a1.tk.trans a2.tk).trans tk) (fun b o hb ho z => ?_) ⟨_, upd_same, (h2.put emI_inj (hv.mono a2.tk)).mono tk⟩⟩
    rw [upd_ne hb]
    exact (a1.trans a2).ext b o ho z⟩
/-- k in d, k not in d -/
theorem eb_din {i : Nat} {k : Int} (hD : Dic K H p l) (hk : EvD T K ty σ H (.int k)) (hσ : σ[i]? = some (some (.ref p)) := by rfl) : EvB T (tB (tDIn ty (tVar i))) σ H (getL l k).isSome := fun H1 a Q q =>
  hk H1 a _ fun v H2 a2 hv => ⟨.ref p, hσ, by
    cases hv
    obtain ⟨kvs, h1, h2⟩ := hD.le (a.trans a2)
    rcases h2.val emI_inj k with ⟨z, z2⟩ | ⟨d', v, z, z2, hv⟩
    · exact ⟨p, none, rfl, .inl ⟨kvs, emI k, .inl h1, rfl, z2.symm⟩, false, rfl, by rw [z] at q; exact q H2 a2⟩
    · exact ⟨p, some v, rfl, .inl ⟨kvs, emI k, .inl h1, rfl, z2.symm⟩, true, rfl, by rw [z] at q; exact q H2 a2⟩⟩
theorem eb_dnotin {i : Nat} {k : Int} (hD : Dic K H p l) (hk : EvD T K ty σ H (.int k)) (hσ : σ[i]? = some (some (.ref p)) := by rfl) : EvB T (tB (tDNotIn ty (tVar i))) σ H (!(getL l k).isSome) := fun H1 a Q q =>
  hk H1 a _ fun v H2 a2 hv => ⟨.ref p, hσ, by
    cases hv
    obtain ⟨kvs, h1, h2⟩ := hD.le (a.trans a2)
    rcases h2.val emI_inj k with ⟨z, z2⟩ | ⟨d', v, z, z2, hv⟩
    · exact ⟨p, none, rfl, .inl ⟨kvs, emI k, .inl h1, rfl, z2.symm⟩, true, rfl, by rw [z] at q; exact q H2 a2⟩
    · exact ⟨p, some v, rfl, .inl ⟨kvs, emI k, .inl h1, rfl, z2.symm⟩, false, rfl, by rw [z] at q; exact q H2 a2⟩⟩
/-- a tuple that is a key -/
def EvK (T : Tabl) (te : TE) (σ : L2.St) (H : Hp) (k : Int × Int) : Prop := ∀ H1, Le T H H1 → ∀ Q : VK, (∀ b H2, Le T H1 H2 → H2 b = some (.tup ((emP k).map kV)) → Q (.ref b) H2) → te σ H1 Q
theorem ek_tup {ta tb : TE} {i j : Int} (h1 : EvD T K ta σ H (.int i)) (h2 : EvD T K tb σ H (.int j)) : EvK T (tTup (tCons ta (tCons tb tNil))) σ H (i, j) := fun H1 a Q q =>
  h1 H1 a _ fun v H2 a2 hv => h2 H2 (a.trans a2) _ fun u H3 a3 hu => by
    cases hv; cases hu
    exact ⟨(by show 2 ≤ sizeLine; decide), fun b hb => q b _ ((a2.trans a3).trans (Le.new a3.tab hb)) upd_same⟩
theorem ek_var {i : Nat} {b : Addr} {k : Int × Int} (hb : H b = some (.tup ((emP k).map kV))) (hσ : σ[i]? = some (some (.ref b)) := by rfl) : EvK T (tVar i) σ H k := fun H1 a Q q => ⟨.ref b, hσ, q b H1 (Le.refl a.tab) (a.at_ hb pl_tup)⟩
theorem ev_dgetP {i : Nat} {k : Int × Int} (hD : DicP K H p lp) (hk : EvK T ty σ H k) (hl : getL lp k = some d) (hσ : σ[i]? = some (some (.ref p)) := by rfl) : EvD T K (tDGet (tVar i) ty) σ H d := fun H1 a Q q =>
  ⟨.ref p, hσ, hk H1 a _ fun b H2 a2 hb => by
    obtain ⟨kvs, h1, h2⟩ := hD.le (a.trans a2)
    rcases h2.val emP_inj k with ⟨z, _⟩ | ⟨d', v, z, z2, hv⟩
    · rw [hl] at z; cases z
    · rw [hl] at z
      cases z
      exact ⟨p, v, rfl, .inr ⟨kvs, emP k, b, .inl h1, rfl, hb, z2.symm⟩, q v H2 a2 hv⟩⟩
/-- d.get(k, x) -/
theorem ev_dget2P {i : Nat} {k : Int × Int} {tx : TE} (hD : DicP K H p lp) (hk : EvK T ty σ H k) (hx : EvD T K tx σ H e) (hσ : σ[i]? = some (some (.ref p)) := by rfl) : EvD T K (tDGet2 (tVar i) ty tx) σ H ((getL lp k).getD e) := fun H1 a Q q =>
  ⟨.ref p, hσ, p, rfl, .inr (let ⟨kvs, h1, _⟩ := hD.le a; ⟨kvs, .inl h1⟩), hk H1 a _ fun b H2 a2 hb => hx H2 (a.trans a2) _ fun z H3 a3 hz => by
    obtain ⟨kvs, h1, h2⟩ := hD.le ((a.trans a2).trans a3)
    have hb3 : H3 b = some (.tup ((emP k).map kV)) := a3.at_ hb pl_tup
    rcases h2.val emP_inj k with ⟨y, y2⟩ | ⟨d', v, y, y2, hv⟩
    · exact ⟨none, .inr ⟨kvs, emP k, b, .inl h1, rfl, hb3, y2.symm⟩, by rw [y] at q; exact q z H3 (a2.trans a3) hz⟩
    · exact ⟨some v, .inr ⟨kvs, emP k, b, .inl h1, rfl, hb3, y2.symm⟩, by rw [y] at q; exact q v H3 (a2.trans a3) hv⟩⟩
theorem sd_dputP {i : Nat} {k : Int × Int} (hD : DicP K H p lp) (a : Le T H0 H) (n : Nf H0 p) (hv : EvD T K tv σ H d) (hk : EvK T ty σ H k) (hz : lp.length ≤ 100000)
    (q : ∀ H', Le T H0 H' → TK H H' → (∀ b o, b ≠ p → H b = some o → (∀ ps, o ≠ .tbl ps) → H' b = some o) → DicP K H' p (putL lp k d) → D.nx σ H') (hσ : σ[i]? = some (some (.ref p)) := by rfl) : sDPut (tVar i) ty tv D σ H :=
  hv H (Le.refl a.tab) _ fun v H1 a1 hv => ⟨.ref p, hσ, hk H1 a1 _ fun b H2 a2 hb => by
    obtain ⟨kvs, h1, h2⟩ := hD.le (a1.trans a2)
    have tk : TK H2 (upd H2 p (.dT (putK kvs (emP k) v))) := (TK.refl H2).dT h1
    refine ⟨p, _, rfl, .inr ⟨kvs, emP k, b, h1, rfl, hb, by rw [h2.length]; exact Nat.lt_of_le_of_lt hz (by decide), rfl⟩, q _ (((a.trans a1).trans a2).mut n h1 pl_dT) ((a1.tk.trans a2.tk).trans tk) (fun c o hc ho z => ?_) ⟨_, upd_same, (h2.put emP_inj (hv.mono a2.tk)).mono tk⟩⟩
    rw [upd_ne hc]
    exact (a1.trans a2).ext c o ho z⟩
/-- xs.append(e), xs a local list -/
theorem sd_append {i : Nat} {acc : List V} (hp : H p = some (.lst acc)) (a : Le T H0 H) (n : Nf H0 p) (he : EvD T K te σ H d) (hz : acc.length ≤ 100000)
    (q : ∀ v H', Le T H0 H' → TK H H' → (∀ b o, b ≠ p → H b = some o → (∀ ps, o ≠ .tbl ps) → H' b = some o) → H' p = some (.lst (acc ++ [v])) → Dt K H' v d → D.nx σ H') (hσ : σ[i]? = some (some (.ref p)) := by rfl) :
    tDrop (tBM K "list" rAppend (tVar i) (tCons te tNil)) D σ H :=
  ⟨.ref p, hσ, .inl ⟨rfl, acc, SqL.of hp⟩, he H (Le.refl a.tab) _ fun v H1 a1 hv => by
    have h1 : H1 p = some (.lst acc) := a1.at_ hp pl_lst
    have tk : TK H1 (upd H1 p (.lst (acc ++ [v]))) := (TK.refl H1).lst h1
    refine ⟨p, acc, v, rfl, rfl, h1, Nat.lt_of_le_of_lt hz (by decide), q v _ ((a.trans a1).mut n h1 pl_lst) (a1.tk.trans tk) (fun b o hb ho z => ?_) upd_same (hv.mono tk)⟩
    rw [upd_ne hb]
    exact a1.ext b o ho z⟩
/-- a new list in a variable: [] -/
theorem sd_nil {i : Nat} (tH : LamX.Tabs T H) (q : ∀ p H', Le T H H' → Nf H p → H' p = some (.lst []) → D.nx (σ.set i (some (.ref p))) H') : tAsg (tLst tNil) (gName i) D σ H := by
  refine ⟨Nat.zero_le _, fun p hp => q p _ (Le.new tH hp) (Nf.of hp) upd_same⟩
/-- a new list -/
theorem sd_setL {i : Nat} {ds : List PyData} (h : EvL T K te σ H ds) (tH : LamX.Tabs T H) (q : ∀ p vs H', Le T H H' → Nf H p → H' p = some (.lst vs) → Dts K H' vs ds → D.nx (σ.set i (some (.ref p))) H') : tAsg te (gName i) D σ H :=
  h H (Le.refl tH) _ fun p vs H2 a n e hv => q p vs H2 a n e hv

/-! ### tuples known to their objects -/
/-- v is a tuple of data, known to its object -/
def DF (K : PySem.W.Frag) (H : Hp) (v : V) (ds : List PyData) : Prop := ∃ (a : Addr) (o : Obj) (xs : List V), v = .ref a ∧ H a = some (.frz o (.tup xs)) ∧ o.dict = none ∧ Dts K H xs ds
theorem DF.dt {v : V} {ds : List PyData} (h : DF K H v ds) : Dt K H v (.tuple ds) := by
  obtain ⟨a, o, xs, rfl, h1, _, h2⟩ := h
  exact .tup (.inl (.inr ⟨o, h1⟩)) h2
theorem DF.le {v : V} {ds : List PyData} (h : DF K H v ds) (a : Le T H H') : DF K H' v ds := by
  obtain ⟨b, o, xs, e, h1, h2, h3⟩ := h
  exact ⟨b, o, xs, e, a.ext b _ h1 (fun _ z => by cases z), h2, h3.mono a.tk⟩
/-- tuple([..]) -/
def EvF (T : Tabl) (K : PySem.W.Frag) (te : TE) (σ : L2.St) (H : Hp) (ds : List PyData) : Prop := ∀ H1, Le T H H1 → ∀ Q : VK, (∀ v H2, Le T H1 H2 → DF K H2 v ds → Q v H2) → te σ H1 Q
theorem ef_tup {ta : TE} {ds : List PyData} (h : EvL T K ta σ H ds) : EvF T K (tCB (rTupF K) (tCons ta tNil)) σ H ds := fun H1 a Q q =>
  h H1 a _ fun p vs H2 a2 n e hv => ⟨p, vs, rfl, SqL.of e, fun l o hl ho => by
    have nn := Le.new (o := .frz o (.tup vs)) a2.tab hl
    exact q _ _ (a2.trans nn) ⟨l, o, vs, rfl, upd_same, ho, hv.mono nn.tk⟩⟩
theorem ef_var {i : Nat} {v : V} {ds : List PyData} (h : DF K H v ds) (hσ : σ[i]? = some (some v) := by rfl) : EvF T K (tVar i) σ H ds := fun H1 a Q q => ⟨v, hσ, q v H1 (Le.refl a.tab) (h.le a)⟩
theorem EvF.ev {ds : List PyData} (h : EvF T K te σ H ds) : EvD T K te σ H (.tuple ds) := fun H1 a Q q => h H1 a Q fun v H2 a2 hv => q v H2 a2 hv.dt
/-- the pairs' data -/
def prI (q : Int × PyData) : PyData := .tuple [.int q.1, q.2]
theorem merge_dr {kvs : List (Key × V)} : ∀ {more : List (Key × V)} {l : List (Int × PyData)} {acc : List (Key × V)} {m : List (Int × PyData)}, DR emI K H acc m → DR emI K H more l → (l.map (·.1)).Nodup → (∀ k ∈ l.map (·.1), k ∉ m.map (·.1)) →
    DR emI K H (mergeK acc more) (m ++ l)
  | [], [], acc, m, h, .nil, _, _ => by
    rw [List.append_nil]; exact h
  | (_, v) :: more, (k, d) :: l, acc, m, h, .cons hv t, hn, hd => by
    have hn' := List.nodup_cons.mp hn
    have hk : k ∉ m.map (·.1) := hd k List.mem_cons_self
    have h2 : DR emI K H (putK acc (emI k) v) (m ++ [(k, d)]) := by
      rw [← putL_new hk]
      exact h.put emI_inj hv
    have := merge_dr (kvs := kvs) h2 t hn'.2 fun j hj z => by
      rw [List.map_append] at z
      rcases List.mem_append.mp z with z | z
      · exact hd j (List.mem_cons_of_mem _ hj) z
      · rw [List.map_cons, List.map_nil, List.mem_singleton] at z
        subst z
        exact hn'.1 hj
    rw [List.append_assoc] at this
    exact this
theorem prs_dr : ∀ {xs : List V} {l : List (Int × PyData)}, Dts K H xs (l.map prI) → ∃ (ps : List Addr) (kvs : List (Key × V)), xs = ps.map V.ref ∧ Paired (fun p kv => SqT K H p [kV kv.1, kv.2]) ps kvs ∧ DR emI K H kvs l
  | [], [], _ => ⟨[], [], rfl, .nil, .nil⟩
  | _ :: _, [], h => by cases h
  | [], _ :: _, h => by cases h
  | x :: xs, (k, d) :: l, h => by
    cases h with
    | cons h1 h2 =>
    obtain ⟨ps, kvs, e, hp, hd⟩ := prs_dr h2
    have h1' : Dt K H x (.tuple [.int k, d]) := h1
    cases h1' with
    | tup hs hx =>
    rename_i a ys
    cases hx with
    | cons y1 y2 =>
    cases y2 with
    | cons y2 y3 =>
    cases y3
    cases y1
    exact ⟨a :: ps, (emI k, _) :: kvs, by rw [List.map_cons, e], .cons hs hp, .cons y2 hd⟩
/-- dict(t) -/
def EvDic (T : Tabl) (K : PySem.W.Frag) (te : TE) (σ : L2.St) (H : Hp) (l : List (Int × PyData)) : Prop := ∀ H1, Le T H H1 → ∀ Q : VK, (∀ p H2, Le T H1 H2 → Nf H1 p → Dic K H2 p l → Q (.ref p) H2) → te σ H1 Q
theorem ed_dictT {ta : TE} (h : EvF T K ta σ H (l.map prI)) (hn : (l.map (·.1)).Nodup) : EvDic T K (tCB (rDictT K) (tCons ta tNil)) σ H l := fun H1 a Q q =>
  h H1 a _ fun v H2 a2 hv => by
    obtain ⟨b, o, xs, rfl, h1, h2, h3⟩ := hv
    obtain ⟨ps, kvs, e, hp, hd⟩ := prs_dr h3
    subst e
    refine ⟨b, o, ps, kvs, rfl, h1, h2, hp, fun p hpn => ?_⟩
    have nn := Le.new (o := .dK (mergeK [] kvs)) a2.tab hpn
    have := merge_dr (kvs := []) (acc := []) (m := []) DR.nil hd hn fun _ _ z => by cases z
    exact q p _ (a2.trans nn) (a2.nf (Nf.of hpn)) ⟨_, upd_same, this.mono nn.tk⟩
theorem sd_setD {i : Nat} (h : EvDic T K te σ H l) (tH : LamX.Tabs T H) (q : ∀ p H', Le T H H' → Nf H p → Dic K H' p l → D.nx (σ.set i (some (.ref p))) H') : tAsg te (gName i) D σ H := h H (Le.refl tH) _ fun p H2 a n hd => q p H2 a n hd
/-- t[::-1] -/
theorem ev_rev {ds : List PyData} (h : EvD T K te σ H (.tuple ds)) : EvD T K (tRevT K te) σ H (.tuple ds.reverse) := fun H1 a Q q =>
  h H1 a _ fun v H2 a2 hv => by
    cases hv with
    | tup hs hd =>
      rename_i b xs
      refine ⟨b, xs, rfl, hs, fun p hp => ?_⟩
      have n := Le.new (o := .tup xs.reverse) a2.tab hp
      exact q _ _ (a2.trans n) (.new upd_same (hd.mono n.tk).rev)
end
end Lf
end

section
set_option maxRecDepth 100000
set_option maxHeartbeats 4000000
/-! The walk of the fractions. -/
namespace Lf
open PySem PySem.Spec PyProof.Rows L2
def topS (i : Nat) : Stmt := PySem.Challenge.pw_leastfield_k55_whole_floors_by_streams.main.body.getD i (.Pass ⟨0, 0, 0, 0⟩)
/-- a fraction as data -/
def fr (x : Rat) : PyData := .tuple [.int x.num, .int (x.den : Int)]
theorem hu65 {A : Around} {k : Nat} (hr : Room k A) : A.units + 65 < cLine := by have := hr.un; omega
theorem mk_num (t b : Int) (hb : 0 < b) : (mkRat t b.toNat).num = t / ((Nat.gcd t.natAbs b.natAbs : Nat) : Int) := by
  rw [Rat.num_mkRat, if_neg (by omega), Nat.gcd_comm]
  have : b.toNat = b.natAbs := by omega
  rw [this]
theorem mk_den (t b : Int) (hb : 0 < b) : ((mkRat t b.toNat).den : Int) = b / ((Nat.gcd t.natAbs b.natAbs : Nat) : Int) := by
  rw [Rat.den_mkRat, if_neg (by omega), Nat.gcd_comm]
  have : b.toNat = b.natAbs := by omega
  rw [this, Int.natCast_ediv]
  have e : ((b.natAbs : Nat) : Int) = b := by omega
  rw [e]
theorem fr_mk (t b : Int) (hb : 0 < b) : fr (mkRat t b.toNat) = .tuple [.int (t / ((Nat.gcd t.natAbs b.natAbs : Nat) : Int)), .int (b / ((Nat.gcd t.natAbs b.natAbs : Nat) : Int))] := by
  unfold fr
  rw [mk_num t b hb, mk_den t b hb]
theorem Sm.den_pos (x : Rat) : 0 < (x.den : Int) := by have := x.den_pos; omega
theorem Sm.mul {i j : Int} (h : i.natAbs < 2 ^ 1400) (k : j.natAbs < 2 ^ 1400) : CMulW i j := wide_mul h k (by decide) (by decide) (by decide)
theorem Sm.dn {x : Rat} (h : Sm x) : ((x.den : Int)).natAbs < 2 ^ 1400 := by have := h.2; simpa using this
theorem Sm.prod {i j : Int} (h : i.natAbs < 2 ^ 1400) (k : j.natAbs < 2 ^ 1400) : (i * j).natAbs < 2 ^ 2800 := wide_lt h k
theorem add_mk (x y : Rat) : x + y = mkRat (x.num * y.den + y.num * x.den) ((x.den : Int) * (y.den : Int)).toNat := by
  rw [Rat.add_def', ← Int.natCast_mul, Int.toNat_natCast]
theorem sub_mk (x y : Rat) : x - y = mkRat (x.num * y.den - y.num * x.den) ((x.den : Int) * (y.den : Int)).toNat := by
  rw [Rat.sub_def', ← Int.natCast_mul, Int.toNat_natCast]
theorem mul_mk (x y : Rat) : x * y = mkRat (x.num * y.num) ((x.den : Int) * (y.den : Int)).toNat := by
  rw [Rat.mul_def', ← Int.natCast_mul, Int.toNat_natCast]
theorem half_mk (x : Rat) : x / 2 = mkRat x.num (2 * (x.den : Int)).toNat := by
  have e : (2 * (x.den : Int)).toNat = 2 * x.den := by omega
  rw [e, Rat.div_def, Rat.mul_def']
  have e1 : ((2 : Rat)⁻¹).num = 1 := by decide +kernel
  have e2 : ((2 : Rat)⁻¹).den = 2 := by decide +kernel
  rw [e1, e2, Int.mul_one, Nat.mul_comm]
theorem over_mk (x y : Rat) (hy : 0 < y) : x / y = mkRat (x.num * y.den) ((x.den : Int) * y.num).toNat := by
  have hn : 0 < y.num := by
    have h1 := Rat.num_nonneg.mpr (Rat.le_of_lt hy)
    have h2 : y.num ≠ 0 := fun z => by
      have := Rat.num_eq_zero.mp z
      rw [this] at hy
      exact absurd hy (by decide)
    omega
  obtain ⟨n, hn'⟩ : ∃ n : Nat, y.num = (n : Int) := ⟨y.num.toNat, by omega⟩
  have n0 : n ≠ 0 := by omega
  have e1 : y⁻¹ = mkRat (y.den : Int) n := by
    rw [Rat.inv_def, hn', Rat.divInt_ofNat]
  rw [Rat.div_def, e1]
  rw (occs := .pos [1]) [← Rat.mkRat_self x]
  rw [Rat.mkRat_mul_mkRat, hn', ← Int.natCast_mul, Int.toNat_natCast]
theorem num_pos {y : Rat} (hy : 0 < y) : 0 < y.num := by
  have h1 := Rat.num_nonneg.mpr (Rat.le_of_lt hy)
  have h2 : y.num ≠ 0 := fun z => by
    have := Rat.num_eq_zero.mp z
    rw [this] at hy
    exact absurd hy (by decide)
  omega

/-! ### what the defs do -/
def pFraction : List PyData → PyData → Prop := fun ds r => ∃ t b : Int, ds = [.int t, .int b] ∧ 0 < b ∧ b.natAbs < 2 ^ 2801 ∧ r = fr (mkRat t b.toNat)
def pPlus : List PyData → PyData → Prop := fun ds r => ∃ x y : Rat, ds = [fr x, fr y] ∧ Sm x ∧ Sm y ∧ r = fr (x + y)
def pMinus : List PyData → PyData → Prop := fun ds r => ∃ x y : Rat, ds = [fr x, fr y] ∧ Sm x ∧ Sm y ∧ r = fr (x - y)
def pTimes : List PyData → PyData → Prop := fun ds r => ∃ x y : Rat, ds = [fr x, fr y] ∧ Sm x ∧ Sm y ∧ r = fr (x * y)
def pOver : List PyData → PyData → Prop := fun ds r => ∃ x y : Rat, ds = [fr x, fr y] ∧ Sm x ∧ Sm y ∧ 0 < y ∧ r = fr (x / y)
def pHalf : List PyData → PyData → Prop := fun ds r => ∃ x : Rat, ds = [fr x] ∧ Sm x ∧ r = fr (x / 2)
def sgn (x : Rat) : Int := if x.num = 0 then 0 else if 0 < x.num then 1 else -1
def pSign : List PyData → PyData → Prop := fun ds r => ∃ x : Rat, ds = [fr x] ∧ r = .int (sgn x)
/-- total_of: a list of fractions -/
def spTotal (T : Tabl) (K : PySem.W.Frag) : Sp := fun vs H Q _ => LamX.Tabs T H ∧ ∃ (a : Addr) (xs : List V) (l : List Rat), vs = [.ref a] ∧ SqL K H a xs ∧ Dts K H xs (l.map fr) ∧ SumOk 0 l ∧ ∀ v H', Le T H H' → Dt K H' v (fr (tot l)) → Q v H'

section
variable {P : Program} {w : World} {K : PySem.W.Frag} {mg : Str → Option Value} {base : Heap} {T : Tabl}
theorem cal_of {x q : Str} {st : Stmt} {f : Addr} {fd : FuncData} {ps : List Str} {k : Nat} {sp : Sp} (F : Fun K x q st f fd) (h : FnOk P w K mg base CX0 k f fd ps sp) (g : mg x = some (.ref f)) (b : Binds K fd ps []) : Cal P w K mg base x ps k sp := ⟨f, fd, h, g, F.kp, b⟩
theorem pur_len {p : List PyData → PyData → Prop} {n : Nat} (hp : ∀ ds r, p ds r → ds.length = n) : ∀ vs H Q E, Pur T K p vs H Q E → vs.length = n := fun vs H Q E ⟨_, ds, r, hv, h, _⟩ => by
  rw [hv.length]; exact hp ds r h

abbrev s_fraction : Stmt := topS 13
abbrev N_fraction : List Str := ["top", "bottom", "common"]
theorem sc_fraction : FnScope N_fraction ["top", "bottom"] (defScope s_fraction) := ⟨rfl, rfl, rfl, by decide +kernel, rfl, by decide +kernel, by decide +kernel⟩
theorem ok_fraction {f : Addr} {fd : FuncData} (F : Fun K "fraction" "fraction" s_fraction f fd) (m : Mg K mg) : FnOk P w K mg base CX0 1 f fd ["top", "bottom"] (Pur T K pFraction) := by
  refine F.ok sc_fraction (pur_len fun ds r ⟨_, _, e, _⟩ => by rw [e]; rfl) (fun cdv A outer s H vs Q E hr h => ?_)
  obtain ⟨tH, ds, r, hv, ⟨t, b, rfl, hb, hs, rfl⟩, q⟩ := h
  cases hv with
  | cons h1 h2 =>
  cases h2 with
  | cons h2 h3 =>
  cases h3
  refine ⟨_, (pss_cons (ps_if (pt_cmpR op_eq (pv 1) pe_int (nomark _)) (pss_one ps_never) pss_nil)
      (pss_cons (ps_if (pt_cmpR op_lt (pv 1) pe_int (nomark _)) (pss_one (ps_par (i := 0) (j := 1) rfl sc_fraction.nd rfl rfl (by decide) rfl rfl (pa_cons (pe_un un_neg (pv 0)) (pa_cons (pe_un un_neg (pv 1)) pa_nil)) (by rfl))) pss_nil)
      (pss_cons (ps_set (i := 2) sc_fraction.nd rfl (.inl rfl) (pe_callBfun cr_gcd (by rfl) m.gcd (pa_cons (pv 0) (pa_cons (pv 1) pa_nil))))
      (pss_one (ps_ret (pe_tup (pa_cons (pe_op op_fdivW (pv 0) (pv 2)) (pa_cons (pe_op op_fdivW (pv 1) (pv 2)) pa_nil)))))))), ?_⟩
  refine sd_no (eb_is (eb_test (ev_eqI (ev_var h2) ev_int)) (decide_eq_false (by omega))) tH fun H1 a1 => ?_
  refine sd_no (eb_is (eb_test (ev_opB (ev_var (h2.mono a1.tk)) ev_int)) (decide_eq_false (by omega))) a1.tab fun H2 a2 => ?_
  have a02 := a1.trans a2
  refine sd_set (ev_gcd (ev_var (h1.mono a02.tk)) (ev_var (h2.mono a02.tk))) a02.tab fun v H3 a3 h3 => ?_
  have a03 := a02.trans a3
  have g0 : 0 < Nat.gcd t.natAbs b.natAbs := Nat.gcd_pos_of_pos_right _ (by omega)
  have gs : (((Nat.gcd t.natAbs b.natAbs : Nat) : Int)).natAbs < 2 ^ 2801 := by
    refine Nat.lt_of_le_of_lt ?_ hs
    rw [Int.natAbs_natCast]
    exact Nat.gcd_le_right _ (by omega)
  have dv : CDivW t ((Nat.gcd t.natAbs b.natAbs : Nat) : Int) := wide_div (by omega) gs (by decide) (by decide)
  have dv2 : CDivW b ((Nat.gcd t.natAbs b.natAbs : Nat) : Int) := wide_div (by omega) gs (by decide) (by decide)
  refine sd_ret (ev_tup (evs_cons (ev_opC (ev_var (h1.mono a03.tk)) (ev_var h3) dv) (evs_cons (ev_opC (ev_var (h2.mono a03.tk)) (ev_var h3) dv2) evs_nil))) a03.tab fun v H4 a4 h4 => ?_
  rw [← fr_mk t b hb] at h4
  exact q v H4 (a03.trans a4) h4

abbrev s_plus : Stmt := topS 14
abbrev N_plus : List Str := ["one", "other"]
theorem sc_plus : FnScope N_plus ["one", "other"] (defScope s_plus) := ⟨rfl, rfl, rfl, by decide +kernel, rfl, by decide +kernel, by decide +kernel⟩
theorem ok_plus {f : Addr} {fd : FuncData} (F : Fun K "plus" "plus" s_plus f fd) (c_fraction : Cal P w K mg base "fraction" ["top", "bottom"] 1 (Pur T K pFraction)) : FnOk P w K mg base CX0 2 f fd ["one", "other"] (Pur T K pPlus) := by
  refine F.ok sc_plus (pur_len fun ds r ⟨_, _, e, _⟩ => by rw [e]; rfl) (fun cdv A outer s H vs Q E hr h => ?_)
  obtain ⟨tH, ds, r, hv, ⟨x, y, rfl, hx, hy, rfl⟩, q⟩ := h
  cases hv with
  | cons h1 h2 =>
  cases h2 with
  | cons h2 h3 =>
  cases h3
  refine ⟨_, (pss_one (ps_ret (pe_cal c_fraction (hr.mono (by decide)) (by rfl) (pa_cons (pe_op op_add (pe_op op_mulW (pe_ix (w_ixT (K := K)) (pv 0) pe_int (fun _ _ => rfl)) (pe_ix (w_ixT (K := K)) (pv 1) pe_int (fun _ _ => rfl))) (pe_op op_mulW (pe_ix (w_ixT (K := K)) (pv 1) pe_int (fun _ _ => rfl)) (pe_ix (w_ixT (K := K)) (pv 0) pe_int (fun _ _ => rfl)))) (pa_cons (pe_op op_mulW (pe_ix (w_ixT (K := K)) (pv 0) pe_int (fun _ _ => rfl)) (pe_ix (w_ixT (K := K)) (pv 1) pe_int (fun _ _ => rfl))) pa_nil))))), ?_⟩
  refine sd_ret (ev_call (evs_cons (ev_op (ev_opC (ev_ix (ev_var h1) ev_int (dat_nat (j := 0) rfl)) (ev_ix (ev_var h2) ev_int (dat_nat (j := 1) rfl)) (Sm.mul hx.1 hy.dn)) (ev_opC (ev_ix (ev_var h2) ev_int (dat_nat (j := 0) rfl)) (ev_ix (ev_var h1) ev_int (dat_nat (j := 1) rfl)) (Sm.mul hy.1 hx.dn))) (evs_cons (ev_opC (ev_ix (ev_var h1) ev_int (dat_nat (j := 1) rfl)) (ev_ix (ev_var h2) ev_int (dat_nat (j := 1) rfl)) (Sm.mul hx.dn hy.dn)) evs_nil)) ⟨x.num * y.den + y.num * x.den, (x.den : Int) * (y.den : Int), rfl, by have a := Sm.den_pos x; have b := Sm.den_pos y; exact Int.mul_pos a b, Nat.lt_trans (Sm.prod hx.dn hy.dn) (by decide +kernel), rfl⟩) tH fun v H1 a1 hv1 => ?_
  rw [← add_mk] at hv1
  exact q v H1 a1 hv1

abbrev s_minus : Stmt := topS 15
abbrev N_minus : List Str := ["one", "other"]
theorem sc_minus : FnScope N_minus ["one", "other"] (defScope s_minus) := ⟨rfl, rfl, rfl, by decide +kernel, rfl, by decide +kernel, by decide +kernel⟩
theorem ok_minus {f : Addr} {fd : FuncData} (F : Fun K "minus" "minus" s_minus f fd) (c_fraction : Cal P w K mg base "fraction" ["top", "bottom"] 1 (Pur T K pFraction)) : FnOk P w K mg base CX0 2 f fd ["one", "other"] (Pur T K pMinus) := by
  refine F.ok sc_minus (pur_len fun ds r ⟨_, _, e, _⟩ => by rw [e]; rfl) (fun cdv A outer s H vs Q E hr h => ?_)
  obtain ⟨tH, ds, r, hv, ⟨x, y, rfl, hx, hy, rfl⟩, q⟩ := h
  cases hv with
  | cons h1 h2 =>
  cases h2 with
  | cons h2 h3 =>
  cases h3
  refine ⟨_, (pss_one (ps_ret (pe_cal c_fraction (hr.mono (by decide)) (by rfl) (pa_cons (pe_op op_sub (pe_op op_mulW (pe_ix (w_ixT (K := K)) (pv 0) pe_int (fun _ _ => rfl)) (pe_ix (w_ixT (K := K)) (pv 1) pe_int (fun _ _ => rfl))) (pe_op op_mulW (pe_ix (w_ixT (K := K)) (pv 1) pe_int (fun _ _ => rfl)) (pe_ix (w_ixT (K := K)) (pv 0) pe_int (fun _ _ => rfl)))) (pa_cons (pe_op op_mulW (pe_ix (w_ixT (K := K)) (pv 0) pe_int (fun _ _ => rfl)) (pe_ix (w_ixT (K := K)) (pv 1) pe_int (fun _ _ => rfl))) pa_nil))))), ?_⟩
  refine sd_ret (ev_call (evs_cons (ev_op (ev_opC (ev_ix (ev_var h1) ev_int (dat_nat (j := 0) rfl)) (ev_ix (ev_var h2) ev_int (dat_nat (j := 1) rfl)) (Sm.mul hx.1 hy.dn)) (ev_opC (ev_ix (ev_var h2) ev_int (dat_nat (j := 0) rfl)) (ev_ix (ev_var h1) ev_int (dat_nat (j := 1) rfl)) (Sm.mul hy.1 hx.dn))) (evs_cons (ev_opC (ev_ix (ev_var h1) ev_int (dat_nat (j := 1) rfl)) (ev_ix (ev_var h2) ev_int (dat_nat (j := 1) rfl)) (Sm.mul hx.dn hy.dn)) evs_nil)) ⟨x.num * y.den - y.num * x.den, (x.den : Int) * (y.den : Int), rfl, by have a := Sm.den_pos x; have b := Sm.den_pos y; exact Int.mul_pos a b, Nat.lt_trans (Sm.prod hx.dn hy.dn) (by decide +kernel), rfl⟩) tH fun v H1 a1 hv1 => ?_
  rw [← sub_mk] at hv1
  exact q v H1 a1 hv1

abbrev s_times : Stmt := topS 16
abbrev N_times : List Str := ["one", "other"]
theorem sc_times : FnScope N_times ["one", "other"] (defScope s_times) := ⟨rfl, rfl, rfl, by decide +kernel, rfl, by decide +kernel, by decide +kernel⟩
theorem ok_times {f : Addr} {fd : FuncData} (F : Fun K "times" "times" s_times f fd) (c_fraction : Cal P w K mg base "fraction" ["top", "bottom"] 1 (Pur T K pFraction)) : FnOk P w K mg base CX0 2 f fd ["one", "other"] (Pur T K pTimes) := by
  refine F.ok sc_times (pur_len fun ds r ⟨_, _, e, _⟩ => by rw [e]; rfl) (fun cdv A outer s H vs Q E hr h => ?_)
  obtain ⟨tH, ds, r, hv, ⟨x, y, rfl, hx, hy, rfl⟩, q⟩ := h
  cases hv with
  | cons h1 h2 =>
  cases h2 with
  | cons h2 h3 =>
  cases h3
  refine ⟨_, (pss_one (ps_ret (pe_cal c_fraction (hr.mono (by decide)) (by rfl) (pa_cons (pe_op op_mulW (pe_ix (w_ixT (K := K)) (pv 0) pe_int (fun _ _ => rfl)) (pe_ix (w_ixT (K := K)) (pv 1) pe_int (fun _ _ => rfl))) (pa_cons (pe_op op_mulW (pe_ix (w_ixT (K := K)) (pv 0) pe_int (fun _ _ => rfl)) (pe_ix (w_ixT (K := K)) (pv 1) pe_int (fun _ _ => rfl))) pa_nil))))), ?_⟩
  refine sd_ret (ev_call (evs_cons (ev_opC (ev_ix (ev_var h1) ev_int (dat_nat (j := 0) rfl)) (ev_ix (ev_var h2) ev_int (dat_nat (j := 0) rfl)) (Sm.mul hx.1 hy.1)) (evs_cons (ev_opC (ev_ix (ev_var h1) ev_int (dat_nat (j := 1) rfl)) (ev_ix (ev_var h2) ev_int (dat_nat (j := 1) rfl)) (Sm.mul hx.dn hy.dn)) evs_nil)) ⟨x.num * y.num, (x.den : Int) * (y.den : Int), rfl, by have a := Sm.den_pos x; have b := Sm.den_pos y; exact Int.mul_pos a b, Nat.lt_trans (Sm.prod hx.dn hy.dn) (by decide +kernel), rfl⟩) tH fun v H1 a1 hv1 => ?_
  rw [← mul_mk] at hv1
  exact q v H1 a1 hv1

abbrev s_over : Stmt := topS 17
abbrev N_over : List Str := ["one", "other"]
theorem sc_over : FnScope N_over ["one", "other"] (defScope s_over) := ⟨rfl, rfl, rfl, by decide +kernel, rfl, by decide +kernel, by decide +kernel⟩
theorem ok_over {f : Addr} {fd : FuncData} (F : Fun K "over" "over" s_over f fd) (c_fraction : Cal P w K mg base "fraction" ["top", "bottom"] 1 (Pur T K pFraction)) : FnOk P w K mg base CX0 2 f fd ["one", "other"] (Pur T K pOver) := by
  refine F.ok sc_over (pur_len fun ds r ⟨_, _, e, _⟩ => by rw [e]; rfl) (fun cdv A outer s H vs Q E hr h => ?_)
  obtain ⟨tH, ds, r, hv, ⟨x, y, rfl, hx, hy, h0, rfl⟩, q⟩ := h
  cases hv with
  | cons h1 h2 =>
  cases h2 with
  | cons h2 h3 =>
  cases h3
  refine ⟨_, (pss_one (ps_ret (pe_cal c_fraction (hr.mono (by decide)) (by rfl) (pa_cons (pe_op op_mulW (pe_ix (w_ixT (K := K)) (pv 0) pe_int (fun _ _ => rfl)) (pe_ix (w_ixT (K := K)) (pv 1) pe_int (fun _ _ => rfl))) (pa_cons (pe_op op_mulW (pe_ix (w_ixT (K := K)) (pv 0) pe_int (fun _ _ => rfl)) (pe_ix (w_ixT (K := K)) (pv 1) pe_int (fun _ _ => rfl))) pa_nil))))), ?_⟩
  refine sd_ret (ev_call (evs_cons (ev_opC (ev_ix (ev_var h1) ev_int (dat_nat (j := 0) rfl)) (ev_ix (ev_var h2) ev_int (dat_nat (j := 1) rfl)) (Sm.mul hx.1 hy.dn)) (evs_cons (ev_opC (ev_ix (ev_var h1) ev_int (dat_nat (j := 1) rfl)) (ev_ix (ev_var h2) ev_int (dat_nat (j := 0) rfl)) (Sm.mul hx.dn hy.1)) evs_nil)) ⟨x.num * y.den, (x.den : Int) * y.num, rfl, Int.mul_pos (Sm.den_pos x) (num_pos h0), Nat.lt_trans (Sm.prod hx.dn hy.1) (by decide +kernel), rfl⟩) tH fun v H1 a1 hv1 => ?_
  rw [← over_mk x y h0] at hv1
  exact q v H1 a1 hv1

abbrev s_half : Stmt := topS 18
abbrev N_half : List Str := ["one"]
theorem sc_half : FnScope N_half ["one"] (defScope s_half) := ⟨rfl, rfl, rfl, by decide +kernel, rfl, by decide +kernel, by decide +kernel⟩
theorem ok_half {f : Addr} {fd : FuncData} (F : Fun K "half" "half" s_half f fd) (c_fraction : Cal P w K mg base "fraction" ["top", "bottom"] 1 (Pur T K pFraction)) : FnOk P w K mg base CX0 2 f fd ["one"] (Pur T K pHalf) := by
  refine F.ok sc_half (pur_len fun ds r ⟨_, e, _⟩ => by rw [e]; rfl) (fun cdv A outer s H vs Q E hr h => ?_)
  obtain ⟨tH, ds, r, hv, ⟨x, rfl, hx, rfl⟩, q⟩ := h
  cases hv with
  | cons h1 h2 =>
  cases h2
  refine ⟨_, (pss_one (ps_ret (pe_cal c_fraction (hr.mono (by decide)) (by rfl) (pa_cons (pe_ix (w_ixT (K := K)) (pv 0) pe_int (fun _ _ => rfl)) (pa_cons (pe_op op_mulW pe_int (pe_ix (w_ixT (K := K)) (pv 0) pe_int (fun _ _ => rfl))) pa_nil))))), ?_⟩
  have hd := hx.dn
  refine sd_ret (ev_call (evs_cons (ev_ix (ev_var h1) ev_int (dat_nat (j := 0) rfl)) (evs_cons (ev_opC ev_int (ev_ix (ev_var h1) ev_int (dat_nat (j := 1) rfl)) (wide_mul (a := 2) (by decide) hx.dn (by decide) (by decide) (by decide))) evs_nil)) ⟨x.num, 2 * (x.den : Int), rfl, by have a := Sm.den_pos x; omega, by
    have e : (2 * (x.den : Int)).natAbs = 2 * x.den := by omega
    have e2 : (2 : Nat) ^ 2801 = 2 ^ 1401 * 2 ^ 1400 := by rw [← Nat.pow_add]
    have e3 : x.den < 2 ^ 1400 := hx.2
    have e4 : (2 : Nat) ≤ 2 ^ 1401 := by decide +kernel
    rw [e, e2]
    exact Nat.lt_of_le_of_lt (Nat.mul_le_mul_right _ e4) (Nat.mul_lt_mul_of_pos_left e3 (Nat.pow_pos (by decide))), rfl⟩) tH fun v H1 a1 hv1 => ?_
  rw [← half_mk x] at hv1
  exact q v H1 a1 hv1

abbrev s_sign_of : Stmt := topS 19
abbrev N_sign_of : List Str := ["one"]
theorem sc_sign_of : FnScope N_sign_of ["one"] (defScope s_sign_of) := ⟨rfl, rfl, rfl, by decide +kernel, rfl, by decide +kernel, by decide +kernel⟩
theorem ok_sign_of {f : Addr} {fd : FuncData} (F : Fun K "sign_of" "sign_of" s_sign_of f fd) : FnOk P w K mg base CX0 1 f fd ["one"] (Pur T K pSign) := by
  refine F.ok sc_sign_of (pur_len fun ds r ⟨_, e, _⟩ => by rw [e]; rfl) (fun cdv A outer s H vs Q E hr h => ?_)
  obtain ⟨tH, ds, r, hv, ⟨x, rfl, rfl⟩, q⟩ := h
  cases hv with
  | cons h1 h2 =>
  cases h2
  refine ⟨_, (pss_cons (ps_if (pt_cmpR op_eq (pe_ix (w_ixT (K := K)) (pv 0) pe_int (fun _ _ => rfl)) pe_int (nomark _)) (pss_one (ps_ret pe_int)) pss_nil)
      (pss_one (ps_ret (pe_ifExp (pt_cmpR op_gt (pe_ix (w_ixT (K := K)) (pv 0) pe_int (fun _ _ => rfl)) pe_int (nomark _)) pe_int (pe_un un_neg pe_int))))), ?_⟩
  by_cases e : x.num = 0
  · refine sd_yes (eb_is (eb_test (ev_eqI (ev_ix (ev_var h1) ev_int (dat_nat (j := 0) rfl)) ev_int)) (decide_eq_true e)) tH fun H1 a1 => ?_
    refine sd_ret (K := K) ev_int a1.tab fun v H2 a2 h2 => q v H2 (a1.trans a2) ?_
    unfold sgn
    rw [if_pos e]
    exact h2
  · refine sd_no (eb_is (eb_test (ev_eqI (ev_ix (ev_var h1) ev_int (dat_nat (j := 0) rfl)) ev_int)) (decide_eq_false e)) tH fun H1 a1 => ?_
    have h1' := h1.mono a1.tk
    refine sd_ret (d := .int (sgn x)) (ev_if (eb_test (ev_opB (ev_ix (ev_var h1') ev_int (dat_nat (j := 0) rfl)) ev_int)) (fun k => ev_is ev_int ?_) (fun k => ev_is (ev_un ev_int) ?_)) a1.tab fun v H2 a2 h2 => q v H2 (a1.trans a2) h2
    · have k := of_decide_eq_true k
      unfold sgn
      rw [if_neg e, if_pos k]
    · have k := of_decide_eq_false k
      unfold sgn
      rw [if_neg e, if_neg k]

abbrev s_total_of : Stmt := topS 20
abbrev N_total_of : List Str := ["some", "found", "one"]
theorem sc_total_of : FnScope N_total_of ["some"] (defScope s_total_of) := ⟨rfl, rfl, rfl, by decide +kernel, rfl, by decide +kernel, by decide +kernel⟩
theorem ok_total_of {f : Addr} {fd : FuncData} (F : Fun K "total_of" "total_of" s_total_of f fd) (m : Mg K mg) (c_plus : Cal P w K mg base "plus" ["one", "other"] 2 (Pur T K pPlus)) : FnOk P w K mg base CX0 3 f fd ["some"] (spTotal T K) := by
  refine F.ok sc_total_of (fun vs H Q E ⟨_, _, _, _, e, _⟩ => by rw [e]; rfl) (fun cdv A outer s H vs Q E hr h => ?_)
  obtain ⟨tH, la, xs, l, rfl, hq, hd, hl, q⟩ := h
  obtain ⟨zz, hzero, dz⟩ := m.zero
  refine ⟨_, (pss_cons (ps_set (i := 1) sc_total_of.nd rfl (.inl rfl) (pe_glob (v := .ref zz) (by rfl) hzero rfl))
      (pss_cons (ps_for PassesOwn.never rfl (w_piL (K := K) (pv 0)) (pg_name (i := 2) sc_total_of.nd rfl (.inl rfl)) (pss_one (ps_set (i := 1) sc_total_of.nd rfl (.inl rfl) (pe_cal c_plus (hr.mono (by decide)) (by rfl) (pa_cons (pv 1) (pa_cons (pv 2) pa_nil))))))
      (pss_one (ps_ret (pv 1))))), ?_⟩
  refine sd_set (d := fr 0) (ev_con fun H => dz H) tH fun v0 H1 a1 h0 => ?_
  refine for_src (src_var (i := 0) (a := la) (f := fr) (l := l) (sql_le hq a1) (hd.mono a1.tk)) a1.tab fun H2 a2 => ⟨fun r σ' H' => ∃ acc va y, σ' = [some (.ref la), some va, y] ∧ Le T H H' ∧ KL K la H2 H' ∧ Dt K H' va (fr acc) ∧ SumOk acc r ∧ acc + tot r = tot l,
    ⟨0, v0, none, rfl, a1.trans a2, ⟨TK.refl _, fun _ h => h⟩, h0.mono a2.tk, hl, by grind⟩, fun r σ' H' ⟨_, _, _, _, k, k2, _⟩ => ⟨k2, k.tab⟩, ?_, ?_⟩
  · rintro x r σ' H' H'' v _ ⟨acc, va, y, rfl, a, k, ha, hs, e⟩ a3 hx
    refine sd_set (ev_call (evs_cons (ev_var (ha.mono a3.tk)) (evs_cons (ev_var hx) evs_nil)) ⟨acc, x, rfl, hs.1, hs.2.1, rfl⟩) (a.trans a3).tab fun u H3 b3 hu => ?_
    have k3 := KL.le (K := K) (a := la) (a3.trans b3)
    exact ⟨acc + x, u, some v, rfl, (a.trans a3).trans b3, ⟨k.1.trans k3.1, fun xs h => k3.2 xs (k.2 xs h)⟩, hu, hs.2.2, by rw [← e]; show acc + x + tot r = acc + (x + tot r); grind⟩
  · rintro σ' H' ⟨acc, va, y, rfl, a, k, ha, hs, e⟩
    have e : acc + 0 = tot l := e
    refine sd_ret (ev_var ha) a.tab fun v H3 a3 hv => q v H3 (a.trans a3) ?_
    rw [← e, Rat.add_zero]
    exact hv
theorem ev_total {te : TE} {σ : L2.St} {H : Hp} {l : List Rat} {E : XK} (h : EvL T K te σ H (l.map fr)) (hs : SumOk 0 l) : EvD T K (tCall (spTotal T K) [] E (tCons te tNil)) σ H (fr (tot l)) := fun H1 a Q q =>
  h H1 a _ fun p vs H2 a2 n e hv => ⟨a2.tab, p, vs, l, rfl, SqL.of e, hv, hs, fun v H3 a3 hv => q v H3 (a2.trans a3) hv⟩
end
end Lf
end

section
set_option maxRecDepth 100000
set_option maxHeartbeats 4000000
/-! The walk of the networks, 1. -/
namespace Lf
open PySem PySem.Spec PyProof.Rows L2
def tieD (t : Tie) : PyData := .tuple [.int t.1, .int t.2.1, fr t.2.2]
def netD (N : Net) : PyData := .tuple [.tuple (N.pts.map .int), .tuple (N.ties.map tieD)]
def prD (q : Int × Rat) : PyData := .tuple [.int q.1, fr q.2]
def wD (l : List (Int × Rat)) : List PyData := l.map prD
def lamQ : Str := PySem.Str.ofString "pairs_of" ++ ".<locals>." ++ "<lambda>"
section
variable {P : Program} {w : World} {K : PySem.W.Frag} {mg : Str → Option Value} {base : Heap} {T : Tabl}
theorem fun_okC {x qual : Str} {st : Stmt} {f c : Addr} {fd : FuncData} {N ps : List Str} {k : Nat} {sp : Sp} (F : Fun K x qual st f fd) (hc : fd.code = .ref c) (S : FnScope N ps (defScope st)) (len : ∀ vs H Q E, sp vs H Q E → vs.length = ps.length)
    (hbody : ∀ (A : Around) (outer : List Env) (s : Shared) (H : Hp) (vs : List V) (Q : VK) (E : XK), Room k (A.deeper (envOfC qual (defScope st) s.heap.objs.size f (.ref c))) → sp vs H Q E →
      ∃ t, PSs (cxOf CX0 P w K mg base N qual (defScope st) f (.ref c) A outer s H E).nox (defBody st) t ∧ t { nx := fun _ H' => Q .non H', rt := Q } (start N vs) H) : FnOk P w K mg base CX0 (k + 1) f fd ps sp := by
  obtain ⟨oc, od, kV, doc, pm, an, cdv, ct, osl, rfl, lk, hcd⟩ := F.ex
  have e : cdv = .ref c := hc
  subst e
  refine fn_of lk hcd S len fun A outer s H vs Q E hr hsp => ?_
  obtain ⟨t, h, q⟩ := hbody A outer s H vs Q E hr hsp
  exact ⟨t, h.nox, q⟩
theorem nbrs_app (p : Int) : ∀ (l m : List Tie), nbrs (l ++ m) p = nbrs l p ++ nbrs m p
  | [], m => rfl
  | (a, b, w) :: l, m => by
    have h : ∀ r : List Tie, nbrs ((a, b, w) :: r) p = if p = a ∨ p = b then (a + b - p, w) :: nbrs r p else nbrs r p := fun _ => rfl
    rw [List.cons_append, h, h]
    by_cases e : p = a ∨ p = b
    · rw [if_pos e, if_pos e, nbrs_app p l m, List.cons_append]
    · rw [if_neg e, if_neg e, nbrs_app p l m]
theorem nbrs_le (p : Int) : ∀ l : List Tie, (nbrs l p).length ≤ l.length
  | [] => Nat.le_refl _
  | (a, b, w) :: l => by
    have := nbrs_le p l
    unfold nbrs
    split
    · simp only [List.length_cons]; omega
    · simp only [List.length_cons]; omega
theorem prs_at {H : Hp} : ∀ {vs : List V} {l : List (Int × Rat)}, Dts K H vs (l.map prD) → ∃ ps : List Addr, vs = ps.map V.ref ∧ ps.length = l.length ∧ ∀ z ∈ ps.zip (l.map (·.1)), ∃ xs, SqT K H z.1 (.int z.2 :: xs)
  | [], [], _ => ⟨[], rfl, rfl, fun z hz => by cases hz⟩
  | _ :: _, [], h => by cases h
  | [], _ :: _, h => by cases h
  | v :: vs, q :: l, h => by
    cases h with
    | cons h1 h2 =>
    obtain ⟨ps, e1, e2, e3⟩ := prs_at h2
    unfold prD at h1
    cases h1 with
    | tup hs hd =>
    cases hd with
    | cons d1 d2 =>
    cases d1
    rename_i a _
    refine ⟨a :: ps, by rw [List.map_cons, e1], by rw [List.length_cons, List.length_cons, e2], fun z hz => ?_⟩
    rw [List.map_cons, List.zip_cons_cons] at hz
    rcases List.mem_cons.mp hz with e | hz
    · subst e; exact ⟨_, hs⟩
    · exact e3 z hz
theorem el_sortKey {σ : L2.St} {H : Hp} {i : Nat} {p : Addr} {acc : List V} {l : List (Int × Rat)} (hp : H p = some (.lst acc)) (hd : Dts K H acc (l.map prD)) (ha : l.Pairwise (fun a b => a.1 < b.1)) (hσ : σ[i]? = some (some (.ref p)) := by rfl) :
    EvL T K (tSortKey K T (tVar i)) σ H (l.map prD) := fun H1 a Q q => by
  obtain ⟨ps, e1, e2, e3⟩ := prs_at (hd.mono a.tk)
  have hp1 := a.at_ hp pl_lst
  subst e1
  refine ⟨.ref p, hσ, p, ps, l.map (·.1), rfl, SqL.of hp1, a.tab, by rw [List.length_map]; exact e2, ?_, e3, fun H2 ex tb p' hn => ?_⟩
  · rw [List.pairwise_map]
    exact ha.imp fun h => Int.le_of_lt h
  · have a2 : Le T H1 H2 := ⟨ex, tb⟩
    have n := Le.new (o := .lst (ps.map V.ref)) tb hn
    exact q p' _ _ (a2.trans n) (a2.nf (Nf.of hn)) upd_same (hd.mono ((a.tk.trans a2.tk).trans n.tk))

def pNbrs : List PyData → PyData → Prop := fun ds r => ∃ (N : Net) (p : Int), ds = [netD N, .int p] ∧ N.ties.Pairwise TLt ∧ (∀ t ∈ N.ties, t.1 < t.2.1) ∧ N.ties.length ≤ 1000 ∧ r = .tuple ((nbrs N.ties p).map prD)

abbrev s_pairs_of : Stmt := topS 22
abbrev N_pairs_of : List Str := ["network", "point", "found", "low", "high", "pull"]
theorem sc_pairs_of : FnScope N_pairs_of ["network", "point"] (defScope s_pairs_of) := ⟨rfl, rfl, rfl, by decide +kernel, rfl, by decide +kernel, by decide +kernel⟩
theorem ok_pairs_of {f c Pt : Addr} {fd : FuncData} (F : Fun K "pairs_of" "pairs_of" s_pairs_of f fd) (hc : fd.code = .ref c) (TB : LamX.TabB base mg c Pt) (hT : T = [(Pt, lamQ)]) (m : Mg K mg) : FnOk P w K mg base CX0 2 f fd ["network", "point"] (Pur T K pNbrs) := by
  refine fun_okC F hc sc_pairs_of (pur_len fun ds r ⟨_, _, e, _⟩ => by rw [e]; rfl) (fun A outer s H vs Q E hr h => ?_)
  obtain ⟨tH, ds, r, hv, ⟨N, p, rfl, hs, hlt, hz, rfl⟩, q⟩ := h
  cases hv with
  | cons h1 h2 =>
  cases h2 with
  | cons h2 h3 =>
  cases h3
  rename_i vn vp
  refine ⟨_, (pss_cons (ps_set (i := 2) sc_pairs_of.nd rfl (.inl rfl) (pe_lst pa_nil))
      (pss_cons (ps_for PassesOwn.never rfl (w_piT (K := K) (pe_ix (w_ixT (K := K)) (pv 0) pe_int (fun _ _ => rfl))) (w_pg (K := K) (n := 3) rfl (pgs_cons (pg_name (i := 3) sc_pairs_of.nd rfl (.inl rfl)) (pgs_cons (pg_name (i := 4) sc_pairs_of.nd rfl (.inl rfl)) (pgs_cons (pg_name (i := 5) sc_pairs_of.nd rfl (.inl rfl)) pgs_nil)))) (pss_one (ps_if (pt_cmpR (w_in (K := K)) (pv 1) (pe_tup (pa_cons (pv 3) (pa_cons (pv 4) pa_nil))) (by with_unfolding_all rfl)) (pss_one (ps_expr (pe_bm PySem.F.plainAttrs_list PySem.F.slot_list_append PySem.F.type_list_append mt_append (pv 2) (pa_cons (pe_tup (pa_cons (pe_op op_sub (pe_op op_add (pv 3) (pv 4)) (pv 1)) (pa_cons (pv 5) pa_nil))) pa_nil)))) pss_nil)))
      (pss_one (ps_ret (pe_callTy (w_tuple (K := K)) (by rfl) m.tup (by decide +kernel) (pa_cons (pe_sortKey (T := T) (K := K) (x := "pair") (by rfl) m.srt (pv 2) hr TB rfl (by rw [hT]; exact List.mem_singleton.mpr rfl) (fun p hp _ => by rw [hT] at hp; rw [List.mem_singleton.mp hp]; rfl) rfl rfl (fun _ _ _ _ _ => rfl) rfl) pa_nil)))))), ?_⟩
  refine sd_nil tH fun L H1 a1 nL eL => ?_
  refine for_src (src_tup (f := tieD) (l := N.ties) (ev_ix (ev_var (h1.mono a1.tk)) ev_int (dat_nat (j := 1) rfl))) a1.tab fun H2 a2 => ⟨fun r σ' H' => ∃ done acc y3 y4 y5, σ' = [some vn, some vp, some (.ref L), y3, y4, y5] ∧ Le T H H' ∧ TK H2 H' ∧ H' L = some (.lst acc) ∧ acc.length ≤ done.length ∧ Dts K H' acc ((nbrs done p).map prD) ∧ done ++ r = N.ties,
    ⟨[], [], none, none, none, rfl, a1.trans a2, TK.refl _, a2.at_ eL pl_lst, Nat.le_refl _, .nil, rfl⟩, fun r σ' H' ⟨_, _, _, _, _, _, k, k2, _⟩ => ⟨k2, k.tab⟩, ?_, ?_⟩
  · rintro t r σ' H' H'' v htm ⟨done, acc, y3, y4, y5, rfl, a, k2, eL', hl, hd, e⟩ a3 hx
    have ea := a.trans a3
    refine g_three hx fun u1 u2 u3 d1 d2 d3 => ?_
    have hp' : Dt K H'' vp (.int p) := h2.mono ea.tk
    have len : done.length ≤ 1000 := by
      have := congrArg List.length e
      rw [List.length_append] at this
      omega
    have e' : (done ++ [t]) ++ r = N.ties := by rw [List.append_assoc]; exact e
    by_cases hin : p = t.1 ∨ p = t.2.1
    · refine sd_yes (eb_is (eb_test (ev_in (ns := [t.1, t.2.1]) (ev_var hp') (ev_tup (evs_cons (ev_var d1) (evs_cons (ev_var d2) evs_nil))))) (decide_eq_true (by simpa using hin))) ea.tab fun H3 b1 => ?_
      have eb := ea.trans b1
      refine sd_append (a3.trans b1 |>.at_ eL' pl_lst) eb nL (ev_tup (evs_cons (ev_op (ev_op (ev_var (d1.mono b1.tk)) (ev_var (d2.mono b1.tk))) (ev_var (hp'.mono b1.tk))) (evs_cons (ev_var (d3.mono b1.tk)) evs_nil))) (by omega) fun v' H4 c1 c2 c3 c4 c5 => ?_
      refine ⟨done ++ [t], acc ++ [v'], _, _, _, rfl, c1, k2.trans (a3.tk.trans (b1.tk.trans c2)), c4, by rw [List.length_append, List.length_append]; simp only [List.length_cons, List.length_nil]; omega, ?_, e'⟩
      rw [nbrs_app, List.map_append]
      refine (hd.mono (a3.tk.trans (b1.tk.trans c2))).append ?_
      have en : nbrs [t] p = [(t.1 + t.2.1 - p, t.2.2)] := by
        obtain ⟨a0, b0, w0⟩ := t
        unfold nbrs
        rw [if_pos hin]
        rfl
      rw [en]
      exact .cons c5 .nil
    · refine sd_no (eb_is (eb_test (ev_in (ns := [t.1, t.2.1]) (ev_var hp') (ev_tup (evs_cons (ev_var d1) (evs_cons (ev_var d2) evs_nil))))) (decide_eq_false (by simpa using hin))) ea.tab fun H3 b1 => ?_
      refine ⟨done ++ [t], acc, _, _, _, rfl, ea.trans b1, k2.trans (a3.tk.trans b1.tk), (a3.trans b1).at_ eL' pl_lst, by rw [List.length_append]; omega, ?_, e'⟩
      have en : nbrs [t] p = [] := by
        obtain ⟨a0, b0, w0⟩ := t
        unfold nbrs
        rw [if_neg hin]
        rfl
      rw [nbrs_app, en, List.append_nil]
      exact hd.mono (a3.tk.trans b1.tk)
  · rintro σ' H' ⟨done, acc, y3, y4, y5, rfl, a, k2, eL', hl, hd, e⟩
    rw [List.append_nil] at e
    subst e
    refine sd_ret (ev_tupL (el_sortKey eL' hd (nbrs_sorted p hs hlt))) a.tab fun v H3 a3 hv => q v H3 (a.trans a3) hv
end
end Lf
end

section
set_option maxRecDepth 100000
set_option maxHeartbeats 1000000
/-! Tables of ties: what tied_more's dict holds; rules of comprehensions again. -/
namespace Lf
open PySem PySem.Spec PyProof.Rows L2
theorem asc_eq {α : Type} (c : α → Int) : ∀ {l m : List α}, l.Pairwise (fun a b => c a ≤ c b) → m.Pairwise (fun a b => c a < c b) → l.Perm m → l = m
  | [], m, _, _, h => by rw [h.symm.eq_nil]
  | a :: l, [], _, _, h => by have := h.eq_nil; cases this
  | a :: l, b :: m, h1, h2, h => by
    have e : a = b := by
      have hb : b ∈ a :: l := h.mem_iff.mpr List.mem_cons_self
      have ha : a ∈ b :: m := h.mem_iff.mp List.mem_cons_self
      rcases List.mem_cons.mp hb with z | z
      · exact z.symm
      · rcases List.mem_cons.mp ha with y | y
        · exact y
        · have x1 := (List.pairwise_cons.mp h1).1 b z
          have x2 := (List.pairwise_cons.mp h2).1 a y
          omega
    subst e
    rw [asc_eq c (List.pairwise_cons.mp h1).2 (List.pairwise_cons.mp h2).2 (List.Perm.cons_inv h)]
theorem getL_mem {κ : Type} [DecidableEq κ] {k : κ} {d : PyData} : ∀ {l : List (κ × PyData)}, (l.map (·.1)).Nodup → (k, d) ∈ l → getL l k = some d
  | [], _, h => by cases h
  | (j, e) :: l, hn, h => by
    rw [List.map_cons] at hn
    have hn' := List.nodup_cons.mp hn
    rcases List.mem_cons.mp h with z | z
    · cases z
      simp [getL, List.find?_cons]
    · have ne : ¬ j = k := fun y => hn'.1 (y ▸ List.mem_map.mpr ⟨(k, d), z, rfl⟩)
      have := getL_mem hn'.2 z
      simp only [getL, List.find?_cons, ne, decide_false] at this ⊢
      exact this
def kvT (t : Tie) : (Int × Int) × PyData := ((t.1, t.2.1), fr t.2.2)
/-- the weight between a and b, or 0 -/
def wt : List Tie → Int → Int → Rat
  | [], _, _ => 0
  | (c, d, w) :: r, a, b => if a = c ∧ b = d then w else wt r a b
theorem wt_get (a b : Int) : ∀ l : List Tie, (getL (l.map kvT) (a, b)).getD (fr 0) = fr (wt l a b)
  | [] => rfl
  | (c, d, w) :: r => by
    have ih := wt_get a b r
    show (getL (((c, d), fr w) :: r.map kvT) (a, b)).getD (fr 0) = fr (if a = c ∧ b = d then w else wt r a b)
    by_cases e : a = c ∧ b = d
    · rw [if_pos e]
      simp [getL, List.find?_cons, e.1, e.2]
    · rw [if_neg e]
      have ne : ¬ ((c, d) = (a, b)) := fun z => e ⟨(congrArg Prod.fst z).symm, (congrArg Prod.snd z).symm⟩
      simp only [getL, List.find?_cons, ne, decide_false] at ih ⊢
      exact ih
theorem keys_nodup : ∀ {l : List Tie}, l.Pairwise TLt → ((l.map kvT).map (·.1)).Nodup
  | [], _ => List.nodup_nil
  | t :: l, h => by
    rw [List.map_cons, List.map_cons]
    have h' := List.pairwise_cons.mp h
    refine List.nodup_cons.mpr ⟨fun z => ?_, keys_nodup h'.2⟩
    rw [List.map_map] at z
    obtain ⟨u, hu, e⟩ := List.mem_map.mp z
    have k := h'.1 u hu
    have e : ((u.1, u.2.1) : Int × Int) = (t.1, t.2.1) := e
    have e1 : u.1 = t.1 := (Prod.mk.inj e).1
    have e2 : u.2.1 = t.2.1 := (Prod.mk.inj e).2
    unfold TLt KLt at k
    omega
theorem putL_cons {κ : Type} [DecidableEq κ] {k j : κ} {d e : PyData} {l : List (κ × PyData)} (h : k ≠ j) : putL ((j, e) :: l) k d = (j, e) :: putL l k d := by
  unfold putL
  have h' : ¬ j = k := fun z => h z.symm
  have ea : (((j, e) :: l).any fun q => decide (q.1 = k)) = l.any fun q => decide (q.1 = k) := by
    rw [List.any_cons, show decide ((j, e).1 = k) = false from decide_eq_false h', Bool.false_or]
  rw [ea]
  by_cases z : (l.any fun q => decide (q.1 = k)) = true
  · rw [if_pos z, if_pos z, List.map_cons, if_neg h']
  · rw [if_neg z, if_neg z, List.cons_append]
theorem ins_tab (a b : Int) (m : Rat) : ∀ {l : List Tie}, l.Pairwise TLt → (putL (l.map kvT) (a, b) (fr (wt l a b + m))).Perm ((insTie l a b m).map kvT)
  | [], _ => by
    have e : (0 : Rat) + m = m := Rat.zero_add m
    show (putL [] (a, b) (fr (0 + m))).Perm [kvT (a, b, m)]
    rw [e]
    exact List.Perm.refl _
  | (c, d, w) :: r, h => by
    have h' := List.pairwise_cons.mp h
    have ih := ins_tab a b m h'.2
    show (putL (((c, d), fr w) :: r.map kvT) (a, b) (fr ((if a = c ∧ b = d then w else wt r a b) + m))).Perm ((if a = c ∧ b = d then (c, d, w + m) :: r else if KLt a b c d then (a, b, m) :: (c, d, w) :: r else (c, d, w) :: insTie r a b m).map kvT)
    by_cases e : a = c ∧ b = d
    · rw [if_pos e, if_pos e]
      obtain ⟨rfl, rfl⟩ := e
      unfold putL
      have ea : ((((a, b), fr w) :: r.map kvT).any fun q => decide (q.1 = (a, b))) = true := by rw [List.any_cons]; simp
      rw [if_pos ea, List.map_cons, if_pos rfl]
      have er : (r.map kvT).map (fun q => if q.1 = (a, b) then (q.1, fr (w + m)) else q) = r.map kvT := by
        rw [List.map_map]
        refine List.map_congr_left fun t ht => ?_
        have k := h'.1 t ht
        show (if (t.1, t.2.1) = (a, b) then _ else _) = _
        refine if_neg fun z => ?_
        have e1 : t.1 = a := congrArg Prod.fst z
        have e2 : t.2.1 = b := congrArg Prod.snd z
        unfold TLt KLt at k
        simp only at k
        omega
      rw [er]
      exact List.Perm.refl _
    · rw [if_neg e, if_neg e]
      have ne : (a, b) ≠ (c, d) := fun z => e ⟨congrArg Prod.fst z, congrArg Prod.snd z⟩
      rw [putL_cons ne]
      by_cases k : KLt a b c d
      · rw [if_pos k]
        -- (a, b) stands nowhere in r
        have out : ∀ {l : List Tie}, (∀ t ∈ l, KLt a b t.1 t.2.1) → wt l a b = 0 ∧ (a, b) ∉ (l.map kvT).map (·.1) := by
          intro l
          induction l with
          | nil => intro _; exact ⟨rfl, fun z => by cases z⟩
          | cons t l ih2 =>
            intro hl
            obtain ⟨i1, i2⟩ := ih2 fun u hu => hl u (List.mem_cons_of_mem _ hu)
            have kt := hl t List.mem_cons_self
            obtain ⟨t1, t2, t3⟩ := t
            have net : ¬ (a = t1 ∧ b = t2) := fun z => by unfold KLt at kt; simp only at kt; omega
            refine ⟨?_, fun z => ?_⟩
            · show (if a = t1 ∧ b = t2 then t3 else wt l a b) = 0
              rw [if_neg net]
              exact i1
            · rw [List.map_cons, List.map_cons] at z
              rcases List.mem_cons.mp z with y | y
              · exact net ⟨congrArg Prod.fst y, congrArg Prod.snd y⟩
              · exact i2 y
        obtain ⟨o1, o2⟩ := out (l := r) fun t ht => KLt.trans k (h'.1 t ht)
        rw [o1, putL_new o2, Rat.zero_add]
        show (kvT (c, d, w) :: (r.map kvT ++ [kvT (a, b, m)])).Perm (kvT (a, b, m) :: kvT (c, d, w) :: r.map kvT)
        exact (List.perm_append_singleton (kvT (a, b, m)) (kvT (c, d, w) :: r.map kvT))
      · rw [if_neg k]
        exact ih.cons _
theorem shaped_fr (x : Rat) : SeqAt.shaped (fr x) = true := by
  unfold fr
  first | rfl | simp [SeqAt.shaped, SeqAt.shapedAll]
theorem eqv_fr (x y : Rat) : PyData.eqv (fr x) (fr y) = decide (x = y) := by
  have h : PyData.eqv (fr x) (fr y) = (decide (x.num = y.num) && decide ((x.den : Int) = (y.den : Int))) := by
    unfold fr
    simp only [PyData.eqv, PyData.eqvAll, Bool.and_true]
    first | rfl | simp
  rw [h, Bool.eq_iff_iff]
  simp only [Bool.and_eq_true, decide_eq_true_eq]
  constructor
  · rintro ⟨h1, h2⟩
    exact Rat.ext h1 (by omega)
  · rintro rfl
    exact ⟨rfl, rfl⟩
section
variable {α : Type} {T : Tabl} {K : PySem.W.Frag} {σ : L2.St} {H : Hp} {wi : TI} {kp : Hp → Hp → Prop} {l : List α} {R : Hp → V → α → Prop} {g : TG} {te tk tv : TE} {vs : List Nat}
/-- [h for x in l] -/
theorem lc_all {h : α → PyData} (hl : l.length ≤ 100000) (hs : Src T wi σ H kp l R) (hkp : ∀ H1 H2, Le T H1 H2 → kp H1 H2)
    (step : ∀ x ∈ l, ∀ H1 v, Le T H H1 → R H1 v x → ∀ Q : L2.St → Hp → Prop, (∀ σ2, wipe σ2 vs = wipe σ vs → EvD T K te σ2 H1 (h x) → Q σ2 H1) → g v (wipe σ vs) H1 Q) :
    EvL T K (tLc wi g tYes te vs) σ H (l.map h) := by
  have := lc_src (T := T) (K := K) (te := te) (tt := tYes) (vs := vs) (p := fun _ => true) (h := h) hl hs hkp fun x hx H1 v a r Q q => step x hx H1 v a r Q fun σ2 z1 z2 => q σ2 z1 eb_yes fun _ => z2
  rw [List.filter_eq_self.mpr fun _ _ => rfl] at this
  exact this
def EvDicP (T : Tabl) (K : PySem.W.Frag) (te : TE) (σ : L2.St) (H : Hp) (l : List ((Int × Int) × PyData)) : Prop := ∀ H1, Le T H H1 → ∀ Q : VK, (∀ p H2, Le T H1 H2 → Nf H1 p → DicP K H2 p l → Q (.ref p) H2) → te σ H1 Q
theorem take_snoc {l : List α} {i : Nat} (h : i < l.length) : l.take (i + 1) = l.take i ++ [l[i]] := by rw [List.take_add_one, List.getElem?_eq_getElem h]; rfl
/-- {k: v for x in l}, the keys pairs of ints, apart -/
theorem dcT_all {key : α → Int × Int} {val : α → PyData} (hl : l.length ≤ 100000) (hs : Src T wi σ H kp l R) (hkp : ∀ H1 H2, Le T H1 H2 → kp H1 H2) (hn : (l.map key).Nodup)
    (step : ∀ x ∈ l, ∀ H1 v, Le T H H1 → R H1 v x → ∀ Q : L2.St → Hp → Prop, (∀ σ2, wipe σ2 vs = wipe σ vs → EvK T tk σ2 H1 (key x) → (∀ H2, Le T H1 H2 → EvD T K tv σ2 H2 (val x)) → Q σ2 H1) → g v (wipe σ vs) H1 Q) :
    EvDicP T K (tDcT wi g tYes tk tv vs) σ H (l.map fun x => (key x, val x)) := by
  intro H0 a0 Q q
  refine hs H0 a0 _ fun J H1 St a it hk D hD => ?_
  have nD : Nf H1 D := Nf.of hD
  refine ⟨fun i m H' => m = l.length - i ∧ i ≤ l.length ∧ Le T H1 H' ∧ DicP K H' D ((l.take i).map fun x => (key x, val x)), ⟨l.length, by simp, Nat.zero_le _, Le.new a.tab hD, [], upd_same, by simpa using DR.nil⟩, ?_⟩
  rintro i m H' ⟨rfl, hi, a', hdic⟩
  have st := hk H' (hkp _ _ a')
  by_cases hlt : i < l.length
  · obtain ⟨g1, g2⟩ := it.go i l[i] H' st a'.tab (List.getElem?_eq_getElem hlt)
    refine .inr ⟨g1, fun H3 => Le T H1 H3 ∧ DicP K H3 D ((l.take (i + 1)).map fun x => (key x, val x)), fun H3 ⟨k1, k2⟩ => ⟨l.length - (i + 1), by omega, rfl, hlt, k1, k2⟩, fun x H2 y => ?_⟩
    obtain ⟨y1, y2⟩ := g2 x H2 y
    refine step l[i] (List.getElem_mem hlt) H2 x (((a0.trans a).trans a').trans y1) y2 _ fun σ2 z1 z2 z3 => ⟨z1, ?_⟩
    refine eb_yes (T := T) (σ := σ2) (H := H2) H2 (Le.refl y1.tab) _ fun H2' a2' => ?_
    refine iteT (z2 H2' a2' _ fun b H4 a4' hb => ?_)
    have a4 := a2'.trans a4'
    refine (z3 H4 a4 H4 (Le.refl a4.tab) _ fun z H5 a5 hz => ?_)
    obtain ⟨kvs, e1, e2⟩ := ((hdic.le y1).le a4).le a5
    have tkk : TK H5 (upd H5 D (.dT (putK kvs (emP (key l[i])) z))) := (TK.refl H5).dT e1
    refine ⟨kvs, emP (key l[i]), b, rfl, a5.at_ hb pl_tup, e1, ?_, (((a'.trans y1).trans a4).trans a5).mut nD e1 pl_dT, _, upd_same, ?_⟩
    · rw [e2.length, List.length_map, List.length_take]
      exact Nat.lt_of_le_of_lt (Nat.le_trans (Nat.min_le_left _ _) (Nat.le_of_lt hlt)) (Nat.lt_of_le_of_lt hl (by decide))
    · rw [take_snoc hlt, List.map_append, List.map_cons, List.map_nil]
      have hnew : key l[i] ∉ (((l.take i).map fun x => (key x, val x)).map (·.1)) := by
        rw [List.map_map]
        intro z
        have z' : key l[i] ∈ (l.take i).map key := z
        have e3 : l.map key = (l.take i).map key ++ (key l[i] :: (l.drop (i + 1)).map key) := by
          rw [← List.map_cons, ← List.map_append]
          congr 1
          rw [← List.drop_eq_getElem_cons hlt, List.take_append_drop]
        rw [e3] at hn
        exact (List.nodup_append.mp hn).2.2 _ z' _ List.mem_cons_self rfl
      rw [← putL_new hnew]
      exact (e2.put emP_inj hz).mono tkk
  · have e : i = l.length := by omega
    subst e
    refine .inl ⟨it.stop H' st, ?_⟩
    rw [List.take_length] at hdic
    exact q D H' (a.trans a') (a.nf nD) hdic
/-- {k: v for x in l}, the keys ints, apart -/
theorem dc_all {key : α → Int} {val : α → PyData} (hl : l.length ≤ 100000) (hs : Src T wi σ H kp l R) (hkp : ∀ H1 H2, Le T H1 H2 → kp H1 H2) (hn : (l.map key).Nodup)
    (step : ∀ x ∈ l, ∀ H1 v, Le T H H1 → R H1 v x → ∀ Q : L2.St → Hp → Prop, (∀ σ2, wipe σ2 vs = wipe σ vs → EvD T K tk σ2 H1 (.int (key x)) → (∀ H2, Le T H1 H2 → EvD T K tv σ2 H2 (val x)) → Q σ2 H1) → g v (wipe σ vs) H1 Q) :
    EvDic T K (tDc wi g tYes tk tv vs) σ H (l.map fun x => (key x, val x)) := by
  intro H0 a0 Q q
  refine hs H0 a0 _ fun J H1 St a it hk D hD => ?_
  have nD : Nf H1 D := Nf.of hD
  refine ⟨fun i m H' => m = l.length - i ∧ i ≤ l.length ∧ Le T H1 H' ∧ Dic K H' D ((l.take i).map fun x => (key x, val x)), ⟨l.length, by simp, Nat.zero_le _, Le.new a.tab hD, [], upd_same, by simpa using DR.nil⟩, ?_⟩
  rintro i m H' ⟨rfl, hi, a', hdic⟩
  have st := hk H' (hkp _ _ a')
  by_cases hlt : i < l.length
  · obtain ⟨g1, g2⟩ := it.go i l[i] H' st a'.tab (List.getElem?_eq_getElem hlt)
    refine .inr ⟨g1, fun H3 => Le T H1 H3 ∧ Dic K H3 D ((l.take (i + 1)).map fun x => (key x, val x)), fun H3 ⟨k1, k2⟩ => ⟨l.length - (i + 1), by omega, rfl, hlt, k1, k2⟩, fun x H2 y => ?_⟩
    obtain ⟨y1, y2⟩ := g2 x H2 y
    refine step l[i] (List.getElem_mem hlt) H2 x (((a0.trans a).trans a').trans y1) y2 _ fun σ2 z1 z2 z3 => ⟨z1, ?_⟩
    refine eb_yes (T := T) (σ := σ2) (H := H2) H2 (Le.refl y1.tab) _ fun H2' a2' => ?_
    refine iteT (z2 H2' a2' _ fun b H4 a4' hb => ?_)
    have a4 := a2'.trans a4'
    refine (z3 H4 a4 H4 (Le.refl a4.tab) _ fun z H5 a5 hz => ?_)
    cases hb
    obtain ⟨kvs, e1, e2⟩ := ((hdic.le y1).le a4).le a5
    have tkk : TK H5 (upd H5 D (.dK (putK kvs (emI (key l[i])) z))) := (TK.refl H5).dK e1
    refine ⟨kvs, emI (key l[i]), rfl, e1, ?_, (((a'.trans y1).trans a4).trans a5).mut nD e1 pl_dK, _, upd_same, ?_⟩
    · rw [e2.length, List.length_map, List.length_take]
      exact Nat.lt_of_le_of_lt (Nat.le_trans (Nat.min_le_left _ _) (Nat.le_of_lt hlt)) (Nat.lt_of_le_of_lt hl (by decide))
    · rw [take_snoc hlt, List.map_append, List.map_cons, List.map_nil]
      have hnew : key l[i] ∉ (((l.take i).map fun x => (key x, val x)).map (·.1)) := by
        rw [List.map_map]
        intro z
        have z' : key l[i] ∈ (l.take i).map key := z
        have e3 : l.map key = (l.take i).map key ++ (key l[i] :: (l.drop (i + 1)).map key) := by
          rw [← List.map_cons, ← List.map_append]
          congr 1
          rw [← List.drop_eq_getElem_cons hlt, List.take_append_drop]
        rw [e3] at hn
        exact (List.nodup_append.mp hn).2.2 _ z' _ List.mem_cons_self rfl
      rw [← putL_new hnew]
      exact (e2.put emI_inj hz).mono tkk
  · have e : i = l.length := by omega
    subst e
    refine .inl ⟨it.stop H' st, ?_⟩
    rw [List.take_length] at hdic
    exact q D H' (a.trans a') (a.nf nD) hdic
/-- sorted(d), d with pairs of ints as keys -/
def isKey (H : Hp) (v : V) (k : Int × Int) : Prop := ∃ b, v = .ref b ∧ H b = some (.tup ((emP k).map kV))
theorem els_sortDT {i : Nat} {p : Addr} {lp : List ((Int × Int) × PyData)} {key : α → Int × Int} (hD : DicP K H p lp) (hp : (lp.map (·.1)).Perm (l.map key)) (hs : l.Pairwise fun a b => KLt (key a).1 (key a).2 (key b).1 (key b).2)
    (hb : ∀ x ∈ l, (0 ≤ (key x).1 ∧ (key x).1 < 64) ∧ 0 ≤ (key x).2 ∧ (key x).2 < 64) (h64 : l.length < 64) (hσ : σ[i]? = some (some (.ref p)) := by rfl) : EvLs T K (tCB rSortDT (tCons (tVar i) tNil)) σ H l fun H v x => isKey H v (key x) := by
  intro H1 a Q q
  obtain ⟨kvs, e1, e2⟩ := hD.le a
  refine ⟨.ref p, hσ, p, kvs, (lp.map (·.1)).map fun k => [k.1, k.2], 2, 64, rfl, e1, ?_, ?_, by decide, ?_, fun L p' hL hs' ha hn => ?_⟩
  · rw [e2.keys, List.map_map, List.map_map, List.map_map]
    rfl
  · rw [List.length_map, hp.length_eq, List.length_map]
    exact h64
  · intro n hn
    obtain ⟨k, hk, rfl⟩ := List.mem_map.mp hn
    obtain ⟨x, hx, rfl⟩ := List.mem_map.mp (hp.mem_iff.mp hk)
    refine ⟨rfl, fun m hm => ?_⟩
    obtain ⟨b1, b2⟩ := hb x hx
    rcases List.mem_cons.mp hm with e | hm
    · subst e; exact b1
    · rw [List.mem_singleton.mp hm]; exact b2
  · have e3 : L.map (·.2) = (l.map key).map fun k => [k.1, k.2] := by
      refine asc_eq (TS.code 64) (List.pairwise_map.mpr hs') ?_ (hL.trans (hp.map _))
      rw [List.map_map, List.pairwise_map]
      refine List.Pairwise.imp_of_mem (fun {x y} hx hy h => ?_) hs
      obtain ⟨b1, b2⟩ := hb x hx
      obtain ⟨c1, c2⟩ := hb y hy
      show TS.code 64 [(key x).1, (key x).2] < TS.code 64 [(key y).1, (key y).2]
      rw [code_pair, code_pair]
      unfold KLt at h
      omega
    have n := Le.new (o := .lst (L.map fun q => V.ref q.1)) a.tab hn
    refine q p' _ _ n (SqL.of upd_same) ?_
    have fa : ∀ {L : List (Addr × List Int)} {l : List α}, L.map (·.2) = (l.map key).map (fun k => [k.1, k.2]) → (∀ q ∈ L, H1 q.1 = some (.tup (q.2.map V.int))) → Fa (fun v x => isKey (upd H1 p' (.lst (L.map fun q => V.ref q.1))) v (key x)) (L.map fun q => V.ref q.1) l := by
      intro L0 l0 h1 h2
      have gen : ∀ {M : List (Addr × List Int)} {l : List α}, M.map (·.2) = (l.map key).map (fun k => [k.1, k.2]) → (∀ q ∈ M, H1 q.1 = some (.tup (q.2.map V.int))) → Fa (fun v x => isKey (upd H1 p' (.lst (L0.map fun q => V.ref q.1))) v (key x)) (M.map fun q => V.ref q.1) l := by
        intro M
        induction M with
        | nil =>
          intro l h1 h2
          cases l with
          | nil => exact .nil
          | cons _ _ => simp at h1
        | cons q M ih =>
          intro l h1 h2
          cases l with
          | nil => simp at h1
          | cons x l =>
            rw [List.map_cons, List.map_cons, List.map_cons] at h1
            injection h1 with h3 h4
            have hq := h2 q List.mem_cons_self
            refine .cons ⟨q.1, rfl, ?_⟩ (ih h4 fun r hr => h2 r (List.mem_cons_of_mem _ hr))
            rw [upd_ne (ne_of_none hq hn), hq, h3]
            rfl
      exact gen h1 h2
    exact fa e3 ha
end
end Lf
end

section
set_option maxRecDepth 100000
set_option maxHeartbeats 4000000
/-! The walk of the networks, 2. -/
namespace Lf
open PySem PySem.Spec PyProof.Rows L2
theorem tot_snd : ∀ l : List (Int × Rat), tot (l.map (·.2)) = psum l
  | [] => rfl
  | (_, w) :: l => by
    show w + tot (l.map (·.2)) = w + psum l
    rw [tot_snd l]
def PlOk (N : Net) (p : Int) : Prop := N.ties.Pairwise TLt ∧ (∀ t ∈ N.ties, t.1 < t.2.1) ∧ N.ties.length ≤ 1000 ∧ SumOk 0 ((nbrs N.ties p).map (·.2))
def pPull : List PyData → PyData → Prop := fun ds r => ∃ (N : Net) (p : Int), ds = [netD N, .int p] ∧ PlOk N p ∧ r = fr (psum (nbrs N.ties p))
/-- what the energy's walk asks -/
def EnOk (ts : List Tie) (x : Int → Rat) : Prop := (∀ t ∈ ts, Sm t.2.2 ∧ Sm (x t.1) ∧ Sm (x t.2.1) ∧ Sm (x t.1 - x t.2.1) ∧ Sm ((x t.1 - x t.2.1) * (x t.1 - x t.2.1))) ∧ SumOk 0 (ts.map fun t => t.2.2 * ((x t.1 - x t.2.1) * (x t.1 - x t.2.1))) ∧ Sm (bil ts x x)
theorem tot_bil (x : Int → Rat) : ∀ ts : List Tie, tot (ts.map fun t => t.2.2 * ((x t.1 - x t.2.1) * (x t.1 - x t.2.1))) = bil ts x x
  | [] => rfl
  | (a, b, w) :: ts => by
    show w * ((x a - x b) * (x a - x b)) + tot _ = w * (x a - x b) * (x a - x b) + bil ts x x
    rw [tot_bil x ts, Rat.mul_assoc]
/-- worths of the points ks -/
def wI (ks : List Int) (x : Int → Rat) : List PyData := (ks.map fun p => (p, fr (x p))).map prI
theorem wI_keys (ks : List Int) (x : Int → Rat) : (ks.map fun p => (p, fr (x p))).map (·.1) = ks := by
  rw [List.map_map]
  exact List.map_id _
def spEnergy (T : Tabl) (K : PySem.W.Frag) : Sp := fun vs H Q _ => LamX.Tabs T H ∧ ∃ (v1 v2 : V) (N : Net) (ks : List Int) (x : Int → Rat), vs = [v1, v2] ∧ Dt K H v1 (netD N) ∧ DF K H v2 (wI ks x) ∧ ks.Nodup ∧ (∀ t ∈ N.ties, t.1 ∈ ks ∧ t.2.1 ∈ ks) ∧ EnOk N.ties x ∧
  ∀ v H', Le T H H' → Dt K H' v (fr (en N.ties x)) → Q v H'
def StOk (ts : List Tie) (x : Int → Rat) : Prop := ∀ t ∈ ts, Sm t.2.2 ∧ Sm (x t.1) ∧ Sm (x t.2.1) ∧ Sm (x t.1 - x t.2.1)
def spStream (T : Tabl) (K : PySem.W.Frag) : Sp := fun vs H Q _ => LamX.Tabs T H ∧ ∃ (v1 v2 : V) (N : Net) (ks : List Int) (x : Int → Rat), vs = [v1, v2] ∧ Dt K H v1 (netD N) ∧ DF K H v2 (wI ks x) ∧ ks.Nodup ∧ (∀ t ∈ N.ties, t.1 ∈ ks ∧ t.2.1 ∈ ks) ∧ N.ties.length ≤ 1000 ∧ StOk N.ties x ∧
  ∀ v H', Le T H H' → Dt K H' v (.tuple ((strm N.ties x).map fr)) → Q v H'
def pStrict : List PyData → PyData → Prop := fun ds r => ∃ N : Net, ds = [netD N] ∧ N.ties.length ≤ 1000 ∧ r = .bool (N.ties.all fun t => decide (0 < sgn t.2.2))
def MoreOk (N : Net) (a b : Int) (m : Rat) : Prop := N.ties.Pairwise TLt ∧ N.ties.length < 60 ∧ (∀ t ∈ N.ties, (0 ≤ t.1 ∧ t.1 < 64) ∧ (0 ≤ t.2.1 ∧ t.2.1 < 64) ∧ 0 < t.2.2 ∧ Sm t.2.2) ∧ (0 ≤ a ∧ a < 64) ∧ (0 ≤ b ∧ b < 64) ∧ 0 < m ∧ Sm m
def pMore : List PyData → PyData → Prop := fun ds r => ∃ (N : Net) (a b : Int) (m : Rat), ds = [netD N, .int a, .int b, fr m] ∧ MoreOk N a b m ∧ r = netD ⟨N.pts, insTie N.ties a b m⟩
section
variable {P : Program} {w : World} {K : PySem.W.Frag} {mg : Str → Option Value} {base : Heap} {T : Tabl}
theorem sd_parDic {σ : L2.St} {H : Hp} {i j : Nat} {ta tb : TE} {l : List (Int × PyData)} {d : PyData} {D : Ends} (h1 : EvDic T K ta σ H l) (h2 : ∀ H1, Le T H H1 → EvD T K tb σ H1 d) (tH : LamX.Tabs T H)
    (q : ∀ p v H', Le T H H' → Nf H p → Dic K H' p l → Dt K H' v d → D.nx ((σ.set i (some (.ref p))).set j (some v)) H') : tPar i j (tCons ta (tCons tb tNil)) D σ H :=
  h1 H (Le.refl tH) _ fun p H2 a n hd => h2 H2 a H2 (Le.refl a.tab) _ fun v H3 a3 hv => ⟨_, _, rfl, q p v H3 (a.trans a3) n (hd.le a3) hv⟩

abbrev s_pull_of : Stmt := topS 23
abbrev N_pull_of : List Str := ["network", "point", "pair"]
theorem sc_pull_of : FnScope N_pull_of ["network", "point"] (defScope s_pull_of) := ⟨rfl, rfl, rfl, by decide +kernel, rfl, by decide +kernel, by decide +kernel⟩
theorem ok_pull_of {f : Addr} {fd : FuncData} (F : Fun K "pull_of" "pull_of" s_pull_of f fd) (m : Mg K mg) (c_total_of : Cal P w K mg base "total_of" ["some"] 3 (spTotal T K)) (c_pairs_of : Cal P w K mg base "pairs_of" ["network", "point"] 2 (Pur T K pNbrs)) :
    FnOk P w K mg base CX0 4 f fd ["network", "point"] (Pur T K pPull) := by
  refine F.ok sc_pull_of (pur_len fun ds r ⟨_, _, e, _⟩ => by rw [e]; rfl) (fun cdv A outer s H vs Q E hr h => ?_)
  obtain ⟨tH, ds, r, hv, ⟨N, p, rfl, ⟨hs, hlt, hz, hsum⟩, rfl⟩, q⟩ := h
  cases hv with
  | cons h1 h2 =>
  cases h2 with
  | cons h2 h3 =>
  cases h3
  rename_i vn vp
  refine ⟨_, (pss_one (ps_ret (pe_cal c_total_of (hr.mono (by decide)) (by rfl) (pa_cons (pe_lc (own := [("pair", 2)]) rfl sc_pull_of.nd (w_piT (K := K) (pe_cal c_pairs_of (hr.mono (by decide)) (by rfl) (pa_cons (pv 0) (pa_cons (pv 1) pa_nil)))) (blkOk_by (own := [("pair", 2)]) (N := N_pull_of) (sc := defScope s_pull_of) (by decide +kernel)) (fun _ _ _ _ _ => (pg_name (i := 2) sc_pull_of.nd rfl (.inl rfl))) (fun _ _ _ _ _ => pts_nil) (fun _ _ _ _ _ => (pe_ix (w_ixT (K := K)) (pv 2) pe_int (fun _ _ => rfl)))) pa_nil)))), ?_⟩
  have hn : ((nbrs N.ties p)).length ≤ 100000 := Nat.le_trans (nbrs_le p _) (by omega)
  refine sd_ret (ev_total (l := (nbrs N.ties p).map (·.2)) ?_ hsum) tH fun v H1 a1 hv => q v H1 a1 (by rw [tot_snd] at hv; exact hv)
  rw [List.map_map]
  exact lc_all hn (src_tup (f := prD) (l := nbrs N.ties p) (ev_call (evs_cons (ev_var h1) (evs_cons (ev_var h2) evs_nil)) ⟨N, p, rfl, hs, hlt, hz, rfl⟩)) (fun _ _ a => a.tk) fun x hx H1 v a hv Q' q' => q' [some vn, some vp, some v] rfl (ev_ix (ev_var hv) ev_int (dat_nat (j := 1) rfl))

abbrev s_network_energy : Stmt := topS 24
abbrev N_network_energy : List Str := ["network", "worths", "known", "found", "low", "high", "pull", "gap"]
theorem sc_network_energy : FnScope N_network_energy ["network", "worths"] (defScope s_network_energy) := ⟨rfl, rfl, rfl, by decide +kernel, rfl, by decide +kernel, by decide +kernel⟩
theorem ok_network_energy {f : Addr} {fd : FuncData} (F : Fun K "network_energy" "network_energy" s_network_energy f fd) (m : Mg K mg) (c_minus : Cal P w K mg base "minus" ["one", "other"] 2 (Pur T K pMinus)) (c_plus : Cal P w K mg base "plus" ["one", "other"] 2 (Pur T K pPlus))
    (c_times : Cal P w K mg base "times" ["one", "other"] 2 (Pur T K pTimes)) (c_half : Cal P w K mg base "half" ["one"] 2 (Pur T K pHalf)) : FnOk P w K mg base CX0 3 f fd ["network", "worths"] (spEnergy T K) := by
  refine F.ok sc_network_energy (fun vs H Q E ⟨_, _, _, _, _, _, e, _⟩ => by rw [e]; rfl) (fun cdv A outer s H vs Q E hr h => ?_)
  obtain ⟨tH, vn, vw, N, ks, x, rfl, h1, h2, hnd, hin, ⟨he1, he2, he3⟩, q⟩ := h
  obtain ⟨zz, hzero, dz⟩ := m.zero
  refine ⟨_, (pss_cons (ps_par (i := 2) (j := 3) rfl sc_network_energy.nd rfl rfl (by decide) rfl rfl (pa_cons (pe_callTy (w_dictT (K := K) rfl) (by rfl) m.dct (by decide +kernel) (pa_cons (pv 1) pa_nil)) (pa_cons (pe_glob (v := .ref zz) (by rfl) hzero rfl) pa_nil)) (by rfl))
      (pss_cons (ps_for PassesOwn.never rfl (w_piT (K := K) (pe_ix (w_ixT (K := K)) (pv 0) pe_int (fun _ _ => rfl))) (w_pg (K := K) (n := 3) rfl (pgs_cons (pg_name (i := 4) sc_network_energy.nd rfl (.inl rfl)) (pgs_cons (pg_name (i := 5) sc_network_energy.nd rfl (.inl rfl)) (pgs_cons (pg_name (i := 6) sc_network_energy.nd rfl (.inl rfl)) pgs_nil)))) (pss_cons (ps_set (i := 7) sc_network_energy.nd rfl (.inl rfl) (pe_cal c_minus (hr.mono (by decide)) (by rfl) (pa_cons (pe_dget (hu_of hr) (pv 2) (pv 4) (fun _ _ => rfl)) (pa_cons (pe_dget (hu_of hr) (pv 2) (pv 5) (fun _ _ => rfl)) pa_nil))))
      (pss_one (ps_set (i := 3) sc_network_energy.nd rfl (.inl rfl) (pe_cal c_plus (hr.mono (by decide)) (by rfl) (pa_cons (pv 3) (pa_cons (pe_cal c_times (hr.mono (by decide)) (by rfl) (pa_cons (pv 6) (pa_cons (pe_cal c_times (hr.mono (by decide)) (by rfl) (pa_cons (pv 7) (pa_cons (pv 7) pa_nil))) pa_nil))) pa_nil)))))))
      (pss_one (ps_ret (pe_cal c_half (hr.mono (by decide)) (by rfl) (pa_cons (pv 3) pa_nil)))))), ?_⟩
  refine sd_parDic (l := ks.map fun p => (p, fr (x p))) (d := fr 0) (ed_dictT (ef_var h2) (by rw [wI_keys]; exact hnd)) (fun H1 a => ev_con fun H => dz H) tH fun L v0 H1 a1 nL hD h0 => ?_
  refine for_src (src_tup (f := tieD) (l := N.ties) (ev_ix (ev_var (h1.mono a1.tk)) ev_int (dat_nat (j := 1) rfl))) a1.tab fun H2 a2 => ⟨fun r σ' H' => ∃ acc va y4 y5 y6 y7, σ' = [some vn, some vw, some (.ref L), some va, y4, y5, y6, y7] ∧ Le T H H' ∧ TK H2 H' ∧ Dic K H' L (ks.map fun p => (p, fr (x p))) ∧ Dt K H' va (fr acc) ∧ SumOk acc (r.map fun t => t.2.2 * ((x t.1 - x t.2.1) * (x t.1 - x t.2.1))) ∧ acc + tot (r.map fun t => t.2.2 * ((x t.1 - x t.2.1) * (x t.1 - x t.2.1))) = bil N.ties x x,
    ⟨0, v0, none, none, none, none, rfl, a1.trans a2, TK.refl _, hD.le a2, h0.mono a2.tk, he2, by rw [tot_bil, Rat.zero_add]⟩, fun r σ' H' ⟨_, _, _, _, _, _, _, k, k2, _⟩ => ⟨k2, k.tab⟩, ?_, ?_⟩
  · rintro t r σ' H' H'' v htm ⟨acc, va, y4, y5, y6, y7, rfl, a, k2, hD', ha, hso, e⟩ a3 hx
    have ea := a.trans a3
    obtain ⟨sw, s1, s2, s3, s4⟩ := he1 t htm
    obtain ⟨i1, i2⟩ := hin t htm
    refine g_three hx fun u1 u2 u3 d1 d2 d3 => ?_
    have hD2 := hD'.le a3
    refine sd_set (ev_call (evs_cons (ev_dget hD2 (ev_var d1) (getL_map _ i1)) (evs_cons (ev_dget hD2 (ev_var d2) (getL_map _ i2)) evs_nil)) ⟨_, _, rfl, s1, s2, rfl⟩) ea.tab fun vg H3 b3 hg => ?_
    refine sd_set (ev_call (evs_cons (ev_var (ha.mono (a3.trans b3).tk)) (evs_cons (ev_call (evs_cons (ev_var (d3.mono b3.tk)) (evs_cons (ev_call (evs_cons (ev_var hg) (evs_cons (ev_var hg) evs_nil)) ⟨_, _, rfl, s3, s3, rfl⟩) evs_nil)) ⟨_, _, rfl, sw, s4, rfl⟩) evs_nil)) ⟨_, _, rfl, hso.1, hso.2.1, rfl⟩) (ea.trans b3).tab fun vc H4 b4 hc => ?_
    have b := a3.trans (b3.trans b4)
    exact ⟨_, vc, _, _, _, _, rfl, a.trans b, k2.trans b.tk, hD'.le b, hc, hso.2.2, by rw [← e]; show _ + tot _ = acc + (_ + tot _); rw [Rat.add_assoc]⟩
  · rintro σ' H' ⟨acc, va, y4, y5, y6, y7, rfl, a, k2, hD', ha, hso, e⟩
    have e : acc + 0 = bil N.ties x x := e
    rw [Rat.add_zero] at e
    subst e
    refine sd_ret (ev_call (evs_cons (ev_var ha) evs_nil) ⟨_, rfl, he3, rfl⟩) a.tab fun v H3 a3 hv => q v H3 (a.trans a3) hv

abbrev s_stream_of : Stmt := topS 33
abbrev N_stream_of : List Str := ["network", "worths", "known", "low", "high", "pull"]
theorem sc_stream_of : FnScope N_stream_of ["network", "worths"] (defScope s_stream_of) := ⟨rfl, rfl, rfl, by decide +kernel, rfl, by decide +kernel, by decide +kernel⟩
theorem ok_stream_of {f : Addr} {fd : FuncData} (F : Fun K "stream_of" "stream_of" s_stream_of f fd) (m : Mg K mg) (c_minus : Cal P w K mg base "minus" ["one", "other"] 2 (Pur T K pMinus))
    (c_times : Cal P w K mg base "times" ["one", "other"] 2 (Pur T K pTimes)) : FnOk P w K mg base CX0 3 f fd ["network", "worths"] (spStream T K) := by
  refine F.ok sc_stream_of (fun vs H Q E ⟨_, _, _, _, _, _, e, _⟩ => by rw [e]; rfl) (fun cdv A outer s H vs Q E hr h => ?_)
  obtain ⟨tH, vn, vw, N, ks, x, rfl, h1, h2, hnd, hin, hz, he, q⟩ := h
  refine ⟨_, (pss_cons (ps_set (i := 2) sc_stream_of.nd rfl (.inr rfl) (pe_callTy (w_dictT (K := K) rfl) (by rfl) m.dct (by decide +kernel) (pa_cons (pv 1) pa_nil)))
      (pss_one (ps_ret (pe_callTy (w_tuple (K := K)) (by rfl) m.tup (by decide +kernel) (pa_cons (pe_lc (own := [("low", 3), ("high", 4), ("pull", 5)]) rfl sc_stream_of.nd (w_piT (K := K) (pe_ix (w_ixT (K := K)) (pv 0) pe_int (fun _ _ => rfl))) (blkOk_by (own := [("low", 3), ("high", 4), ("pull", 5)]) (N := N_stream_of) (sc := defScope s_stream_of) (by decide +kernel)) (fun _ _ _ _ _ => (w_pg (K := K) (n := 3) rfl (pgs_cons (pg_name (i := 3) sc_stream_of.nd rfl (.inl rfl)) (pgs_cons (pg_name (i := 4) sc_stream_of.nd rfl (.inl rfl)) (pgs_cons (pg_name (i := 5) sc_stream_of.nd rfl (.inl rfl)) pgs_nil))))) (fun _ _ _ _ _ => pts_nil) (fun _ _ _ _ _ => (pe_cal c_times (hr.mono (by decide)) (by rfl) (pa_cons (pv 5) (pa_cons (pe_cal c_minus (hr.mono (by decide)) (by rfl) (pa_cons (pe_dget (hu_of hr) (pv 2) (pv 3) (fun _ _ => rfl)) (pa_cons (pe_dget (hu_of hr) (pv 2) (pv 4) (fun _ _ => rfl)) pa_nil))) pa_nil))))) pa_nil))))), ?_⟩
  refine sd_setD (l := ks.map fun p => (p, fr (x p))) (ed_dictT (ef_var h2) (by rw [wI_keys]; exact hnd)) tH fun L H1 a1 nL hD => ?_
  dsimp only
  refine sd_ret (ev_tupL (ds := (strm N.ties x).map fr) ?_) a1.tab fun v H2 a2 hv => q v H2 (a1.trans a2) hv
  unfold strm
  rw [List.map_map]
  refine lc_all (by omega) (src_tup (f := tieD) (l := N.ties) (ev_ix (ev_var (h1.mono a1.tk)) ev_int (dat_nat (j := 1) rfl))) (fun _ _ a => a.tk) fun t ht H2 v a2 hv Q' q' => ?_
  obtain ⟨sw, s1, s2, s3⟩ := he t ht
  obtain ⟨i1, i2⟩ := hin t ht
  have hD2 := hD.le a2
  refine g_three hv fun u1 u2 u3 d1 d2 d3 => ?_
  refine q' [some vn, some vw, some (.ref L), some u1, some u2, some u3] rfl (ev_call (evs_cons (ev_var d3) (evs_cons (ev_call (evs_cons (ev_dget hD2 (ev_var d1) (getL_map _ i1)) (evs_cons (ev_dget hD2 (ev_var d2) (getL_map _ i2)) evs_nil)) ⟨_, _, rfl, s1, s2, rfl⟩) evs_nil)) ⟨_, _, rfl, sw, s3, rfl⟩)

abbrev s_is_strict : Stmt := topS 32
abbrev N_is_strict : List Str := ["network", "tie"]
theorem sc_is_strict : FnScope N_is_strict ["network"] (defScope s_is_strict) := ⟨rfl, rfl, rfl, by decide +kernel, rfl, by decide +kernel, by decide +kernel⟩
theorem ok_is_strict {f : Addr} {fd : FuncData} (F : Fun K "is_strict" "is_strict" s_is_strict f fd) (m : Mg K mg) (c_sign_of : Cal P w K mg base "sign_of" ["one"] 1 (Pur T K pSign)) : FnOk P w K mg base CX0 2 f fd ["network"] (Pur T K pStrict) := by
  refine F.ok sc_is_strict (pur_len fun ds r ⟨_, e, _⟩ => by rw [e]; rfl) (fun cdv A outer s H vs Q E hr h => ?_)
  obtain ⟨tH, ds, r, hv, ⟨N, rfl, hz, rfl⟩, q⟩ := h
  cases hv with
  | cons h1 h2 =>
  cases h2
  rename_i vn
  refine ⟨_, (pss_one (ps_ret (pe_callB (w_all (K := K) rfl) (by rfl) m.all (by decide +kernel) (pa_cons (pe_lc (own := [("tie", 1)]) rfl sc_is_strict.nd (w_piT (K := K) (pe_ix (w_ixT (K := K)) (pv 0) pe_int (fun _ _ => rfl))) (blkOk_by (own := [("tie", 1)]) (N := N_is_strict) (sc := defScope s_is_strict) (by decide +kernel)) (fun _ _ _ _ _ => (pg_name (i := 1) sc_is_strict.nd rfl (.inl rfl))) (fun _ _ _ _ _ => pts_nil) (fun _ _ _ _ _ => (pe_cmpR op_gt (pe_cal c_sign_of (hr.mono (by decide)) (by rfl) (pa_cons (pe_ix (w_ixT (K := K)) (pv 1) pe_int (fun _ _ => rfl)) pa_nil)) pe_int (nomark _)))) pa_nil)))), ?_⟩
  have eq : (N.ties.all fun t => decide (0 < sgn t.2.2)) = (N.ties.map fun t => decide (0 < sgn t.2.2)).all id := by rw [List.all_map]; rfl
  rw [eq] at q
  refine sd_ret (ev_all (bs := N.ties.map fun t => decide (0 < sgn t.2.2)) ?_) tH fun v H1 a1 hv => q v H1 a1 hv
  rw [List.map_map]
  exact lc_all (by omega) (src_tup (f := tieD) (l := N.ties) (ev_ix (ev_var h1) ev_int (dat_nat (j := 1) rfl))) (fun _ _ a => a.tk) fun t ht H1 v a hv Q' q' => q' [some vn, some v] rfl (ev_opB (g := fun i j => decide (j < i)) (ev_call (evs_cons (ev_ix (ev_var hv) ev_int (dat_nat (j := 2) rfl)) evs_nil) ⟨t.2.2, rfl, rfl⟩) ev_int)
end
end Lf
end

section
set_option maxRecDepth 100000
set_option maxHeartbeats 4000000
/-! The walk of the networks, 3: tied_more. -/
namespace Lf
open PySem PySem.Spec PyProof.Rows L2
section
variable {P : Program} {w : World} {K : PySem.W.Frag} {mg : Str → Option Value} {base : Heap} {T : Tabl}
theorem sd_setDP {σ : L2.St} {H : Hp} {te : TE} {l : List ((Int × Int) × PyData)} {D : Ends} {i : Nat} (h : EvDicP T K te σ H l) (tH : LamX.Tabs T H) (q : ∀ p H', Le T H H' → Nf H p → DicP K H' p l → D.nx (σ.set i (some (.ref p))) H') : tAsg te (gName i) D σ H := h H (Le.refl tH) _ fun p H2 a n hd => q p H2 a n hd
/-- tie[:2] -/
theorem ek_cut {σ : L2.St} {H : Hp} {te : TE} {t : Tie} (h : EvD T K te σ H (tieD t)) : EvK T (tSl (rSlA K) te tNoPart (tPart (tC (.int 2)))) σ H (t.1, t.2.1) := fun H1 a Q q =>
  h H1 a _ fun v H2 a2 hv => by
    unfold tieD at hv
    cases hv with
    | tup hs hd =>
    cases hd with
    | cons d1 hd =>
    cases hd with
    | cons d2 hd =>
    cases hd with
    | cons d3 hd =>
    cases hd
    cases d1
    cases d2
    refine ⟨2, rfl, _, _, rfl, hs, fun e => ?_, fun _ b hb => q b _ (a2.trans (Le.new a2.tab hb)) upd_same⟩
    exact absurd e.2 (fun z => absurd (show (2 : Nat) = 3 from z) (by decide))
theorem mem_keys {t : Tie} {l : List Tie} (h : t ∈ l) : ((t.1, t.2.1), fr t.2.2) ∈ l.map kvT := List.mem_map.mpr ⟨t, h, rfl⟩

abbrev s_tied_more : Stmt := topS 25
abbrev N_tied_more : List Str := ["network", "low", "high", "more", "ties", "tie", "pair"]
theorem sc_tied_more : FnScope N_tied_more ["network", "low", "high", "more"] (defScope s_tied_more) := ⟨rfl, rfl, rfl, by decide +kernel, rfl, by decide +kernel, by decide +kernel⟩
theorem ok_tied_more {f : Addr} {fd : FuncData} (F : Fun K "tied_more" "tied_more" s_tied_more f fd) (m : Mg K mg) (c_plus : Cal P w K mg base "plus" ["one", "other"] 2 (Pur T K pPlus)) : FnOk P w K mg base CX0 3 f fd ["network", "low", "high", "more"] (Pur T K pMore) := by
  refine F.ok sc_tied_more (pur_len fun ds r ⟨_, _, _, _, e, _⟩ => by rw [e]; rfl) (fun cdv A outer s H vs Q E hr h => ?_)
  obtain ⟨tH, ds, r, hv, ⟨N, a, b, mo, rfl, ⟨hs, hlen, hok, ha, hb, hm0, hmS⟩, rfl⟩, q⟩ := h
  cases hv with
  | cons h1 hv =>
  cases hv with
  | cons h2 hv =>
  cases hv with
  | cons h3 hv =>
  cases hv with
  | cons h4 hv =>
  cases hv
  rename_i vn va vb vm
  obtain ⟨zz, hzero, dz⟩ := m.zero
  refine ⟨_, (pss_cons (ps_set (i := 4) sc_tied_more.nd rfl (.inr rfl) (pe_dcX (own := [("tie", 5)]) rfl (hu_of hr) sc_tied_more.nd (w_piT (K := K) (pe_ix (w_ixT (K := K)) (pv 0) pe_int (fun _ _ => rfl))) (blkOk_by (own := [("tie", 5)]) (N := N_tied_more) (sc := defScope s_tied_more) (by decide +kernel)) (fun _ _ _ _ _ => (pg_name (i := 5) sc_tied_more.nd rfl (.inl rfl))) (fun _ _ _ _ _ => pts_nil) (fun _ _ _ _ _ => (pe_slice (w_slT (K := K)) (pv 5) po_none (po_some pe_int))) (fun _ _ _ _ _ => (pe_ix (w_ixT (K := K)) (pv 5) pe_int (fun _ _ => rfl)))))
      (pss_cons (ps_dput (hu_of hr) (pv 4) (pe_tup (pa_cons (pv 1) (pa_cons (pv 2) pa_nil))) (pe_cal c_plus (hr.mono (by decide)) (by rfl) (pa_cons (pe_dget2 (hu_of hr) (pv 4) (pe_tup (pa_cons (pv 1) (pa_cons (pv 2) pa_nil))) (pe_glob (v := .ref zz) (by rfl) hzero rfl) ⟨by rfl, by rfl, by rfl, by rfl⟩) (pa_cons (pv 3) pa_nil))) rfl)
      (pss_one (ps_ret (pe_tup (pa_cons (pe_ix (w_ixT (K := K)) (pv 0) pe_int (fun _ _ => rfl)) (pa_cons (pe_callTy (w_tuple (K := K)) (by rfl) m.tup (by decide +kernel) (pa_cons (pe_lc (own := [("pair", 6)]) rfl sc_tied_more.nd (w_piL (K := K) (pe_callB (w_sortDT rfl) (by rfl) m.srt (by decide +kernel) (pa_cons (pv 4) pa_nil))) (blkOk_by (own := [("pair", 6)]) (N := N_tied_more) (sc := defScope s_tied_more) (by decide +kernel)) (fun _ _ _ _ _ => (pg_name (i := 6) sc_tied_more.nd rfl (.inl rfl))) (fun _ _ _ _ _ => pts_one (pt_cmpR (w_neD (K := K) hr.units) (pe_dget (hu_of hr) (pv 4) (pv 6) (fun _ _ => rfl)) (pe_glob (v := .ref zz) (by rfl) hzero rfl) (nomark _))) (fun _ _ _ _ _ => (pe_op (w_cat (K := K)) (pv 6) (pe_tup (pa_cons (pe_dget (hu_of hr) (pv 4) (pv 6) (fun _ _ => rfl)) pa_nil))))) pa_nil)) pa_nil))))))), ?_⟩
  have hnd : (N.ties.map fun t => (t.1, t.2.1)).Nodup := by
    have := keys_nodup hs
    rw [List.map_map] at this
    exact this
  refine sd_setDP (K := K) (l := N.ties.map kvT) ?_ tH fun L H1 a1 nL hD => ?_
  · refine dcT_all (key := fun t : Tie => (t.1, t.2.1)) (val := fun t : Tie => fr t.2.2) (by omega) (src_tup (f := tieD) (l := N.ties) (ev_ix (ev_var h1) ev_int (dat_nat (j := 1) rfl))) (fun _ _ a => a.tk) hnd fun t ht H1 v a1 hv Q' q' => ?_
    exact q' [some vn, some va, some vb, some vm, none, some v, none] rfl (ek_cut (ev_var hv)) fun H2 a2 => ev_ix (ev_var (hv.mono a2.tk)) ev_int (dat_nat (j := 2) rfl)
  -- ties[low, high] = plus(..)
  have w0 : Sm (wt N.ties a b) := by
    have gen : ∀ {l : List Tie}, (∀ t ∈ l, Sm t.2.2) → Sm (wt l a b) := by
      intro l
      induction l with
      | nil => intro _; exact (IB.zero (E := 1) (R := 1) (by decide)).sm (by decide +kernel) (by decide +kernel)
      | cons t l ih =>
        intro h
        obtain ⟨c, d, ww⟩ := t
        show Sm (if a = c ∧ b = d then ww else wt l a b)
        split
        · exact h _ List.mem_cons_self
        · exact ih fun u hu => h u (List.mem_cons_of_mem _ hu)
    exact gen fun t ht => (hok t ht).2.2.2
  refine sd_dputP (k := (a, b)) hD a1 nL (ev_call (d := fr (wt N.ties a b + mo)) (evs_cons (ev_is (ev_dget2P (k := (a, b)) hD (ek_tup (ev_var (h2.mono a1.tk)) (ev_var (h3.mono a1.tk))) (ev_con (d := fr 0) fun H => dz H)) (wt_get a b N.ties)) (evs_cons (ev_var (h4.mono a1.tk)) evs_nil)) ⟨_, _, rfl, w0, hmS, rfl⟩)
    (ek_tup (ev_var (h2.mono a1.tk)) (ev_var (h3.mono a1.tk))) (by rw [List.length_map]; omega) fun H2 a2 k2 _ hD2 => ?_
  dsimp only
  -- the answer
  have hp : ((putL (N.ties.map kvT) (a, b) (fr (wt N.ties a b + mo))).map (·.1)).Perm ((insTie N.ties a b mo).map fun t => (t.1, t.2.1)) := by
    have := (ins_tab a b mo hs).map (·.1)
    rw [List.map_map] at this
    exact this
  have srt := ins_sorted a b mo hs
  have kn : ((putL (N.ties.map kvT) (a, b) (fr (wt N.ties a b + mo))).map (·.1)).Nodup := by
    have h := keys_nodup srt
    rw [List.map_map] at h
    exact hp.nodup_iff.mpr h
  have hget : ∀ t ∈ insTie N.ties a b mo, getL (putL (N.ties.map kvT) (a, b) (fr (wt N.ties a b + mo))) (t.1, t.2.1) = some (fr t.2.2) := fun t ht =>
    getL_mem kn ((ins_tab a b mo hs).mem_iff.mpr (mem_keys ht))
  have bd : ∀ t ∈ insTie N.ties a b mo, ((0 ≤ t.1 ∧ t.1 < 64) ∧ 0 ≤ t.2.1 ∧ t.2.1 < 64) ∧ 0 < t.2.2 := fun t ht => by
    rcases mem_ins ht with k | k | ⟨ww, k1, k2⟩
    · exact ⟨⟨(hok t k).1, (hok t k).2.1⟩, (hok t k).2.2.1⟩
    · subst k; exact ⟨⟨ha, hb⟩, hm0⟩
    · subst k2
      refine ⟨⟨ha, hb⟩, ?_⟩
      have := (hok _ k1).2.2.1
      show 0 < ww + mo
      have : 0 < ww := this
      grind
  have ilen := ins_len a b mo N.ties
  have tk2 : TK H H2 := a2.tk
  refine sd_ret (d := netD ⟨N.pts, insTie N.ties a b mo⟩) (ev_tup (evs_cons (ev_ix (ev_var (h1.mono tk2)) ev_int (dat_nat (j := 0) rfl)) (evs_cons (ev_tupL (ds := (insTie N.ties a b mo).map tieD) ?_) evs_nil))) a2.tab fun v H3 a3 hv => q v H3 (a2.trans a3) hv
  have key := lc_src (T := T) (K := K) (σ := [some vn, some va, some vb, some vm, some (.ref L), none, none]) (H := H2) (vs := [6]) (p := fun t : Tie => !decide (t.2.2 = 0)) (h := tieD) (l := insTie N.ties a b mo) (g := gName 6) (R := fun H v x => isKey H v (x.1, x.2.1))
    (tt := tTest (tOp (rNeD K) (tDGet (tVar 4) (tVar 6)) (tC (.ref zz)))) (te := tOp (rCatA K) (tVar 6) (tTup (tCons (tDGet (tVar 4) (tVar 6)) tNil))) (by omega)
    (src_lst (els_sortDT (i := 4) (key := fun t : Tie => (t.1, t.2.1)) hD2 hp srt (fun t ht => (bd t ht).1) (by omega)) fun H1 H2 v x k ⟨b, e1, e2⟩ => ⟨b, e1, k.at_ e2 pl_tup⟩) (fun _ _ k => k) fun t ht H3 v a3 hv Q' q' => ?_
  · have ef : (insTie N.ties a b mo).filter (fun t : Tie => !decide (t.2.2 = 0)) = insTie N.ties a b mo := List.filter_eq_self.mpr fun t ht => by
      have := (bd t ht).2
      have ne : ¬ t.2.2 = 0 := fun z => by rw [z] at this; exact absurd this (by decide)
      simp [ne]
    rw [ef] at key
    exact key
  · obtain ⟨kb, rfl, hkb⟩ := hv
    have hD3 := hD2.le a3
    have hkd : Dt K H3 (.ref kb) (.tuple [.int t.1, .int t.2.1]) := .new hkb (.cons (.int _) (.cons (.int _) .nil))
    refine q' [some vn, some va, some vb, some vm, some (.ref L), none, some (.ref kb)] rfl (eb_is (eb_test (ev_neD (ev_dgetP hD3 (ek_var hkb) (hget t ht)) (ev_con (d := fr 0) fun H => dz H) (shaped_fr _) (shaped_fr _))) (by rw [eqv_fr])) fun _ => ?_
    exact ev_cat (ds := [.int t.1, .int t.2.1]) (es := [fr t.2.2]) (ev_var hkd) (ev_tup (evs_cons (ev_dgetP hD3 (ek_var hkb) (hget t ht)) evs_nil)) (by show 2 + 1 ≤ 100000; decide)
end
end Lf
end

section
set_option maxRecDepth 100000
set_option maxHeartbeats 1000000
set_option exponentiation.threshold 3000
/-! What the walk of an elimination asks, from the network's sizes. -/
namespace Lf
open PySem PySem.Spec PyProof.Rows L2
def Bd64 (N : Net) : Prop := ∀ q ∈ N.pts, 0 ≤ q ∧ q < 64
theorem prod_len (f : Int → Int → Int) : ∀ l m : List Int, (l.flatMap fun a => m.map (f a)).length = l.length * m.length
  | [], m => by simp
  | a :: l, m => by
    rw [List.flatMap_cons, List.length_append, List.length_map, prod_len f l m, List.length_cons, Nat.add_mul, Nat.one_mul, Nat.add_comm]
theorem ties_len {ts : List Tie} {pts : List Int} (hs : ts.Pairwise TLt) (hin : ∀ t ∈ ts, t.1 ∈ pts ∧ t.2.1 ∈ pts) (hb : ∀ q ∈ pts, 0 ≤ q ∧ q < 64) (h6 : pts.length ≤ 6) : ts.length ≤ 36 := by
  have h1 : (ts.map fun t => t.1 * 64 + t.2.1).Pairwise (· < ·) := by
    rw [List.pairwise_map]
    refine List.Pairwise.imp_of_mem (fun {t u} ht hu h => ?_) hs
    have a := hb _ (hin t ht).2
    have b := hb _ (hin u hu).2
    unfold TLt KLt at h
    omega
  have h2 := rise_len h1 (m := pts.flatMap fun a => pts.map fun b => a * 64 + b) fun a ha => by
    obtain ⟨t, ht, rfl⟩ := List.mem_map.mp ha
    exact List.mem_flatMap.mpr ⟨t.1, (hin t ht).1, List.mem_map.mpr ⟨t.2.1, (hin t ht).2, rfl⟩⟩
  rw [List.length_map, prod_len (fun a b => a * 64 + b)] at h2
  exact Nat.le_trans h2 (Nat.mul_le_mul h6 h6)
theorem pow_lt {a b : Nat} (h1 : a ≤ 2 ^ b) (h : b < 1400) : a < 2 ^ 1400 := Nat.lt_of_le_of_lt h1 (Nat.pow_lt_pow_right (by decide) h)
theorem mul_pow {a b x y : Nat} (h1 : a ≤ 2 ^ x) (h2 : b ≤ 2 ^ y) : a * b ≤ 2 ^ (x + y) := by
  rw [Nat.pow_add]
  exact Nat.mul_le_mul h1 h2
theorem NB.ties {N : Net} {e w : Nat} (h : NB e w N) (hb : Bd64 N) : N.ties.length ≤ 36 := ties_len h.ok.ts (fun t ht => ⟨(h.ok.ok t ht).2.1, (h.ok.ok t ht).2.2.1⟩) hb h.six
theorem NB.pl {N : Net} {e w : Nat} (h : NB e w N) (hb : Bd64 N) (hew : e + w ≤ 300) (p : Int) : PlOk N p := by
  obtain ⟨E, W, hE, bE, bW, hT⟩ := h.tb
  refine ⟨h.ok.ts, fun t ht => (h.ok.ok t ht).1, Nat.le_trans (h.ties hb) (by decide), sumOk_ib (A := E) (R := W) (M := 0) (pow_lt bE (by omega)) (IB.zero hE) (fun x hx => ?_) ?_⟩
  · obtain ⟨q, hq, rfl⟩ := List.mem_map.mp hx
    rcases mem_nbrs (j := q.1) (w := q.2) hq with k | k <;> exact hT _ k
  · have hl : ((nbrs N.ties p).map (·.2)).length + 1 ≤ 2 ^ 3 := by
      rw [List.length_map]
      have := nbrs_len h.ok p
      have := h.six
      omega
    rw [Nat.zero_add]
    exact pow_lt (mul_pow (mul_pow hl bW) bE) (by omega)
/-- what stands in the loops of dropped -/
def TO (N : Net) (E B : Nat) (ts : List Tie) : Prop := ts.Pairwise TLt ∧ (∀ t ∈ ts, (t.1 ∈ N.pts ∧ t.2.1 ∈ N.pts) ∧ 0 < t.2.2) ∧ TB E B ts
theorem TO.ins {N : Net} {E B W : Nat} {ts : List Tie} {a b : Int} {m : Rat} (h : TO N E B ts) (ha : a ∈ N.pts) (hb : b ∈ N.pts) (h0 : 0 < m) (hm : IB E W m) : TO N E (B + W) (insTie ts a b m) :=
  ⟨ins_sorted a b m h.1, fun t ht => by
    rcases mem_ins ht with k | k | ⟨w, k1, k2⟩
    · exact h.2.1 t k
    · subst k; exact ⟨⟨ha, hb⟩, h0⟩
    · subst k2
      refine ⟨⟨ha, hb⟩, ?_⟩
      have : 0 < w := (h.2.1 _ k1).2
      show 0 < w + m
      grind, h.2.2.ins hm⟩
theorem TO.more {N : Net} {E B W : Nat} {ts : List Tie} {a b : Int} {m : Rat} (h : TO N E B ts) (h64 : Bd64 N) (h6 : N.pts.length ≤ 6) (ha : a ∈ N.pts) (hb : b ∈ N.pts) (h0 : 0 < m) (hm : IB E W m) (bE : E < 2 ^ 1400) (bB : B * E < 2 ^ 1400) (bW : W * E < 2 ^ 1400) (pts : List Int) :
    MoreOk ⟨pts, ts⟩ a b m :=
  ⟨h.1, Nat.lt_of_le_of_lt (ties_len h.1 (fun t ht => (h.2.1 t ht).1) h64 h6) (by decide), fun t ht => ⟨h64 _ (h.2.1 t ht).1.1, h64 _ (h.2.1 t ht).1.2, (h.2.1 t ht).2, (h.2.2 t ht).sm bE bB⟩, h64 a ha, h64 b hb, h0, hm.sm bE bW⟩
/-- what dropped asks -/
structure DropOk (N : Net) (p : Int) : Prop where
  ex : ∃ e w, NB e w N ∧ e + w ≤ 300
  mem : p ∈ N.pts
  two : 2 ≤ N.pts.length
  b64 : Bd64 N
theorem Bd64.drop {N : Net} (h : Bd64 N) (p : Int) : Bd64 (drop N p) := fun q hq => h q (List.mem_filter.mp hq).1

/-! ### the worths that settle -/
/-- what the walk of settled_by asks -/
def RecOk (told : List Int) (t : Int → Rat) : List (Int × List (Int × Rat)) → Prop
  | [] => True
  | (p, sh) :: r => RecOk told t r ∧ (∀ q ∈ sh, q.1 ∈ told ++ (r.map (·.1)).reverse ∧ Sm q.2 ∧ Sm (recon r t q.1)) ∧ SumOk 0 (sh.map fun q => q.2 * recon r t q.1) ∧ sh.length ≤ 6 ∧ p ∉ told ++ (r.map (·.1)).reverse
theorem means_keys : ∀ (order : List Int) (N : Net), (means N order).map (·.1) = order
  | [], _ => rfl
  | p :: r, N => by
    show p :: (means (drop N p) r).map (·.1) = p :: r
    rw [means_keys r]
theorem fin_mono : ∀ (n e w : Nat), 4 ≤ fin n e w
  | 0, _, _ => Nat.le_refl _
  | n + 1, e, w => Nat.le_trans (fin_mono n _ _) (Nat.le_add_right _ _)
theorem rec_ok {told : List Int} {t : Int → Rat} : ∀ {order : List Int} {N : Net} {e w : Nat}, NB e w N → Elim N told order → Fit order.length e w → fin order.length e w ≤ 1000 → (∀ q ∈ told, IB 12 9 (t q)) → RecOk told t (means N order)
  | [], _, _, _, _, _, _, _, _ => True.intro
  | p :: r, N, e, w, h, hE, hF, hfin, ht => by
    obtain ⟨hp, h2⟩ := hE.two
    have hfin2 : fin r.length (2 * e + w + 3) (w + 6) + (e + w + 3) ≤ 1000 := hfin
    obtain ⟨F, F0, bF, hFF⟩ := settle_ib (order := r) (h.drop hp h2) hE.drop ht
    obtain ⟨E, W, hE0, bE, bW, hT⟩ := h.tb
    obtain ⟨hq, P0, hP0, eP, bP, _⟩ := pull_whole h.ok hE0 hT hp h2 h.six
    have bP2 := pow_bd bE bW bP
    have inD : ∀ q, q ∈ N.pts → q ≠ p → q ∈ (Lf.drop N p).pts := fun q h1 h2 => List.mem_filter.mpr ⟨h1, decide_eq_true h2⟩
    have hsh : ∀ u ∈ shares N p, (u.1 ∈ N.pts ∧ u.1 ≠ p) ∧ IB P0 1 u.2 ∧ IB F 9 (settle (Lf.drop N p) t r u.1) := fun u hu => by
      obtain ⟨v, hv, rfl⟩ := List.mem_map.mp hu
      have z := hq v hv
      have n := nbrs_pos h.ok (j := v.1) (w := v.2) hv
      exact ⟨n.2, share_ib z.1 z.2.1 eP z.2.2, hFF _ (inD _ n.2.1 n.2.2)⟩
    have lsh : (shares N p).length ≤ 6 := by
      unfold shares
      rw [List.length_map]
      exact Nat.le_trans (nbrs_len h.ok p) h.six
    have nd : (p :: r).Nodup := hE.nd
    show RecOk told t (means (Lf.drop N p) r) ∧ _ ∧ _ ∧ _ ∧ _
    rw [means_keys]
    refine ⟨rec_ok (h.drop hp h2) hE.drop hF.2 (by omega) ht, fun q hm => ?_, ?_, lsh, fun z => ?_⟩
    · obtain ⟨⟨n1, n2⟩, i1, i2⟩ := hsh q hm
      refine ⟨?_, i1.sm (pow_lt bP2 (by omega)) (by rw [Nat.one_mul]; exact pow_lt bP2 (by omega)), i2.sm (pow_lt bF (by omega)) ?_⟩
      · rcases hE.all q.1 n1 with k | k
        · exact List.mem_append_left _ k
        · rcases List.mem_cons.mp k with e1 | k
          · exact absurd e1 n2
          · exact List.mem_append_right _ (List.mem_reverse.mpr k)
      · have : (9 : Nat) ≤ 2 ^ 4 := by decide
        exact pow_lt (mul_pow this bF) (by omega)
    · refine sumOk_ib (A := P0 * F) (R := 9) (M := 0) (pow_lt (mul_pow bP2 bF) (by omega)) (IB.zero (Nat.mul_pos hP0 F0)) (fun x hx => ?_) ?_
      · obtain ⟨q, hm, rfl⟩ := List.mem_map.mp hx
        obtain ⟨_, i1, i2⟩ := hsh q hm
        have := i1.mul i2
        rw [Nat.one_mul] at this
        exact this
      · have a1 : 0 + (((shares N p).map fun q => q.2 * recon (means (Lf.drop N p) r) t q.1).length + 1) * 9 ≤ 2 ^ 6 := by
          rw [List.length_map]
          omega
        exact pow_lt (mul_pow a1 (mul_pow bP2 bF)) (by omega)
    · rcases List.mem_append.mp z with k | k
      · exact (hE.sub p List.mem_cons_self).2 k
      · exact (List.nodup_cons.mp nd).1 (List.mem_reverse.mp k)
end Lf
end

section
set_option maxRecDepth 100000
set_option maxHeartbeats 4000000
set_option exponentiation.threshold 3000
/-! The walk of the networks, 4: dropped. -/
namespace Lf
open PySem PySem.Spec PyProof.Rows L2
theorem cut_from (ds : List PyData) (k : Nat) : cutD ds (some ((k : Nat) : Int)) none = ds.drop k := by
  unfold cutD
  rw [HT.sIx_nat, HT.sIx_none]
  by_cases h : k ≤ ds.length
  · rw [Nat.min_eq_left h, List.take_of_length_le (by rw [List.length_drop]; exact Nat.le_refl _)]
  · rw [Nat.min_eq_right (by omega), Nat.sub_self, List.take_zero, List.drop_eq_nil_of_le (by omega)]
theorem ev_is_dt {K : PySem.W.Frag} {H : Hp} {v : V} {d e : PyData} (h : Dt K H v d) (z : d = e) : Dt K H v e := z ▸ h
theorem one_sgn {x : Rat} (h : 0 < x) : sgn x = 1 := by
  have := num_pos h
  unfold sgn
  rw [if_neg (by omega), if_pos this]
def pDrop : List PyData → PyData → Prop := fun ds r => ∃ (N : Net) (p : Int), ds = [netD N, .int p] ∧ DropOk N p ∧ r = netD (drop N p)
section
variable {P : Program} {w : World} {K : PySem.W.Frag} {mg : Str → Option Value} {base : Heap} {T : Tabl}
abbrev s_dropped : Stmt := topS 26
abbrev N_dropped : List Str := ["network", "point", "points", "found", "pairs", "pull", "at", "low", "one", "high", "other", "tie"]
theorem sc_dropped : FnScope N_dropped ["network", "point"] (defScope s_dropped) := ⟨rfl, rfl, rfl, by decide +kernel, rfl, by decide +kernel, by decide +kernel⟩
theorem ok_dropped {f : Addr} {fd : FuncData} (F : Fun K "dropped" "dropped" s_dropped f fd) (m : Mg K mg) (c_pairs_of : Cal P w K mg base "pairs_of" ["network", "point"] 2 (Pur T K pNbrs)) (c_pull_of : Cal P w K mg base "pull_of" ["network", "point"] 4 (Pur T K pPull))
    (c_sign_of : Cal P w K mg base "sign_of" ["one"] 1 (Pur T K pSign)) (c_tied_more : Cal P w K mg base "tied_more" ["network", "low", "high", "more"] 3 (Pur T K pMore)) (c_over : Cal P w K mg base "over" ["one", "other"] 2 (Pur T K pOver))
    (c_times : Cal P w K mg base "times" ["one", "other"] 2 (Pur T K pTimes)) : FnOk P w K mg base CX0 5 f fd ["network", "point"] (Pur T K pDrop) := by
  refine F.ok sc_dropped (pur_len fun ds r ⟨_, _, e, _⟩ => by rw [e]; rfl) (fun cdv A outer s H vs Q E hr h => ?_)
  obtain ⟨tH, ds, r, hv, ⟨N, p, rfl, hD, rfl⟩, q⟩ := h
  obtain ⟨⟨e0, w0, hB, hew⟩, hp, h2p, h64⟩ := hD
  cases hv with
  | cons h1 hv =>
  cases hv with
  | cons h2 hv =>
  cases hv
  rename_i vn vp
  refine ⟨_, (pss_cons (ps_par (i := 4) (j := 5) rfl sc_dropped.nd rfl rfl (by decide) rfl rfl (pa_cons (pe_cal c_pairs_of (hr.mono (by decide)) (by rfl) (pa_cons (pv 0) (pa_cons (pv 1) pa_nil))) (pa_cons (pe_cal c_pull_of (hr.mono (by decide)) (by rfl) (pa_cons (pv 0) (pa_cons (pv 1) pa_nil))) pa_nil)) (by rfl))
      (pss_cons (ps_if (pt_cmpR op_le (pe_cal c_sign_of (hr.mono (by decide)) (by rfl) (pa_cons (pv 5) pa_nil)) pe_int (nomark _)) (pss_one ps_never) pss_nil)
      (pss_cons (ps_set (i := 2) sc_dropped.nd rfl (.inl rfl) (pe_callTy (w_tuple (K := K)) (by rfl) m.tup (by decide +kernel) (pa_cons (pe_lc (own := [("other", 10)]) rfl sc_dropped.nd (w_piT (K := K) (pe_ix (w_ixT (K := K)) (pv 0) pe_int (fun _ _ => rfl))) (blkOk_by (own := [("other", 10)]) (N := N_dropped) (sc := defScope s_dropped) (by decide +kernel)) (fun _ _ _ _ _ => (pg_name (i := 10) sc_dropped.nd rfl (.inl rfl))) (fun _ _ _ _ _ => pts_one (pt_cmpR op_ne (pv 10) (pv 1) (nomark _))) (fun _ _ _ _ _ => (pv 10))) pa_nil)))
      (pss_cons (ps_set (i := 3) sc_dropped.nd rfl (.inl rfl) (pe_tup (pa_cons (pv 2) (pa_cons (pe_callTy (w_tuple (K := K)) (by rfl) m.tup (by decide +kernel) (pa_cons (pe_lc (own := [("tie", 11)]) rfl sc_dropped.nd (w_piT (K := K) (pe_ix (w_ixT (K := K)) (pv 0) pe_int (fun _ _ => rfl))) (blkOk_by (own := [("tie", 11)]) (N := N_dropped) (sc := defScope s_dropped) (by decide +kernel)) (fun _ _ _ _ _ => (pg_name (i := 11) sc_dropped.nd rfl (.inl rfl))) (fun _ _ _ _ _ => pts_one (pt_cmpR (w_notIn (K := K)) (pv 1) (pe_slice (w_slT (K := K)) (pv 11) po_none (po_some pe_int)) (by with_unfolding_all rfl))) (fun _ _ _ _ _ => (pv 11))) pa_nil)) pa_nil))))
      (pss_cons (ps_for PassesOwn.never rfl (w_enumT (K := K) (by rfl) m.enu (pa_cons (pv 4) pa_nil)) (w_pg (K := K) (n := 2) rfl (pgs_cons (pg_name (i := 6) sc_dropped.nd rfl (.inl rfl)) (pgs_cons (w_pg (K := K) (n := 2) rfl (pgs_cons (pg_name (i := 7) sc_dropped.nd rfl (.inl rfl)) (pgs_cons (pg_name (i := 8) sc_dropped.nd rfl (.inl rfl)) pgs_nil))) pgs_nil))) (pss_one (ps_for PassesOwn.never rfl (w_piT (K := K) (pe_slice (w_slT (K := K)) (pv 4) (po_some (pe_op op_add (pv 6) pe_int)) po_none)) (w_pg (K := K) (n := 2) rfl (pgs_cons (pg_name (i := 9) sc_dropped.nd rfl (.inl rfl)) (pgs_cons (pg_name (i := 10) sc_dropped.nd rfl (.inl rfl)) pgs_nil))) (pss_one (ps_set (i := 3) sc_dropped.nd rfl (.inl rfl) (pe_cal c_tied_more (hr.mono (by decide)) (by rfl) (pa_cons (pv 3) (pa_cons (pv 7) (pa_cons (pv 9) (pa_cons (pe_cal c_over (hr.mono (by decide)) (by rfl) (pa_cons (pe_cal c_times (hr.mono (by decide)) (by rfl) (pa_cons (pv 8) (pa_cons (pv 10) pa_nil))) (pa_cons (pv 5) pa_nil))) pa_nil))))))))))
      (pss_one (ps_ret (pv 3)))))))), ?_⟩
  have hpl := hB.pl h64 hew p
  have hP := pull_pos hB.ok hp h2p
  obtain ⟨E0, W, hE, bE, bW, hT⟩ := hB.tb
  obtain ⟨hq, P0, hP0, eP, bP, ibP⟩ := pull_whole hB.ok hE hT hp h2p hB.six
  have bP2 := pow_bd bE bW bP
  have hl6 : (nbrs N.ties p).length ≤ 6 := Nat.le_trans (nbrs_len hB.ok p) hB.six
  have len36 := hB.ties h64
  have sP : Sm (psum (nbrs N.ties p)) := ibP.sm (pow_lt bE (by omega)) (pow_lt (mul_pow (mul_pow (show (6 : Nat) ≤ 2 ^ 3 by decide) bW) bE) (by omega))
  refine sd_par (d := .tuple ((nbrs N.ties p).map prD)) (e := fr (psum (nbrs N.ties p))) (evs_cons (ev_call (evs_cons (ev_var h1) (evs_cons (ev_var h2) evs_nil)) ⟨N, p, rfl, hpl.1, hpl.2.1, hpl.2.2.1, rfl⟩) (evs_cons (ev_call (evs_cons (ev_var h1) (evs_cons (ev_var h2) evs_nil)) ⟨N, p, rfl, hpl, rfl⟩) evs_nil)) tH fun vq vl H1 a1 hq1 hl1 => ?_
  refine sd_no (eb_is (eb_test (ev_opB (g := fun i j => decide (i ≤ j)) (ev_call (evs_cons (ev_var hl1) evs_nil) ⟨_, rfl, rfl⟩) ev_int)) (decide_eq_false (by rw [one_sgn hP]; decide))) a1.tab fun H2 a2 => ?_
  unfold tNext
  dsimp only
  have a02 := a1.trans a2
  refine sd_set (d := .tuple ((drop N p).pts.map .int)) (ev_tupL ?_) a02.tab fun vpts H3 a3 hpts => ?_
  · show EvL T K _ _ _ ((N.pts.filter fun q : Int => decide (q ≠ p)).map PyData.int)
    refine lc_src (by have := hB.six; omega) (src_tup (f := PyData.int) (l := N.pts) (ev_ix (ev_var (h1.mono a02.tk)) ev_int (dat_nat (j := 0) rfl))) (fun _ _ k => k.tk) fun x hx H3 v a3 hv Q' q' => ?_
    · refine q' [some vn, some vp, none, none, some vq, some vl, none, none, none, none, some v, none] rfl (eb_is (eb_test (ev_neI (ev_var hv) (ev_var (h2.mono (a02.trans a3).tk)))) ?_) fun _ => ev_var hv
      by_cases z : x = p <;> simp [z]
  have a03 := a02.trans a3
  refine sd_set (d := netD ⟨(drop N p).pts, offTies N.ties p⟩) (ev_tup (evs_cons (ev_var hpts) (evs_cons (ev_tupL (ds := (offTies N.ties p).map tieD) ?_) evs_nil))) a03.tab fun vf H4 a4 hf => ?_
  · show EvL T K _ _ _ ((N.ties.filter fun t : Tie => decide (¬ (p = t.1 ∨ p = t.2.1))).map tieD)
    refine lc_src (by omega) (src_tup (f := tieD) (l := N.ties) (ev_ix (ev_var (h1.mono a03.tk)) ev_int (dat_nat (j := 1) rfl))) (fun _ _ k => k.tk) fun x hx H4 v a4 hv Q' q' => ?_
    · refine q' [some vn, some vp, some vpts, none, some vq, some vl, none, none, none, none, none, some v] rfl (eb_is (eb_test (ev_notIn (ns := [x.1, x.2.1]) (ev_var (h2.mono (a03.trans a4).tk)) (ev_is (ev_sl (ev_var hv) eo_none (eo_some (K := K) ev_int)) rfl))) ?_) fun _ => ev_var hv
      by_cases z : p = x.1 ∨ p = x.2.1 <;> simp [z]
  have a04 := a03.trans a4
  -- the bounds of the loops
  have bEE : P0 * E0 < 2 ^ 1400 := pow_lt (mul_pow bP2 bE) (by omega)
  have bW2 : W * (P0 * E0) < 2 ^ 1400 := pow_lt (mul_pow bW (mul_pow bP2 bE)) (by omega)
  have bB : ∀ B, B ≤ W * 64 → B * (P0 * E0) < 2 ^ 1400 := fun B hBB => by
    have : B ≤ 2 ^ (w0 + 6) := Nat.le_trans hBB (mul_pow bW (show (64 : Nat) ≤ 2 ^ 6 by decide))
    exact pow_lt (mul_pow this (mul_pow bP2 bE)) (by omega)
  have to0 : TO N (P0 * E0) W (offTies N.ties p) := ⟨hB.ok.ts.filter _, fun t ht => by
    have k := (off_mem.mp ht).1
    have z := hB.ok.ok t k
    exact ⟨⟨z.2.1, z.2.2.1⟩, z.2.2.2⟩, by rw [Nat.mul_comm]; exact TB.lift (fun t ht => hT t (off_mem.mp ht).1) hP0⟩
  have hnb : ∀ u ∈ nbrs N.ties p, u.1 ∈ N.pts := fun u hu => (nbrs_pos hB.ok (j := u.1) (w := u.2) hu).2.1
  have a14 := (a2.trans a3).trans a4
  refine for_src (src_enum (f := prD) (l := nbrs N.ties p) (ev_var (hq1.mono a14.tk))) a04.tab fun H5 a5 => ⟨fun r σ' H' => ∃ (i : Nat) (vf : V) (ts : List Tie) (y6 y7 y8 y9 y10 : Option V), σ' = [some vn, some vp, some vpts, some vf, some vq, some vl, y6, y7, y8, y9, y10, none] ∧ Le T H H' ∧ TK H5 H' ∧ Dt K H' vf (netD ⟨(drop N p).pts, ts⟩) ∧
    TO N (P0 * E0) (W * (1 + 6 * i)) ts ∧ insAll (psum (nbrs N.ties p)) ((nbrs N.ties p).drop i) ts = (drop N p).ties ∧ r = ((nbrs N.ties p).zipIdx).drop i ∧ i ≤ (nbrs N.ties p).length,
    ⟨0, vf, _, none, none, none, none, none, rfl, a04.trans a5, TK.refl _, hf.mono a5.tk, by rw [Nat.mul_zero, Nat.add_zero, Nat.mul_one]; exact to0, rfl, rfl, Nat.zero_le _⟩, fun r σ' H' ⟨_, _, _, _, _, _, _, _, _, k, k2, _⟩ => ⟨k2, k.tab⟩, ?_, ?_⟩
  · rintro ⟨x, n⟩ r σ' H' H'' v hxm ⟨i, vf', ts, y6, y7, y8, y9, y10, rfl, b1, b2, b3, b4, b5, b6, b7⟩ a6 hx
    have hin : i < (nbrs N.ties p).length := by
      rcases Nat.lt_or_ge i (nbrs N.ties p).length with z | z
      · exact z
      · rw [List.drop_eq_nil_of_le (by rw [List.length_zipIdx]; exact z)] at b6
        cases b6
    have hz : i < (nbrs N.ties p).zipIdx.length := by rw [List.length_zipIdx]; exact hin
    rw [List.drop_eq_getElem_cons hz] at b6
    injection b6 with c1 c2
    have c3 : ((nbrs N.ties p).zipIdx)[i] = ((nbrs N.ties p)[i], i) := by rw [List.getElem_zipIdx]; simp
    rw [c3] at c1
    have hxx : (nbrs N.ties p)[i] = x := (Prod.mk.inj c1).1.symm
    have cn : i = n := (Prod.mk.inj c1).2.symm
    clear c1 c3
    subst cn
    have hxin : x ∈ nbrs N.ties p := by rw [← hxx]; exact List.getElem_mem hin
    have d5 : (nbrs N.ties p).drop i = x :: (nbrs N.ties p).drop (i + 1) := by rw [List.drop_eq_getElem_cons hin, hxx]
    rw [d5] at b5
    have lrest : ((nbrs N.ties p).drop (i + 1)).length + (i + 1) = (nbrs N.ties p).length := by rw [List.length_drop]; omega
    have ea := b1.trans a6
    refine g_tup hx rfl fun xs hxs => g_cons hxs fun u6 r6 h6 hxs => g_cons hxs fun u7 r7 h7 hxs => ?_
    refine g_two (d := .int x.1) (e := fr x.2) h7 fun w7 w8 k7 k8 => ?_
    refine g_nil hxs ?_
    dsimp only
    have hvq : Dt K H'' vq (.tuple ((nbrs N.ties p).map prD)) := hq1.mono (a14.tk.trans (a5.tk.trans (b2.trans a6.tk)))
    have hvl : Dt K H'' vl (fr (psum (nbrs N.ties p))) := hl1.mono (a14.tk.trans (a5.tk.trans (b2.trans a6.tk)))
    refine for_src (src_tup (f := prD) (l := (nbrs N.ties p).drop (i + 1)) (ev_is (ev_sl (ev_var hvq) (eo_some (K := K) (i := ((i + 1 : Nat) : Int)) (ev_is (ev_op (g := fun i j => i + j) (ev_var h6) ev_int) (by push_cast; rfl))) eo_none) (by rw [cut_from, List.map_drop]))) ea.tab fun H7 a7 => ⟨fun r2 σ2 H2' => ∃ (j : Nat) (vg : V) (ts2 : List Tie) (z9 z10 : Option V), σ2 = [some vn, some vp, some vpts, some vg, some vq, some vl, some u6, some w7, some w8, z9, z10, none] ∧ Le T H'' H2' ∧ TK H7 H2' ∧ Dt K H2' vg (netD ⟨(drop N p).pts, ts2⟩) ∧
      TO N (P0 * E0) (W * (1 + 6 * i) + j * W) ts2 ∧ insRow (psum (nbrs N.ties p)) x.1 x.2 r2 ts2 = insRow (psum (nbrs N.ties p)) x.1 x.2 ((nbrs N.ties p).drop (i + 1)) ts ∧ j + r2.length = ((nbrs N.ties p).drop (i + 1)).length,
      ⟨0, vf', ts, y9, y10, rfl, a7, TK.refl _, (b3.mono a6.tk).mono a7.tk, by rw [Nat.zero_mul, Nat.add_zero]; exact b4, rfl, Nat.zero_add _⟩, fun r σ' H' ⟨_, _, _, _, _, _, k, k2, _⟩ => ⟨k2, k.tab⟩, ?_, ?_⟩
    · rintro y r2 σ2 H2' H3' v2 hym ⟨j, vg, ts2, z9, z10, rfl, g1, g2, g3, g4, g5, g6⟩ a8 hy
      have hyin : y ∈ nbrs N.ties p := List.mem_of_mem_drop hym
      have ga := g1.trans a8
      refine g_two (d := .int y.1) (e := fr y.2) hy fun w9 w10 k9 k10 => ?_
      have qx := hq x hxin
      have qy := hq y hyin
      have iq := quot_ib qx.1 qy.1 qx.2.1 qy.2.1 eP qy.2.2
      have pq : 0 < x.2 * y.2 / psum (nbrs N.ties p) := div_pos (Rat.mul_pos qx.2.1 qy.2.1) hP
      have sE : E0 < 2 ^ 1400 := pow_lt bE (by omega)
      have sx : Sm x.2 := qx.1.sm sE (pow_lt (mul_pow bW bE) (by omega))
      have sy : Sm y.2 := qy.1.sm sE (pow_lt (mul_pow bW bE) (by omega))
      have sxy : Sm (x.2 * y.2) := (qx.1.mul qy.1).sm (pow_lt (mul_pow bE bE) (by omega)) (pow_lt (mul_pow (mul_pow bW bW) (mul_pow bE bE)) (by omega))
      have jl : j + 1 ≤ 6 := by simp only [List.length_cons] at g6; omega
      have bnd : W * (1 + 6 * i) + j * W ≤ W * 64 := by
        rw [Nat.mul_comm j W, ← Nat.mul_add]
        exact Nat.mul_le_mul_left _ (by omega)
      have hmo : MoreOk ⟨(drop N p).pts, ts2⟩ x.1 y.1 (x.2 * y.2 / psum (nbrs N.ties p)) := g4.more h64 hB.six (hnb x hxin) (hnb y hyin) pq iq bEE (bB _ bnd) bW2 _
      refine sd_set (d := netD ⟨(drop N p).pts, insTie ts2 x.1 y.1 (x.2 * y.2 / psum (nbrs N.ties p))⟩) (ev_call (evs_cons (ev_var (g3.mono a8.tk)) (evs_cons (ev_var (k7.mono ga.tk)) (evs_cons (ev_var k9) (evs_cons (ev_call (evs_cons (ev_call (evs_cons (ev_var (k8.mono ga.tk)) (evs_cons (ev_var k10) evs_nil)) ⟨_, _, rfl, sx, sy, rfl⟩) (evs_cons (ev_var (hvl.mono ga.tk)) evs_nil)) ⟨_, _, rfl, sxy, sP, hP, rfl⟩) evs_nil)))) ⟨_, _, _, _, rfl, hmo, rfl⟩) ga.tab fun vg2 H4' a9 hg => ?_
      refine ⟨j + 1, vg2, _, _, _, rfl, ga.trans a9, g2.trans (a8.trans a9).tk, hg, ?_, g5, by simp only [List.length_cons] at g6; omega⟩
      have := g4.ins (hnb x hxin) (hnb y hyin) pq iq
      rw [Nat.add_assoc] at this
      rw [Nat.add_mul, Nat.one_mul]
      exact this
    · rintro σ2 H2' ⟨j, vg, ts2, z9, z10, rfl, g1, g2, g3, g4, g5, g6⟩
      refine ⟨i + 1, vg, ts2, _, _, _, _, _, rfl, ea.trans g1, b2.trans (a6.trans g1).tk, g3, ?_, ?_, c2, by omega⟩
      · refine ⟨g4.1, g4.2.1, g4.2.2.mono ?_⟩
        rw [Nat.mul_comm j W, ← Nat.mul_add]
        refine Nat.mul_le_mul_left _ ?_
        simp only [List.length_nil] at g6
        omega
      · have g5 : ts2 = insRow (psum (nbrs N.ties p)) x.1 x.2 ((nbrs N.ties p).drop (i + 1)) ts := g5
        rw [g5]
        exact b5
  · rintro σ' H' ⟨i, vf', ts, y6, y7, y8, y9, y10, rfl, b1, b2, b3, b4, b5, b6, b7⟩
    have hi : i = (nbrs N.ties p).length := by
      rcases Nat.lt_or_ge i (nbrs N.ties p).length with z | z
      · have hz : i < (nbrs N.ties p).zipIdx.length := by rw [List.length_zipIdx]; exact z
        rw [List.drop_eq_getElem_cons hz] at b6
        cases b6
      · omega
    subst hi
    rw [List.drop_length] at b5
    have b5 : ts = (drop N p).ties := b5
    refine sd_ret (d := netD (drop N p)) (ev_var (ev_is_dt b3 (by rw [b5]))) b1.tab fun v H3 a3 hv => q v H3 (b1.trans a3) hv
end
end Lf
end

section
set_option maxRecDepth 100000
set_option maxHeartbeats 4000000
set_option exponentiation.threshold 3000
/-! The walk of the elimination: means_of, settled_by, settled_worths. -/
namespace Lf
open PySem PySem.Spec PyProof.Rows L2
def stepD (q : Int × List (Int × Rat)) : PyData := .tuple [.int q.1, .tuple (q.2.map prD)]
def MeansOk (N : Net) (order : List Int) : Prop := ∃ (told : List Int) (e w : Nat), NB e w N ∧ Elim N told order ∧ Fit order.length e w ∧ Bd64 N
theorem MeansOk.step {N : Net} {p : Int} {r : List Int} (h : MeansOk N (p :: r)) : DropOk N p ∧ MeansOk (drop N p) r ∧ ∀ q ∈ nbrs N.ties p, Sm q.2 := by
  obtain ⟨told, e, w, hB, hE, hF, h64⟩ := h
  obtain ⟨hp, h2⟩ := hE.two
  refine ⟨⟨⟨e, w, hB, hF.1⟩, hp, h2, h64⟩, ⟨told, _, _, hB.drop hp h2, hE.drop, hF.2, h64.drop p⟩, fun q hq => ?_⟩
  obtain ⟨E, W, hE0, bE, bW, hT⟩ := hB.tb
  have hew := hF.1
  have ib : IB E W q.2 := by rcases mem_nbrs (j := q.1) (w := q.2) hq with k | k <;> exact hT _ k
  exact ib.sm (pow_lt bE (by omega)) (pow_lt (mul_pow bW bE) (by omega))
theorem DropOk.pull {N : Net} {p : Int} (h : DropOk N p) : PlOk N p ∧ 0 < psum (nbrs N.ties p) ∧ Sm (psum (nbrs N.ties p)) ∧ N.ties.length ≤ 36 ∧ (nbrs N.ties p).length ≤ 6 := by
  obtain ⟨⟨e, w, hB, hew⟩, hp, h2, h64⟩ := h
  obtain ⟨E, W, hE, bE, bW, hT⟩ := hB.tb
  obtain ⟨hq, P0, hP0, eP, bP, ibP⟩ := pull_whole hB.ok hE hT hp h2 hB.six
  exact ⟨hB.pl h64 hew p, pull_pos hB.ok hp h2, ibP.sm (pow_lt bE (by omega)) (pow_lt (mul_pow (mul_pow (show (6 : Nat) ≤ 2 ^ 3 by decide) bW) bE) (by omega)), hB.ties h64, Nat.le_trans (nbrs_len hB.ok p) hB.six⟩
def spMeans (T : Tabl) (K : PySem.W.Frag) : Sp := fun vs H Q _ => LamX.Tabs T H ∧ ∃ (vn : V) (a : Addr) (xs : List V) (N : Net) (order : List Int), vs = [vn, .ref a] ∧ Dt K H vn (netD N) ∧ SqL K H a xs ∧ Dts K H xs (order.map PyData.int) ∧ order.length ≤ 1000 ∧ MeansOk N order ∧
  ∀ v H', Le T H H' → Dt K H' v (.tuple ((means N order).map stepD)) → Q v H'
def SetOk (N : Net) (told order : List Int) (t : Int → Rat) : Prop := MeansOk N order ∧ RecOk told t (means N order) ∧ told.Nodup ∧ (told ++ order.reverse).Perm N.pts ∧ N.pts.Pairwise (· < ·) ∧ N.pts.length ≤ 6
def spSettled (T : Tabl) (K : PySem.W.Frag) : Sp := fun vs H Q _ => LamX.Tabs T H ∧ ∃ (vn vt : V) (a : Addr) (xs : List V) (N : Net) (told order : List Int) (t : Int → Rat), vs = [vn, vt, .ref a] ∧ Dt K H vn (netD N) ∧ DF K H vt (wI told t) ∧ SqL K H a xs ∧ Dts K H xs (order.map PyData.int) ∧ SetOk N told order t ∧
  ∀ v H', Le T H H' → DF K H' v (wI N.pts (settle N t order)) → Q v H'
def spWorths (T : Tabl) (K : PySem.W.Frag) : Sp := fun vs H Q _ => LamX.Tabs T H ∧ ∃ (vn vt : V) (N : Net) (told : List Int) (t : Int → Rat), vs = [vn, vt] ∧ Dt K H vn (netD N) ∧ DF K H vt (wI told t) ∧ told.length ≤ 6 ∧ SetOk N told (N.pts.filter fun p => !decide (p ∈ told)) t ∧
  ∀ v H', Le T H H' → DF K H' v (wI N.pts (settle N t (N.pts.filter fun p => !decide (p ∈ told)))) → Q v H'
def rSortDI : List V → Hp → VK → Prop := fun xs H Q => ∃ (a : Addr) (kvs : List (Key × V)) (ks : List Int), xs = [.ref a] ∧ Rd H a (.dK kvs) ∧ kvs.map (·.1) = ks.map Sum.inl ∧ ks.length < 64 ∧
    ∀ (ys : List Int) (p : Addr), ys.Perm ks → ys.Pairwise (· ≤ ·) → H p = none → Q (.ref p) (upd H p (.lst (ys.map V.int)))
theorem w_sortDI {X : Cx} (hc : X.calm = true) : CallR X (.builtin "sorted") rSortDI := call_sortedDI hc
section
variable {P : Program} {w : World} {K : PySem.W.Frag} {mg : Str → Option Value} {base : Heap} {T : Tabl}
/-- a list in a variable; xs: what it holds -/
theorem src_var2 {α : Type} {σ : L2.St} {H : Hp} {l : List α} {i : Nat} {a : Addr} {xs : List V} {f : α → PyData} (hq : SqL K H a xs) (hx : Dts K H xs (l.map f)) (h : σ[i]? = some (some (.ref a)) := by rfl) :
    Src T (iList K (tVar i)) σ H (fun H1 H' => TK H1 H' ∧ SqL K H' a xs) l fun H v x => Dt K H v (f x) := by
  intro H1 a1 Rk q
  refine ⟨.ref a, h, a, rfl, ⟨xs, sql_le hq a1⟩, q _ H1 (fun H' => SqL K H' a xs ∧ Dts K H' xs (l.map f)) (Le.refl a1.tab) ⟨fun H' st => ⟨xs, st.1, by rw [st.2.length, List.length_map]; exact Nat.le_refl _⟩, fun i x H' st tb hi => ?_⟩ fun H' k => ⟨k.2, (hx.mono a1.tk).mono k.1⟩⟩
  have e1 : (l.map f)[i]? = some (f x) := by rw [List.getElem?_map, hi]; rfl
  obtain ⟨w, e2, e3⟩ := st.2.get e1
  refine ⟨⟨xs, w, st.1, e2⟩, fun v H'' y => ?_⟩
  obtain ⟨rfl, y⟩ := y
  have ex : v = w := Option.some.inj ((y xs st.1).symm.trans e2)
  subst ex
  exact ⟨Le.refl tb, e3⟩
theorem sd_asg {σ : L2.St} {H : Hp} {te : TE} {d : PyData} {g : TG} {D : Ends} (h : EvD T K te σ H d) (tH : LamX.Tabs T H) (q : ∀ v H', Le T H H' → Dt K H' v d → g v σ H' D.nx) : tAsg te g D σ H := h H (Le.refl tH) _ fun v H2 a hv => q v H2 a hv
theorem ev_tupV {σ : L2.St} {H : Hp} {i : Nat} {p : Addr} {acc : List V} {ds : List PyData} (hp : H p = some (.lst acc)) (hd : Dts K H acc ds) (hσ : σ[i]? = some (some (.ref p)) := by rfl) : EvD T K (tCB (rTup K) (tCons (tVar i) tNil)) σ H (.tuple ds) := fun H1 a Q q =>
  ⟨.ref p, hσ, p, acc, rfl, .inl ⟨SqL.of (a.at_ hp pl_lst), fun l hl => by
    have n := Le.new (o := .tup acc) a.tab hl
    exact q _ _ n (.new upd_same (hd.mono (a.tk.trans n.tk)))⟩⟩
theorem dts_ints {H : Hp} : ∀ ns : List Int, Dts K H (ns.map V.int) (ns.map PyData.int)
  | [] => .nil
  | n :: ns => .cons (.int n) (dts_ints ns)
theorem els_sortDI {σ : L2.St} {H : Hp} {i : Nat} {p : Addr} {l : List (Int × PyData)} {ks : List Int} (hD : Dic K H p l) (hp : (l.map (·.1)).Perm ks) (hs : ks.Pairwise (· < ·)) (h64 : ks.length < 64) (hσ : σ[i]? = some (some (.ref p)) := by rfl) :
    EvLs T K (tCB rSortDI (tCons (tVar i) tNil)) σ H ks fun H v x => Dt K H v (.int x) := fun H1 a Q q => by
  obtain ⟨kvs, e1, e2⟩ := hD.le a
  refine ⟨.ref p, hσ, p, kvs, l.map (·.1), rfl, .inl e1, (by rw [e2.keys]; rfl), by rw [hp.length_eq]; exact h64, fun ys p' hy hs' hn => ?_⟩
  have e : ys = ks := asc_eq (fun x => x) hs' hs (hy.trans hp)
  subst e
  have n := Le.new (o := .lst (ys.map V.int)) a.tab hn
  exact q p' _ _ n (SqL.of upd_same) (fa_dts (dts_ints ys))

abbrev s_means_of : Stmt := topS 28
abbrev N_means_of : List Str := ["network", "order", "steps", "point", "pairs", "pull", "other", "one"]
theorem sc_means_of : FnScope N_means_of ["network", "order"] (defScope s_means_of) := ⟨rfl, rfl, rfl, by decide +kernel, rfl, by decide +kernel, by decide +kernel⟩
theorem ok_means_of {f : Addr} {fd : FuncData} (F : Fun K "means_of" "means_of" s_means_of f fd) (m : Mg K mg) (c_pairs_of : Cal P w K mg base "pairs_of" ["network", "point"] 2 (Pur T K pNbrs)) (c_pull_of : Cal P w K mg base "pull_of" ["network", "point"] 4 (Pur T K pPull))
    (c_dropped : Cal P w K mg base "dropped" ["network", "point"] 5 (Pur T K pDrop)) (c_over : Cal P w K mg base "over" ["one", "other"] 2 (Pur T K pOver)) : FnOk P w K mg base CX0 6 f fd ["network", "order"] (spMeans T K) := by
  refine F.ok sc_means_of (fun vs H Q E ⟨_, _, _, _, _, _, e, _⟩ => by rw [e]; rfl) (fun cdv A outer s H vs Q E hr h => ?_)
  obtain ⟨tH, vn, la, xs, N, order, rfl, h1, hq, hd, hol, hok, q⟩ := h
  refine ⟨_, (pss_cons (ps_set (i := 2) sc_means_of.nd rfl (.inl rfl) (pe_lst pa_nil))
      (pss_cons (ps_for PassesOwn.never rfl (w_piL (K := K) (pv 1)) (pg_name (i := 3) sc_means_of.nd rfl (.inl rfl)) (pss_cons (ps_asg (pe_tup (pa_cons (pe_cal c_pairs_of (hr.mono (by decide)) (by rfl) (pa_cons (pv 0) (pa_cons (pv 3) pa_nil))) (pa_cons (pe_cal c_pull_of (hr.mono (by decide)) (by rfl) (pa_cons (pv 0) (pa_cons (pv 3) pa_nil))) pa_nil))) (w_pg (K := K) (n := 2) rfl (pgs_cons (pg_name (i := 4) sc_means_of.nd rfl (.inl rfl)) (pgs_cons (pg_name (i := 5) sc_means_of.nd rfl (.inr rfl)) pgs_nil))))
      (pss_cons (ps_set (i := 0) sc_means_of.nd rfl (.inl rfl) (pe_cal c_dropped (hr.mono (by decide)) (by rfl) (pa_cons (pv 0) (pa_cons (pv 3) pa_nil))))
      (pss_one (ps_expr (pe_bm PySem.F.plainAttrs_list PySem.F.slot_list_append PySem.F.type_list_append mt_append (pv 2) (pa_cons (pe_tup (pa_cons (pv 3) (pa_cons (pe_callTy (w_tuple (K := K)) (by rfl) m.tup (by decide +kernel) (pa_cons (pe_lc (own := [("other", 6), ("one", 7)]) rfl sc_means_of.nd (w_piT (K := K) (pv 4)) (blkOk_by (own := [("other", 6), ("one", 7)]) (N := N_means_of) (sc := defScope s_means_of) (by decide +kernel)) (fun _ _ _ _ _ => (w_pg (K := K) (n := 2) rfl (pgs_cons (pg_name (i := 6) sc_means_of.nd rfl (.inl rfl)) (pgs_cons (pg_name (i := 7) sc_means_of.nd rfl (.inl rfl)) pgs_nil)))) (fun _ _ _ _ _ => pts_nil) (fun _ _ _ _ _ => (pe_tup (pa_cons (pv 6) (pa_cons (pe_cal c_over (hr.mono (by decide)) (by rfl) (pa_cons (pv 7) (pa_cons (pv 5) pa_nil))) pa_nil))))) pa_nil)) pa_nil))) pa_nil)))))))
      (pss_one (ps_ret (pe_callTy (w_tuple (K := K)) (by rfl) m.tup (by decide +kernel) (pa_cons (pv 2) pa_nil)))))), ?_⟩
  refine sd_nil tH fun L H1 a1 nL eL => ?_
  refine for_src (src_var2 (i := 1) (a := la) (f := PyData.int) (l := order) (sql_le hq a1) (hd.mono a1.tk)) a1.tab fun H2 a2 => ⟨fun r σ' H' => ∃ (done : List (Int × List (Int × Rat))) (M : Net) (vm : V) (acc : List V) (y3 y4 y5 : Option V), σ' = [some vm, some (.ref la), some (.ref L), y3, y4, y5, none, none] ∧ Le T H H' ∧ TK H2 H' ∧ H' L = some (.lst acc) ∧ acc.length + r.length ≤ 1000 ∧ Dts K H' acc (done.map stepD) ∧ Dt K H' vm (netD M) ∧ MeansOk M r ∧ done ++ means M r = means N order,
    ⟨[], N, vn, [], none, none, none, rfl, a1.trans a2, TK.refl _, a2.at_ eL pl_lst, by simpa using hol, .nil, h1.mono (a1.trans a2).tk, hok, rfl⟩, fun r σ' H' ⟨_, _, _, _, _, _, _, _, k, k2, _⟩ => ⟨⟨k2, sql_le hq k⟩, k.tab⟩, ?_, ?_⟩
  · rintro p r σ' H' H'' v hpm ⟨done, M, vm, acc, y3, y4, y5, rfl, a, k2, eL', hln, hacc, hm, hM, e⟩ a3 hx
    have ea := a.trans a3
    obtain ⟨hD, hM2, hsm⟩ := hM.step
    obtain ⟨hpl, hP, sP, l36, l6⟩ := hD.pull
    have hm' := hm.mono a3.tk
    refine sd_asg (d := .tuple [.tuple ((nbrs M.ties p).map prD), fr (psum (nbrs M.ties p))]) (ev_tup (evs_cons (ev_call (evs_cons (ev_var hm') (evs_cons (ev_var hx) evs_nil)) ⟨M, p, rfl, hpl.1, hpl.2.1, hpl.2.2.1, rfl⟩) (evs_cons (ev_call (evs_cons (ev_var hm') (evs_cons (ev_var hx) evs_nil)) ⟨M, p, rfl, hpl, rfl⟩) evs_nil))) ea.tab fun vt H3 b3 ht => ?_
    refine g_two ht fun v4 v5 h4 h5 => ?_
    dsimp only
    have e3 := ea.trans b3
    refine sd_set (d := netD (drop M p)) (ev_call (evs_cons (ev_var (hm'.mono b3.tk)) (evs_cons (ev_var (hx.mono b3.tk)) evs_nil)) ⟨M, p, rfl, hD, rfl⟩) e3.tab fun v0 H4 b4 h0 => ?_
    have e4 := e3.trans b4
    have b34 := b3.trans b4
    have hl : H4 L = some (.lst acc) := (a3.trans b34).at_ eL' pl_lst
    dsimp only
    refine sd_append (d := stepD (p, shares M p)) hl e4 nL (ev_tup (evs_cons (ev_var (hx.mono b34.tk)) (evs_cons (ev_tupL (ds := (shares M p).map prD) ?_) evs_nil))) (by omega) fun v' H5 c1 c2 c3 c4 c5 => ?_
    · unfold shares
      rw [List.map_map]
      refine lc_all (by omega) (src_tup (f := prD) (l := nbrs M.ties p) (ev_var (h4.mono b4.tk))) (fun _ _ k => k.tk) fun x hxm H6 v6 a6 hv6 Q' q' => ?_
      refine g_two hv6 fun w6 w7 k6 k7 => ?_
      exact q' [some v0, some (.ref la), some (.ref L), some v, some v4, some v5, some w6, some w7] rfl (ev_tup (evs_cons (ev_var k6) (evs_cons (ev_call (evs_cons (ev_var k7) (evs_cons (ev_var ((h5.mono b4.tk).mono a6.tk)) evs_nil)) ⟨_, _, rfl, hsm x hxm, sP, hP, rfl⟩) evs_nil)))
    · refine ⟨done ++ [(p, shares M p)], drop M p, v0, acc ++ [v'], _, _, _, rfl, c1, k2.trans (a3.tk.trans (b34.tk.trans c2)), c4, ?_, ?_, h0.mono c2, hM2, ?_⟩
      · rw [List.length_append]
        simp only [List.length_cons, List.length_nil] at hln ⊢
        omega
      · rw [List.map_append]
        exact (hacc.mono (a3.tk.trans (b34.tk.trans c2))).append (.cons c5 .nil)
      · rw [List.append_assoc, ← e]
        rfl
  · rintro σ' H' ⟨done, M, vm, acc, y3, y4, y5, rfl, a, k2, eL', hln, hacc, hm, hM, e⟩
    have e : done ++ [] = means N order := e
    rw [List.append_nil] at e
    subst e
    refine sd_ret (ev_tupV eL' hacc) a.tab fun v H3 a3 hv => ?_
    exact q v H3 (a.trans a3) hv
end
end Lf
end

section
set_option maxRecDepth 100000
set_option maxHeartbeats 4000000
set_option exponentiation.threshold 3000
/-! The walk of the elimination: settled_by, settled_worths. -/
namespace Lf
open PySem PySem.Spec PyProof.Rows L2
theorem tot_wx (x : Int → Rat) : ∀ l : List (Int × Rat), tot (l.map fun q => q.2 * x q.1) = wx x l
  | [] => rfl
  | (j, w) :: l => by
    show w * x j + tot _ = w * x j + wx x l
    rw [tot_wx x l]
theorem recOk_suf {told : List Int} {t : Int → Rat} : ∀ {a b : List (Int × List (Int × Rat))}, RecOk told t (a ++ b) → RecOk told t b
  | [], _, h => h
  | _ :: a, b, h => recOk_suf (a := a) h.1
section
variable {P : Program} {w : World} {K : PySem.W.Frag} {mg : Str → Option Value} {base : Heap} {T : Tabl}
/-- means_of(network, order), order a list -/
theorem ev_means {σ : L2.St} {H : Hp} {ta tb : TE} {a : Addr} {xs : List V} {N : Net} {order : List Int} {E : XK} (h1 : EvD T K ta σ H (netD N)) (h2 : ∀ H1, Le T H H1 → ∀ Q : VK, Q (.ref a) H1 → tb σ H1 Q) (hq : SqL K H a xs) (hd : Dts K H xs (order.map PyData.int)) (hl : order.length ≤ 1000) (ho : MeansOk N order) :
    EvD T K (tCall (spMeans T K) [] E (tCons ta (tCons tb tNil))) σ H (.tuple ((means N order).map stepD)) := fun H1 b Q q =>
  h1 H1 b _ fun v H2 a2 hv => h2 H2 (b.trans a2) _ ⟨(b.trans a2).tab, v, a, xs, N, order, rfl, hv, sql_le hq (b.trans a2), hd.mono (b.trans a2).tk, hl, ho, fun v H3 a3 hv => q v H3 (a2.trans a3) hv⟩
abbrev s_settled_by : Stmt := topS 29
abbrev N_settled_by : List Str := ["network", "told", "order", "known", "point", "shares", "other", "share"]
theorem sc_settled_by : FnScope N_settled_by ["network", "told", "order"] (defScope s_settled_by) := ⟨rfl, rfl, rfl, by decide +kernel, rfl, by decide +kernel, by decide +kernel⟩
theorem ok_settled_by {f : Addr} {fd : FuncData} (F : Fun K "settled_by" "settled_by" s_settled_by f fd) (m : Mg K mg) (c_means_of : Cal P w K mg base "means_of" ["network", "order"] 6 (spMeans T K)) (c_total_of : Cal P w K mg base "total_of" ["some"] 3 (spTotal T K))
    (c_times : Cal P w K mg base "times" ["one", "other"] 2 (Pur T K pTimes)) : FnOk P w K mg base CX0 7 f fd ["network", "told", "order"] (spSettled T K) := by
  refine F.ok sc_settled_by (fun vs H Q E ⟨_, _, _, _, _, _, _, _, _, e, _⟩ => by rw [e]; rfl) (fun cdv A outer s H vs Q E hr h => ?_)
  obtain ⟨tH, vn, vt, la, xs, N, told, order, t, rfl, h1, h2, hq, hd, ⟨hM, hR, hnd, hperm, hsrt, h6⟩, q⟩ := h
  have hol : order.length ≤ 6 := by
    have := hperm.length_eq
    rw [List.length_append, List.length_reverse] at this
    omega
  refine ⟨_, (pss_cons (ps_set (i := 3) sc_settled_by.nd rfl (.inr rfl) (pe_callTy (w_dictT (K := K) rfl) (by rfl) m.dct (by decide +kernel) (pa_cons (pv 1) pa_nil)))
      (pss_cons (ps_for PassesOwn.never rfl (w_piT (K := K) (pe_revT (pe_cal c_means_of (hr.mono (by decide)) (by rfl) (pa_cons (pv 0) (pa_cons (pv 2) pa_nil))))) (w_pg (K := K) (n := 2) rfl (pgs_cons (pg_name (i := 4) sc_settled_by.nd rfl (.inl rfl)) (pgs_cons (pg_name (i := 5) sc_settled_by.nd rfl (.inl rfl)) pgs_nil))) (pss_one (ps_dput (hu_of hr) (pv 3) (pv 4) (pe_cal c_total_of (hr.mono (by decide)) (by rfl) (pa_cons (pe_lc (own := [("other", 6), ("share", 7)]) rfl sc_settled_by.nd (w_piT (K := K) (pv 5)) (blkOk_by (own := [("other", 6), ("share", 7)]) (N := N_settled_by) (sc := defScope s_settled_by) (by decide +kernel)) (fun _ _ _ _ _ => (w_pg (K := K) (n := 2) rfl (pgs_cons (pg_name (i := 6) sc_settled_by.nd rfl (.inl rfl)) (pgs_cons (pg_name (i := 7) sc_settled_by.nd rfl (.inl rfl)) pgs_nil)))) (fun _ _ _ _ _ => pts_nil) (fun _ _ _ _ _ => (pe_cal c_times (hr.mono (by decide)) (by rfl) (pa_cons (pv 7) (pa_cons (pe_dget (hu_of hr) (pv 3) (pv 6) (fun _ _ => rfl)) pa_nil))))) pa_nil)) rfl)))
      (pss_one (ps_ret (pe_callTy (w_tupleF (K := K)) (by rfl) m.tup (by decide +kernel) (pa_cons (pe_lc (own := [("point", 4)]) rfl sc_settled_by.nd (w_piL (K := K) (pe_callB (w_sortDI rfl) (by rfl) m.srt (by decide +kernel) (pa_cons (pv 3) pa_nil))) (blkOk_by (own := [("point", 4)]) (N := N_settled_by) (sc := defScope s_settled_by) (by decide +kernel)) (fun _ _ _ _ _ => (pg_name (i := 4) sc_settled_by.nd rfl (.inl rfl))) (fun _ _ _ _ _ => pts_nil) (fun _ _ _ _ _ => (pe_tup (pa_cons (pv 4) (pa_cons (pe_dget (hu_of hr) (pv 3) (pv 4) (fun _ _ => rfl)) pa_nil))))) pa_nil)))))), ?_⟩
  refine sd_setD (l := told.map fun p => (p, fr (t p))) (ed_dictT (ef_var h2) (by rw [wI_keys]; exact hnd)) tH fun L H1 a1 nL hD => ?_
  refine for_src (src_tup (f := stepD) (l := (means N order).reverse) (ev_is (ev_rev (ev_means (ev_var (h1.mono a1.tk)) (fun H2 a2 Q q => ⟨_, rfl, q⟩) (sql_le hq a1) (hd.mono a1.tk) (by omega) hM)) (by rw [List.map_reverse]))) a1.tab fun H2 a2 => ⟨fun r σ' H' => ∃ (suf : List (Int × List (Int × Rat))) (y4 y5 : Option V), σ' = [some vn, some vt, some (.ref la), some (.ref L), y4, y5, none, none] ∧ Le T H H' ∧ TK H2 H' ∧ r.reverse ++ suf = means N order ∧ Dic K H' L ((told ++ (suf.map (·.1)).reverse).map fun p => (p, fr (recon suf t p))),
    ⟨[], none, none, rfl, a1.trans a2, TK.refl _, by rw [List.reverse_reverse, List.append_nil], by simpa [recon] using hD.le a2⟩, fun r σ' H' ⟨_, _, _, _, k, k2, _⟩ => ⟨k2, k.tab⟩, ?_, ?_⟩
  · rintro ⟨p, sh⟩ r σ' H' H'' v hxm ⟨suf, y4, y5, rfl, a, k2, e, hD'⟩ a3 hx
    have ea := a.trans a3
    rw [List.reverse_cons, List.append_assoc] at e
    have e : r.reverse ++ (p, sh) :: suf = means N order := e
    have hR' : RecOk told t ((p, sh) :: suf) := recOk_suf (a := r.reverse) (by rw [e]; exact hR)
    obtain ⟨_, r2, r3, r4, r5⟩ := hR'
    have hD2 := hD'.le a3
    have len : (told ++ (suf.map (·.1)).reverse).length ≤ 100 := by
      have e2 := congrArg (fun l => (l.map (·.1)).length) e
      simp only [means_keys, List.length_map, List.length_append, List.length_cons, List.length_nil] at e2
      have := hperm.length_eq
      rw [List.length_append, List.length_reverse] at this
      rw [List.length_append, List.length_reverse, List.length_map]
      omega
    refine g_two (d := .int p) (e := .tuple (sh.map prD)) hx fun v4 v5 h4 h5 => ?_
    refine sd_dput (k := p) (d := fr (wx (recon suf t) sh)) hD2 ea nL (ev_is (ev_total (l := sh.map fun q => q.2 * recon suf t q.1) ?_ r3) (by rw [tot_wx])) (ev_var h4) (by rw [List.length_map]; omega) fun H3 b1 b2 _ b3 => ?_
    · rw [List.map_map]
      refine lc_all (by omega) (src_tup (f := prD) (l := sh) (ev_var h5)) (fun _ _ k => k.tk) fun x hxm H6 v6 a6 hv6 Q' q' => ?_
      obtain ⟨i1, i2, i3⟩ := r2 x hxm
      refine g_two hv6 fun w6 w7 k6 k7 => ?_
      exact q' [some vn, some vt, some (.ref la), some (.ref L), some v4, some v5, some w6, some w7] rfl (ev_call (evs_cons (ev_var k7) (evs_cons (ev_dget (hD2.le a6) (ev_var k6) (getL_map _ i1)) evs_nil)) ⟨_, _, rfl, i2, i3, rfl⟩)
    · refine ⟨(p, sh) :: suf, _, _, rfl, b1, k2.trans (a3.tk.trans b2), e, ?_⟩
      rw [putL_new (by rw [wI_keys]; exact r5)] at b3
      have e4 : ((told ++ (suf.map (·.1)).reverse).map fun q => (q, fr (recon suf t q))) ++ [(p, fr (wx (recon suf t) sh))] = (told ++ ((((p, sh) :: suf).map (·.1)).reverse)).map fun q => (q, fr (recon ((p, sh) :: suf) t q)) := by
        rw [List.map_cons, List.reverse_cons, ← List.append_assoc, List.map_append (l₂ := [(p, sh).1])]
        have s1 : recon ((p, sh) :: suf) t p = wx (recon suf t) sh := upf_same
        congr 1
        · refine List.map_congr_left fun q hqm => ?_
          have s2 : recon ((p, sh) :: suf) t q = recon suf t q := upf_ne fun z => r5 (z ▸ hqm)
          rw [s2]
        · rw [List.map_cons, List.map_nil, s1]
      rw [e4] at b3
      exact b3
  · rintro σ' H' ⟨suf, y4, y5, rfl, a, k2, e, hD'⟩
    have e : suf = means N order := e
    subst e
    rw [means_keys] at hD'
    have hp2 : (((told ++ order.reverse).map fun p => (p, fr (recon (means N order) t p))).map (·.1)).Perm N.pts := by rw [wI_keys]; exact hperm
    have hget : ∀ p ∈ N.pts, getL ((told ++ order.reverse).map fun p => (p, fr (recon (means N order) t p))) p = some (fr (settle N t order p)) := fun p hp => getL_map (fun p => fr (recon (means N order) t p)) (hperm.mem_iff.mpr hp)
    have key : EvF T K (tCB (rTupF K) (tCons (tLc (iList K (tCB rSortDI (tCons (tVar 3) tNil))) (gName 4) tYes (tTup (tCons (tVar 4) (tCons (tDGet (tVar 3) (tVar 4)) tNil))) [4]) tNil)) [some vn, some vt, some (.ref la), some (.ref L), y4, y5, none, none] H' (wI N.pts (settle N t order)) := by
      refine ef_tup ?_
      unfold wI
      rw [List.map_map]
      refine lc_all (by omega) (src_lst (els_sortDI (i := 3) hD' hp2 hsrt (by omega)) fun H1 H2 v x k h => h.mono k.tk) (fun _ _ k => k) fun p hp H3 v a3 hv Q' q' => ?_
      exact q' [some vn, some vt, some (.ref la), some (.ref L), some v, y5, none, none] rfl (ev_tup (evs_cons (ev_var hv) (evs_cons (ev_dget (hD'.le a3) (ev_var hv) (hget p hp)) evs_nil)))
    exact key H' (Le.refl a.tab) _ fun v H3 a3 hv => q v H3 (a.trans a3) hv

abbrev s_settled_worths : Stmt := topS 30
abbrev N_settled_worths : List Str := ["network", "told", "known", "point", "worth"]
theorem sc_settled_worths : FnScope N_settled_worths ["network", "told"] (defScope s_settled_worths) := ⟨rfl, rfl, rfl, by decide +kernel, rfl, by decide +kernel, by decide +kernel⟩
theorem ok_settled_worths {f : Addr} {fd : FuncData} (F : Fun K "settled_worths" "settled_worths" s_settled_worths f fd) (m : Mg K mg) (c_settled_by : Cal P w K mg base "settled_by" ["network", "told", "order"] 7 (spSettled T K)) : FnOk P w K mg base CX0 8 f fd ["network", "told"] (spWorths T K) := by
  refine F.ok sc_settled_worths (fun vs H Q E ⟨_, _, _, _, _, _, e, _⟩ => by rw [e]; rfl) (fun cdv A outer s H vs Q E hr h => ?_)
  obtain ⟨tH, vn, vt, N, told, t, rfl, h1, h2, htl, hok, q⟩ := h
  refine ⟨_, (pss_cons (ps_set (i := 2) sc_settled_worths.nd rfl (.inr rfl) (pe_lc (own := [("point", 3), ("worth", 4)]) rfl sc_settled_worths.nd (w_piT (K := K) (pv 1)) (blkOk_by (own := [("point", 3), ("worth", 4)]) (N := N_settled_worths) (sc := defScope s_settled_worths) (by decide +kernel)) (fun _ _ _ _ _ => (w_pg (K := K) (n := 2) rfl (pgs_cons (pg_name (i := 3) sc_settled_worths.nd rfl (.inl rfl)) (pgs_cons (pg_name (i := 4) sc_settled_worths.nd rfl (.inl rfl)) pgs_nil)))) (fun _ _ _ _ _ => pts_nil) (fun _ _ _ _ _ => (pv 3))))
      (pss_one (ps_ret (pe_cal c_settled_by (hr.mono (by decide)) (by rfl) (pa_cons (pv 0) (pa_cons (pv 1) (pa_cons (pe_lc (own := [("point", 3)]) rfl sc_settled_worths.nd (w_piT (K := K) (pe_ix (w_ixT (K := K)) (pv 0) pe_int (fun _ _ => rfl))) (blkOk_by (own := [("point", 3)]) (N := N_settled_worths) (sc := defScope s_settled_worths) (by decide +kernel)) (fun _ _ _ _ _ => (pg_name (i := 3) sc_settled_worths.nd rfl (.inl rfl))) (fun _ _ _ _ _ => pts_one (pt_cmpR (w_notIn (K := K)) (pv 3) (pv 2) (by with_unfolding_all rfl))) (fun _ _ _ _ _ => (pv 3))) pa_nil))))))), ?_⟩
  have h6 : N.pts.length ≤ 6 := hok.2.2.2.2.2
  refine sd_setL (K := K) (ds := told.map PyData.int) ?_ tH fun L ws H1 a1 nL eL hws => ?_
  · have e0 : wI told t = told.map fun p => prI (p, fr (t p)) := by unfold wI; rw [List.map_map]; rfl
    have h2' := h2.dt
    rw [e0] at h2'
    refine lc_all (by omega) (src_tup (f := fun p => prI (p, fr (t p))) (l := told) (ev_var h2')) (fun _ _ k => k.tk) fun p hp H1 v a1 hv Q' q' => ?_
    refine g_two hv fun w3 w4 k3 k4 => ?_
    exact q' [some vn, some vt, none, some w3, some w4] rfl (ev_var k3)
  · have ew : ws = told.map V.int := ints_of hws
    subst ew
    -- settled_by(network, told, [..])
    have key : EvL T K (tLc (iTup K (tOp (rIxT K) (tVar 0) (tC (.int 0)))) (gName 3) (tTest (tOp (rIn K true) (tVar 3) (tVar 2))) (tVar 3) [3]) [some vn, some vt, some (.ref L), none, none] H1 ((N.pts.filter fun p => !decide (p ∈ told)).map PyData.int) := by
      refine lc_src (by omega) (src_tup (f := PyData.int) (l := N.pts) (ev_ix (ev_var (h1.mono a1.tk)) ev_int (dat_nat (j := 0) rfl))) (fun _ _ k => k.tk) fun p hp H2 v a2 hv Q' q' => ?_
      refine q' [some vn, some vt, some (.ref L), some v, none] rfl (eb_test (ev_notInL (p := L) (ns := told) (ev_var hv) (fun H3 a3 Q q => ⟨_, rfl, q⟩) fun H3 a3 => SqL.of ((a2.trans a3).at_ eL pl_lst))) fun _ => ev_var hv
    refine ⟨vn, rfl, vt, rfl, key H1 (Le.refl a1.tab) _ fun p2 vs2 H2 a2 n2 e2 hv2 => ?_⟩
    have a02 := a1.trans a2
    exact ⟨a02.tab, vn, vt, p2, vs2, N, told, _, t, rfl, h1.mono a02.tk, h2.le a02, SqL.of e2, hv2, hok, fun v H3 a3 hv => q v H3 (a02.trans a3) hv⟩
end
end Lf
end

section
set_option maxRecDepth 100000
set_option maxHeartbeats 4000000
set_option exponentiation.threshold 3000
/-! The walk of streams: sources_of, stream_floor of a strict network. -/
namespace Lf
open PySem PySem.Spec PyProof.Rows L2
theorem src_snoc (t : Tie) (mu : Rat) (p : Int) : ∀ (l : List (Tie × Rat)), src ((l ++ [(t, mu)]).map (·.1)) ((l ++ [(t, mu)]).map (·.2)) p = src (l.map (·.1)) (l.map (·.2)) p + ((if t.1 = p then mu else 0) - (if t.2.1 = p then mu else 0))
  | [] => by
    obtain ⟨a, b, w⟩ := t
    show ((if a = p then mu else 0) - (if b = p then mu else 0)) + 0 = 0 + _
    rw [Rat.add_zero, Rat.zero_add]
  | ((a, b, w), v) :: l => by
    have ih := src_snoc t mu p l
    show ((if a = p then v else 0) - (if b = p then v else 0)) + src ((l ++ [(t, mu)]).map (·.1)) ((l ++ [(t, mu)]).map (·.2)) p = ((if a = p then v else 0) - (if b = p then v else 0)) + src (l.map (·.1)) (l.map (·.2)) p + _
    rw [ih, Rat.add_assoc]
theorem src_ib {A R : Nat} (hA : 0 < A) (p : Int) : ∀ {l : List (Tie × Rat)}, (∀ q ∈ l, IB A R q.2) → IB A (l.length * (2 * R)) (src (l.map (·.1)) (l.map (·.2)) p)
  | [], _ => IB.zero hA
  | ((a, b, w), v) :: l, h => by
    have ih := src_ib hA p (l := l) fun q hq => h q (List.mem_cons_of_mem _ hq)
    have hv := h _ List.mem_cons_self
    have i1 : ∀ c : Prop, [Decidable c] → IB A R (if c then v else 0) := fun c _ => by
      split
      · exact hv
      · exact IB.zero hA
    have := ((i1 (a = p)).sub (i1 (b = p))).add ih
    show IB A _ (((if a = p then v else 0) - (if b = p then v else 0)) + src (l.map (·.1)) (l.map (·.2)) p)
    refine this.mono ?_
    simp only [List.length_cons, Nat.add_mul, Nat.one_mul]
    omega
/-- what the walk asks of a stream -/
def SrcSz (N : Net) (s : List Rat) : Prop := s.length = N.ties.length ∧ N.ties.length ≤ 36 ∧ N.pts.Nodup ∧ N.pts.length ≤ 6 ∧ (∀ t ∈ N.ties, t.1 ∈ N.pts ∧ t.2.1 ∈ N.pts ∧ t.1 ≠ t.2.1) ∧ ∃ A R : Nat, 0 < A ∧ A < 2 ^ 1400 ∧ 72 * R * A < 2 ^ 1400 ∧ ∀ m ∈ s, IB A R m
def spSources (T : Tabl) (K : PySem.W.Frag) : Sp := fun vs H Q _ => LamX.Tabs T H ∧ ∃ (vn vm : V) (N : Net) (s : List Rat), vs = [vn, vm] ∧ Dt K H vn (netD N) ∧ Dt K H vm (.tuple (s.map fr)) ∧ SrcSz N s ∧
  ∀ v H', Le T H H' → DF K H' v (wI N.pts (src N.ties s)) → Q v H'
section
variable {P : Program} {w : World} {K : PySem.W.Frag} {mg : Str → Option Value} {base : Heap} {T : Tabl}
abbrev s_sources_of : Stmt := topS 34
abbrev N_sources_of : List Str := ["network", "stream", "found", "much", "point", "low", "high", "pull"]
theorem sc_sources_of : FnScope N_sources_of ["network", "stream"] (defScope s_sources_of) := ⟨rfl, rfl, rfl, by decide +kernel, rfl, by decide +kernel, by decide +kernel⟩
theorem ok_sources_of {f : Addr} {fd : FuncData} (F : Fun K "sources_of" "sources_of" s_sources_of f fd) (m : Mg K mg) (c_plus : Cal P w K mg base "plus" ["one", "other"] 2 (Pur T K pPlus)) (c_minus : Cal P w K mg base "minus" ["one", "other"] 2 (Pur T K pMinus)) :
    FnOk P w K mg base CX0 3 f fd ["network", "stream"] (spSources T K) := by
  refine F.ok sc_sources_of (fun vs H Q E ⟨_, _, _, _, _, e, _⟩ => by rw [e]; rfl) (fun cdv A outer s H vs Q E hr h => ?_)
  obtain ⟨tH, vn, vm, N, st, rfl, h1, h2, ⟨hlen, h36, hnd, h6, hin, A0, R, hA, bA, bR, hib⟩, q⟩ := h
  obtain ⟨zz, hzero, dz⟩ := m.zero
  refine ⟨_, (pss_cons (ps_set (i := 2) sc_sources_of.nd rfl (.inr rfl) (pe_dc (own := [("point", 4)]) rfl sc_sources_of.nd (w_piT (K := K) (pe_ix (w_ixT (K := K)) (pv 0) pe_int (fun _ _ => rfl))) (blkOk_by (own := [("point", 4)]) (N := N_sources_of) (sc := defScope s_sources_of) (by decide +kernel)) (fun _ _ _ _ _ => (pg_name (i := 4) sc_sources_of.nd rfl (.inl rfl))) (fun _ _ _ _ _ => pts_nil) (fun _ _ _ _ _ => (pv 4)) (fun _ _ _ _ _ => (pe_glob (v := .ref zz) (by rfl) hzero rfl))))
      (pss_cons (ps_for PassesOwn.never rfl (w_zip (K := K) (by rfl) m.zip (pa_cons (pe_ix (w_ixT (K := K)) (pv 0) pe_int (fun _ _ => rfl)) (pa_cons (pv 1) pa_nil))) (w_pg (K := K) (n := 2) rfl (pgs_cons (w_pg (K := K) (n := 3) rfl (pgs_cons (pg_name (i := 5) sc_sources_of.nd rfl (.inl rfl)) (pgs_cons (pg_name (i := 6) sc_sources_of.nd rfl (.inl rfl)) (pgs_cons (pg_name (i := 7) sc_sources_of.nd rfl (.inl rfl)) pgs_nil)))) (pgs_cons (pg_name (i := 3) sc_sources_of.nd rfl (.inl rfl)) pgs_nil))) (pss_cons (ps_dput (hu_of hr) (pv 2) (pv 5) (pe_cal c_plus (hr.mono (by decide)) (by rfl) (pa_cons (pe_dget (hu_of hr) (pv 2) (pv 5) (fun _ _ => rfl)) (pa_cons (pv 3) pa_nil))) rfl)
      (pss_one (ps_dput (hu_of hr) (pv 2) (pv 6) (pe_cal c_minus (hr.mono (by decide)) (by rfl) (pa_cons (pe_dget (hu_of hr) (pv 2) (pv 6) (fun _ _ => rfl)) (pa_cons (pv 3) pa_nil))) rfl))))
      (pss_one (ps_ret (pe_callTy (w_tupleF (K := K)) (by rfl) m.tup (by decide +kernel) (pa_cons (pe_lc (own := [("point", 4)]) rfl sc_sources_of.nd (w_piT (K := K) (pe_ix (w_ixT (K := K)) (pv 0) pe_int (fun _ _ => rfl))) (blkOk_by (own := [("point", 4)]) (N := N_sources_of) (sc := defScope s_sources_of) (by decide +kernel)) (fun _ _ _ _ _ => (pg_name (i := 4) sc_sources_of.nd rfl (.inl rfl))) (fun _ _ _ _ _ => pts_nil) (fun _ _ _ _ _ => (pe_tup (pa_cons (pv 4) (pa_cons (pe_dget (hu_of hr) (pv 2) (pv 4) (fun _ _ => rfl)) pa_nil))))) pa_nil)))))), ?_⟩
  refine sd_setD (K := K) (l := N.pts.map fun p => (p, fr 0)) ?_ tH fun L H1 a1 nL hD => ?_
  · refine dc_all (key := fun p : Int => p) (val := fun _ => fr 0) (by omega) (src_tup (f := PyData.int) (l := N.pts) (ev_ix (ev_var h1) ev_int (dat_nat (j := 0) rfl))) (fun _ _ k => k.tk) (by rw [List.map_id']; exact hnd) fun p hp H2 v a2 hv Q' q' => ?_
    exact q' [some vn, some vm, none, none, some v, none, none, none] rfl (ev_var hv) fun H3 a3 => ev_con (d := fr 0) fun H => dz H
  · refine for_src (src_zip (f := tieD) (l := N.ties) (h := fr) (m := st) (ev_ix (ev_var (h1.mono a1.tk)) ev_int (dat_nat (j := 1) rfl)) (ev_var (h2.mono a1.tk))) a1.tab fun H2 a2 => ⟨fun r σ' H' => ∃ (done : List (Tie × Rat)) (y3 y5 y6 y7 : Option V), σ' = [some vn, some vm, some (.ref L), y3, none, y5, y6, y7] ∧ Le T H H' ∧ TK H2 H' ∧ done ++ r = N.ties.zip st ∧ Dic K H' L (N.pts.map fun p => (p, fr (src (done.map (·.1)) (done.map (·.2)) p))),
      ⟨[], none, none, none, none, rfl, a1.trans a2, TK.refl _, rfl, hD.le a2⟩, fun r σ' H' ⟨_, _, _, _, _, _, k, k2, _⟩ => ⟨k2, k.tab⟩, ?_, ?_⟩
    · rintro ⟨t, mu⟩ r σ' H' H'' v hxm ⟨done, y3, y5, y6, y7, rfl, a, k2, e, hD'⟩ a3 hx
      have ea := a.trans a3
      have htm := (List.of_mem_zip hxm).1
      have hmm := (List.of_mem_zip hxm).2
      obtain ⟨i1, i2, i3⟩ := hin t htm
      have dl : done.length ≤ 36 := by
        have := congrArg List.length e
        rw [List.length_append, List.length_zip] at this
        omega
      have dib : ∀ q ∈ done, IB A0 R q.2 := fun q hq => hib _ (List.of_mem_zip (show (q.1, q.2) ∈ N.ties.zip st by rw [← e]; exact List.mem_append_left _ hq)).2
      have sS : ∀ p, Sm (src (done.map (·.1)) (done.map (·.2)) p) := fun p => (src_ib hA p dib).sm bA (Nat.lt_of_le_of_lt (Nat.mul_le_mul_right _ (by rw [← Nat.mul_assoc]; exact Nat.mul_le_mul_right _ (by omega))) bR)
      have sM : Sm mu := (hib mu hmm).sm bA (Nat.lt_of_le_of_lt (Nat.mul_le_mul_right _ (by omega)) bR)
      have hx2 : Dt K H'' v (.tuple [tieD t, fr mu]) := hx
      refine g_tup hx2 rfl fun xs hxs => g_cons hxs fun u6 r6 h6' hxs => ?_
      refine g_three h6' fun w5 w6 w7 k5 k6 k7 => ?_
      refine g_cons hxs fun u7 r7 h7' hxs => ?_
      refine g_nil hxs ?_
      dsimp only
      have hD2 := hD'.le a3
      refine sd_dput (k := t.1) (d := fr (src (done.map (·.1)) (done.map (·.2)) t.1 + mu)) hD2 ea nL (ev_call (evs_cons (ev_dget hD2 (ev_var k5) (getL_map _ i1)) (evs_cons (ev_var h7') evs_nil)) ⟨_, _, rfl, sS _, sM, rfl⟩) (ev_var k5) (by rw [List.length_map]; omega) fun H3 b1 b2 _ b3 => ?_
      rw [putL_map _ i1] at b3
      dsimp only
      have g2 : getL (N.pts.map fun p => (p, if p = t.1 then fr (src (done.map (·.1)) (done.map (·.2)) t.1 + mu) else fr (src (done.map (·.1)) (done.map (·.2)) p))) t.2.1 = some (fr (src (done.map (·.1)) (done.map (·.2)) t.2.1)) := by
        rw [getL_map (fun p => if p = t.1 then fr (src (done.map (·.1)) (done.map (·.2)) t.1 + mu) else fr (src (done.map (·.1)) (done.map (·.2)) p)) i2, if_neg fun z => i3 z.symm]
      refine sd_dput (k := t.2.1) (d := fr (src (done.map (·.1)) (done.map (·.2)) t.2.1 - mu)) b3 b1 nL (ev_call (evs_cons (ev_dget b3 (ev_var (k6.mono b2)) g2) (evs_cons (ev_var (h7'.mono b2)) evs_nil)) ⟨_, _, rfl, sS _, sM, rfl⟩) (ev_var (k6.mono b2)) (by rw [List.length_map]; omega) fun H4 c1 c2 _ c3 => ?_
      rw [putL_map _ i2] at c3
      refine ⟨done ++ [(t, mu)], _, _, _, _, rfl, c1, k2.trans (a3.tk.trans (b2.trans c2)), by rw [List.append_assoc]; exact e, ?_⟩
      have e5 : (N.pts.map fun p => (p, if p = t.2.1 then fr (src (done.map (·.1)) (done.map (·.2)) t.2.1 - mu) else if p = t.1 then fr (src (done.map (·.1)) (done.map (·.2)) t.1 + mu) else fr (src (done.map (·.1)) (done.map (·.2)) p))) = N.pts.map fun p => (p, fr (src ((done ++ [(t, mu)]).map (·.1)) ((done ++ [(t, mu)]).map (·.2)) p)) := by
        refine List.map_congr_left fun p _ => ?_
        rw [src_snoc]
        by_cases z1 : p = t.2.1
        · have z2 : ¬ t.1 = p := fun z => i3 (z.trans z1)
          have z3 : t.2.1 = p := z1.symm
          rw [if_pos z1, if_neg z2, if_pos z3, z3]
          congr 2
          grind
        · have z3 : ¬ t.2.1 = p := fun z => z1 z.symm
          rw [if_neg z1, if_neg z3]
          by_cases z2 : p = t.1
          · have z4 : t.1 = p := z2.symm
            rw [if_pos z2, if_pos z4, z4]
            congr 2
            grind
          · have z4 : ¬ t.1 = p := fun z => z2 z.symm
            rw [if_neg z2, if_neg z4]
            congr 2
            grind
      rw [e5] at c3
      exact c3
    · rintro σ' H' ⟨done, y3, y5, y6, y7, rfl, a, k2, e, hD'⟩
      rw [List.append_nil] at e
      subst e
      rw [List.map_fst_zip (by omega), List.map_snd_zip (by omega)] at hD'
      have key : EvF T K (tCB (rTupF K) (tCons (tLc (iTup K (tOp (rIxT K) (tVar 0) (tC (.int 0)))) (gName 4) tYes (tTup (tCons (tVar 4) (tCons (tDGet (tVar 2) (tVar 4)) tNil))) [4]) tNil)) [some vn, some vm, some (.ref L), y3, none, y5, y6, y7] H' (wI N.pts (src N.ties st)) := by
        refine ef_tup ?_
        unfold wI
        rw [List.map_map]
        refine lc_all (by omega) (src_tup (f := PyData.int) (l := N.pts) (ev_ix (ev_var (h1.mono a.tk)) ev_int (dat_nat (j := 0) rfl))) (fun _ _ k => k.tk) fun p hp H3 v a3 hv Q' q' => ?_
        exact q' [some vn, some vm, some (.ref L), y3, some v, y5, y6, y7] rfl (ev_tup (evs_cons (ev_var hv) (evs_cons (ev_dget (hD'.le a3) (ev_var hv) (getL_map (fun p => fr (src N.ties st p)) hp)) evs_nil)))
      exact key H' (Le.refl a.tab) _ fun v H3 a3 hv => q v H3 (a.trans a3) hv
end
end Lf
end

section
set_option maxRecDepth 100000
set_option maxHeartbeats 4000000
/-! An own exception below another own class below Exception, whose __init__ says super().__init__(x); self.f = x. -/
namespace Lf
open PySem PySem.Spec PyProof.Rows L2
/-- the statements of such an __init__ -/
def supBody (a f : Str) (p0 p1 p2 p3 p4 p5 p6 p7 p8 p9 : Pos) : List Stmt := [.Expr (.Call (.Attribute (.Call (.Name "super" p0) [] [] p1) "__init__" p2) [.Name a p3] [] p4) p5, .Assign [.Attribute (.Name "self" p6) f p7] (.Name a p8) p9]
def supScope (a : Str) : Scope := { kind := .function, names := [("self", .local), (a, .local), ("__class__", .free), ("super", .globalImplicit)], isGenerator := false, isCoroutine := false, more := [] }
def supArgs (a : Str) (p1 p2 : Pos) : Arguments := { posonlyargs := [], args := [{ arg := "self", annotation := none, pos := p1 : Arg }, { arg := a, annotation := none, pos := p2 : Arg }], vararg := none, kwonlyargs := [], kw_defaults := [], kwarg := none, defaults := [] }
/-- how the call of super().__init__ runs -/
def SupCall (a : Str) (p0 p1 p2 p3 p4 : Pos) : Prop := ∃ pl : Sem Bool, ∀ env : Env, eval (.Call (.Attribute (.Call (.Name "super" p0) [] [] p1) "__init__" p2) [.Name a p3] [] p4) env = (do
  let ov ← attributeBase (.Call (.Name "super" p0) [] [] p1) "__init__" env (eval (.Call (.Name "super" p0) [] [] p1) env)
  standAt p2.atName
  let (f, first) ← holding [ov] (getMethod ov "__init__" pl)
  callWith p4 f first (backTo p4 (starEach [.Name a p3] env)) [])
def supFn (q : Str) (params : Arguments) (body : List Stmt) (scope : Scope) (cc cda : Addr) (kV doc pm : Value) (an : Option Addr) (ct : Value) : FuncData :=
  { name := "__init__", qualname := q, params, body := .stmts body, scope, globals := mainGlobals, closure := [("__class__", cc)], defaults := .none, kwdefaults := kV, doc, pyModule := pm, annotations := an, code := .ref cda, closureTuple := ct, builtins := builtinsNs }
/-- what the written part says of the class at C -/
structure ExcK (P : Program) (K : PySem.W.Frag) (mg : Str → Option Value) (x f a : Str) (C : Addr) : Prop where
  gC : mg x = some (.ref C)
  kC : PySem.W.keepIn K (.ref C) = true
  cls : ∃ (D : Addr) (nm q : Str) (N : Addr) (bs : List Value) (sn : List Str) (sub : List Value) (ab : Bool) (col : Option Bool) (dd : Option Addr) (k0 k1 k2 k3 k5 : Option Value), K.lookup C = some (excClassObj nm q C N bs (.ref D :: ESX.exTail) true sn sub ab col dd k0 k1 k2 k3 k5 "Exception.__new__") ∧
    PySem.W.alongIn K "__init__" (.ref D :: ESX.exTail) = some (some (.builtin "Exception.__init__"))
  sa : PySem.W.findIn K (.ref C) "__setattr__" = some (some (.builtin "object.__setattr__"))
  no : PySem.W.findIn K (.ref C) f = some none
  ini : ∃ (fI cc cda : Addr) (q : Str) (kV doc pm : Value) (an : Option Addr) (ct oc : Value) (od : Option Addr) (osl : Array (Option Value)) (q1 q2 p0 p1 p2 p3 p4 p5 p6 p7 p8 p9 : Pos), PySem.W.findIn K (.ref C) "__init__" = some (some (.ref fI)) ∧ PySem.W.typeIn K (.ref fI) = some (.type "function") ∧
    K.lookup fI = some ⟨oc, od, .func (supFn q (supArgs a q1 q2) (supBody a f p0 p1 p2 p3 p4 p5 p6 p7 p8 p9) (supScope a) cc cda kV doc pm an ct), osl⟩ ∧
    (∃ (ccl : Value) (cdd : Option Addr) (vs : Array Value) (ccs : Array (Option Value)) (tq tf : Tok) (file : Str), K.lookup cda = some ⟨ccl, cdd, .fields vs, ccs⟩ ∧ vs[1]? = some (.str q tq) ∧ vs[2]? = some (.str file tf) ∧ (P.main.file == file) = true) ∧
    SupCall a p0 p1 p2 p3 p4 ∧ ∃ (cl : Value) (cld : Option Addr) (csl : Array (Option Value)), K.lookup cc = some ⟨cl, cld, .cell (some (.ref C)), csl⟩
  sup : mg "super" = none
  tp : PySem.W.nsIn K cStatics "thirdparty.any" = some none
  top : (P.main.scope.names.lookup ("super" : Str)).isSome = false
  exC : PySem.W.subIn K (.ref C) (.type "BaseException") = some true
  tyC : PySem.W.typeIn K (.ref C) = some (.type "type")
theorem bm_contains (D : Addr) (X : String) : (Value.ref D :: ESX.exTail).contains (.type X) = ([.type "Exception", .type "BaseException", .type "object"] : List Value).contains (.type X) := by
  rw [List.contains_cons]
  rfl
section
open PySem.W Builtin Builtin.ObjectAttr
variable {prog : Program} {w : World} {A : Around} {E : Value → Shared → Prop} {R : Result → Shared → Prop} {hp : Heap} {g : Array GenState} {d : Drawn} {t : Nat} {os : OsState}
theorem exc_osa2 {K : W.Frag} {name : Str} {tk : Tok} {v : Value} {x C D : Addr} {fv : Array Value} {cd : ClassData}
    (X : K.In hp) (hx : hp.get? x = some { cls := .ref C, data := .fields fv }) (hcd : W.clsIn K C = some cd) (hm : cd.mro = .ref C :: .ref D :: ESX.exTail) (hh : cd.hasDict = true) (ha : W.findIn K (.ref C) name = some none)
    (hq : ∀ h' tk' dx, (∀ b o, b ≠ x → hp.get? b = some o → h'.get? b = some o) → hp.objs.size ≤ dx → dx ≠ x → h'.get? x = some { cls := .ref C, dict := some dx, data := .fields fv } →
      h'.Ns1 dx (fun y => if y = name then some v else none) → R (.ok (.ret .none)) ⟨h', g, d, tk', os⟩) :
    codeAny (model prog w) A (.call (.builtin "object.__setattr__") ⟨[.ref x, .str name tk, v], []⟩) R ⟨hp, g, d, t, os⟩ := by
  have I : W.InstAt hp x { cls := .ref C, data := .fields fv } C none := ⟨hx, rfl, rfl, trivial⟩
  have SF := F.store_object
  have hxs : x ≠ hp.objs.size := Nat.ne_of_lt (Heap.lt_size hx)
  have hob : (Value.ref C :: Value.ref D :: ESX.exTail).contains (.type "object") = true := by
    rw [List.contains_cons, bm_contains]
    rfl
  have sub : W.Looks (model prog w) hp (isInstance (.ref x) (.type "object")) true := I.type.andThen (W.looks_mroIn X (by unfold W.mroIn; rw [hcd, Option.bind_some, hm, if_neg (show ¬ (List.isEmpty (Value.ref C :: Value.ref D :: ESX.exTail) = true) from Bool.false_ne_true), hob]))
  refine codeAny_call_builtin SF.slot.plain SF.entry (@W.check_slot (model prog w) _ _ ⟨hp, g, d, t, os⟩ "object.__setattr__" "object" "__setattr__" (.ref x) [.str name tk, v] [] _ SF.kind SF.split sub (SF.args (.ref x) (.str name tk) v) ?_)
  have hmr : W.Looks (model prog w) hp (mroOf (.ref C)) cd.mro := (W.looks_clsIn X hcd).andThen .now
  have L3 : W.Looks (model prog w) hp (storeTaker? none) none := .now
  have hcls : W.Looks (model prog w) hp (classData C) cd := W.looks_clsIn X hcd
  have hpass : refuseLoop (.ref x) "__setattr__" cd.mro = pure () := by
    rw [hm, refuseLoop_ref, refuseLoop_ref]
    exact F.store_Exception.passes _
  rw [W.osa_eq, refuse_eq]
  refine wpAny_bind (wpAny_bind (I.type.at (wpAny_bind (hmr.at ?_))))
  rw [hpass]
  refine wpAny_pure (wpAny_bind (I.type.at (wpAny_bind ((W.looks_findIn X ha).at (wpAny_bind (L3.at ?_))))))
  show wpAny _ _ (storeInOwnDict (.ref x) (.ref C) (.str name tk) name v false) _ _ _
  obtain ⟨nm, bs, mro, ns, qn, hd, sn, sb, ab, col, del⟩ := cd
  dsimp only at hh
  subst hh
  unfold storeInOwnDict ownDictForStores
  repeat (first | with_reducible refine HandSPX.store_in_new ?_ ?_ | with_reducible refine wpAny_loadPart_at hx ?_ | with_reducible refine hcls.at ?_ | wp_step)
  · exact ⟨_, #[], _, (Heap.get?_update_ne _ _ _ _ hxs.symm).trans (Heap.get?_push_at rfl rfl), rfl, fun e he => absurd he (by simp), fun _ => rfl⟩
  · intro h' tk' hn' hs
    have hx₁ : (hp.push { cls := .type "dict", data := .dict #[] }).get? x = some { cls := .ref C, data := .fields fv } := Heap.get?_push_of_some _ hx
    refine hq h' tk' hp.objs.size (fun b o hb ho => ?_) (Nat.le_refl _) hxs.symm ?_ hn'
    · exact (hs.2 b (Nat.ne_of_lt (Heap.lt_size ho))).trans ((Heap.get?_update_ne _ _ _ _ hb).trans (Heap.get?_push_of_some _ ho))
    · exact (hs.2 x hxs).trans (Heap.get?_update_self _ hx₁ rfl)
end
section
open PySem.W PySem.Calls PyProof.Rows
variable {P : Program} {w : World} {A : Around} {K : PySem.W.Frag} {hp : Heap} {g : Array GenState} {d : Drawn} {t : Nat} {os : OsState} {R : Result → Shared → Prop}
theorem init_sup {mg mb : Str → Option Value} {f a q nm qn : Str} {fI cc cda C D e t0 N : Addr} {kV doc pm ct oc ccl cl u : Value} {an od cdd cld dd : Option Addr} {osl ccs csl : Array (Option Value)} {q1 q2 p0 p1 p2 p3 p4 p5 p6 p7 p8 p9 : Pos} {vs : Array Value} {tq tf : Tok} {file : Str}
    {bs : List Value} {sn : List Str} {sub : List Value} {ab : Bool} {col : Option Bool} {k0 k1 k2 k3 k5 : Option Value}
    (X : K.In hp) (hns : hp.Ns mainGlobals mg) (hmg : mg "super" = none) (hblt : hp.Ns builtinsNs mb) (hmb : mb "super" = bootBuiltins "super") (lim : hp.NoLimit) (hroom : A.depth < recursionLimit)
    (hf : K.lookup fI = some ⟨oc, od, .func (supFn q (supArgs a q1 q2) (supBody a f p0 p1 p2 p3 p4 p5 p6 p7 p8 p9) (supScope a) cc cda kV doc pm an ct), osl⟩)
    (hcd : K.lookup cda = some ⟨ccl, cdd, .fields vs, ccs⟩) (hv1 : vs[1]? = some (.str q tq)) (hv2 : vs[2]? = some (.str file tf)) (hfile : (P.main.file == file) = true) (hcell : K.lookup cc = some ⟨cl, cld, .cell (some (.ref C)), csl⟩)
    (hC : K.lookup C = some (excClassObj nm qn C N bs (.ref D :: ESX.exTail) true sn sub ab col dd k0 k1 k2 k3 k5 "Exception.__new__")) (al : PySem.W.alongIn K "__init__" (.ref D :: ESX.exTail) = some (some (.builtin "Exception.__init__")))
    (sa : PySem.W.findIn K (.ref C) "__setattr__" = some (some (.builtin "object.__setattr__"))) (no : PySem.W.findIn K (.ref C) f = some none) (tp : PySem.W.nsIn K cStatics "thirdparty.any" = some none) (top : (P.main.scope.names.lookup ("super" : Str)).isSome = false)
    (ha1 : (a == ("self" : Str)) = false) (ha2 : (a == ("__class__" : Str)) = false) (ha3 : (a == ("super" : Str)) = false) (ha4 : (a == ("__debug__" : Str)) = false)
    (hbind : bindArgs (supFn q (supArgs a q1 q2) (supBody a f p0 p1 p2 p3 p4 p5 p6 p7 p8 p9) (supScope a) cc cda kV doc pm an ct) ⟨[.ref e, u], []⟩ = pure [(("self" : Str), Value.ref e), (a, u)])
    (hcall : SupCall a p0 p1 p2 p3 p4) (hsw : ∀ env : Env, swapsWith (.Name a p8) (some (.Attribute (.Name "self" p6) f p7)) p9.line env = pure false) (hsw1 : ∀ env : Env, swapsWith (.Call (.Attribute (.Call (.Name "super" p0) [] [] p1) "__init__" p2) [.Name a p3] [] p4) none p5.line env = pure false)
    (he : hp.get? e = some (HandSPX.excO C t0)) (hKe : K.lookup e = none)
    (hR : ∀ h' tk dx t1, (∀ b o, b ≠ e → hp.get? b = some o → h'.get? b = some o) → hp.objs.size ≤ dx → dx ≠ e → h'.get? e = some { cls := .ref C, dict := some dx, data := .fields #[.ref t1, .none, .none, .none, .bool false, .none] } →
      h'.Ns1 dx (fun y => if y = f then some u else none) → R (.ok (.ret .none)) ⟨h', g, d, tk, os⟩) :
    codeAny (model P w) A (.call (.ref fI) ⟨[.ref e, u], []⟩) R ⟨hp, g, d, t, os⟩ := by
  have hcl : PySem.W.clsIn K C = some { name := nm, bases := bs, mro := .ref C :: .ref D :: ESX.exTail, ns := N, qualname := qn, hasDict := true, slotNames := sn, subclasses := sub, abstract := ab, collection := col, hasDel := false } := by unfold PySem.W.clsIn; rw [hC]
  have la : (supScope a).names.lookup a = some .local := by
    show List.lookup a [(("self" : Str), NameKind.local), (a, .local), ("__class__", .free), ("super", .globalImplicit)] = _
    rw [List.lookup_cons, ha1, List.lookup_cons_self]
  have lc : (supScope a).names.lookup ("__class__" : Str) = some .free := by
    have h2 : (("__class__" : Str) == a) = false := by
      rw [beq_eq_false_iff_ne] at ha2 ⊢
      exact fun z => ha2 z.symm
    show List.lookup ("__class__" : Str) [(("self" : Str), NameKind.local), (a, .local), ("__class__", .free), ("super", .globalImplicit)] = _
    rw [List.lookup_cons, show (("__class__" : Str) == ("self" : Str)) = false by decide, List.lookup_cons, h2, List.lookup_cons_self]
  have ls : (supScope a).names.lookup ("super" : Str) = some .globalImplicit := by
    have h2 : (("super" : Str) == a) = false := by
      rw [beq_eq_false_iff_ne] at ha3 ⊢
      exact fun z => ha3 z.symm
    show List.lookup ("super" : Str) [(("self" : Str), NameKind.local), (a, .local), ("__class__", .free), ("super", .globalImplicit)] = _
    rw [List.lookup_cons, show (("super" : Str) == ("self" : Str)) = false by decide, List.lookup_cons, h2, List.lookup_cons, show (("super" : Str) == ("__class__" : Str)) = false by decide, List.lookup_cons_self]
  have lself : (supScope a).names.lookup ("self" : Str) = some .local := List.lookup_cons_self
  refine ks_codeAny_call_defAt (s := ⟨hp, g, d, t, os⟩) hroom (X _ _ hf) rfl lim ⟨cda, _, vs, tq, rfl, X _ _ hcd, rfl, hv1⟩ rfl (BindsTo.of_eq hbind) (fun y hy z => ?_) (fun y hy => ?_) (fun h₀ hns₀ kp => ?_)
  · have hy : y ∈ [(("self" : Str), NameKind.local), (a, .local), ("__class__", .free), ("super", .globalImplicit)] := hy
    simp only [List.mem_cons, List.not_mem_nil, or_false] at hy
    rcases hy with r | r | r | r <;> subst r <;> cases z
  · simp only [List.mem_cons, List.not_mem_nil, or_false] at hy
    rcases hy with r | r <;> subst r
    · exact lself
    · exact la
  have hL : ∀ y, (fun x => ([(("self" : Str), Value.ref e), (a, u)]).reverse.lookup x) y = List.lookup y [(a, u), (("self" : Str), Value.ref e)] := fun y => rfl
  have vself : (fun x => ([(("self" : Str), Value.ref e), (a, u)]).reverse.lookup x) ("self" : Str) = some (.ref e) := by
    have h2 : (("self" : Str) == a) = false := by
      rw [beq_eq_false_iff_ne] at ha1 ⊢
      exact fun z => ha1 z.symm
    show List.lookup ("self" : Str) [(a, u), (("self" : Str), Value.ref e)] = _
    rw [List.lookup_cons, h2, List.lookup_cons_self]
  have va : (fun x => ([(("self" : Str), Value.ref e), (a, u)]).reverse.lookup x) a = some u := by
    show List.lookup a [(a, u), (("self" : Str), Value.ref e)] = _
    exact List.lookup_cons_self
  generalize hm : (fun x => ([(("self" : Str), Value.ref e), (a, u)]).reverse.lookup x) = m at hns₀ vself va
  clear hL hm
  have X0 : K.In h₀ := X.keeps kp
  have heL : e ≠ hp.objs.size := Nat.ne_of_lt (Heap.lt_size he)
  obtain ⟨pl, hcall⟩ := hcall
  refine ks_wpAt_execs_cons (ks_wpAt_Expr_any (ks_wpAt_MethodCall (pl := pl) (ks_wpAt_super_base (fd := supFn q (supArgs a q1 q2) (supBody a f p0 p1 p2 p3 p4 p5 p6 p7 p8 p9) (supScope a) cc cda kV doc pm an ct) (ar := { arg := "self", annotation := none, pos := q1 }) ls lc (by decide) rfl (X0 _ _ hf) rfl rfl rfl (X0 _ _ hcd) rfl hv2 hfile top ?_) (hcall _)) (hs := hsw1 _))
  refine ks_loadName_global rfl ls (Calls.loadGlobal_builtin (hns.keeps kp) hmg (hblt.keeps kp) (hmb.trans (by decide +kernel : bootBuiltins "super" = some (.type "super"))) ⟨rfl, ?_⟩)
  refine wpAny_loadName_free rfl lc rfl ⟨_, X0 _ _ hcell, rfl⟩ ?_
  refine wpAny_loadName_local rfl lself hns₀ vself ?_
  have hC0 : h₀.get? C = some (excClassObj nm qn C N bs (.ref D :: ESX.exTail) true sn sub ab col dd k0 k1 k2 k3 k5 "Exception.__new__") := X0 _ _ hC
  have he0 : h₀.get? e = some (HandSPX.excO C t0) := kp _ _ he
  refine ks_wpAny_isType_cls hC0 rfl ⟨rfl, ?_⟩
  have msub : ∀ T : String, ([.type "Exception", .type "BaseException", .type "object"] : List Value).contains (.type T) = true → PySem.W.mroIn K C (.type T) = some true := fun T hT => by
    unfold PySem.W.mroIn
    rw [hcl, Option.bind_some, if_neg (show ¬ (List.isEmpty (Value.ref C :: Value.ref D :: ESX.exTail) = true) from Bool.false_ne_true)]
    show some ((Value.ref C :: Value.ref D :: ESX.exTail).contains (.type T)) = _
    rw [List.contains_cons, bm_contains, hT, Bool.or_true]
  have mself : PySem.W.mroIn K C (.ref C) = some true := by
    unfold PySem.W.mroIn
    rw [hcl, Option.bind_some, if_neg (show ¬ (List.isEmpty (Value.ref C :: Value.ref D :: ESX.exTail) = true) from Bool.false_ne_true)]
    show some ((Value.ref C :: Value.ref D :: ESX.exTail).contains (.ref C)) = _
    rw [List.contains_cons, beq_self_eq_true, Bool.true_or]
  have hCe : e ≠ C := fun z => by
    rw [z, hC0] at he0
    have z2 := congrArg Obj.data (Option.some.inj he0)
    cases z2
  refine ks_wpAny_call_super hC0 rfl he0 rfl (fun c z => by cases z) (PySem.W.looks_mroIn X0 mself) (fun h1 e1 kk1 => ?_)
  have X1 : K.In h1 := X0.keeps kk1
  have I1 : PySem.W.InstAt h1 e (HandSPX.excO C t0) C none := ⟨kk1 _ _ he0, rfl, rfl, trivial⟩
  refine ESX.getMethod_super (l₀ := .ref C :: .ref D :: ESX.exTail) e1 (looks_opaque X1 tp) ((looks_clsIn X1 hcl).andThen .now) (ESX.drop_own C _) X1 al hCe (by decide) (I1.type.andThen (PySem.W.looks_mroIn X1 (msub "Exception" (by decide)))) ?_
  have hns1 : (h1.push (ESX.bw e)).Ns hp.objs.size m := (hns₀.keeps kk1).push _
  refine ESX.callWith_bound (x := e) (Calls.spliced_cons (ESX.ldL hns1 va ?_ rfl la ha4))
  refine Calls.spliced_nil ⟨Heap.get?_push_at rfl rfl, ?_⟩
  have hC1 : (h1.push (ESX.bw e)).get? C = some (excClassObj nm qn C N bs (.ref D :: ESX.exTail) true sn sub ab col dd k0 k1 k2 k3 k5 "Exception.__new__") := Heap.get?_push_of_some _ (kk1 _ _ hC0)
  refine ESX.call_bw hC1 (Heap.get?_push_of_some _ (kk1 _ _ he0)) (Heap.get?_push_at rfl rfl) (by show 1 ≤ sizeLine; decide) fun h2 t1 kk2 he2 => ?_
  have hns2 : h2.Ns hp.objs.size m := hns1.at fun o z => kk2 _ _ (Ne.symm heL) z
  have kp2 : ∀ b o, b ≠ e → hp.get? b = some o → h2.get? b = some o := fun b o hb z => kk2 b o hb (Heap.get?_push_of_some _ (kk1 _ _ (kp b o z)))
  have X2 : K.In h2 := fun b o z => kp2 b o (fun y => by rw [y, hKe] at z; cases z) (X b o z)
  -- self.f = a
  refine ks_wpAt_execs_cons (ks_wpAt_Assign_Attr (PySem.wpAt_of_wpAny (ESX.ldL hns2 va ?_ rfl la ha4)) (hsw _))
  refine ESX.ldL hns2 vself ?_ rfl lself
  have I2 : PySem.W.InstAt h2 e (HandSPX.excO C t1) C none := ⟨he2, rfl, rfl, trivial⟩
  refine PySem.W.set_plain (s := ⟨h2, g, d, _, os⟩) X2 I2 sa (exc_osa2 X2 he2 hcl rfl rfl no fun h3 tk3 dx kk3 n3 ne3 he3 hn3 => ?_)
  show PySem.wpAt _ _ _ (execs [] _) _ _ _
  refine PySem.wpAt_of_wpAny (wpAny_execs_nil ?_)
  have hz : hp.objs.size ≤ h2.objs.size := by
    have := Heap.Ns.lt hns2
    exact Nat.le_of_lt this
  exact hR h3 tk3 dx t1 (fun b o hb z => kk3 b o hb (kp2 b o hb z)) (Nat.le_trans hz n3) ne3 he3 hn3
end
end Lf
end

section
set_option maxRecDepth 100000
set_option maxHeartbeats 4000000
/-! raise X(v), the exception's dict as data. -/
namespace Lf
open PySem PySem.Spec PyProof.Rows L2
def tMkS (C : Addr) (f : Str) (ta : TA) : L2.St → Hp → XK → Prop := fun σ H Q => ta σ H fun vs H1 => ∃ v, vs = [v] ∧ ∀ d, H1 d = none → Q (.ref C) (some d) (upd H1 d (.xd [(f, v)]))
theorem pmk_sup {X : Cx} {x f a : Str} {C : Addr} {k : Nat} {e : Expr} {ta : TA} {p pos : Pos} (Kx : ExcK X.prog X.K X.mg x f a C) (hr : Room (k + 1) X.A) (hg : Gl X x) (ha : PA X [e] ta) (ha1 : (a == ("self" : Str)) = false) (ha2 : (a == ("__class__" : Str)) = false) (ha3 : (a == ("super" : Str)) = false) (ha4 : (a == ("__debug__" : Str)) = false)
    (hbind : ∀ (q : Str) (q1 q2 p0 p1 p2 p3 p4 p5 p6 p7 p8 p9 : Pos) (cc cda : Addr) (kV doc pm : Value) (an : Option Addr) (ct u v : Value), bindArgs (supFn q (supArgs a q1 q2) (supBody a f p0 p1 p2 p3 p4 p5 p6 p7 p8 p9) (supScope a) cc cda kV doc pm an ct) ⟨[u, v], []⟩ = pure [(("self" : Str), u), (a, v)])
    (hsw : ∀ (p6 p7 p8 p9 : Pos) (env : Env), swapsWith (.Name a p8) (some (.Attribute (.Name "self" p6) f p7)) p9.line env = pure false) (hsw1 : ∀ (p0 p1 p2 p3 p4 p5 : Pos) (env : Env), swapsWith (.Call (.Attribute (.Call (.Name "super" p0) [] [] p1) "__init__" p2) [.Name a p3] [] p4) none p5.line env = pure false)
    (hdb : (x == ("__debug__" : Str)) = false := by decide) (he : starEach [e] X.env = (false, eval e X.env) :: starEach [] X.env := by rfl) :
    PMk X (.Call (.Name x p) [e] [] pos) (tMkS C f ta) := by
  intro pins s σ H Q I h
  obtain ⟨D, nm, qn, N, bs, sn, sub, ab, col, dd, k0, k1, k2, k3, k5, hC, al⟩ := Kx.cls
  obtain ⟨fI, cc, cda, q, kV, doc, pm, an, ct, oc, od, osl, q1, q2, p0, p1, p2, p3, p4, p5, p6, p7, p8, p9, ini, tyI, hfI, ⟨ccl, cdd, vs, ccs, tq, tf, file, hcd, hv1, hv2, hfile⟩, hcall, cl, cld, csl, hcell⟩ := Kx.ini
  refine wpAny_Call_Name_kw (ld_glob I hg Kx.gC ?_ hdb)
  refine PySem.W.callWith_K (h₀ := X.base) I.ok.mod.kin Kx.kC (thn (ha.run pos pins s σ H _ I h) fun us s1 ⟨ws, H1, I1, r1, v, ew, q1'⟩ => ⟨I1.kIn, ?_⟩) he rfl
  subst ew
  obtain ⟨u, rfl, ru⟩ := vals1 r1
  show wpAny _ _ (call (.ref C) [u]) _ _ _
  obtain ⟨hp, g, dr, tk, os⟩ := s1
  have hn : H1 (hp.objs.size + 1) = none := I1.hok.fresh (Nat.le_succ _)
  have kk : ∀ b o, hp.get? b = some o → ((hp.push (PySem.W.kdv_tup [u])).push (PySem.HandSPX.excO C hp.objs.size)).get? b = some o := fun b o e => Heap.get?_push_of_some _ (Heap.get?_push_of_some _ e)
  have hget : ((hp.push (PySem.W.kdv_tup [u])).push (PySem.HandSPX.excO C hp.objs.size)).get? (hp.objs.size + 1) = some (PySem.HandSPX.excO C hp.objs.size) := by heap_get
  have hsz : ((hp.push (PySem.W.kdv_tup [u])).push (PySem.HandSPX.excO C hp.objs.size)).objs.size = hp.objs.size + 2 := by rw [Heap.size_push, Heap.size_push]
  obtain ⟨mb, b1, b2⟩ := I1.mod.blt
  have hKe : X.K.lookup (hp.objs.size + 1) = none := by
    cases z : X.K.lookup (hp.objs.size + 1) with
    | none => rfl
    | some o =>
      have := Heap.lt_size (I1.kIn _ _ z)
      have this : hp.objs.size + 1 < hp.objs.size := this
      omega
  have hd := hr.dp
  refine wpAny_call (PySem.HandSPX.call_own F.excBase_Exception (bm_contains D) (I1.kIn _ _ hC) (PySem.W.looks_findIn I1.kIn ini) (fun self => PySem.W.bind_fn I1.kIn self tyI) (by show 1 ≤ sizeLine; decide)
    (codeAny_mono (R := fun r s' => ∃ h' tk dx t1, r = .ok (.ret .none) ∧ s' = ⟨h', g, dr, tk, os⟩ ∧ (∀ b o, b ≠ hp.objs.size + 1 → hp.get? b = some o → h'.get? b = some o) ∧ hp.objs.size ≤ dx ∧ dx ≠ hp.objs.size + 1 ∧
        h'.get? (hp.objs.size + 1) = some { cls := .ref C, dict := some dx, data := .fields #[.ref t1, .none, .none, .none, .bool false, .none] } ∧ h'.Ns1 dx (fun y => if y = f then some u else none))
      (init_sup (mg := X.mg) (mb := mb) (I1.kIn.keeps kk) ((I1.mod.glob.keeps I1.bk).keeps kk) Kx.sup ((b1.keeps I1.bk).keeps kk) (b2 _ (by decide)) (I1.nolimit.keeps kk) (by rw [make_depth]; omega) hfI hcd hv1 hv2 hfile hcell hC al Kx.sa Kx.no Kx.tp Kx.top ha1 ha2 ha3 ha4 (hbind _ _ _ _ _ _ _ _ _ _ _ _ _ _ _ _ _ _ _ _ _ _) hcall (hsw _ _ _ _) (hsw1 _ _ _ _ _ _) hget hKe
        fun h' tk' dx t1 k n ne he' hn' => ⟨h', tk', dx, t1, rfl, rfl, fun b o hb z => k b o hb (kk b o z), by rw [hsz] at n; omega, ne, he', hn'⟩) fun r s' hq' => ?_))
  obtain ⟨h', tk', dx, t1, rfl, rfl, k, n, ne, he', hn'⟩ := hq'
  refine ⟨rfl, ?_⟩
  obtain ⟨G, g1', g2'⟩ := restrict h' fun b => decide (b ≠ hp.objs.size + 1)
  have gk : ∀ b, b ≠ hp.objs.size + 1 → G.get? b = h'.get? b := fun b hb => g1' b (decide_eq_true hb)
  have ge : G.get? (hp.objs.size + 1) = none := g2' _ (by simp)
  have nha : ∀ {b : Addr} {o : Obj}, hp.get? b = some o → b ≠ hp.objs.size + 1 := fun {b o} z => Nat.ne_of_lt (Nat.lt_of_lt_of_le (Heap.lt_size z) (Nat.le_succ _))
  have J : Inv X pins σ (upd H1 dx (.xd [(f, v)])) ⟨G, g, dr, tk', os⟩ := I1.laid (t' := tk') (a := dx) (o := .xd [(f, v)]) (h' := G) (fun b o z => by rw [gk b (nha z)]; exact k b o (nha z) z) n
    ⟨_, hn'.at fun o y => (gk dx ne).trans y, relO_put (fs := []) ru fun g => True.intro⟩
  have na : (upd H1 dx (.xd [(f, v)])) (hp.objs.size + 1) = none := by rw [upd_ne (Ne.symm ne)]; exact hn
  refine ⟨hp.objs.size + 1, _, _, ⟨G, g, dr, tk', os⟩, _, .ref C, some dx, rfl, J, fun b o z => ?_, ge, he', ⟨rfl, rfl⟩, rfl, rfl, na, rfl, J.bare, raises_own Kx.exC Kx.tyC, q1' dx (I1.hok.fresh n)⟩
  have hb : b ≠ hp.objs.size + 1 := fun y => by rw [y, ge] at z; cases z
  rw [← gk b hb]
  exact z
end Lf
end

section
set_option maxRecDepth 100000
set_option maxHeartbeats 4000000
set_option exponentiation.threshold 3000
/-! The walk of is_fraction. -/
namespace Lf
open PySem PySem.Spec PyProof.Rows L2
def tyN : PyData → String
  | .none => "NoneType"
  | .bool _ => "bool"
  | .int _ => "int"
  | .str _ => "str"
  | .tuple _ => "tuple"
  | .list _ => "list"
  | .dict _ => "dict"
theorem ty_dt {K : PySem.W.Frag} {H : Hp} {v : V} {d : PyData} (h : Dt K H v d) : TyX K H v (.type (tyN d)) := by
  cases h with
  | non => exact .base .non
  | bl b => exact .base (.bl b)
  | int i => exact .base (.int i)
  | str x => exact .base (.str x)
  | tup hs _ =>
    rcases hs with hs | ⟨o, its, n, e, c, _⟩
    · rcases hs with hs | ⟨o, hs⟩
      · exact .base (.tup hs)
      · exact .fTuple hs
    · exact .kTuple e c
def isI : PyData → Bool
  | .int _ => true
  | _ => false
def tupN : PyData → Int → Bool
  | .tuple ds, n => decide ((ds.length : Int) = n)
  | _, _ => false
def fracD : PyData → Bool
  | .tuple [.int t, .int b] => decide (0 < b) && decide (Nat.gcd t.natAbs b.natAbs = 1)
  | _ => false
theorem fracD_fr (x : Rat) : fracD (fr x) = true := by
  show (decide (0 < (x.den : Int)) && decide (Nat.gcd x.num.natAbs ((x.den : Int)).natAbs = 1)) = true
  have h1 := x.den_pos
  have h2 : Nat.gcd x.num.natAbs x.den = 1 := x.reduced
  rw [decide_eq_true (by omega), Int.natAbs_natCast, decide_eq_true h2]
  rfl
def pIsInt : List PyData → PyData → Prop := fun ds r => ∃ d, ds = [d] ∧ r = .bool (isI d)
def pTupOf : List PyData → PyData → Prop := fun ds r => ∃ d n, ds = [d, .int n] ∧ r = .bool (tupN d n)
def pIsFrac : List PyData → PyData → Prop := fun ds r => ∃ d, ds = [d] ∧ r = .bool (fracD d)
/-- need_fraction: nothing, or it raises -/
def spNeed (T : Tabl) (K : PySem.W.Frag) (C : Addr) : Sp := fun vs H Q E => LamX.Tabs T H ∧ ∃ (v : V) (d : PyData), vs = [v] ∧ Dt K H v d ∧ (fracD d = true → ∀ H', Le T H H' → Q .non H') ∧ (fracD d = false → ∀ dd H', Le T H H' → E (.ref C) dd H')
structure CalX (P : Program) (w : World) (K : PySem.W.Frag) (mg : Str → Option Value) (base : Heap) (x : Str) (ps : List Str) (k : Nat) (sp : Sp) : Prop where
  ex : ∃ (f : Addr) (fd : FuncData), FnOk P w K mg base (L2.CX P w) k f fd ps sp ∧ mg x = some (.ref f) ∧ PySem.W.keepIn K (.ref f) = true ∧ Binds K fd ps []
theorem pe_calX {X : Cx} {x : Str} {ps : List Str} {k : Nat} {sp : Sp} {E : L2.St → XK} {e : Expr} {es : List Expr} {t : TA} {p pos : Pos} (C : CalX X.prog X.w X.K X.mg X.base x ps k sp) (hr : Room k X.A) (hg : Gl X x) (hx : ∀ σ, PassesAt (L2.CX X.prog X.w) X σ (E σ)) (ha : PA X (e :: es) t)
    (hdb : (x == ("__debug__" : Str)) = false := by decide) (he : starEach (e :: es) X.env = (false, eval e X.env) :: starEach es X.env := by rfl) (hpl : (backTo pos (starEach es X.env)).any (·.1) = false := by rfl) :
    PE X (.Call (.Name x p) (e :: es) [] pos) (tCallS sp E t) := by
  obtain ⟨f, fd, F, hm, hk, hb⟩ := C.ex
  exact pe_callS F hr hg hm hk hb hx ha hdb he hpl
section
variable {P : Program} {w : World} {K : PySem.W.Frag} {mg : Str → Option Value} {base : Heap} {T : Tabl}
theorem calX_of {x q : Str} {st : Stmt} {f : Addr} {fd : FuncData} {ps : List Str} {k : Nat} {sp : Sp} (F : Fun K x q st f fd) (h : FnOk P w K mg base (L2.CX P w) k f fd ps sp) (g : mg x = some (.ref f)) (b : Binds K fd ps []) : CalX P w K mg base x ps k sp := ⟨f, fd, h, g, F.kp, b⟩
theorem ev_isi {σ : L2.St} {H : Hp} {te : TE} {d : PyData} {c : String} {b : Bool} (h : EvD T K te σ H d) (hk : PySem.W.kitOne K (.type (tyN d)) (.type c) = some b) : EvD T K (tCB (rIsi K) (tCons te (tCons (tC (.ty c)) tNil))) σ H (.bool b) := fun H1 a Q q =>
  h H1 a _ fun v H2 a2 hv => ⟨v, .ty c, .type (tyN d), .type c, b, rfl, .ty c, ty_dt hv, hk, q _ H2 a2 (.bl b)⟩
abbrev s_is_integer : Stmt := topS 7
abbrev N_is_integer : List Str := ["value"]
theorem sc_is_integer : FnScope N_is_integer ["value"] (defScope s_is_integer) := ⟨rfl, rfl, rfl, by decide +kernel, rfl, by decide +kernel, by decide +kernel⟩
theorem ok_is_integer {f : Addr} {fd : FuncData} (F : Fun K "is_integer" "is_integer" s_is_integer f fd) (m : Mg K mg) : FnOk P w K mg base CX0 1 f fd ["value"] (Pur T K pIsInt) := by
  refine F.ok sc_is_integer (pur_len fun ds r ⟨_, e, _⟩ => by rw [e]; rfl) (fun cdv A outer s H vs Q E hr h => ?_)
  obtain ⟨tH, ds, r, hv, ⟨d, rfl, rfl⟩, q⟩ := h
  cases hv with
  | cons h1 hv =>
  cases hv
  refine ⟨_, (pss_one (ps_ret (pe_and (pe_callB (w_isi (K := K)) (by rfl) m.isi (by decide +kernel) (pa_cons (pv 0) (pa_cons (pe_bltn (v := .ty "int") (by rfl) m.int (by decide +kernel) rfl) pa_nil))) (pe_one (pe_not (pe_callB (w_isi (K := K)) (by rfl) m.isi (by decide +kernel) (pa_cons (pv 0) (pa_cons (pe_bltn (v := .ty "bool") (by rfl) m.bool (by decide +kernel) rfl) pa_nil)))))))), ?_⟩
  have key : ∀ b c : Bool, PySem.W.kitOne K (.type (tyN d)) (.type "int") = some b → PySem.W.kitOne K (.type (tyN d)) (.type "bool") = some c → (b && !c) = isI d → tRet (tAndV (tCB (rIsi K) (tCons (tVar 0) (tCons (tC (.ty "int")) tNil))) (tNotV (tCB (rIsi K) (tCons (tVar 0) (tCons (tC (.ty "bool")) tNil))))) { nx := fun x H' => Q .non H', rt := Q } [some _] H := fun b c hb hc e =>
    sd_ret (K := K) (ev_is (ev_andV (b := b) (c := !c) (ev_isi (ev_var h1) hb) fun _ => ev_notV (ev_isi (ev_var h1) hc)) (by rw [e])) tH fun v H1 a1 hv => q v H1 a1 hv
  cases d with
  | none => exact key false false (by first | rfl | decide +kernel) (by first | rfl | decide +kernel) rfl
  | bool b => exact key true true (by first | rfl | decide +kernel) (by first | rfl | decide +kernel) rfl
  | int i => exact key true false (by first | rfl | decide +kernel) (by first | rfl | decide +kernel) rfl
  | str x => exact key false false (by first | rfl | decide +kernel) (by first | rfl | decide +kernel) rfl
  | tuple ds => exact key false false (by first | rfl | decide +kernel) (by first | rfl | decide +kernel) rfl
  | list ds => cases h1
  | dict ds => cases h1
abbrev s_is_tuple_of : Stmt := topS 8
abbrev N_is_tuple_of : List Str := ["value", "size"]
theorem sc_is_tuple_of : FnScope N_is_tuple_of ["value", "size"] (defScope s_is_tuple_of) := ⟨rfl, rfl, rfl, by decide +kernel, rfl, by decide +kernel, by decide +kernel⟩
theorem ok_is_tuple_of {f : Addr} {fd : FuncData} (F : Fun K "is_tuple_of" "is_tuple_of" s_is_tuple_of f fd) (m : Mg K mg) : FnOk P w K mg base CX0 1 f fd ["value", "size"] (Pur T K pTupOf) := by
  refine F.ok sc_is_tuple_of (pur_len fun ds r ⟨_, _, e, _⟩ => by rw [e]; rfl) (fun cdv A outer s H vs Q E hr h => ?_)
  obtain ⟨tH, ds, r, hv, ⟨d, n, rfl, rfl⟩, q⟩ := h
  cases hv with
  | cons h1 hv =>
  cases hv with
  | cons h2 hv =>
  cases hv
  rename_i v1 v2
  refine ⟨_, (pss_one (ps_ret (pe_and (pe_callB (w_isi (K := K)) (by rfl) m.isi (by decide +kernel) (pa_cons (pv 0) (pa_cons (pe_bltn (v := .ty "tuple") (by rfl) m.tup (by decide +kernel) rfl) pa_nil))) (pe_one (pe_cmpR op_eq (pe_callB (w_len (K := K)) (by rfl) m.len PySem.boot_len (pa_cons (pv 0) pa_nil)) (pv 1) (nomark _)))))), ?_⟩
  have no : PySem.W.kitOne K (.type (tyN d)) (.type "tuple") = some false → tupN d n = false → tRet (tAndV (tCB (rIsi K) (tCons (tVar 0) (tCons (tC (.ty "tuple")) tNil))) (tOp rEq (tCB (rLen K) (tCons (tVar 0) tNil)) (tVar 1))) { nx := fun x H' => Q .non H', rt := Q } [some v1, some v2] H := fun hb e =>
    sd_ret (K := K) (ev_is (ev_andV (b := false) (c := false) (ev_isi (ev_var h1) hb) fun z => by cases z) (by rw [e]; rfl)) tH fun v H1 a1 hv => q v H1 a1 hv
  cases d with
  | none => exact no (by first | rfl | decide +kernel) rfl
  | bool b => exact no (by first | rfl | decide +kernel) rfl
  | int i => exact no (by first | rfl | decide +kernel) rfl
  | str x => exact no (by first | rfl | decide +kernel) rfl
  | tuple ds => exact sd_ret (K := K) (ev_andV (b := true) (c := decide ((ds.length : Int) = n)) (ev_isi (ev_var h1) (by first | rfl | decide +kernel)) fun _ => ev_eqI (ev_len (ev_var h1)) (ev_var h2)) tH fun v H1 a1 hv => q v H1 a1 hv
  | list ds => cases h1
  | dict ds => cases h1
abbrev s_need_fraction : Stmt := topS 11
abbrev N_need_fraction : List Str := ["value"]
theorem sc_need_fraction : FnScope N_need_fraction ["value"] (defScope s_need_fraction) := ⟨rfl, rfl, rfl, by decide +kernel, rfl, by decide +kernel, by decide +kernel⟩
theorem ok_need_fraction {f C : Addr} {fd : FuncData} (F : Fun K "need_fraction" "need_fraction" s_need_fraction f fd) (m : Mg K mg) (kx : ExcK P K mg "InvalidFraction" "at" "at" C) (c_is_tuple_of : Cal P w K mg base "is_tuple_of" ["value", "size"] 1 (Pur T K pTupOf)) (c_is_integer : Cal P w K mg base "is_integer" ["value"] 1 (Pur T K pIsInt)) :
    FnOk P w K mg base (L2.CX P w) 2 f fd ["value"] (spNeed T K C) := by
  refine F.okX sc_need_fraction (fun vs H Q E ⟨_, _, _, e, _⟩ => by rw [e]; rfl) (fun cdv A outer s H vs Q E hr h => ?_)
  obtain ⟨tH, v, d, rfl, h1, qy, qn⟩ := h
  refine ⟨_, (pss_cons (ps_if (PW.pt (pw_or (pt_not (pt_val (pe_cal c_is_tuple_of (hr.mono (by decide)) (by rfl) (pa_cons (pv 0) (pa_cons pe_int pa_nil))))) (pw_or (pt_not (pt_val (pe_cal c_is_integer (hr.mono (by decide)) (by rfl) (pa_cons (pe_ix (w_ixT (K := K)) (pv 0) pe_int (fun _ _ => rfl)) pa_nil)))) (pw_or1 (pt_not (pt_val (pe_cal c_is_integer (hr.mono (by decide)) (by rfl) (pa_cons (pe_ix (w_ixT (K := K)) (pv 0) pe_int (fun _ _ => rfl)) pa_nil)))))))) (pss_one (ps_raise rfl (takes_of rfl rfl rfl rfl) (pmk_sup (k := 0) kx (hr.mono (by decide)) (by rfl) (pa_cons (pe_un un_neg pe_int) pa_nil) (by decide) (by decide) (by decide) (by decide) (fun _ _ _ _ _ _ _ _ _ _ _ _ _ _ _ _ _ _ _ _ _ _ => rfl) (fun _ _ _ _ _ => rfl) (fun _ _ _ _ _ _ _ => rfl)))) pss_nil)
      (pss_cons (ps_if (pt_cmpR op_le (pe_ix (w_ixT (K := K)) (pv 0) pe_int (fun _ _ => rfl)) pe_int (nomark _)) (pss_one (ps_raise rfl (takes_of rfl rfl rfl rfl) (pmk_sup (k := 0) kx (hr.mono (by decide)) (by rfl) (pa_cons pe_int pa_nil) (by decide) (by decide) (by decide) (by decide) (fun _ _ _ _ _ _ _ _ _ _ _ _ _ _ _ _ _ _ _ _ _ _ => rfl) (fun _ _ _ _ _ => rfl) (fun _ _ _ _ _ _ _ => rfl)))) pss_nil)
      (pss_one (ps_if (pt_cmpR op_ne (pe_callBfun cr_gcd (by rfl) m.gcd (pa_cons (pe_ix (w_ixT (K := K)) (pv 0) pe_int (fun _ _ => rfl)) (pa_cons (pe_ix (w_ixT (K := K)) (pv 0) pe_int (fun _ _ => rfl)) pa_nil))) pe_int (nomark _)) (pss_one (ps_raise rfl (takes_of rfl rfl rfl rfl) (pmk_sup (k := 0) kx (hr.mono (by decide)) (by rfl) (pa_cons pe_int pa_nil) (by decide) (by decide) (by decide) (by decide) (fun _ _ _ _ _ _ _ _ _ _ _ _ _ _ _ _ _ _ _ _ _ _ => rfl) (fun _ _ _ _ _ => rfl) (fun _ _ _ _ _ _ _ => rfl)))) pss_nil)))), ?_⟩
  have raise : ∀ {te : TE} {H1 : Hp} {e : PyData}, Le T H H1 → EvD T K te [some v] H1 e → fracD d = false → tMkS C "at" (tCons te tNil) [some v] H1 fun cls d H' => E cls d H' := fun a he hf =>
    he _ (Le.refl a.tab) _ fun u H2 a2 hu => ⟨u, rfl, fun dd hd => qn hf (some dd) _ ((a.trans a2).trans (Le.new a2.tab hd))⟩
  by_cases ht : tupN d 2 = true
  · obtain ⟨x, y, rfl⟩ : ∃ x y, d = .tuple [x, y] := by
      cases d with
      | tuple ds =>
        have ht : ((ds.length : Int)) = 2 := of_decide_eq_true ht
        match ds, ht with
        | [x, y], _ => exact ⟨x, y, rfl⟩
        | [], h => simp at h
        | [_], h => simp at h
        | _ :: _ :: _ :: _, h => simp at h; omega
      | _ => cases ht
    have c0 : EvB T (tNot (tB (tCall (Pur T K pTupOf) [] E0 (tCons (tVar 0) (tCons (tC (.int 2)) tNil))))) [some v] H false := eb_is (eb_not (eb_tB (ev_call (evs_cons (ev_var h1) (evs_cons ev_int evs_nil)) ⟨_, 2, rfl, rfl⟩))) (by rw [ht]; rfl)
    have e0 : EvD T K (tOp (rIxT K) (tVar 0) (tC (.int 0))) [some v] H x := ev_ix (ev_var h1) ev_int (dat_nat (j := 0) rfl)
    have e1 : EvD T K (tOp (rIxT K) (tVar 0) (tC (.int 1))) [some v] H y := ev_ix (ev_var h1) ev_int (dat_nat (j := 1) rfl)
    have c1 : EvB T (tNot (tB (tCall (Pur T K pIsInt) [] E0 (tCons (tOp (rIxT K) (tVar 0) (tC (.int 0))) tNil)))) [some v] H (!isI x) := eb_not (eb_tB (ev_call (evs_cons e0 evs_nil) ⟨_, rfl, rfl⟩))
    have c2 : EvB T (tNot (tB (tCall (Pur T K pIsInt) [] E0 (tCons (tOp (rIxT K) (tVar 0) (tC (.int 1))) tNil)))) [some v] H (!isI y) := eb_not (eb_tB (ev_call (evs_cons e1 evs_nil) ⟨_, rfl, rfl⟩))
    by_cases hxy : isI x = true ∧ isI y = true
    · obtain ⟨hx, hy⟩ := hxy
      obtain ⟨t, rfl⟩ : ∃ t, x = .int t := by cases x <;> first | exact ⟨_, rfl⟩ | cases hx
      obtain ⟨b, rfl⟩ : ∃ b, y = .int b := by cases y <;> first | exact ⟨_, rfl⟩ | cases hy
      refine sd_no (eb_is (eb_or c0 fun _ => eb_or c1 fun _ => c2) rfl) tH fun H1 a1 => ?_
      try unfold tNext
      try dsimp only
      by_cases hb : b ≤ 0
      · refine sd_yes (eb_is (eb_test (ev_opB (g := fun i j => decide (i ≤ j)) (e1.mono a1) ev_int)) (decide_eq_true hb)) a1.tab fun H2 a2 => ?_
        exact raise (a1.trans a2) ev_int (by show (decide (0 < b) && _) = false; rw [decide_eq_false (by omega)]; rfl)
      · refine sd_no (eb_is (eb_test (ev_opB (g := fun i j => decide (i ≤ j)) (e1.mono a1) ev_int)) (decide_eq_false hb)) a1.tab fun H2 a2 => ?_
        try unfold tNext
        try dsimp only
        have a12 := a1.trans a2
        by_cases hgd : Nat.gcd t.natAbs b.natAbs = 1
        · refine sd_no (eb_is (eb_test (ev_neI (ev_gcd (e0.mono a12) (e1.mono a12)) ev_int)) (by rw [hgd]; rfl)) a12.tab fun H3 a3 => ?_
          exact qy (by show (decide (0 < b) && decide (Nat.gcd t.natAbs b.natAbs = 1)) = true; rw [decide_eq_true (by omega), decide_eq_true hgd]; rfl) H3 (a12.trans a3)
        · refine sd_yes (eb_is (eb_test (ev_neI (ev_gcd (e0.mono a12) (e1.mono a12)) ev_int)) (by rw [decide_eq_false (by omega)]; rfl)) a12.tab fun H3 a3 => ?_
          exact raise (a12.trans a3) ev_int (by show (decide (0 < b) && decide (Nat.gcd t.natAbs b.natAbs = 1)) = false; rw [decide_eq_false hgd, Bool.and_false])
    · have hf : fracD (.tuple [x, y]) = false := by
        cases x <;> cases y <;> first | rfl | exact absurd ⟨rfl, rfl⟩ hxy
      refine sd_yes (eb_is (eb_or c0 fun _ => eb_or c1 fun _ => c2) ?_) tH fun H1 a1 => raise a1 (ev_un (g := fun i => -i) ev_int) hf
      by_cases hx : isI x = true
      · have hy : isI y = false := by
          cases z : isI y with
          | true => exact absurd ⟨hx, z⟩ hxy
          | false => rfl
        rw [hx, hy]
        rfl
      · have hx' : isI x = false := by simpa using hx
        rw [hx']
        rfl
  · have ht' : tupN d 2 = false := by simpa using ht
    have c0 : EvB T (tNot (tB (tCall (Pur T K pTupOf) [] E0 (tCons (tVar 0) (tCons (tC (.int 2)) tNil))))) [some v] H true := eb_is (eb_not (eb_tB (ev_call (evs_cons (ev_var h1) (evs_cons ev_int evs_nil)) ⟨_, 2, rfl, rfl⟩))) (by rw [ht']; rfl)
    refine sd_yes (eb_is (eb_or (c := true) c0 fun z => by cases z) rfl) tH fun H1 a1 => raise a1 (ev_un (g := fun i => -i) ev_int) ?_
    cases d with
    | tuple ds =>
      match ds, ht' with
      | [x, y], h => exact absurd h (by simp [tupN])
      | [], _ => rfl
      | [x], _ => cases x <;> rfl
      | x :: y :: z :: _, _ => cases x <;> cases y <;> rfl
    | _ => rfl
abbrev s_is_fraction : Stmt := topS 12
abbrev N_is_fraction : List Str := ["value"]
theorem sc_is_fraction : FnScope N_is_fraction ["value"] (defScope s_is_fraction) := ⟨rfl, rfl, rfl, by decide +kernel, rfl, by decide +kernel, by decide +kernel⟩
theorem ok_is_fraction {f C : Addr} {fd : FuncData} (F : Fun K "is_fraction" "is_fraction" s_is_fraction f fd) (m : Mg K mg) (kx : ExcK P K mg "InvalidFraction" "at" "at" C) (te : PySem.W.exmOne K (.ref C) (.ref C) = some true) (c_need : CalX P w K mg base "need_fraction" ["value"] 2 (spNeed T K C)) :
    FnOk P w K mg base CX0 3 f fd ["value"] (Pur T K pIsFrac) := by
  refine F.ok sc_is_fraction (pur_len fun ds r ⟨_, e, _⟩ => by rw [e]; rfl) (fun cdv A outer s H vs Q E hr h => ?_)
  obtain ⟨tH, ds, r, hv, ⟨d, rfl, rfl⟩, q⟩ := h
  cases hv with
  | cons h1 hv =>
  cases hv
  rename_i v1
  refine ⟨_, (pss_cons (ps_try_only rfl rfl ⟨by rfl, by decide, .inl kx.gC⟩ takes0 (fun W pn xe tk _ => pss_one (ps_expr (pe_calX c_need (hr.mono (by decide)) (by rfl) (fun σ => passAt tk σ) (pa_cons (pv 0) pa_nil)))) (fun a oe cls d pn _ _ => pss_one (ps_ret pe_bl)))
      (pss_one (ps_ret pe_bl))), ?_⟩
  refine ⟨v1, rfl, tH, v1, d, rfl, h1, fun hf H1 a1 => ?_, fun hf dd H1 a1 => ?_⟩
  · have q1 := q
    rw [hf] at q1
    dsimp only
    refine sd_ret (K := K) ev_bl a1.tab fun v H2 a2 hv => ?_
    exact q1 v H2 (a1.trans a2) hv
  · have q1 := q
    rw [hf] at q1
    refine ⟨true, te, fun _ a ha => ?_, fun z => by cases z⟩
    refine sd_ret (K := K) ev_bl a1.tab fun v H2 a2 hv => ?_
    exact q1 v H2 (a1.trans a2) hv
end
end Lf
end

section
set_option maxRecDepth 100000
set_option maxHeartbeats 4000000
set_option exponentiation.threshold 3000
/-! The walk of is_stream and stream_floor. -/
namespace Lf
open PySem PySem.Spec PyProof.Rows L2
/-- is_stream's answer -/
def StreamAns (N : Net) (told : List Int) (ds : List PyData) (b : Bool) : Prop :=
  (ds.length ≠ N.ties.length ∧ b = false) ∨ (ds.length = N.ties.length ∧ (ds.map fracD).all id = false ∧ b = false) ∨ ∃ s : List Rat, ds = s.map fr ∧ SrcSz N s ∧ b = (N.pts.filter fun p => !decide (p ∈ told)).all fun p => decide (src N.ties s p = 0)
def spIsStream (T : Tabl) (K : PySem.W.Frag) : Sp := fun vs H Q _ => LamX.Tabs T H ∧ ∃ (vn vt vv : V) (N : Net) (told : List Int) (t : Int → Rat), vs = [vn, vt, vv] ∧ Dt K H vn (netD N) ∧ Dt K H vt (.tuple (wI told t)) ∧ N.ties.length ≤ 36 ∧ told.length ≤ 6 ∧ N.pts.length ≤ 6 ∧
  ((∃ tn : String, (∀ H', Le T H H' → TyX K H' vv (.type tn)) ∧ PySem.W.kitOne K (.type tn) (.type "tuple") = some false ∧ ∀ H', Le T H H' → Q (.bl false) H') ∨
    ∃ (ds : List PyData) (b : Bool), Dt K H vv (.tuple ds) ∧ ds.length ≤ 1000 ∧ StreamAns N told ds b ∧ ∀ H', Le T H H' → Q (.bl b) H')
/-- what stream_floor asks -/
structure FlOk (N : Net) (told : List Int) (t : Int → Rat) (s : List Rat) : Prop where
  sz : SrcSz N s
  w : ∀ u ∈ N.ties, 0 < u.2.2 ∧ Sm u.2.2
  sub : ∀ p ∈ told, p ∈ N.pts
  few : told.length ≤ 6
  sm : ∀ p ∈ told, Sm (t p) ∧ Sm (src N.ties s p)
  sum : SumOk 0 (told.map fun p => t p * src N.ties s p)
  sq : ∀ m ∈ s, Sm m ∧ Sm (m * m)
  los : SumOk 0 ((N.ties.zip s).map fun q => q.2 * q.2 / q.1.2.2)
  s1 : Sm (tot (told.map fun p => t p * src N.ties s p))
  s2 : Sm (tot ((N.ties.zip s).map fun q => q.2 * q.2 / q.1.2.2))
  s3 : Sm (tot ((N.ties.zip s).map fun q => q.2 * q.2 / q.1.2.2) / 2)
def flV (N : Net) (told : List Int) (t : Int → Rat) (s : List Rat) : Rat := tot (told.map fun p => t p * src N.ties s p) - tot ((N.ties.zip s).map fun q => q.2 * q.2 / q.1.2.2) / 2
theorem losts_zip : ∀ (ts : List Tie) (s : List Rat), losts ts s = (ts.zip s).map fun q => q.2 * q.2 / q.1.2.2
  | [], _ => by simp [losts]
  | (_, _, _) :: _, [] => rfl
  | (a, b, w) :: ts, m :: s => by
    show m * m / w :: losts ts s = m * m / w :: _
    rw [losts_zip ts s]
    rfl
theorem tsum_map (t f : Int → Rat) : ∀ told : List Int, tsum (told.map fun p => (p, t p)) f = tot (told.map fun p => t p * f p)
  | [] => rfl
  | p :: told => by
    show t p * f p + tsum (told.map fun p => (p, t p)) f = t p * f p + _
    rw [tsum_map t f told]
theorem flV_eq (N : Net) (told : List Int) (t : Int → Rat) (s : List Rat) : flV N told t s = floorV N.ties (told.map fun p => (p, t p)) s := by
  unfold flV floorV
  rw [tsum_map, losts_zip]
def spFloor (T : Tabl) (K : PySem.W.Frag) : Sp := fun vs H Q _ => LamX.Tabs T H ∧ ∃ (vn vt vm : V) (N : Net) (told : List Int) (t : Int → Rat) (s : List Rat), vs = [vn, vt, vm] ∧ Dt K H vn (netD N) ∧ Dt K H vt (.tuple (wI told t)) ∧ Dt K H vm (.tuple (s.map fr)) ∧ FlOk N told t s ∧
  ∀ v H', Le T H H' → Dt K H' v (fr (flV N told t s)) → Q v H'
def spFloorX (T : Tabl) (K : PySem.W.Frag) (C : Addr) : Sp := fun vs H Q E => LamX.Tabs T H ∧ ∃ (vn vt vm : V) (N : Net), vs = [vn, vt, vm] ∧ Dt K H vn (netD N) ∧ N.ties.length ≤ 1000 ∧ (N.ties.all fun t => decide (0 < sgn t.2.2)) = false ∧ ∀ dd H', Le T H H' → H' dd = some (.xd [("word", .str "weight")]) → E (.ref C) (some dd) H'
section
variable {P : Program} {w : World} {K : PySem.W.Frag} {mg : Str → Option Value} {base : Heap} {T : Tabl}
theorem ef_sources {σ : L2.St} {H : Hp} {ta tb : TE} {N : Net} {s : List Rat} {E : XK} (h1 : EvD T K ta σ H (netD N)) (h2 : EvD T K tb σ H (.tuple (s.map fr))) (hs : SrcSz N s) : EvF T K (tCall (spSources T K) [] E (tCons ta (tCons tb tNil))) σ H (wI N.pts (src N.ties s)) := fun H1 a Q q =>
  h1 H1 a _ fun v H2 a2 hv => h2 H2 (a.trans a2) _ fun u H3 a3 hu => ⟨a3.tab, v, u, N, s, rfl, hv.mono a3.tk, hu, hs, fun z H4 a4 hz => q z H4 ((a2.trans a3).trans a4) hz⟩
theorem wI_map (ks : List Int) (x : Int → Rat) : wI ks x = ks.map fun p => prI (p, fr (x p)) := by unfold wI; rw [List.map_map]; rfl
abbrev s_is_stream : Stmt := topS 35
abbrev N_is_stream : List Str := ["network", "told", "value", "known", "point", "worth", "much"]
theorem sc_is_stream : FnScope N_is_stream ["network", "told", "value"] (defScope s_is_stream) := ⟨rfl, rfl, rfl, by decide +kernel, rfl, by decide +kernel, by decide +kernel⟩
theorem ok_is_stream {f : Addr} {fd : FuncData} (F : Fun K "is_stream" "is_stream" s_is_stream f fd) (m : Mg K mg) (c_is_fraction : Cal P w K mg base "is_fraction" ["value"] 3 (Pur T K pIsFrac)) (c_sources_of : Cal P w K mg base "sources_of" ["network", "stream"] 3 (spSources T K)) :
    FnOk P w K mg base CX0 4 f fd ["network", "told", "value"] (spIsStream T K) := by
  refine F.ok sc_is_stream (fun vs H Q E ⟨_, _, _, _, _, _, _, e, _⟩ => by rw [e]; rfl) (fun cdv A outer s H vs Q E hr h => ?_)
  obtain ⟨tH, vn, vt, vv, N, told, t, rfl, h1, h2, hl, htl, hpl, h⟩ := h
  obtain ⟨zz, hzero, dz⟩ := m.zero
  refine ⟨_, (pss_cons (ps_if (PW.pt (pw_or (pt_not (pt_val (pe_callB (w_isi (K := K)) (by rfl) m.isi (by decide +kernel) (pa_cons (pv 2) (pa_cons (pe_bltn (v := .ty "tuple") (by rfl) m.tup (by decide +kernel) rfl) pa_nil))))) (pw_or (pt_cmpR op_ne (pe_callB (w_len (K := K)) (by rfl) m.len PySem.boot_len (pa_cons (pv 2) pa_nil)) (pe_callB (w_len (K := K)) (by rfl) m.len PySem.boot_len (pa_cons (pe_ix (w_ixT (K := K)) (pv 0) pe_int (fun _ _ => rfl)) pa_nil)) (nomark _)) (pw_or1 (pt_not (pt_val (pe_callB (w_all (K := K) rfl) (by rfl) m.all (by decide +kernel) (pa_cons (pe_lc (own := [("much", 6)]) rfl sc_is_stream.nd (w_piT (K := K) (pv 2)) (blkOk_by (own := [("much", 6)]) (N := N_is_stream) (sc := defScope s_is_stream) (by decide +kernel)) (fun _ _ _ _ _ => (pg_name (i := 6) sc_is_stream.nd rfl (.inl rfl))) (fun _ _ _ _ _ => pts_nil) (fun _ _ _ _ _ => (pe_cal c_is_fraction (hr.mono (by decide)) (by rfl) (pa_cons (pv 6) pa_nil)))) pa_nil)))))))) (pss_one (ps_ret pe_bl)) pss_nil)
      (pss_cons (ps_set (i := 3) sc_is_stream.nd rfl (.inr rfl) (pe_lc (own := [("point", 4), ("worth", 5)]) rfl sc_is_stream.nd (w_piT (K := K) (pv 1)) (blkOk_by (own := [("point", 4), ("worth", 5)]) (N := N_is_stream) (sc := defScope s_is_stream) (by decide +kernel)) (fun _ _ _ _ _ => (w_pg (K := K) (n := 2) rfl (pgs_cons (pg_name (i := 4) sc_is_stream.nd rfl (.inl rfl)) (pgs_cons (pg_name (i := 5) sc_is_stream.nd rfl (.inl rfl)) pgs_nil)))) (fun _ _ _ _ _ => pts_nil) (fun _ _ _ _ _ => (pv 4))))
      (pss_one (ps_ret (pe_callB (w_all (K := K) rfl) (by rfl) m.all (by decide +kernel) (pa_cons (pe_lc (own := [("point", 4), ("much", 6)]) rfl sc_is_stream.nd (w_piT (K := K) (pe_cal c_sources_of (hr.mono (by decide)) (by rfl) (pa_cons (pv 0) (pa_cons (pv 2) pa_nil)))) (blkOk_by (own := [("point", 4), ("much", 6)]) (N := N_is_stream) (sc := defScope s_is_stream) (by decide +kernel)) (fun _ _ _ _ _ => (w_pg (K := K) (n := 2) rfl (pgs_cons (pg_name (i := 4) sc_is_stream.nd rfl (.inl rfl)) (pgs_cons (pg_name (i := 6) sc_is_stream.nd rfl (.inl rfl)) pgs_nil)))) (fun _ _ _ _ _ => pts_one (pt_cmpR (w_notIn (K := K)) (pv 4) (pv 3) (by with_unfolding_all rfl))) (fun _ _ _ _ _ => (pe_cmpR (w_eqD (K := K) hr.units) (pv 6) (pe_glob (v := .ref zz) (by rfl) hzero rfl) (nomark _)))) pa_nil)))))), ?_⟩
  rcases h with ⟨tn, hty, hk, q⟩ | ⟨ds, b, h3, h4, hans, q⟩
  · have c0 : EvB T (tB (tCB (rIsi K) (tCons (tVar 2) (tCons (tC (.ty "tuple")) tNil)))) [some vn, some vt, some vv, none, none, none, none] H false := fun H1 a Q' q' => ⟨vv, rfl, ⟨vv, .ty "tuple", .type tn, .type "tuple", false, rfl, .ty _, hty H1 a, hk, false, rfl, q' H1 (Le.refl a.tab)⟩⟩
    refine sd_yes (eb_is (eb_or (c := true) (eb_not c0) fun z => by cases z) rfl) tH fun H1 a1 => ?_
    exact sd_ret (K := K) ev_bl a1.tab fun v H2 a2 hv => by
      cases hv
      exact q H2 (a1.trans a2)
  · have c0 : EvB T (tB (tCB (rIsi K) (tCons (tVar 2) (tCons (tC (.ty "tuple")) tNil)))) [some vn, some vt, some vv, none, none, none, none] H true := eb_tB (ev_isi (ev_var h3) (by first | rfl | decide +kernel))
    have eN : EvD T K (tOp (rIxT K) (tVar 0) (tC (.int 1))) [some vn, some vt, some vv, none, none, none, none] H (.tuple (N.ties.map tieD)) := ev_ix (ev_var h1) ev_int (dat_nat (j := 1) rfl)
    have c1 := eb_test (ev_neI (ev_len (ev_var (i := 2) (σ := [some vn, some vt, some vv, none, none, none, none]) h3)) (ev_len eN))
    have c2 : EvB T (tNot (tB (tCB (rAll K) (tCons (tLc (iTup K (tVar 2)) (gName 6) tYes (tCall (Pur T K pIsFrac) [] E0 (tCons (tVar 6) tNil)) [6]) tNil)))) [some vn, some vt, some vv, none, none, none, none] H (!(ds.map fracD).all id) := by
      refine eb_not (eb_tB (ev_all ?_))
      rw [List.map_map]
      refine lc_all (by omega) (src_tup (f := fun d : PyData => d) (l := ds) (ev_is (ev_var h3) (by rw [List.map_id']))) (fun _ _ k => k.tk) fun d hd H1 v a hv Q' q' => ?_
      exact q' [some vn, some vt, some vv, none, none, none, some v] rfl (ev_call (evs_cons (ev_var hv) evs_nil) ⟨d, rfl, rfl⟩)
    have no : b = false → (ds.length ≠ N.ties.length ∨ (ds.map fracD).all id = false) → EvB T (tOr (tNot (tB (tCB (rIsi K) (tCons (tVar 2) (tCons (tC (.ty "tuple")) tNil))))) (tOr (tTest (tOp rNe (tCB (rLen K) (tCons (tVar 2) tNil)) (tCB (rLen K) (tCons (tOp (rIxT K) (tVar 0) (tC (.int 1))) tNil)))) (tNot (tB (tCB (rAll K) (tCons (tLc (iTup K (tVar 2)) (gName 6) tYes (tCall (Pur T K pIsFrac) [] E0 (tCons (tVar 6) tNil)) [6]) tNil)))))) [some vn, some vt, some vv, none, none, none, none] H true := fun _ z => by
      refine eb_is (eb_or (eb_not c0) fun _ => eb_or c1 fun _ => c2) ?_
      rw [List.length_map]
      rcases z with z | z
      · rw [decide_eq_false (by omega)]; rfl
      · rw [z]; simp
    rcases hans with ⟨z, e⟩ | ⟨_, z, e⟩ | ⟨s, rfl, hs, e⟩
    · refine sd_yes (no e (.inl z)) tH fun H1 a1 => sd_ret (K := K) ev_bl a1.tab fun v H2 a2 hv => ?_
      cases hv
      subst e
      exact q H2 (a1.trans a2)
    · refine sd_yes (no e (.inr z)) tH fun H1 a1 => sd_ret (K := K) ev_bl a1.tab fun v H2 a2 hv => ?_
      cases hv
      subst e
      exact q H2 (a1.trans a2)
    · have all1 : ((s.map fr).map fracD).all id = true := by
        rw [List.all_map, List.all_map]
        exact List.all_eq_true.mpr fun x _ => fracD_fr x
      refine sd_no (eb_is (eb_or (eb_not c0) fun _ => eb_or c1 fun _ => c2) (by rw [List.length_map, List.length_map, all1, hs.1]; simp)) tH fun H1 a1 => ?_
      unfold tNext
      dsimp only
      refine sd_setL (K := K) (ds := told.map PyData.int) ?_ a1.tab fun L ws H2 a2 nL eL hws => ?_
      · rw [wI_map] at h2
        refine lc_all (by omega) (src_tup (f := fun p => prI (p, fr (t p))) (l := told) (ev_var (h2.mono a1.tk))) (fun _ _ k => k.tk) fun p hp H3 v a3 hv Q' q' => ?_
        refine g_two hv fun w4 w5 k4 k5 => ?_
        exact q' [some vn, some vt, some vv, none, some w4, some w5, none] rfl (ev_var k4)
      · have ew : ws = told.map V.int := ints_of hws
        subst ew
        have a02 := a1.trans a2
        dsimp only
        refine sd_ret (K := K) (d := .bool ((N.pts.filter fun p => !decide (p ∈ told)).all fun p => decide (src N.ties s p = 0))) (ev_is (ev_all (bs := (N.pts.filter fun p => !decide (p ∈ told)).map fun p => decide (src N.ties s p = 0)) ?_) (by rw [List.all_map]; rfl)) a02.tab fun v H3 a3 hv => ?_
        · rw [List.map_map]
          refine lc_src (by omega) (src_tup (f := fun p => prI (p, fr (src N.ties s p))) (l := N.pts) (ev_is (ef_sources (ev_var (h1.mono a02.tk)) (ev_var (h3.mono a02.tk)) hs).ev (by rw [wI_map]))) (fun _ _ k => k.tk) fun p hp H3 v a3 hv Q' q' => ?_
          refine g_two hv fun w4 w6 k4 k6 => ?_
          exact q' [some vn, some vt, some vv, some (.ref L), some w4, none, some w6] rfl (eb_test (ev_notInL (p := L) (ns := told) (ev_var k4) (fun H3 a3 Q q => ⟨_, rfl, q⟩) fun H3' a3' => SqL.of ((a3.trans a3').at_ eL pl_lst))) fun _ =>
            ev_is (ev_eqD (ev_var k6) (ev_con (d := fr 0) fun H => dz H) (shaped_fr _) (shaped_fr _)) (by rw [eqv_fr]; rfl)
        · cases hv
          subst e
          exact q H3 (a02.trans a3)
abbrev s_stream_floor : Stmt := topS 36
abbrev N_stream_floor : List Str := ["network", "told", "stream", "lost", "known", "found", "point", "worth", "tie", "much"]
theorem sc_stream_floor : FnScope N_stream_floor ["network", "told", "stream"] (defScope s_stream_floor) := ⟨rfl, rfl, rfl, by decide +kernel, rfl, by decide +kernel, by decide +kernel⟩
theorem ok_stream_floor {f : Addr} {fd : FuncData} (F : Fun K "stream_floor" "stream_floor" s_stream_floor f fd) (m : Mg K mg) (c_is_strict : Cal P w K mg base "is_strict" ["network"] 2 (Pur T K pStrict)) (c_sources_of : Cal P w K mg base "sources_of" ["network", "stream"] 3 (spSources T K))
    (c_plus : Cal P w K mg base "plus" ["one", "other"] 2 (Pur T K pPlus)) (c_times : Cal P w K mg base "times" ["one", "other"] 2 (Pur T K pTimes)) (c_over : Cal P w K mg base "over" ["one", "other"] 2 (Pur T K pOver)) (c_minus : Cal P w K mg base "minus" ["one", "other"] 2 (Pur T K pMinus)) (c_half : Cal P w K mg base "half" ["one"] 2 (Pur T K pHalf))
    (c_total_of : Cal P w K mg base "total_of" ["some"] 3 (spTotal T K)) : FnOk P w K mg base CX0 4 f fd ["network", "told", "stream"] (spFloor T K) := by
  refine F.ok sc_stream_floor (fun vs H Q E ⟨_, _, _, _, _, _, _, _, e, _⟩ => by rw [e]; rfl) (fun cdv A outer s H vs Q E hr h => ?_)
  obtain ⟨tH, vn, vt, vm, N, told, t, st, rfl, h1, h2, h3, hf, q⟩ := h
  obtain ⟨zz, hzero, dz⟩ := m.zero
  have hlen := hf.sz.2.1
  have hpl := hf.sz.2.2.2.1
  refine ⟨_, (pss_cons (ps_if (pt_not (pt_val (pe_cal c_is_strict (hr.mono (by decide)) (by rfl) (pa_cons (pv 0) pa_nil)))) (pss_one ps_never) pss_nil)
      (pss_cons (ps_par (i := 4) (j := 5) rfl sc_stream_floor.nd rfl rfl (by decide) rfl rfl (pa_cons (pe_callTy (w_dictT (K := K) rfl) (by rfl) m.dct (by decide +kernel) (pa_cons (pe_cal c_sources_of (hr.mono (by decide)) (by rfl) (pa_cons (pv 0) (pa_cons (pv 2) pa_nil))) pa_nil)) (pa_cons (pe_glob (v := .ref zz) (by rfl) hzero rfl) pa_nil)) (by rfl))
      (pss_cons (ps_for PassesOwn.never rfl (w_piT (K := K) (pv 1)) (w_pg (K := K) (n := 2) rfl (pgs_cons (pg_name (i := 6) sc_stream_floor.nd rfl (.inl rfl)) (pgs_cons (pg_name (i := 7) sc_stream_floor.nd rfl (.inl rfl)) pgs_nil))) (pss_one (ps_set (i := 5) sc_stream_floor.nd rfl (.inl rfl) (pe_cal c_plus (hr.mono (by decide)) (by rfl) (pa_cons (pv 5) (pa_cons (pe_cal c_times (hr.mono (by decide)) (by rfl) (pa_cons (pv 7) (pa_cons (pe_dget (hu_of hr) (pv 4) (pv 6) (fun _ _ => rfl)) pa_nil))) pa_nil))))))
      (pss_cons (ps_set (i := 3) sc_stream_floor.nd rfl (.inl rfl) (pe_cal c_total_of (hr.mono (by decide)) (by rfl) (pa_cons (pe_lc (own := [("tie", 8), ("much", 9)]) rfl sc_stream_floor.nd (w_zip (K := K) (by rfl) m.zip (pa_cons (pe_ix (w_ixT (K := K)) (pv 0) pe_int (fun _ _ => rfl)) (pa_cons (pv 2) pa_nil))) (blkOk_by (own := [("tie", 8), ("much", 9)]) (N := N_stream_floor) (sc := defScope s_stream_floor) (by decide +kernel)) (fun _ _ _ _ _ => (w_pg (K := K) (n := 2) rfl (pgs_cons (pg_name (i := 8) sc_stream_floor.nd rfl (.inl rfl)) (pgs_cons (pg_name (i := 9) sc_stream_floor.nd rfl (.inl rfl)) pgs_nil)))) (fun _ _ _ _ _ => pts_nil) (fun _ _ _ _ _ => (pe_cal c_over (hr.mono (by decide)) (by rfl) (pa_cons (pe_cal c_times (hr.mono (by decide)) (by rfl) (pa_cons (pv 9) (pa_cons (pv 9) pa_nil))) (pa_cons (pe_ix (w_ixT (K := K)) (pv 8) pe_int (fun _ _ => rfl)) pa_nil))))) pa_nil)))
      (pss_one (ps_ret (pe_cal c_minus (hr.mono (by decide)) (by rfl) (pa_cons (pv 5) (pa_cons (pe_cal c_half (hr.mono (by decide)) (by rfl) (pa_cons (pv 3) pa_nil)) pa_nil))))))))), ?_⟩
  have hst : (N.ties.all fun t => decide (0 < sgn t.2.2)) = true := List.all_eq_true.mpr fun u hu => decide_eq_true (by rw [one_sgn (hf.w u hu).1]; decide)
  refine sd_no (eb_is (eb_not (eb_tB (ev_call (evs_cons (ev_var h1) evs_nil) ⟨N, rfl, by omega, rfl⟩))) (by rw [hst]; rfl)) tH fun H1 a1 => ?_
  unfold tNext
  dsimp only
  refine sd_parDic (l := N.pts.map fun p => (p, fr (src N.ties st p))) (d := fr 0) (ed_dictT (ef_sources (ev_var (h1.mono a1.tk)) (ev_var (h3.mono a1.tk)) hf.sz) (by rw [wI_keys]; exact hf.sz.2.2.1)) (fun H1 a => ev_con fun H => dz H) a1.tab fun L v0 H2 a2 nL hD h0 => ?_
  have a02 := a1.trans a2
  rw [wI_map] at h2
  refine for_src (src_tup (f := fun p => prI (p, fr (t p))) (l := told) (ev_var (h2.mono a02.tk))) a02.tab fun H3 a3 => ⟨fun r σ' H' => ∃ acc va y6 y7, σ' = [some vn, some vt, some vm, none, some (.ref L), some va, y6, y7, none, none] ∧ Le T H H' ∧ TK H3 H' ∧ Dic K H' L (N.pts.map fun p => (p, fr (src N.ties st p))) ∧ Dt K H' va (fr acc) ∧ SumOk acc (r.map fun p => t p * src N.ties st p) ∧ acc + tot (r.map fun p => t p * src N.ties st p) = tot (told.map fun p => t p * src N.ties st p),
    ⟨0, v0, none, none, rfl, a02.trans a3, TK.refl _, hD.le a3, h0.mono a3.tk, hf.sum, by rw [Rat.zero_add]⟩, fun r σ' H' ⟨_, _, _, _, _, k, k2, _⟩ => ⟨k2, k.tab⟩, ?_, ?_⟩
  · rintro p r σ' H' H'' v hpm ⟨acc, va, y6, y7, rfl, a, k2, hD', ha, hso, e⟩ a4 hx
    have ea := a.trans a4
    refine g_two hx fun w6 w7 k6 k7 => ?_
    obtain ⟨s1, s2⟩ := hf.sm p hpm
    refine sd_set (ev_call (evs_cons (ev_var (ha.mono a4.tk)) (evs_cons (ev_call (evs_cons (ev_var k7) (evs_cons (ev_dget (hD'.le a4) (ev_var k6) (getL_map (fun p => fr (src N.ties st p)) (hf.sub p hpm))) evs_nil)) ⟨_, _, rfl, s1, s2, rfl⟩) evs_nil)) ⟨_, _, rfl, hso.1, hso.2.1, rfl⟩) ea.tab fun vc H5 a5 hc => ?_
    exact ⟨_, vc, _, _, rfl, ea.trans a5, k2.trans (a4.trans a5).tk, hD'.le (a4.trans a5), hc, hso.2.2, by rw [← e]; show _ + tot _ = acc + (_ + tot _); rw [Rat.add_assoc]⟩
  · rintro σ' H' ⟨acc, va, y6, y7, rfl, a, k2, hD', ha, hso, e⟩
    have e : acc + 0 = tot (told.map fun p => t p * src N.ties st p) := e
    rw [Rat.add_zero] at e
    subst e
    dsimp only
    refine sd_set (d := fr (tot ((N.ties.zip st).map fun q => q.2 * q.2 / q.1.2.2))) (ev_total ?_ hf.los) a.tab fun vl H5 a5 hl => ?_
    · rw [List.map_map]
      refine lc_all (by rw [List.length_zip]; omega) (src_zip (f := tieD) (l := N.ties) (h := fr) (m := st) (ev_ix (ev_var (h1.mono a.tk)) ev_int (dat_nat (j := 1) rfl)) (ev_var (h3.mono a.tk))) (fun _ _ k => k.tk) fun x hx H6 v6 a6 hv6 Q' q' => ?_
      refine g_two hv6 fun w8 w9 k8 k9 => ?_
      have hw := hf.w _ (List.of_mem_zip hx).1
      have hm := hf.sq _ (List.of_mem_zip hx).2
      exact q' [some vn, some vt, some vm, none, some (.ref L), some va, y6, y7, some w8, some w9] rfl (ev_call (evs_cons (ev_call (evs_cons (ev_var k9) (evs_cons (ev_var k9) evs_nil)) ⟨_, _, rfl, hm.1, hm.1, rfl⟩) (evs_cons (ev_ix (ev_var k8) ev_int (dat_nat (j := 2) rfl)) evs_nil)) ⟨_, _, rfl, hm.2, hw.2, hw.1, rfl⟩)
    · refine sd_ret (d := fr (flV N told t st)) (ev_call (evs_cons (ev_var (ha.mono a5.tk)) (evs_cons (ev_call (evs_cons (ev_var hl) evs_nil) ⟨_, rfl, hf.s2, rfl⟩) evs_nil)) ⟨_, _, rfl, hf.s1, hf.s3, rfl⟩) (a.trans a5).tab fun v H6 a6 hv => ?_
      exact q v H6 ((a.trans a5).trans a6) hv
theorem ok_stream_floorX {f C : Addr} {fd : FuncData} (F : Fun K "stream_floor" "stream_floor" s_stream_floor f fd) (m : Mg K mg) (kx : ExcK P K mg "Refused" "word" "word" C) (c_is_strict : Cal P w K mg base "is_strict" ["network"] 2 (Pur T K pStrict)) :
    FnOk P w K mg base (L2.CX P w) 3 f fd ["network", "told", "stream"] (spFloorX T K C) := by
  refine F.okX sc_stream_floor (fun vs H Q E ⟨_, _, _, _, _, e, _⟩ => by rw [e]; rfl) (fun cdv A outer s H vs Q E hr h => ?_)
  obtain ⟨tH, vn, vt, vm, N, rfl, h1, hl, hst, q⟩ := h
  refine ⟨_, (pss_cons (ps_if (pt_not (pt_val (pe_cal c_is_strict (hr.mono (by decide)) (by rfl) (pa_cons (pv 0) pa_nil)))) (pss_one (ps_raise rfl (takes_of rfl rfl rfl rfl) (pmk_sup (k := 0) kx (hr.mono (by decide)) (by rfl) (pa_cons pe_str pa_nil) (by decide) (by decide) (by decide) (by decide) (fun _ _ _ _ _ _ _ _ _ _ _ _ _ _ _ _ _ _ _ _ _ _ => rfl) (fun _ _ _ _ _ => rfl) (fun _ _ _ _ _ _ _ => rfl)))) pss_nil)
      pss_never), ?_⟩
  refine sd_yes (eb_is (eb_not (eb_tB (ev_call (evs_cons (ev_var h1) evs_nil) ⟨N, rfl, hl, rfl⟩))) (by rw [hst]; rfl)) tH fun H1 a1 => ?_
  exact ⟨.str "weight", rfl, fun dd hd => q dd _ (a1.trans (Le.new a1.tab hd)) upd_same⟩
end
end Lf
end

section
set_option maxRecDepth 100000
set_option maxHeartbeats 4000000
set_option exponentiation.threshold 3000
/-! The walk of the law's own fractions. -/
namespace Lf
open PySem PySem.Spec PyProof.Rows L2
section
variable {T : Tabl} {K : PySem.W.Frag} {σ : L2.St} {H : Hp}
theorem src_rng1 {te : TE} {n : Nat} (h : EvD T K te σ H (.int (n : Int))) (hn : n < 2 ^ 62) : Src T (iRng1 (tCons te tNil)) σ H (fun _ _ => True) (List.range n) fun _ v i => v = .int (i : Nat) := fun H1 a Rk q =>
  h H1 a _ fun v H2 a2 hv => by
    cases hv
    refine ⟨(n : Int), rfl, by omega, by omega, ?_⟩
    rw [Int.toNat_natCast]
    refine q _ H2 (fun _ => True) a2 ⟨fun H' _ => ?_, fun i x H' _ tb hi => ?_⟩ fun _ _ => trivial
    · show n ≤ (List.range n).length
      rw [List.length_range]
      exact Nat.le_refl _
    · have hlt := (List.getElem?_eq_some_iff.mp hi).1
      rw [List.length_range] at hlt
      rw [List.getElem?_range hlt] at hi
      cases hi
      refine ⟨hlt, fun v H'' y => ?_⟩
      obtain ⟨rfl, rfl⟩ := y
      exact ⟨Le.refl tb, by rw [Int.zero_add]⟩
theorem src_rng2 {ta tb : TE} {m n : Nat} (h : EvD T K ta σ H (.int (m : Int))) (h2 : EvD T K tb σ H (.int (n : Int))) (hm : m < 2 ^ 62) (hn : n < 2 ^ 62) : Src T (iRng2 (tCons ta (tCons tb tNil))) σ H (fun _ _ => True) (List.range (n - m)) fun _ v i => v = .int ((m + i : Nat) : Int) := fun H1 a Rk q =>
  h H1 a _ fun v H2 a2 hv => h2 H2 (a.trans a2) _ fun u H3 a3 hu => by
    cases hv
    cases hu
    refine ⟨(m : Int), (n : Int), rfl, by omega, ?_⟩
    have e : ((n : Int) - (m : Int)).toNat = n - m := by omega
    rw [e]
    refine q _ H3 (fun _ => True) (a2.trans a3) ⟨fun H' _ => ?_, fun i x H' _ tb hi => ?_⟩ fun _ _ => trivial
    · show n - m ≤ (List.range (n - m)).length
      rw [List.length_range]
      exact Nat.le_refl _
    · have hlt := (List.getElem?_eq_some_iff.mp hi).1
      rw [List.length_range] at hlt
      rw [List.getElem?_range hlt] at hi
      cases hi
      refine ⟨hlt, fun v H'' y => ?_⟩
      obtain ⟨rfl, rfl⟩ := y
      exact ⟨Le.refl tb, by rw [Int.natCast_add]⟩
end
/-- Euclid ends within n turns -/
def Eu : Nat → Nat → Nat → Prop
  | 0, _, l => l = 0
  | n + 1, h, l => l = 0 ∨ Eu n l (h % l)
theorem Eu.mono : ∀ {n : Nat} {h l : Nat}, Eu n h l → Eu (n + 1) h l
  | 0, _, _, e => .inl e
  | n + 1, h, l, e => e.elim .inl fun z => .inr (Eu.mono z)
theorem eu_pow : ∀ (k h l : Nat), l < 2 ^ k → Eu (2 * k) h l
  | 0, h, l, hl => by
    show l = 0
    rw [Nat.pow_zero] at hl
    omega
  | k + 1, h, l, hl => by
    show Eu (2 * k + 1 + 1) h l
    by_cases z : l = 0
    · exact .inl z
    · refine .inr ?_
      by_cases z1 : h % l = 0
      · exact .inl z1
      · refine .inr (eu_pow k _ _ ?_)
        have h1 : h % l < l := Nat.mod_lt _ (by omega)
        have h2 : l % (h % l) < h % l := Nat.mod_lt _ (by omega)
        have h3 : l % (h % l) + h % l ≤ l := by
          have e := Nat.mod_add_div l (h % l)
          have d : 1 ≤ l / (h % l) := Nat.div_pos (by omega) (by omega)
          have : (h % l) * 1 ≤ (h % l) * (l / (h % l)) := Nat.mul_le_mul_left _ d
          omega
        rw [Nat.pow_succ] at hl
        omega
def pLess : List PyData → PyData → Prop := fun ds r => ∃ x y : Rat, ds = [fr x, fr y] ∧ Sm x ∧ Sm y ∧ r = .bool (decide (x < y))
section
variable {P : Program} {w : World} {K : PySem.W.Frag} {mg : Str → Option Value} {base : Heap} {T : Tabl}
abbrev s_law_frac : Stmt := topS 41
abbrev N_law_frac : List Str := ["_law_top", "_law_bottom", "_law_turn", "_law_high", "_law_low"]
theorem sc_law_frac : FnScope N_law_frac ["_law_top", "_law_bottom"] (defScope s_law_frac) := ⟨rfl, rfl, rfl, by decide +kernel, rfl, by decide +kernel, by decide +kernel⟩
theorem ok_law_frac {f : Addr} {fd : FuncData} (F : Fun K "_law_frac" "_law_frac" s_law_frac f fd) (m : Mg K mg) : FnOk P w K mg base CX0 1 f fd ["_law_top", "_law_bottom"] (Pur T K pFraction) := by
  refine F.ok sc_law_frac (pur_len fun ds r ⟨_, _, e, _⟩ => by rw [e]; rfl) (fun cdv A outer s H vs Q E hr h => ?_)
  obtain ⟨tH, ds, r, hv, ⟨t, b, rfl, hb, hs, rfl⟩, q⟩ := h
  cases hv with
  | cons h1 h2 =>
  cases h2 with
  | cons h2 h3 =>
  cases h3
  cases h1
  cases h2
  refine ⟨_, (pss_cons (ps_par (i := 3) (j := 4) rfl sc_law_frac.nd rfl rfl (by decide) rfl rfl (pa_cons (pe_callB w_abs (by rfl) m.abs (by decide +kernel) (pa_cons (pv 0) pa_nil)) (pa_cons (pe_callB w_abs (by rfl) m.abs (by decide +kernel) (pa_cons (pv 1) pa_nil)) pa_nil)) (by rfl))
      (pss_cons (ps_for PassesOwn.never rfl (pi_range1 (by rfl) m.rng (pa_cons pe_int pa_nil)) (pg_name (i := 2) sc_law_frac.nd rfl (.inl rfl)) (pss_cons (ps_if (pt_cmpR op_eq (pv 4) pe_int (nomark _)) (pss_one ps_break) pss_nil)
      (pss_one (ps_par (i := 3) (j := 4) rfl sc_law_frac.nd rfl rfl (by decide) rfl rfl (pa_cons (pv 4) (pa_cons (pe_op op_modN (pe_callTy w_int (by rfl) m.int (by decide +kernel) (pa_cons (pv 3) pa_nil)) (pv 4)) pa_nil)) (by rfl)))))
      (pss_cons (ps_set (i := 3) sc_law_frac.nd rfl (.inl rfl) (pe_ifExp (pt_cmpR op_gt (pv 1) pe_int (nomark _)) (pv 3) (pe_un un_neg (pv 3))))
      (pss_one (ps_ret (pe_tup (pa_cons (pe_op op_fdivW (pv 0) (pv 3)) (pa_cons (pe_op op_fdivW (pv 1) (pv 3)) pa_nil)))))))), ?_⟩
  have ab : ∀ i : Int, (if i < 0 then -i else i) = ((i.natAbs : Nat) : Int) := fun i => by split <;> omega
  refine sd_par (d := .int ((t.natAbs : Nat) : Int)) (e := .int ((b.natAbs : Nat) : Int)) (evs_cons (ev_is (ev_abs (ev_var (K := K) (.int t))) (by rw [ab])) (evs_cons (ev_is (ev_abs (ev_var (K := K) (.int b))) (by rw [ab])) evs_nil)) tH fun v1 v2 H1 a1 d1 d2 => ?_
  cases d1
  cases d2
  refine for_src (src_rng1 (K := K) (n := 6000) ev_int (by decide)) a1.tab fun H2 a2 => ⟨fun r σ' H' => ∃ (h l n : Nat) (y : Option V), σ' = [some (.int t), some (.int b), y, some (.int (h : Int)), some (.int (l : Int))] ∧ Le T H H' ∧ Nat.gcd h l = Nat.gcd t.natAbs b.natAbs ∧ Eu n h l ∧ n < r.length,
    ⟨t.natAbs, b.natAbs, 2 * 2801, none, rfl, a1.trans a2, rfl, eu_pow 2801 _ _ hs, by rw [List.length_range]; decide⟩, fun r σ' H' ⟨_, _, _, _, _, k, _⟩ => ⟨trivial, k.tab⟩, ?_, ?_⟩
  · rintro x r σ' H' H'' v hxm ⟨h, l, n, y, rfl, a, eg, eu, en⟩ a3 rfl
    have ea := a.trans a3
    by_cases hl : l = 0
    · subst hl
      have g0 : h = Nat.gcd t.natAbs b.natAbs := by rw [← eg, Nat.gcd_zero_right]
      subst g0
      refine sd_yes (eb_is (eb_test (ev_eqI (ev_var (K := K) (.int _)) ev_int)) rfl) ea.tab fun H3 a4 => ?_
      have e4 := ea.trans a4
      have gp : 0 < Nat.gcd t.natAbs b.natAbs := Nat.gcd_pos_of_pos_right _ (by omega)
      have gs : (((Nat.gcd t.natAbs b.natAbs : Nat) : Int)).natAbs < 2 ^ 2801 := by
        refine Nat.lt_of_le_of_lt ?_ hs
        rw [Int.natAbs_natCast]
        exact Nat.gcd_le_right _ (by omega)
      show tSeq _ _ _ _ _
      refine sd_set (d := .int ((Nat.gcd t.natAbs b.natAbs : Nat) : Int)) (ev_if (b := true) (eb_is (eb_test (ev_opB (g := fun i j => decide (j < i)) (ev_var (K := K) (.int b)) ev_int)) (decide_eq_true hb)) (fun _ => ev_var (K := K) (.int _)) fun z => by cases z) e4.tab fun vg H5 a5 hg => ?_
      cases hg
      have e5 := e4.trans a5
      have dv : CDivW t ((Nat.gcd t.natAbs b.natAbs : Nat) : Int) := wide_div (by omega) gs (by decide) (by decide)
      have dv2 : CDivW b ((Nat.gcd t.natAbs b.natAbs : Nat) : Int) := wide_div (by omega) gs (by decide) (by decide)
      dsimp only
      refine sd_ret (ev_tup (evs_cons (ev_opC (ev_var (K := K) (.int t)) (ev_var (K := K) (.int _)) dv) (evs_cons (ev_opC (ev_var (K := K) (.int b)) (ev_var (K := K) (.int _)) dv2) evs_nil))) e5.tab fun v H6 a6 h6 => ?_
      rw [← fr_mk t b hb] at h6
      exact q v H6 (e5.trans a6) h6
    · refine sd_no (eb_is (eb_test (ev_eqI (ev_var (K := K) (.int _)) ev_int)) (decide_eq_false (by omega))) ea.tab fun H3 a4 => ?_
      have e4 := ea.trans a4
      refine sd_par (d := .int ((l : Nat) : Int)) (e := .int ((h % l : Nat) : Int)) (evs_cons (ev_var (K := K) (.int _)) (evs_cons (ev_is (ev_opC (g := fun i j => i.fmod j) (ev_int1 (ev_var (K := K) (.int (h : Int)))) (ev_var (K := K) (.int (l : Int))) (by omega)) (by rw [Int.fmod_eq_emod_of_nonneg _ (by omega), ← Int.natCast_emod])) evs_nil)) e4.tab fun v1 v2 H5 a5 d1 d2 => ?_
      cases d1
      cases d2
      obtain ⟨n', rfl⟩ : ∃ n', n = n' + 1 := by
        cases n with
        | zero => exact absurd eu hl
        | succ n' => exact ⟨n', rfl⟩
      refine ⟨l, h % l, n', _, rfl, e4.trans a5, ?_, eu.elim (fun z => absurd z hl) id, by simp only [List.length_cons] at en; omega⟩
      rw [← eg, Nat.gcd_comm h l, Nat.gcd_rec l h, Nat.gcd_comm]
  · rintro σ' H' ⟨h, l, n, y, rfl, a, eg, eu, en⟩
    exact absurd en (Nat.not_lt_zero _)
abbrev s_law_plus : Stmt := topS 42
abbrev N_law_plus : List Str := ["_law_one", "_law_other"]
theorem sc_law_plus : FnScope N_law_plus ["_law_one", "_law_other"] (defScope s_law_plus) := ⟨rfl, rfl, rfl, by decide +kernel, rfl, by decide +kernel, by decide +kernel⟩
theorem ok_law_plus {f : Addr} {fd : FuncData} (F : Fun K "_law_plus" "_law_plus" s_law_plus f fd) (c_law_frac : Cal P w K mg base "_law_frac" ["_law_top", "_law_bottom"] 1 (Pur T K pFraction)) : FnOk P w K mg base CX0 2 f fd ["_law_one", "_law_other"] (Pur T K pPlus) := by
  refine F.ok sc_law_plus (pur_len fun ds r ⟨_, _, e, _⟩ => by rw [e]; rfl) (fun cdv A outer s H vs Q E hr h => ?_)
  obtain ⟨tH, ds, r, hv, ⟨x, y, rfl, hx, hy, rfl⟩, q⟩ := h
  cases hv with
  | cons h1 h2 =>
  cases h2 with
  | cons h2 h3 =>
  cases h3
  refine ⟨_, (pss_one (ps_ret (pe_cal c_law_frac (hr.mono (by decide)) (by rfl) (pa_cons (pe_op op_add (pe_op op_mulW (pe_ix (w_ixT (K := K)) (pv 0) pe_int (fun _ _ => rfl)) (pe_ix (w_ixT (K := K)) (pv 1) pe_int (fun _ _ => rfl))) (pe_op op_mulW (pe_ix (w_ixT (K := K)) (pv 1) pe_int (fun _ _ => rfl)) (pe_ix (w_ixT (K := K)) (pv 0) pe_int (fun _ _ => rfl)))) (pa_cons (pe_op op_mulW (pe_ix (w_ixT (K := K)) (pv 0) pe_int (fun _ _ => rfl)) (pe_ix (w_ixT (K := K)) (pv 1) pe_int (fun _ _ => rfl))) pa_nil))))), ?_⟩
  refine sd_ret (ev_call (evs_cons (ev_op (ev_opC (ev_ix (ev_var h1) ev_int (dat_nat (j := 0) rfl)) (ev_ix (ev_var h2) ev_int (dat_nat (j := 1) rfl)) (Sm.mul hx.1 hy.dn)) (ev_opC (ev_ix (ev_var h2) ev_int (dat_nat (j := 0) rfl)) (ev_ix (ev_var h1) ev_int (dat_nat (j := 1) rfl)) (Sm.mul hy.1 hx.dn))) (evs_cons (ev_opC (ev_ix (ev_var h1) ev_int (dat_nat (j := 1) rfl)) (ev_ix (ev_var h2) ev_int (dat_nat (j := 1) rfl)) (Sm.mul hx.dn hy.dn)) evs_nil)) ⟨x.num * y.den + y.num * x.den, (x.den : Int) * (y.den : Int), rfl, by have a := Sm.den_pos x; have b := Sm.den_pos y; exact Int.mul_pos a b, Nat.lt_trans (Sm.prod hx.dn hy.dn) (by decide +kernel), rfl⟩) tH fun v H1 a1 hv1 => ?_
  rw [← add_mk] at hv1
  exact q v H1 a1 hv1
abbrev s_law_less : Stmt := topS 43
abbrev N_law_less : List Str := ["_law_one", "_law_other"]
theorem sc_law_less : FnScope N_law_less ["_law_one", "_law_other"] (defScope s_law_less) := ⟨rfl, rfl, rfl, by decide +kernel, rfl, by decide +kernel, by decide +kernel⟩
theorem ok_law_less {f : Addr} {fd : FuncData} (F : Fun K "_law_less" "_law_less" s_law_less f fd) (c_law_frac : Cal P w K mg base "_law_frac" ["_law_top", "_law_bottom"] 1 (Pur T K pFraction)) : FnOk P w K mg base CX0 2 f fd ["_law_one", "_law_other"] (Pur T K pMinus) := by
  refine F.ok sc_law_less (pur_len fun ds r ⟨_, _, e, _⟩ => by rw [e]; rfl) (fun cdv A outer s H vs Q E hr h => ?_)
  obtain ⟨tH, ds, r, hv, ⟨x, y, rfl, hx, hy, rfl⟩, q⟩ := h
  cases hv with
  | cons h1 h2 =>
  cases h2 with
  | cons h2 h3 =>
  cases h3
  refine ⟨_, (pss_one (ps_ret (pe_cal c_law_frac (hr.mono (by decide)) (by rfl) (pa_cons (pe_op op_sub (pe_op op_mulW (pe_ix (w_ixT (K := K)) (pv 0) pe_int (fun _ _ => rfl)) (pe_ix (w_ixT (K := K)) (pv 1) pe_int (fun _ _ => rfl))) (pe_op op_mulW (pe_ix (w_ixT (K := K)) (pv 1) pe_int (fun _ _ => rfl)) (pe_ix (w_ixT (K := K)) (pv 0) pe_int (fun _ _ => rfl)))) (pa_cons (pe_op op_mulW (pe_ix (w_ixT (K := K)) (pv 0) pe_int (fun _ _ => rfl)) (pe_ix (w_ixT (K := K)) (pv 1) pe_int (fun _ _ => rfl))) pa_nil))))), ?_⟩
  refine sd_ret (ev_call (evs_cons (ev_op (ev_opC (ev_ix (ev_var h1) ev_int (dat_nat (j := 0) rfl)) (ev_ix (ev_var h2) ev_int (dat_nat (j := 1) rfl)) (Sm.mul hx.1 hy.dn)) (ev_opC (ev_ix (ev_var h2) ev_int (dat_nat (j := 0) rfl)) (ev_ix (ev_var h1) ev_int (dat_nat (j := 1) rfl)) (Sm.mul hy.1 hx.dn))) (evs_cons (ev_opC (ev_ix (ev_var h1) ev_int (dat_nat (j := 1) rfl)) (ev_ix (ev_var h2) ev_int (dat_nat (j := 1) rfl)) (Sm.mul hx.dn hy.dn)) evs_nil)) ⟨x.num * y.den - y.num * x.den, (x.den : Int) * (y.den : Int), rfl, by have a := Sm.den_pos x; have b := Sm.den_pos y; exact Int.mul_pos a b, Nat.lt_trans (Sm.prod hx.dn hy.dn) (by decide +kernel), rfl⟩) tH fun v H1 a1 hv1 => ?_
  rw [← sub_mk] at hv1
  exact q v H1 a1 hv1
abbrev s_law_times : Stmt := topS 44
abbrev N_law_times : List Str := ["_law_one", "_law_other"]
theorem sc_law_times : FnScope N_law_times ["_law_one", "_law_other"] (defScope s_law_times) := ⟨rfl, rfl, rfl, by decide +kernel, rfl, by decide +kernel, by decide +kernel⟩
theorem ok_law_times {f : Addr} {fd : FuncData} (F : Fun K "_law_times" "_law_times" s_law_times f fd) (c_law_frac : Cal P w K mg base "_law_frac" ["_law_top", "_law_bottom"] 1 (Pur T K pFraction)) : FnOk P w K mg base CX0 2 f fd ["_law_one", "_law_other"] (Pur T K pTimes) := by
  refine F.ok sc_law_times (pur_len fun ds r ⟨_, _, e, _⟩ => by rw [e]; rfl) (fun cdv A outer s H vs Q E hr h => ?_)
  obtain ⟨tH, ds, r, hv, ⟨x, y, rfl, hx, hy, rfl⟩, q⟩ := h
  cases hv with
  | cons h1 h2 =>
  cases h2 with
  | cons h2 h3 =>
  cases h3
  refine ⟨_, (pss_one (ps_ret (pe_cal c_law_frac (hr.mono (by decide)) (by rfl) (pa_cons (pe_op op_mulW (pe_ix (w_ixT (K := K)) (pv 0) pe_int (fun _ _ => rfl)) (pe_ix (w_ixT (K := K)) (pv 1) pe_int (fun _ _ => rfl))) (pa_cons (pe_op op_mulW (pe_ix (w_ixT (K := K)) (pv 0) pe_int (fun _ _ => rfl)) (pe_ix (w_ixT (K := K)) (pv 1) pe_int (fun _ _ => rfl))) pa_nil))))), ?_⟩
  refine sd_ret (ev_call (evs_cons (ev_opC (ev_ix (ev_var h1) ev_int (dat_nat (j := 0) rfl)) (ev_ix (ev_var h2) ev_int (dat_nat (j := 0) rfl)) (Sm.mul hx.1 hy.1)) (evs_cons (ev_opC (ev_ix (ev_var h1) ev_int (dat_nat (j := 1) rfl)) (ev_ix (ev_var h2) ev_int (dat_nat (j := 1) rfl)) (Sm.mul hx.dn hy.dn)) evs_nil)) ⟨x.num * y.num, (x.den : Int) * (y.den : Int), rfl, by have a := Sm.den_pos x; have b := Sm.den_pos y; exact Int.mul_pos a b, Nat.lt_trans (Sm.prod hx.dn hy.dn) (by decide +kernel), rfl⟩) tH fun v H1 a1 hv1 => ?_
  rw [← mul_mk] at hv1
  exact q v H1 a1 hv1
abbrev s_law_over : Stmt := topS 45
abbrev N_law_over : List Str := ["_law_one", "_law_other"]
theorem sc_law_over : FnScope N_law_over ["_law_one", "_law_other"] (defScope s_law_over) := ⟨rfl, rfl, rfl, by decide +kernel, rfl, by decide +kernel, by decide +kernel⟩
theorem ok_law_over {f : Addr} {fd : FuncData} (F : Fun K "_law_over" "_law_over" s_law_over f fd) (c_law_frac : Cal P w K mg base "_law_frac" ["_law_top", "_law_bottom"] 1 (Pur T K pFraction)) : FnOk P w K mg base CX0 2 f fd ["_law_one", "_law_other"] (Pur T K pOver) := by
  refine F.ok sc_law_over (pur_len fun ds r ⟨_, _, e, _⟩ => by rw [e]; rfl) (fun cdv A outer s H vs Q E hr h => ?_)
  obtain ⟨tH, ds, r, hv, ⟨x, y, rfl, hx, hy, h0, rfl⟩, q⟩ := h
  cases hv with
  | cons h1 h2 =>
  cases h2 with
  | cons h2 h3 =>
  cases h3
  refine ⟨_, (pss_one (ps_ret (pe_cal c_law_frac (hr.mono (by decide)) (by rfl) (pa_cons (pe_op op_mulW (pe_ix (w_ixT (K := K)) (pv 0) pe_int (fun _ _ => rfl)) (pe_ix (w_ixT (K := K)) (pv 1) pe_int (fun _ _ => rfl))) (pa_cons (pe_op op_mulW (pe_ix (w_ixT (K := K)) (pv 0) pe_int (fun _ _ => rfl)) (pe_ix (w_ixT (K := K)) (pv 1) pe_int (fun _ _ => rfl))) pa_nil))))), ?_⟩
  refine sd_ret (ev_call (evs_cons (ev_opC (ev_ix (ev_var h1) ev_int (dat_nat (j := 0) rfl)) (ev_ix (ev_var h2) ev_int (dat_nat (j := 1) rfl)) (Sm.mul hx.1 hy.dn)) (evs_cons (ev_opC (ev_ix (ev_var h1) ev_int (dat_nat (j := 1) rfl)) (ev_ix (ev_var h2) ev_int (dat_nat (j := 0) rfl)) (Sm.mul hx.dn hy.1)) evs_nil)) ⟨x.num * y.den, (x.den : Int) * y.num, rfl, Int.mul_pos (Sm.den_pos x) (num_pos h0), Nat.lt_trans (Sm.prod hx.dn hy.1) (by decide +kernel), rfl⟩) tH fun v H1 a1 hv1 => ?_
  rw [← over_mk x y h0] at hv1
  exact q v H1 a1 hv1
abbrev s_law_is_less : Stmt := topS 48
abbrev N_law_is_less : List Str := ["_law_one", "_law_other"]
theorem sc_law_is_less : FnScope N_law_is_less ["_law_one", "_law_other"] (defScope s_law_is_less) := ⟨rfl, rfl, rfl, by decide +kernel, rfl, by decide +kernel, by decide +kernel⟩
theorem ok_law_is_less {f : Addr} {fd : FuncData} (F : Fun K "_law_is_less" "_law_is_less" s_law_is_less f fd) : FnOk P w K mg base CX0 1 f fd ["_law_one", "_law_other"] (Pur T K pLess) := by
  refine F.ok sc_law_is_less (pur_len fun ds r ⟨_, _, e, _⟩ => by rw [e]; rfl) (fun cdv A outer s H vs Q E hr h => ?_)
  obtain ⟨tH, ds, r, hv, ⟨x, y, rfl, hx, hy, rfl⟩, q⟩ := h
  cases hv with
  | cons h1 h2 =>
  cases h2 with
  | cons h2 h3 =>
  cases h3
  refine ⟨_, (pss_one (ps_ret (pe_cmpR op_lt (pe_op op_mulW (pe_ix (w_ixT (K := K)) (pv 0) pe_int (fun _ _ => rfl)) (pe_ix (w_ixT (K := K)) (pv 1) pe_int (fun _ _ => rfl))) (pe_op op_mulW (pe_ix (w_ixT (K := K)) (pv 1) pe_int (fun _ _ => rfl)) (pe_ix (w_ixT (K := K)) (pv 0) pe_int (fun _ _ => rfl))) (nomark _)))), ?_⟩
  refine sd_ret (d := .bool (decide (x < y))) (ev_is (ev_opB (g := fun i j => decide (i < j)) (ev_opC (ev_ix (ev_var h1) ev_int (dat_nat (j := 0) rfl)) (ev_ix (ev_var h2) ev_int (dat_nat (j := 1) rfl)) (Sm.mul hx.1 hy.dn)) (ev_opC (ev_ix (ev_var h2) ev_int (dat_nat (j := 0) rfl)) (ev_ix (ev_var h1) ev_int (dat_nat (j := 1) rfl)) (Sm.mul hy.1 hx.dn))) (by rw [decide_eq_decide.mpr (Rat.lt_iff x y).symm])) tH fun v H1 a1 hv1 => q v H1 a1 hv1
end
end Lf
end

section
set_option maxRecDepth 100000
set_option maxHeartbeats 4000000
set_option exponentiation.threshold 3000
/-! The walk of the deal. -/
namespace Lf
open PySem PySem.Spec PyProof.Rows L2
/-- the deal: a list of cells at C, a mixed number -/
def Deal (H : Hp) (D C : Addr) : Prop := D ≠ C ∧ ∃ (mix : Int) (cells : List Int), H D = some (.lst [.ref C, .int mix]) ∧ H C = some (.lst (cells.map V.int)) ∧ 0 ≤ mix ∧ mix < 2147483647 ∧ cells.length ≤ 63 ∧ ∀ c ∈ cells, 0 ≤ c
/-- nothing but the deal is changed -/
structure Lx (T : Tabl) (D C : Addr) (H H' : Hp) : Prop where
  keep : ∀ b o, H b = some o → (∀ ps, o ≠ .tbl ps) → b ≠ D → b ≠ C → H' b = some o
  tab : LamX.Tabs T H'
  d0 : Deal H D C
  d1 : Deal H' D C
section
variable {T : Tabl} {D C : Addr} {H H1 H2 H' : Hp} {K : PySem.W.Frag}
theorem Lx.refl (h : LamX.Tabs T H) (d : Deal H D C) : Lx T D C H H := ⟨fun _ _ h _ _ _ => h, h, d, d⟩
theorem Lx.trans (a : Lx T D C H H1) (b : Lx T D C H1 H2) : Lx T D C H H2 := ⟨fun c o h n h1 h2 => b.keep c o (a.keep c o h n h1 h2) n h1 h2, b.tab, a.d0, b.d1⟩
theorem Deal.le (d : Deal H D C) (a : Le T H H') : Deal H' D C := by
  obtain ⟨h0, m, cs, h1, h2, h3⟩ := d
  exact ⟨h0, m, cs, a.at_ h1 pl_lst, a.at_ h2 pl_lst, h3⟩
theorem Lx.of (d : Deal H D C) (a : Le T H H') : Lx T D C H H' := ⟨fun b o h n _ _ => a.ext b o h n, a.tab, d, d.le a⟩
theorem Lx.le (a : Lx T D C H H1) (b : Le T H1 H2) : Lx T D C H H2 := a.trans (.of a.d1 b)
theorem Lx.tk (a : Lx T D C H H') : TK H H' := fun b xs h => by
  obtain ⟨h0, m, cs, h1, h2, _⟩ := a.d0
  have ne : ∀ o, H b = some o → (∀ ys, o ≠ .lst ys) → b ≠ D ∧ b ≠ C := fun o ho hl => ⟨fun e => by subst e; rw [h1] at ho; exact hl _ (Option.some.inj ho).symm, fun e => by subst e; rw [h2] at ho; exact hl _ (Option.some.inj ho).symm⟩
  rcases h with h | ⟨o, h⟩
  · have n := ne _ h fun ys z => by cases z
    exact .inl (a.keep b _ h (fun _ z => by cases z) n.1 n.2)
  · have n := ne _ h fun ys z => by cases z
    exact .inr ⟨o, a.keep b _ h (fun _ z => by cases z) n.1 n.2⟩
theorem DF.lx {v : V} {ds : List PyData} (h : DF K H v ds) (a : Lx T D C H H') : DF K H' v ds := by
  obtain ⟨b, o, xs, e, h1, h2, h3⟩ := h
  obtain ⟨h0, m, cs, d1, d2, _⟩ := a.d0
  refine ⟨b, o, xs, e, a.keep b _ h1 (fun _ z => by cases z) (fun z => ?_) (fun z => ?_), h2, h3.mono a.tk⟩
  · subst z; rw [d1] at h1; cases h1
  · subst z; rw [d2] at h1; cases h1
/-- the deal's cells are changed -/
theorem Lx.cells (h : LamX.Tabs T H) (d : Deal H D C) {cs : List Int} (hn : ∀ c ∈ cs, 0 ≤ c) (hl : cs.length ≤ 63) : Lx T D C H (upd H C (.lst (cs.map V.int))) := by
  obtain ⟨h0, m, cs0, h1, h2, h3⟩ := id d
  exact ⟨fun b o e n _ hC => by rw [upd_ne hC]; exact e, tabs_mut h h2 pl_lst, d, h0, m, cs, by rw [upd_ne h0]; exact h1, upd_same, h3.1, h3.2.1, hl, hn⟩
theorem Lx.mixed (h : LamX.Tabs T H) (d : Deal H D C) {m : Int} (m0 : 0 ≤ m) (m1 : m < 2147483647) : Lx T D C H (upd H D (.lst [.ref C, .int m])) := by
  obtain ⟨h0, m', cs0, h1, h2, h3⟩ := id d
  exact ⟨fun b o e n hD _ => by rw [upd_ne hD]; exact e, tabs_mut h h1 pl_lst, d, h0, m, cs0, upd_same, by rw [upd_ne (Ne.symm h0)]; exact h2, m0, m1, h3.2.2.1, h3.2.2.2⟩
end
def spAny (T : Tabl) (K : PySem.W.Frag) : Sp := fun vs H Q _ => LamX.Tabs T H ∧ ∃ (D C : Addr) (n : Int), vs = [.ref D, .int n] ∧ Deal H D C ∧ 0 < n ∧ n < 1073741824 ∧ ∀ r H', 0 ≤ r → r < n → Lx T D C H H' → Q (.int r) H'
def spOf (T : Tabl) (K : PySem.W.Frag) : Sp := fun vs H Q _ => LamX.Tabs T H ∧ ∃ (D C L : Addr) (xs : List V), vs = [.ref D, .ref L] ∧ Deal H D C ∧ H L = some (.lst xs) ∧ L ≠ D ∧ L ≠ C ∧ xs ≠ [] ∧ xs.length < 100000 ∧ ∀ (i : Nat) (v : V) H', xs[i]? = some v → Lx T D C H H' → Q v H'
def spSome (T : Tabl) (K : PySem.W.Frag) : Sp := fun vs H Q _ => LamX.Tabs T H ∧ ∃ (D C : Addr) (n : Nat), vs = [.ref D, .int n] ∧ Deal H D C ∧ n ≤ 1000 ∧ ∀ (x : Rat) v H', IB 12 n x → Lx T D C H H' → Dt K H' v (fr x) → Q v H'
def spDeal (T : Tabl) (K : PySem.W.Frag) : Sp := fun vs H Q _ => LamX.Tabs T H ∧ ∃ (a : Addr) (ns : List Int) (b : Int), vs = [.ref a, .int b] ∧ SqL K H a (ns.map V.int) ∧ 0 ≤ b ∧ b < 1000 ∧ ∀ D C H', Le T H H' → Nf H D → Nf H C → Deal H' D C → Q (.ref D) H'
theorem dp_ints {K : PySem.W.Frag} {H : Hp} : ∀ cs : List Int, DpAll K H (cs.map V.int) (cs.map PyData.int)
  | [] => .nil
  | c :: cs => .cons (.int c) (dp_ints cs)
theorem map_int_inj : ∀ {a b : List Int}, a.map V.int = b.map V.int → a = b
  | [], [], _ => rfl
  | [], _ :: _, e => by simp at e
  | _ :: _, [], e => by simp at e
  | x :: a, y :: b, e => by
    rw [List.map_cons, List.map_cons] at e
    injection e with e1 e2
    rw [V.int.inj e1, map_int_inj e2]
theorem shaped_ints (cs : List Int) : SeqAt.shaped (.list (cs.map PyData.int)) = true := by
  first
    | exact PySem.W.ke_shaped_ints cs
    | exact PyProof.Rows.ke_shaped_ints cs
    | exact PySem.ke_shaped_ints cs
theorem eqv_nil : ∀ cs : List Int, PyData.eqv (.list (cs.map PyData.int)) (.list []) = decide (cs = [])
  | [] => by simp [PyData.eqv, PyData.eqvAll]
  | c :: cs => by simp [PyData.eqv, PyData.eqvAll]
theorem ixn_last {n : Nat} (h : 0 < n) : ixN n (-1) = some (n - 1) := by
  unfold ixN
  rw [if_neg (by omega)]
  first
    | (rw [if_pos (by omega)]; congr 1; omega)
    | (simp; omega)
section
variable {P : Program} {w : World} {K : PySem.W.Frag} {mg : Str → Option Value} {base : Heap} {T : Tabl}
abbrev s_law_any : Stmt := topS 39
abbrev N_law_any : List Str := ["_law_deal_here", "_law_bound", "_law_rest"]
theorem sc_law_any : FnScope N_law_any ["_law_deal_here", "_law_bound"] (defScope s_law_any) := ⟨rfl, rfl, rfl, by decide +kernel, rfl, by decide +kernel, by decide +kernel⟩
theorem ok_law_any {f : Addr} {fd : FuncData} (F : Fun K "_law_any" "_law_any" s_law_any f fd) (m : Mg K mg) : FnOk P w K mg base CX0 1 f fd ["_law_deal_here", "_law_bound"] (spAny T K) := by
  refine F.ok sc_law_any (fun vs H Q E ⟨_, _, _, _, e, _⟩ => by rw [e]; rfl) (fun cdv A outer s H vs Q E hr h => ?_)
  obtain ⟨tH, D, C, n, rfl, hd, n0, n1, q⟩ := h
  refine ⟨_, (pss_cons (ps_while PassesOwn.never (PW.pt (pw_and (pt_cmpR (w_neD (K := K) hr.units) (pe_ix (w_ixL (K := K)) (pv 0) pe_int (fun _ _ => rfl)) (pe_lst pa_nil) (nomark _)) (pw_and1 (pt_cmpR op_eq (pe_ix (w_ixL (K := K)) (pe_ix (w_ixL (K := K)) (pv 0) pe_int (fun _ _ => rfl)) (pe_un un_neg pe_int) (fun _ _ => rfl)) pe_int (nomark _))))) (pss_one (ps_expr (pe_bm0 PySem.F.plainAttrs_list PySem.F.slot_list_pop PySem.F.type_list_pop mt_pop (pe_ix (w_ixL (K := K)) (pv 0) pe_int (fun _ _ => rfl))))))
      (pss_cons (ps_if (pt_cmpR (w_neD (K := K) hr.units) (pe_ix (w_ixL (K := K)) (pv 0) pe_int (fun _ _ => rfl)) (pe_lst pa_nil) (nomark _)) (pss_cons (ps_set (i := 2) sc_law_any.nd rfl (.inl rfl) (pe_callTy w_int (by rfl) m.int (by decide +kernel) (pa_cons (pe_bm0 PySem.F.plainAttrs_list PySem.F.slot_list_pop PySem.F.type_list_pop mt_pop (pe_ix (w_ixL (K := K)) (pv 0) pe_int (fun _ _ => rfl))) pa_nil)))
      (pss_cons (ps_expr (pe_bm PySem.F.plainAttrs_list PySem.F.slot_list_append PySem.F.type_list_append mt_append (pe_ix (w_ixL (K := K)) (pv 0) pe_int (fun _ _ => rfl)) (pa_cons (pe_op op_fdivN (pv 2) (pv 1)) pa_nil)))
      (pss_one (ps_ret (pe_op op_modN (pv 2) (pv 1)))))) pss_nil)
      (pss_cons (ps_asg (pe_op op_modN (pe_callTy w_int (by rfl) m.int (by decide +kernel) (pa_cons (pe_op op_add (pe_op op_mul (pe_ix (w_ixL (K := K)) (pv 0) pe_int (fun _ _ => rfl)) pe_int) pe_int) pa_nil)) pe_int) (pg_sub (pv 0) pe_int set_list))
      (pss_one (ps_ret (pe_op op_modN (pe_callTy w_int (by rfl) m.int (by decide +kernel) (pa_cons (pe_op op_fdivN (pe_ix (w_ixL (K := K)) (pv 0) pe_int (fun _ _ => rfl)) pe_int) pa_nil)) (pv 1))))))), ?_⟩
  -- the deal's cells, at any time
  have cellsAt : ∀ {H1 : Hp}, Deal H1 D C → ∀ {Q : VK}, Q (.ref C) H1 → ∀ {σ : L2.St}, σ[0]? = some (some (.ref D)) → (tOp (rIxL K) (tVar 0) (tC (.int 0))) σ H1 Q := fun hd Q q σ hσ => by
    obtain ⟨h0, mx, cs, e1, e2, _⟩ := hd
    exact ⟨.ref D, hσ, D, [.ref C, .int mx], 0, .ref C, rfl, rfl, SqL.of e1, rfl, q⟩
  have isEmp : ∀ {H1 : Hp} {σ : L2.St} {cs : List Int}, σ[0]? = some (some (.ref D)) → LamX.Tabs T H1 → Deal H1 D C → H1 C = some (.lst (cs.map V.int)) → ∀ {Q : Bool → Hp → Prop}, (∀ H2, Lx T D C H1 H2 → H2 C = some (.lst (cs.map V.int)) → Q (!decide (cs = [])) H2) →
      (tTest (tOp (rNeD K) (tOp (rIxL K) (tVar 0) (tC (.int 0))) (tLst tNil))) σ H1 Q := fun {H1 σ cs} hσ tb hd hC Q q => by
    refine cellsAt hd (σ := σ) ?_ hσ
    refine ⟨Nat.zero_le _, fun p hp => ?_⟩
    have n := Le.new (o := .lst []) tb hp
    have lx := Lx.of hd n
    have hC2 : (upd H1 p (.lst [])) C = some (.lst (cs.map V.int)) := n.at_ hC pl_lst
    refine ⟨.list (cs.map PyData.int), .list [], .lst (SqL.of hC2) (dp_ints cs), .lst (SqL.of upd_same) .nil, shaped_ints cs, shaped_ints [], _, rfl, ?_⟩
    rw [eqv_nil]
    exact q _ lx hC2
  refine ⟨fun k σ' H' => Lx T D C H H' ∧ σ' = [some (.ref D), some (.int n), none] ∧ ∃ cs : List Int, H' C = some (.lst (cs.map V.int)) ∧ k = cs.length, ?_, ?_⟩
  · obtain ⟨h0, mx, cs, e1, e2, _⟩ := id hd
    exact ⟨cs.length, Lx.refl tH hd, rfl, cs, e2, rfl⟩
  rintro k σ' H' ⟨lx, rfl, cs, hC, rfl⟩
  have csn : (∀ c ∈ cs, 0 ≤ c) ∧ cs.length ≤ 63 := by
    obtain ⟨h0, mx, cs1, e1, e2, _, _, e3, e4⟩ := lx.d1
    have e5 : cs.map V.int = cs1.map V.int := by
      rw [hC] at e2
      exact HO.lst.inj (Option.some.inj e2)
    have e6 : cs = cs1 := map_int_inj e5
    subst e6
    exact ⟨e4, e3⟩
  -- behind the loop
  have rest : ∀ {H1 : Hp} {cs : List Int}, Lx T D C H H1 → H1 C = some (.lst (cs.map V.int)) → (∀ c ∈ cs, 0 ≤ c) → cs.length ≤ 63 → tSeq
      (tIfS (tTest (tOp (rNeD K) (tOp (rIxL K) (tVar 0) (tC (.int 0))) (tLst tNil)))
        (tSeq (tAsg (tCB rInt (tCons (tBM0 K "list" rPop (tOp (rIxL K) (tVar 0) (tC (.int 0)))) tNil)) (gName 2))
          (tSeq (tDrop (tBM K "list" rAppend (tOp (rIxL K) (tVar 0) (tC (.int 0))) (tCons (tOp (rI CDivN fun i j => .int (i.fdiv j)) (tVar 2) (tVar 1)) tNil))) (tRet (tOp (rI (fun _ j => j ≠ 0) fun i j => .int (i.fmod j)) (tVar 2) (tVar 1))))) tNext)
      (tSeq (tAsg (tOp (rI (fun _ j => j ≠ 0) fun i j => .int (i.fmod j)) (tCB rInt (tCons (tOp (rI0 fun i j => .int (i + j)) (tOp (rI CMul fun i j => .int (i * j)) (tOp (rIxL K) (tVar 0) (tC (.int 1))) (tC (.int 48271))) (tC (.int 83))) tNil)) (tC (.int 2147483647))) (gSub (tVar 0) (tC (.int 1)) rSetL))
        (tRet (tOp (rI (fun _ j => j ≠ 0) fun i j => .int (i.fmod j)) (tCB rInt (tCons (tOp (rI CDivN fun i j => .int (i.fdiv j)) (tOp (rIxL K) (tVar 0) (tC (.int 1))) (tC (.int 64))) tNil)) (tVar 1))))
      { nx := fun _ H' => Q .non H', rt := Q } [some (.ref D), some (.int n), none] H1 := fun {H1 cs} lx hC csn csl => by
    refine isEmp (σ := [some (.ref D), some (.int n), none]) rfl lx.tab lx.d1 hC fun H2 l2 hC2 => ?_
    have lx2 := lx.trans l2
    by_cases hcs : cs = []
    · rw [decide_eq_true hcs]
      refine iteF ?_
      unfold tNext
      dsimp only
      obtain ⟨h0, mx, cs1, e1, e2, m0, m1, e3⟩ := id lx2.d1
      refine ⟨_, rfl, D, [.ref C, .int mx], 1, .int mx, rfl, rfl, SqL.of e1, rfl, mx, 48271, rfl, rfl, .inr ⟨by decide, by decide⟩, _, _, rfl, rfl,   .inl ⟨_, rfl, _, _, rfl, rfl, (show (2147483647 : Int) ≠ 0 by decide), ?_⟩⟩
      have mm : 0 ≤ (mx * 48271 + 83).fmod 2147483647 ∧ (mx * 48271 + 83).fmod 2147483647 < 2147483647 := by
        rw [Int.fmod_eq_emod_of_nonneg _ (by decide)]
        exact ⟨Int.emod_nonneg _ (by decide), Int.emod_lt_of_pos _ (by decide)⟩
      refine ⟨_, rfl, D, [.ref C, .int mx], 1, 1, rfl, rfl, e1, rfl, ?_⟩
      have l3 := Lx.mixed lx2.tab lx2.d1 mm.1 mm.2
      refine ⟨_, rfl, D, [.ref C, .int ((mx * 48271 + 83).fmod 2147483647)], 1, .int ((mx * 48271 + 83).fmod 2147483647), rfl, rfl, SqL.of upd_same, rfl, _, _, rfl, rfl, ⟨by decide, by decide⟩, .inl ⟨_, rfl, _, rfl, _, _, rfl, rfl, by omega, ?_⟩⟩
      show Q (.int ((((mx * 48271 + 83).fmod 2147483647).fdiv 64).fmod n)) _
      rw [Int.fmod_eq_emod_of_nonneg (b := n) _ (by omega)]
      exact q _ _ (Int.emod_nonneg _ (by omega)) (Int.emod_lt_of_pos _ (by omega)) (lx2.trans l3)
    · rw [decide_eq_false hcs]
      refine iteT ?_
      have hz : 0 < cs.length := List.length_pos_iff.mpr hcs
      have hlast : cs[cs.length - 1]? = some cs[cs.length - 1] := List.getElem?_eq_getElem (by omega)
      have hmem : cs[cs.length - 1] ∈ cs := List.getElem_mem _
      have c0 := csn _ hmem
      generalize hc : cs[cs.length - 1] = c at hlast hmem c0
      refine cellsAt lx2.d1 (σ := [some (.ref D), some (.int n), none]) ?_ rfl
      refine ⟨.inl ⟨rfl, _, SqL.of hC2⟩, C, cs.map V.int, .int c, rfl, rfl, hC2, by rw [List.length_map, List.getElem?_map, hlast]; rfl, ?_⟩
      have ed : (cs.map V.int).dropLast = cs.dropLast.map V.int := by rw [List.map_dropLast]
      rw [ed]
      have l3 : Lx T D C H2 (upd H2 C (.lst (cs.dropLast.map V.int))) := Lx.cells lx2.tab lx2.d1 (fun x hx => csn x (List.dropLast_subset _ hx)) (by rw [List.length_dropLast]; omega)
      refine .inl ⟨c, rfl, ?_⟩
      show tSeq _ _ _ _ _
      refine cellsAt l3.d1 (σ := [some (.ref D), some (.int n), some (.int c)]) ?_ rfl
      refine ⟨.inl ⟨rfl, _, SqL.of upd_same⟩, _, rfl, _, rfl, c, n, rfl, rfl, ⟨by omega, by omega⟩, C, cs.dropLast.map V.int, _, rfl, rfl, upd_same, ?_, ?_⟩
      · rw [List.length_map, List.length_dropLast]
        exact Nat.lt_of_le_of_lt (Nat.le_trans (Nat.sub_le _ _) csl) (by decide)
      · have ea : (cs.dropLast.map V.int ++ [V.int (c.fdiv n)]) = (cs.dropLast ++ [c.fdiv n]).map V.int := by rw [List.map_append]; rfl
        rw [ea]
        have l4 := Lx.cells l3.tab l3.d1 (cs := cs.dropLast ++ [c.fdiv n]) (fun x hx => by
          rcases List.mem_append.mp hx with z | z
          · exact csn x (List.dropLast_subset _ z)
          · rw [List.mem_singleton.mp z]
            exact Int.fdiv_nonneg c0 (by omega)) (by rw [List.length_append, List.length_dropLast]; simp only [List.length_cons, List.length_nil]; omega)
        refine ⟨_, rfl, _, rfl, c, n, rfl, rfl, by omega, ?_⟩
        show Q (.int (c.fmod n)) _
        rw [Int.fmod_eq_emod_of_nonneg (b := n) _ (by omega)]
        exact q _ _ (Int.emod_nonneg _ (by omega)) (Int.emod_lt_of_pos _ (by omega)) ((lx2.trans l3).trans l4)
  refine isEmp (σ := [some (.ref D), some (.int n), none]) rfl lx.tab lx.d1 hC fun H2 l2 hC2 => ?_
  by_cases hcs : cs = []
  · rw [decide_eq_true hcs]
    refine iteF (iteF ?_)
    exact rest (lx.trans l2) hC2 csn.1 csn.2
  · rw [decide_eq_false hcs]
    refine iteT ?_
    have hz : 0 < cs.length := List.length_pos_iff.mpr hcs
    have hlast : cs[cs.length - 1]? = some cs[cs.length - 1] := List.getElem?_eq_getElem (by omega)
    generalize hc : cs[cs.length - 1] = c at hlast
    have lx2 := lx.trans l2
    refine cellsAt lx2.d1 (σ := [some (.ref D), some (.int n), none]) ?_ rfl
    have eat : atI (cs.map V.int) (-1) = some (.int c) := by
      unfold atI
      rw [List.length_map, ixn_last hz]
      show (cs.map V.int)[cs.length - 1]? = _
      rw [List.getElem?_map, hlast]
      rfl
    refine ⟨1, rfl, C, cs.map V.int, -1, .int c, rfl, rfl, SqL.of hC2, eat, rfl, _, rfl, ?_⟩
    have e : decide (V.int c = V.int 0) = decide (c = 0) := by rw [dec_int, Bool.beq_eq_decide_eq]
    rw [e]
    by_cases h0 : c = 0
    · rw [decide_eq_true h0]
      refine iteT ⟨fun σ' H' => Lx T D C H H' ∧ σ' = [some (.ref D), some (.int n), none] ∧ H' C = some (.lst (cs.dropLast.map V.int)), fun σ' H' ⟨k1, k2, k3⟩ => ⟨cs.dropLast.length, by rw [List.length_dropLast]; omega, k1, k2, cs.dropLast, k3, rfl⟩, ?_⟩
      refine cellsAt lx2.d1 (σ := [some (.ref D), some (.int n), none]) ?_ rfl
      refine ⟨.inl ⟨rfl, _, SqL.of hC2⟩, C, cs.map V.int, .int c, rfl, rfl, hC2, by rw [List.length_map, List.getElem?_map, hlast]; rfl, ?_⟩
      have ed : (cs.map V.int).dropLast = cs.dropLast.map V.int := by rw [List.map_dropLast]
      rw [ed]
      exact ⟨lx2.trans (Lx.cells lx2.tab lx2.d1 (fun x hx => csn.1 x (List.dropLast_subset _ hx)) (by rw [List.length_dropLast]; omega)), rfl, upd_same⟩
    · rw [decide_eq_false h0]
      refine iteF ?_
      exact rest lx2 hC2 csn.1 csn.2
end
end Lf
end

section
set_option maxRecDepth 100000
set_option maxHeartbeats 4000000
set_option exponentiation.threshold 3000
/-! The walk of the deal, 2. -/
namespace Lf
open PySem PySem.Spec PyProof.Rows L2
theorem ib_mk {t : Int} {b n : Nat} (h1 : -(n : Int) ≤ t) (h2 : t ≤ n) (hb : b = 1 ∨ b = 2 ∨ b = 3 ∨ b = 4) : IB 12 n (mkRat t b) := by
  have b0 : (0 : Rat) < (b : Rat) := by rcases hb with h | h | h | h <;> subst h <;> decide +kernel
  have e : mkRat t b * (b : Rat) = (t : Rat) := by
    rw [Rat.mkRat_eq_div]
    exact Rat.div_mul_cancel (by grind)
  have a1 : (t : Rat) ≤ ((n : Nat) : Rat) := by
    have : (t : Rat) ≤ ((n : Int) : Rat) := Rat.intCast_le_intCast.mpr h2
    exact_mod_cast this
  have a2 : -((n : Nat) : Rat) ≤ (t : Rat) := by
    have : ((-(n : Int) : Int) : Rat) ≤ (t : Rat) := Rat.intCast_le_intCast.mpr h1
    rw [Rat.intCast_neg, Rat.intCast_natCast] at this
    exact this
  have n0 : (0 : Rat) ≤ ((n : Nat) : Rat) := Rat.natCast_nonneg
  generalize mkRat t b = x at e
  refine ⟨by decide, ⟨t * (12 / b : Nat), ?_⟩, ?_, ?_⟩
  · rw [Rat.intCast_mul, ← e]
    rcases hb with h | h | h | h <;> subst h <;> norm_cast <;> grind
  · rcases hb with h | h | h | h <;> subst h <;> grind
  · rcases hb with h | h | h | h <;> subst h <;> grind
section
variable {P : Program} {w : World} {K : PySem.W.Frag} {mg : Str → Option Value} {base : Heap} {T : Tabl}
theorem els_var {α : Type} {σ : L2.St} {H : Hp} {l : List α} {i : Nat} {a : Addr} {xs : List V} {f : α → PyData} (hq : SqL K H a xs) (hx : Dts K H xs (l.map f)) (h : σ[i]? = some (some (.ref a)) := by rfl) : EvLs T K (tVar i) σ H l fun H v x => Dt K H v (f x) := fun H1 b Q q =>
  ⟨.ref a, h, q a xs H1 (Le.refl b.tab) (sql_le hq b) (fa_dts (hx.mono b.tk))⟩
theorem atI_nat {α : Type} {xs : List α} {r : Int} (h0 : 0 ≤ r) (h1 : r < xs.length) : ∃ v, atI xs r = some v ∧ xs[r.toNat]? = some v := by
  have hlt : r.toNat < xs.length := by omega
  refine ⟨xs[r.toNat], ?_, List.getElem?_eq_getElem hlt⟩
  unfold atI ixN
  rw [if_pos h0]
  first
    | (rw [if_pos (by omega)]; show xs[r.toNat]? = _; exact List.getElem?_eq_getElem hlt)
    | simp [hlt]
abbrev s_law_of : Stmt := topS 40
abbrev N_law_of : List Str := ["_law_deal_here", "_law_some_here"]
theorem sc_law_of : FnScope N_law_of ["_law_deal_here", "_law_some_here"] (defScope s_law_of) := ⟨rfl, rfl, rfl, by decide +kernel, rfl, by decide +kernel, by decide +kernel⟩
theorem ok_law_of {f : Addr} {fd : FuncData} (F : Fun K "_law_of" "_law_of" s_law_of f fd) (m : Mg K mg) (c_law_any : Cal P w K mg base "_law_any" ["_law_deal_here", "_law_bound"] 1 (spAny T K)) : FnOk P w K mg base CX0 2 f fd ["_law_deal_here", "_law_some_here"] (spOf T K) := by
  refine F.ok sc_law_of (fun vs H Q E ⟨_, _, _, _, _, e, _⟩ => by rw [e]; rfl) (fun cdv A outer s H vs Q E hr h => ?_)
  obtain ⟨tH, D, C, L, xs, rfl, hd, hL, n1, n2, hne, hlen, q⟩ := h
  refine ⟨_, (pss_one (ps_ret (pe_ix (w_ixL (K := K)) (pv 1) (pe_cal c_law_any (hr.mono (by decide)) (by rfl) (pa_cons (pv 0) (pa_cons (pe_callB (w_len (K := K)) (by rfl) m.len PySem.boot_len (pa_cons (pv 1) pa_nil)) pa_nil))) (fun _ _ => rfl)))), ?_⟩
  have hz : 0 < xs.length := List.length_pos_iff.mpr hne
  refine ⟨.ref L, rfl, .ref D, rfl, .ref L, rfl, L, xs, rfl, .inl (SqL.of hL), tH, D, C, (xs.length : Int), rfl, hd, by omega, by omega, fun r H' h0 h1 lx => ?_⟩
  obtain ⟨v, e1, e2⟩ := atI_nat h0 h1
  exact ⟨L, xs, r, v, rfl, rfl, SqL.of (lx.keep L _ hL (fun _ z => by cases z) n1 n2), e1, q r.toNat v H' e2 lx⟩
abbrev s_law_some : Stmt := topS 46
abbrev N_law_some : List Str := ["_law_deal_here", "_law_size"]
theorem sc_law_some : FnScope N_law_some ["_law_deal_here", "_law_size"] (defScope s_law_some) := ⟨rfl, rfl, rfl, by decide +kernel, rfl, by decide +kernel, by decide +kernel⟩
theorem ok_law_some {f : Addr} {fd : FuncData} (F : Fun K "_law_some" "_law_some" s_law_some f fd) (m : Mg K mg) (c_law_any : Cal P w K mg base "_law_any" ["_law_deal_here", "_law_bound"] 1 (spAny T K)) (c_law_of : Cal P w K mg base "_law_of" ["_law_deal_here", "_law_some_here"] 2 (spOf T K)) (c_law_frac : Cal P w K mg base "_law_frac" ["_law_top", "_law_bottom"] 1 (Pur T K pFraction)) :
    FnOk P w K mg base CX0 3 f fd ["_law_deal_here", "_law_size"] (spSome T K) := by
  refine F.ok sc_law_some (fun vs H Q E ⟨_, _, _, _, e, _⟩ => by rw [e]; rfl) (fun cdv A outer s H vs Q E hr h => ?_)
  obtain ⟨tH, D, C, n, rfl, hd, hn, q⟩ := h
  refine ⟨_, (pss_one (ps_ret (pe_cal c_law_frac (hr.mono (by decide)) (by rfl) (pa_cons (pe_op op_sub (pe_cal c_law_any (hr.mono (by decide)) (by rfl) (pa_cons (pv 0) (pa_cons (pe_op op_add (pe_op op_mulW pe_int (pv 1)) pe_int) pa_nil))) (pv 1)) (pa_cons (pe_op op_add pe_int (pe_cal c_law_any (hr.mono (by decide)) (by rfl) (pa_cons (pv 0) (pa_cons (pe_cal c_law_of (hr.mono (by decide)) (by rfl) (pa_cons (pv 0) (pa_cons (pe_lst (pa_cons pe_int (pa_cons pe_int (pa_cons pe_int pa_nil)))) pa_nil))) pa_nil)))) pa_nil))))), ?_⟩
  refine ⟨.ref D, rfl, .int (n : Int), rfl, 2, (n : Int), rfl, rfl, wide_mul (a := 2) (b := 20) (by decide) (by omega) (by decide) (by decide) (by decide), 2 * (n : Int), 1, rfl, rfl, tH, D, C, 2 * (n : Int) + 1, rfl, hd, by omega, by omega, fun a H1 a0 a1 l1 => ?_⟩
  refine ⟨_, rfl, a, (n : Int), rfl, rfl, ?_⟩
  refine ⟨.ref D, rfl, .ref D, rfl, by decide, fun L hL => ?_⟩
  have nL := Le.new (o := .lst [.int 1, .int 1, .int 4]) l1.tab hL
  have l2 := l1.le nL
  have ne : L ≠ D ∧ L ≠ C := by
    obtain ⟨h0, mx, cs, e1, e2, _⟩ := l1.d1
    exact ⟨fun z => (by subst z; rw [hL] at e1; cases e1), fun z => (by subst z; rw [hL] at e2; cases e2)⟩
  refine ⟨l2.tab, D, C, L, [.int 1, .int 1, .int 4], rfl, l2.d1, upd_same, ne.1, ne.2, by simp, by simp, fun i v H3 hv l3 => ?_⟩
  obtain ⟨k, rfl, k1, k4⟩ : ∃ k : Int, v = .int k ∧ 1 ≤ k ∧ k ≤ 4 := by
    match i, hv with
    | 0, h => cases h; exact ⟨1, rfl, by decide, by decide⟩
    | 1, h => cases h; exact ⟨1, rfl, by decide, by decide⟩
    | 2, h => cases h; exact ⟨4, rfl, by decide, by decide⟩
  refine ⟨l3.tab, D, C, k, rfl, l3.d1, by omega, by omega, fun b H4 b0 b1 l4 => ?_⟩
  have lx := (l2.trans l3).trans l4
  refine ⟨1, b, rfl, rfl, lx.tab, _, _, .cons (.int _) (.cons (.int _) .nil), ⟨a - n, 1 + b, rfl, by omega, ?_, rfl⟩, fun v H5 a5 hv => ?_⟩
  · have : (1 + b).natAbs < 2 ^ 10 := by omega
    exact Nat.lt_trans this (Nat.pow_lt_pow_right (by decide) (by decide))
  · exact q _ v H5 (ib_mk (by omega) (by omega) (by omega)) (lx.le a5) hv
abbrev s_law_deal : Stmt := topS 38
abbrev N_law_deal : List Str := ["_law_script", "_law_base", "_law_cells", "_law_mix", "_law_cell"]
theorem sc_law_deal : FnScope N_law_deal ["_law_script", "_law_base"] (defScope s_law_deal) := ⟨rfl, rfl, rfl, by decide +kernel, rfl, by decide +kernel, by decide +kernel⟩
theorem ok_law_deal {f : Addr} {fd : FuncData} (F : Fun K "_law_deal" "_law_deal" s_law_deal f fd) (m : Mg K mg) : FnOk P w K mg base CX0 1 f fd ["_law_script", "_law_base"] (spDeal T K) := by
  refine F.ok sc_law_deal (fun vs H Q E ⟨_, _, _, _, e, _⟩ => by rw [e]; rfl) (fun cdv A outer s H vs Q E hr h => ?_)
  obtain ⟨tH, a, ns, b, rfl, hq, b0, b1, q⟩ := h
  refine ⟨_, (pss_cons (ps_setLc (i := 2) (own := [("_law_cell", 4)]) rfl sc_law_deal.nd rfl rfl (sw_true rfl rfl rfl (by decide +kernel)) (w_piL (K := K) (pe_slice (w_slL (K := K)) (pv 0) po_none (po_some pe_int))) (blkOk_by (own := [("_law_cell", 4)]) (N := N_law_deal) (sc := defScope s_law_deal) (by decide +kernel)) (fun _ _ _ _ _ => (pg_name (i := 4) sc_law_deal.nd rfl (.inl rfl))) (fun _ _ _ _ _ => pts_nil) (fun _ _ _ _ _ => (pe_callB w_abs (by rfl) m.abs (by decide +kernel) (pa_cons (pe_callTy w_int (by rfl) m.int (by decide +kernel) (pa_cons (pv 4) pa_nil)) pa_nil))))
      (pss_cons (ps_set (i := 3) sc_law_deal.nd rfl (.inl rfl) (pe_op op_add (pe_op op_mul pe_int (pv 1)) pe_int))
      (pss_cons (ps_for PassesOwn.never rfl (w_piL (K := K) (pv 2)) (pg_name (i := 4) sc_law_deal.nd rfl (.inl rfl)) (pss_one (ps_set (i := 3) sc_law_deal.nd rfl (.inl rfl) (pe_op op_modN (pe_callTy w_int (by rfl) m.int (by decide +kernel) (pa_cons (pe_op op_add (pe_op op_add (pe_op op_mul (pv 3) pe_int) (pe_op op_modN (pv 4) pe_int)) pe_int) pa_nil)) pe_int))))
      (pss_one (ps_ret (pe_lst (pa_cons (pe_revL (pe_lc (own := [("_law_cell", 4)]) rfl sc_law_deal.nd (w_piL (K := K) (pv 2)) (blkOk_by (own := [("_law_cell", 4)]) (N := N_law_deal) (sc := defScope s_law_deal) (by decide +kernel)) (fun _ _ _ _ _ => (pg_name (i := 4) sc_law_deal.nd rfl (.inl rfl))) (fun _ _ _ _ _ => pts_one (pt_cmpR op_ge (pv 4) (pe_op op_pow pe_int pe_int) (nomark _))) (fun _ _ _ _ _ => (pv 4)))) (pa_cons (pv 3) pa_nil)))))))), ?_⟩
  refine sd_setL (K := K) (ds := (ns.take 63).map fun c => .int ((c.natAbs : Nat) : Int)) ?_ tH fun L ws H1 a1 nL eL hws => ?_
  · refine lc_all (by rw [List.length_take]; omega) (src_lst (R := fun H v x => Dt K H v (.int x)) (l := ns.take 63) (fun H1 a1 Q' q' => ?_) fun _ _ _ _ k h => h.mono k.tk) (fun _ _ k => k) fun c hc H1 v a1 hv Q' q' => ?_
    · refine ⟨.ref a, rfl, 63, rfl, a, ns.map V.int, rfl, sql_le hq a1, fun p hp => ?_⟩
      have n := Le.new (o := .lst (cutV (ns.map V.int) none (some 63))) a1.tab hp
      refine q' p (cutV (ns.map V.int) none (some 63)) _ n (SqL.of upd_same) ?_
      have ec : cutV (ns.map V.int) none (some 63) = (ns.take 63).map V.int := by
        unfold cutV
        have e1 : HT.sIx (ns.map V.int).length (ns.map V.int).length (some (63 : Int)) = min 63 (ns.map V.int).length := HT.sIx_nat _ _ 63
        rw [e1, HT.sIx_none, Nat.sub_zero, List.drop_zero, List.map_take]
        rcases Nat.le_total 63 (ns.map V.int).length with z | z
        · rw [Nat.min_eq_left z]
        · rw [Nat.min_eq_right z, List.take_of_length_le (Nat.le_refl _), List.take_of_length_le z]
      rw [ec]
      exact fa_dts (dts_ints _)
    · have ab : ∀ i : Int, (if i < 0 then -i else i) = ((i.natAbs : Nat) : Int) := fun i => by split <;> omega
      exact q' [some (.ref a), some (.int b), none, none, some v] rfl (ev_is (ev_abs (ev_int1 (ev_var hv))) (by rw [ab]))
  have ew : ws = ((ns.take 63).map fun c => ((c.natAbs : Nat) : Int)).map V.int := ints_of (by rw [List.map_map]; exact hws)
  subst ew
  have clen : ((ns.take 63).map fun c => ((c.natAbs : Nat) : Int)).length ≤ 63 := by rw [List.length_map, List.length_take]; omega
  have cnn : ∀ c ∈ (ns.take 63).map (fun c => ((c.natAbs : Nat) : Int)), 0 ≤ c := fun c hc => by
    obtain ⟨x, _, rfl⟩ := List.mem_map.mp hc
    omega
  generalize (ns.take 63).map (fun c => ((c.natAbs : Nat) : Int)) = cs at eL clen cnn
  clear hws
  refine sd_set (d := .int (40127 * b + 863)) (ev_op (g := fun i j => i + j) (ev_opC (g := fun i j => i * j) ev_int (ev_var (K := K) (.int b)) (.inl ⟨by decide, by decide⟩)) ev_int) a1.tab fun vm H2 a2 hm => ?_
  cases hm
  have a02 := a1.trans a2
  have eL2 : H2 L = some (.lst (cs.map V.int)) := a2.at_ eL pl_lst
  refine for_src (src_var2 (i := 2) (a := L) (f := PyData.int) (l := cs) (SqL.of eL2) (dts_ints cs)) a02.tab fun H3 a3 => ⟨fun r σ' H' => ∃ (mx : Int) (y : Option V), σ' = [some (.ref a), some (.int b), some (.ref L), some (.int mx), y] ∧ Le T H2 H' ∧ TK H3 H' ∧ 0 ≤ mx ∧ mx < 2147483647,
    ⟨40127 * b + 863, none, rfl, a3, TK.refl _, by omega, by omega⟩, fun r σ' H' ⟨_, _, _, k, k2, _⟩ => ⟨⟨k2, sql_le (SqL.of eL2) k⟩, k.tab⟩, ?_, ?_⟩
  · rintro c r σ' H' H'' v hcm ⟨mx, y, rfl, k, k2, m0, m1⟩ a4 hx
    have e4 := k.trans a4
    refine sd_set (d := .int ((mx * 48271 + c.fmod 2147483579 + 61).fmod 2147483647)) (ev_opC (g := fun i j => i.fmod j) (ev_int1 (ev_op (g := fun i j => i + j) (ev_op (g := fun i j => i + j) (ev_opC (g := fun i j => i * j) (ev_var (K := K) (.int mx)) ev_int (.inr ⟨by decide, by decide⟩)) (ev_opC (g := fun i j => i.fmod j) (ev_var hx) ev_int (show (2147483579 : Int) ≠ 0 by decide))) ev_int)) ev_int (show (2147483647 : Int) ≠ 0 by decide)) e4.tab fun vm H5 a5 hm => ?_
    cases hm
    refine ⟨_, _, rfl, e4.trans a5, k2.trans (a4.trans a5).tk, ?_, ?_⟩
    · rw [Int.fmod_eq_emod_of_nonneg _ (by decide)]
      exact Int.emod_nonneg _ (by decide)
    · rw [Int.fmod_eq_emod_of_nonneg _ (by decide)]
      exact Int.emod_lt_of_pos _ (by decide)
  · rintro σ' H' ⟨mx, y, rfl, k, _, m0, m1⟩
    have eL3 : H' L = some (.lst (cs.map V.int)) := k.at_ eL2 pl_lst
    have e0 := a02.trans k
    have inner : EvL T K (tLc (iList K (tVar 2)) (gName 4) (tTest (tOp (rI0 fun i j => .bl (decide (j ≤ i))) (tVar 4) (tOp (rI CPow fun i j => .int (i ^ j.toNat)) (tC (.int 10)) (tC (.int 18))))) (tVar 4) [4]) [some (.ref a), some (.int b), some (.ref L), some (.int mx), y] H' ((cs.filter fun c => decide ((10 : Int) ^ 18 ≤ c)).map PyData.int) := by
      refine lc_src (by omega) (src_lst (els_var (i := 2) (f := PyData.int) (l := cs) (SqL.of eL3) (dts_ints cs)) fun _ _ _ _ k h => h.mono k.tk) (fun _ _ k => k) fun c hc H5 v a5 hv Q' q' => ?_
      refine q' [some (.ref a), some (.int b), some (.ref L), some (.int mx), some v] rfl (eb_test (ev_opB (g := fun i j => decide (j ≤ i)) (ev_var hv) (ev_opC (g := fun i j => i ^ j.toNat) ev_int ev_int ⟨by decide, by decide, by decide⟩))) fun _ => ev_var hv
    show tRet (tLst (tCons (tRevL K (tLc (iList K (tVar 2)) (gName 4) (tTest (tOp (rI0 fun i j => .bl (decide (j ≤ i))) (tVar 4) (tOp (rI CPow fun i j => .int (i ^ j.toNat)) (tC (.int 10)) (tC (.int 18))))) (tVar 4) [4])) (tCons (tVar 3) tNil))) { nx := fun x H' => Q .non H', rt := Q } [some (.ref a), some (.int b), some (.ref L), some (.int mx), y] H'
    unfold tRet tLst tCons tRevL
    refine inner H' (Le.refl e0.tab) _ fun p vs H5 a5 np ep hv => ?_
    have evs : vs = (cs.filter fun c => decide ((10 : Int) ^ 18 ≤ c)).map V.int := ints_of hv
    subst evs
    refine ⟨p, _, rfl, SqL.of ep, fun C hC => ⟨_, rfl, (by show 2 ≤ sizeLine; decide), fun D hD => ?_⟩⟩
    have nC := Le.new (o := .lst ((cs.filter fun c => decide ((10 : Int) ^ 18 ≤ c)).map V.int).reverse) a5.tab hC
    have e6 := (e0.trans a5).trans nC
    have nD := Le.new (o := .lst [.ref C, .int mx]) nC.tab hD
    have hne : D ≠ C := fun z => by
      subst z
      rw [upd_same] at hD
      cases hD
    refine q D C _ (e6.trans nD) (e6.nf (Nf.of hD)) ((e0.trans a5).nf (Nf.of hC)) ⟨hne, mx, (cs.filter fun c => decide ((10 : Int) ^ 18 ≤ c)).reverse, upd_same, ?_, m0, m1, ?_, fun c hc => ?_⟩
    · rw [upd_ne (Ne.symm hne), upd_same, List.map_reverse]
    · rw [List.length_reverse]
      exact Nat.le_trans (List.length_filter_le _ _) clen
    · exact cnn c (List.mem_filter.mp (List.mem_reverse.mp hc)).1
end
end Lf
end

section
set_option maxRecDepth 100000
set_option maxHeartbeats 4000000
set_option exponentiation.threshold 3000
/-! The walk of the law's nets. -/
namespace Lf
open PySem PySem.Spec PyProof.Rows L2
def tri (t : Tie) : Tri := ⟨t.1, t.2.1, t.2.2.num, (t.2.2.den : Int)⟩
theorem tri_d (t : Tie) : (tri t).d = tieD t := rfl
def Apart (t u : Tie) : Prop := ¬ (t.1 = u.1 ∧ t.2.1 = u.2.1)
theorem apart_eq : ∀ {l : List Tie}, l.Pairwise Apart → ∀ t ∈ l, ∀ u ∈ l, t.1 = u.1 → t.2.1 = u.2.1 → t = u
  | [], _, t, ht, _, _, _, _ => by cases ht
  | a :: l, h, t, ht, u, hu, e1, e2 => by
    have h' := List.pairwise_cons.mp h
    rcases List.mem_cons.mp ht with z | z <;> rcases List.mem_cons.mp hu with y | y
    · rw [z, y]
    · subst z; exact absurd ⟨e1, e2⟩ (h'.1 u y)
    · subst y; exact absurd ⟨e1.symm, e2.symm⟩ (h'.1 t z)
    · exact apart_eq h'.2 t z u y e1 e2
theorem apart_perm {l m : List Tie} (p : m.Perm l) (h : l.Pairwise Apart) : m.Pairwise Apart :=
  (p.pairwise_iff fun {a b} k z => k ⟨z.1.symm, z.2.symm⟩).mpr h
theorem tlt_of : ∀ {l : List Tie}, l.Pairwise Apart → (∀ t ∈ l, 0 ≤ t.2.1 ∧ t.2.1 < 64) → l.Pairwise (fun t u => (tri t).rk ≤ (tri u).rk) → l.Pairwise TLt
  | [], _, _, _ => .nil
  | a :: l, h, hb, hr => by
    have h' := List.pairwise_cons.mp h
    have r' := List.pairwise_cons.mp hr
    refine List.pairwise_cons.mpr ⟨fun u hu => ?_, tlt_of h'.2 (fun t ht => hb t (List.mem_cons_of_mem _ ht)) r'.2⟩
    have h1 : ¬ (a.1 = u.1 ∧ a.2.1 = u.2.1) := h'.1 u hu
    have h2 : a.1 * 64 + a.2.1 ≤ u.1 * 64 + u.2.1 := r'.1 u hu
    have h3 := hb a List.mem_cons_self
    have h4 := hb u (List.mem_cons_of_mem _ hu)
    show a.1 < u.1 ∨ (a.1 = u.1 ∧ a.2.1 < u.2.1)
    omega
section
variable {K : PySem.W.Frag}
theorem use_sortTri {H : Hp} {Q : VK} {a : Addr} {vs : List V} {ts : List Tie} (hq : SqL K H a vs ∨ SqT K H a vs) (hd : Dts K H vs (ts.map tieD)) (hl : ts.length < 64) (hb : ∀ t ∈ ts, 0 ≤ t.2.1 ∧ t.2.1 < 64) (hn : ts.Pairwise Apart)
    (q : ∀ (ts' : List Tie) (ys : List V) (p : Addr), ts'.Perm ts → ts'.Pairwise TLt → Dts K H ys (ts'.map tieD) → H p = none → Q (.ref p) (upd H p (.lst ys))) : rSortTri K [.ref a] H Q := by
  have em : ∀ l : List Tie, (l.map tri).map Tri.d = l.map tieD := fun l => by rw [List.map_map]; rfl
  refine ⟨a, vs, ts.map tri, rfl, hq, by rw [em]; exact hd, by rw [List.length_map]; exact hl, fun t ht => ?_, fun t ht u hu e1 e2 => ?_, fun l' ys p hp hs hy hn' => ?_⟩
  · obtain ⟨x, hx, rfl⟩ := List.mem_map.mp ht
    exact hb x hx
  · obtain ⟨x, hx, rfl⟩ := List.mem_map.mp ht
    obtain ⟨y, hy, rfl⟩ := List.mem_map.mp hu
    rw [apart_eq hn x hx y hy e1 e2]
  · obtain ⟨ts', rfl, p'⟩ := perm_map tri l' ts hp
    exact q ts' ys p p' (tlt_of (apart_perm p' hn) (fun t ht => hb t (p'.mem_iff.mp ht)) (List.pairwise_map (f := tri) (R := fun t u => t.rk ≤ u.rk) |>.mp hs)) (by rw [← em]; exact hy) hn'
end
theorem drop_range {n i x : Nat} {r : List Nat} (h : (List.range n).drop i = x :: r) : x = i ∧ i < n ∧ r = (List.range n).drop (i + 1) := by
  have hlt : i < n := by
    rcases Nat.lt_or_ge i n with z | z
    · exact z
    · rw [List.drop_eq_nil_of_le (by rw [List.length_range]; exact z)] at h
      cases h
  rw [List.drop_eq_getElem_cons (by rw [List.length_range]; exact hlt)] at h
  injection h with h1 h2
  rw [List.getElem_range] at h1
  exact ⟨h1.symm, hlt, h2.symm⟩
theorem drop_range_nil {n i : Nat} (hi : i ≤ n) (h : [] = (List.range n).drop i) : i = n := by
  have := congrArg List.length h
  rw [List.length_drop, List.length_range] at this
  simp at this
  omega
/-- ties of a net on its points, firm -/
def Firm (pts : List Int) (ts : List Tie) : Prop := ∀ t ∈ ts, t.1 ∈ pts ∧ t.2.1 ∈ pts ∧ t.1 < t.2.1 ∧ 0 < t.2.2 ∧ IB 12 9 t.2.2
structure LawNet (n : Nat) (N : Net) : Prop where
  len : N.pts.length = n
  asc : N.pts.Pairwise (· < ·)
  bd : Bd64 N
  srt : N.ties.Pairwise TLt
  firm : Firm N.pts N.ties
def spNet (T : Tabl) (K : PySem.W.Frag) : Sp := fun vs H Q _ => LamX.Tabs T H ∧ ∃ (D C : Addr) (n : Nat), vs = [.ref D, .int n, .bl true] ∧ Deal H D C ∧ n ≤ 6 ∧ ∀ (N : Net) v H', LawNet n N → Lx T D C H H' → Dt K H' v (netD N) → Q v H'
theorem ib_abs {x : Rat} (h : IB 12 9 x) : IB 12 9 x.abs := by
  unfold Rat.abs
  split
  · exact h
  · exact h.neg
theorem fr_abs (x : Rat) : fr x.abs = .tuple [.int ((x.num.natAbs : Nat) : Int), .int (x.den : Int)] := by
  unfold fr Rat.abs
  split
  · rename_i h
    have : 0 ≤ x.num := Rat.num_nonneg.mpr h
    rw [show ((x.num.natAbs : Nat) : Int) = x.num by omega]
  · rename_i h
    have : ¬ 0 ≤ x.num := fun z => h (Rat.num_nonneg.mp z)
    rw [Rat.neg_num, Rat.neg_den, show ((x.num.natAbs : Nat) : Int) = -x.num by omega]
theorem abs_pos {x : Rat} (h : x.num ≠ 0) : 0 < x.abs := by
  unfold Rat.abs
  split
  · rename_i z
    rcases Rat.le_iff_lt_or_eq.mp z with y | y
    · exact y
    · subst y; exact absurd rfl h
  · rename_i z
    grind

theorem asc_at {l : List Int} (h : l.Pairwise (· < ·)) {i j : Nat} {a b : Int} (hij : i < j) (h1 : l[i]? = some a) (h2 : l[j]? = some b) : a < b := by
  obtain ⟨k1, rfl⟩ := List.getElem?_eq_some_iff.mp h1
  obtain ⟨k2, rfl⟩ := List.getElem?_eq_some_iff.mp h2
  exact List.pairwise_iff_getElem.mp h i j k1 k2 hij
def TInv (ps : List Int) (x j : Nat) (ts : List Tie) : Prop := ts.length ≤ 6 * x + j ∧ ts.Pairwise Apart ∧ Firm ps ts ∧ ∀ t ∈ ts, (∃ b, b < x ∧ ps[b]? = some t.2.1) ∨ (ps[x]? = some t.2.1 ∧ ∃ a, a < j ∧ ps[a]? = some t.1)
theorem TInv.skip {ps : List Int} {x j : Nat} {ts : List Tie} (h : TInv ps x j ts) : TInv ps x (j + 1) ts := by
  obtain ⟨h1, h2, h3, h4⟩ := h
  refine ⟨by omega, h2, h3, fun t ht => ?_⟩
  rcases h4 t ht with z | ⟨z, a, ha, e⟩
  · exact .inl z
  · exact .inr ⟨z, a, by omega, e⟩
theorem TInv.next {ps : List Int} {x : Nat} {ts : List Tie} (h : TInv ps x x ts) (hx : x ≤ 6) : TInv ps (x + 1) 0 ts := by
  obtain ⟨h1, h2, h3, h4⟩ := h
  refine ⟨by omega, h2, h3, fun t ht => .inl ?_⟩
  rcases h4 t ht with ⟨b, hb, e⟩ | ⟨z, _⟩
  · exact ⟨b, by omega, e⟩
  · exact ⟨x, by omega, z⟩
theorem TInv.snoc {ps : List Int} {x j : Nat} {ts : List Tie} {a b : Int} {wg : Rat} (h : TInv ps x j ts) (asc : ps.Pairwise (· < ·)) (ha : ps[j]? = some a) (hb : ps[x]? = some b) (hjx : j < x) (w0 : 0 < wg) (hw : IB 12 9 wg) : TInv ps x (j + 1) (ts ++ [(a, b, wg)]) := by
  obtain ⟨h1, h2, h3, h4⟩ := h
  refine ⟨by rw [List.length_append, List.length_singleton]; omega, List.pairwise_append.mpr ⟨h2, List.pairwise_singleton _ _, fun t ht u hu => ?_⟩, fun t ht => ?_, fun t ht => ?_⟩
  · rw [List.mem_singleton.mp hu]
    rintro ⟨e1, e2⟩
    rcases h4 t ht with ⟨c, hc, e⟩ | ⟨_, c, hc, e⟩
    · have := asc_at asc hc e hb
      have e2 : t.2.1 = b := e2
      omega
    · have := asc_at asc hc e ha
      have e1 : t.1 = a := e1
      omega
  · rcases List.mem_append.mp ht with z | z
    · exact h3 t z
    · rw [List.mem_singleton.mp z]
      exact ⟨List.mem_of_getElem? ha, List.mem_of_getElem? hb, asc_at asc hjx ha hb, w0, hw⟩
  · rcases List.mem_append.mp ht with z | z
    · rcases h4 t z with y | ⟨y, c, hc, e⟩
      · exact .inl y
      · exact .inr ⟨y, c, by omega, e⟩
    · rw [List.mem_singleton.mp z]
      exact .inr ⟨hb, j, by omega, ha⟩
/-! ### what the deal's calls make -/
section
variable {T : Tabl} {K : PySem.W.Frag} {σ : L2.St} {H H1 H2 H' : Hp} {D C : Addr} {ta tb te : TE} {tt : TT} {E : XK} {En : Ends}
theorem Lx.at_ {b : Addr} {o : HO} (a : Lx T D C H H') (h : H b = some o) (hp : ∀ ps, o ≠ .tbl ps) (h1 : b ≠ D) (h2 : b ≠ C) : H' b = some o := a.keep b o h hp h1 h2
theorem Nf.off {p : Addr} (d : Deal H D C) (n : Nf H p) : p ≠ D ∧ p ≠ C := by
  obtain ⟨h0, m, cs, h1, h2, _⟩ := d
  exact ⟨fun z => (by subst z; obtain ⟨ps, e⟩ := n _ h1; cases e), fun z => (by subst z; obtain ⟨ps, e⟩ := n _ h2; cases e)⟩
theorem Lx.nf {p : Addr} (a : Lx T D C H H') (n : Nf H' p) : Nf H p := fun o h => by
  by_cases hp : ∃ ps, o = .tbl ps
  · exact hp
  · have hp' : ∀ ps, o ≠ .tbl ps := fun ps z => hp ⟨ps, z⟩
    obtain ⟨n1, n2⟩ := n.off a.d1
    exact n o (a.keep p o h hp' n1 n2)
theorem Deal.upd_ {p : Addr} {o : HO} (d : Deal H D C) (h1 : p ≠ D) (h2 : p ≠ C) : Deal (upd H p o) D C := by
  obtain ⟨h0, m, cs, e1, e2, e3⟩ := d
  exact ⟨h0, m, cs, by rw [upd_ne (Ne.symm h1)]; exact e1, by rw [upd_ne (Ne.symm h2)]; exact e2, e3⟩
theorem Lx.mutL {p : Addr} {xs ys : List V} (a : Lx T D C H H') (n : Nf H p) (hp : H' p = some (.lst xs)) : Lx T D C H (upd H' p (.lst ys)) := by
  obtain ⟨n1, n2⟩ := n.off a.d0
  refine ⟨fun b o e hn h1 h2 => ?_, tabs_mut a.tab hp pl_lst, a.d0, a.d1.upd_ n1 n2⟩
  have : b ≠ p := fun z => by
    subst z
    obtain ⟨ps, e'⟩ := n o e
    exact hn ps e'
  rw [upd_ne this]
  exact a.keep b o e hn h1 h2
def EvI (T : Tabl) (D C : Addr) (te : TE) (σ : L2.St) (H : Hp) (lo hi : Int) : Prop := ∀ H1, Lx T D C H H1 → ∀ Q : VK, (∀ r H2, lo ≤ r → r < hi → Lx T D C H1 H2 → Q (.int r) H2) → te σ H1 Q
def EvR (T : Tabl) (K : PySem.W.Frag) (D C : Addr) (te : TE) (σ : L2.St) (H : Hp) (n : Nat) : Prop := ∀ H1, Lx T D C H H1 → ∀ Q : VK, (∀ x v H2, IB 12 n x → Lx T D C H1 H2 → Dt K H2 v (fr x) → Q v H2) → te σ H1 Q
theorem EvI.mono {lo hi : Int} (h : EvI T D C te σ H lo hi) (a : Lx T D C H H') : EvI T D C te σ H' lo hi := fun H1 b => h H1 (a.trans b)
theorem x_con {i : Int} : EvI T D C (tC (.int i)) σ H i (i + 1) := fun H1 a Q q => q i H1 (Int.le_refl _) (by omega) (Lx.refl a.tab a.d1)
theorem x_var {i : Nat} {r : Int} (h : σ[i]? = some (some (.int r)) := by rfl) : EvI T D C (tVar i) σ H r (r + 1) := fun H1 a Q q => ⟨.int r, h, q r H1 (Int.le_refl _) (by omega) (Lx.refl a.tab a.d1)⟩
theorem x_add {a b c d lo hi : Int} (h1 : EvI T D C ta σ H a b) (h2 : EvI T D C tb σ H c d) (e1 : lo = a + c := by omega) (e2 : hi = b + d - 1 := by omega) : EvI T D C (tOp (rI0 fun i j => .int (i + j)) ta tb) σ H lo hi := fun H1 k Q q =>
  h1 H1 k _ fun r H2 r1 r2 k2 => h2 H2 (k.trans k2) _ fun u H3 u1 u2 k3 => ⟨r, u, rfl, rfl, q _ H3 (by omega) (by omega) (k2.trans k3)⟩
theorem x_sub {a b c d lo hi : Int} (h1 : EvI T D C ta σ H a b) (h2 : EvI T D C tb σ H c d) (e1 : lo = a - d + 1 := by omega) (e2 : hi = b - c := by omega) : EvI T D C (tOp (rI0 fun i j => .int (i - j)) ta tb) σ H lo hi := fun H1 k Q q =>
  h1 H1 k _ fun r H2 r1 r2 k2 => h2 H2 (k.trans k2) _ fun u H3 u1 u2 k3 => ⟨r, u, rfl, rfl, q _ H3 (by omega) (by omega) (k2.trans k3)⟩
theorem x_ev {i : Int} (h : ∀ H1, Lx T D C H H1 → EvD T K te σ H1 (.int i)) : EvI T D C te σ H i (i + 1) := fun H1 k Q q =>
  h H1 k H1 (Le.refl k.tab) _ fun v H2 a hv => by
    cases hv
    exact q i H2 (Int.le_refl _) (by omega) (.of k.d1 a)
theorem x_if {b : Bool} {lo hi : Int} (h : ∀ H1, Lx T D C H H1 → EvB T tt σ H1 b) (h1 : b = true → EvI T D C ta σ H lo hi) (h2 : b = false → EvI T D C tb σ H lo hi) : EvI T D C (tIf tt ta tb) σ H lo hi := fun H1 k Q q =>
  h H1 k H1 (Le.refl k.tab) _ fun H2 a => by
    have k2 := k.trans (.of k.d1 a)
    cases b with
    | true => exact iteT (h1 rfl H2 k2 _ fun r H3 r1 r2 k3 => q r H3 r1 r2 ((Lx.of k.d1 a).trans k3))
    | false => exact iteF (h2 rfl H2 k2 _ fun r H3 r1 r2 k3 => q r H3 r1 r2 ((Lx.of k.d1 a).trans k3))
theorem x_any {i : Nat} {lo hi b : Int} (h : EvI T D C ta σ H lo hi) (h0 : 0 < lo) (h1 : hi < 1073741824) (eb : b = hi - 1 := by omega) (hσ : σ[i]? = some (some (.ref D)) := by rfl) : EvI T D C (tCall (spAny T K) [] E (tCons (tVar i) (tCons ta tNil))) σ H 0 b := fun H1 k Q q =>
  ⟨.ref D, hσ, h H1 k _ fun r H2 r1 r2 k2 => ⟨k2.tab, D, C, r, rfl, k2.d1, by omega, by omega, fun u H3 u1 u2 k3 => q u H3 u1 (by omega) (k2.trans k3)⟩⟩
theorem x_of3 {i : Nat} {a b c lo hi : Int} (ha : lo ≤ a ∧ a < hi) (hb : lo ≤ b ∧ b < hi) (hc : lo ≤ c ∧ c < hi) (hσ : σ[i]? = some (some (.ref D)) := by rfl) :
    EvI T D C (tCall (spOf T K) [] E (tCons (tVar i) (tCons (tLst (tCons (tC (.int a)) (tCons (tC (.int b)) (tCons (tC (.int c)) tNil)))) tNil))) σ H lo hi := fun H1 k Q q =>
  ⟨.ref D, hσ, (by show 3 ≤ sizeLine; decide), fun L hL => by
    have nL := Le.new (o := .lst [.int a, .int b, .int c]) k.tab hL
    have l2 := k.le nL
    have ne := (Nf.of hL).off k.d1
    refine ⟨l2.tab, D, C, L, [.int a, .int b, .int c], rfl, l2.d1, upd_same, ne.1, ne.2, by simp, by simp, fun i v H3 hv l3 => ?_⟩
    have z := (Lx.of k.d1 nL).trans l3
    match i, hv with
    | 0, h => cases h; exact q _ H3 ha.1 ha.2 z
    | 1, h => cases h; exact q _ H3 hb.1 hb.2 z
    | 2, h => cases h; exact q _ H3 hc.1 hc.2 z⟩
theorem x_some {i : Nat} {n : Nat} (hn : n ≤ 1000) (hσ : σ[i]? = some (some (.ref D)) := by rfl) : EvR T K D C (tCall (spSome T K) [] E (tCons (tVar i) (tCons (tC (.int (n : Int))) tNil))) σ H n := fun H1 k Q q =>
  ⟨.ref D, hσ, k.tab, D, C, n, rfl, k.d1, hn, q⟩
/-- a test that may go either way -/
def EvT (T : Tabl) (D C : Addr) (tt : TT) (σ : L2.St) (H : Hp) : Prop := ∀ H1, Lx T D C H H1 → ∀ Q : Bool → Hp → Prop, (∀ b H2, Lx T D C H1 H2 → Q b H2) → tt σ H1 Q
theorem x_test {g : Int → Int → Bool} {c lo hi : Int} (h : EvI T D C ta σ H lo hi) : EvT T D C (tTest (tOp (rI0 fun i j => .bl (g i j)) ta (tC (.int c)))) σ H := fun H1 k Q q =>
  h H1 k _ fun r H2 _ _ k2 => ⟨r, c, rfl, rfl, (g r c), rfl, q _ H2 k2⟩
theorem x_testEq {c lo hi : Int} (h : EvI T D C ta σ H lo hi) : EvT T D C (tTest (tOp rEq ta (tC (.int c)))) σ H := fun H1 k Q q =>
  h H1 k _ fun r H2 _ _ k2 => ⟨rfl, _, rfl, q _ H2 k2⟩
theorem xs_if {ts us : TS} (h : EvT T D C tt σ H) (tH : LamX.Tabs T H) (d : Deal H D C) (q1 : ∀ H', Lx T D C H H' → ts En σ H') (q2 : ∀ H', Lx T D C H H' → us En σ H') : tIfS tt ts us En σ H :=
  h H (Lx.refl tH d) _ fun b H2 k => by
    cases b with
    | true => exact iteT (q1 H2 k)
    | false => exact iteF (q2 H2 k)
theorem ev_ixLI {i j : Nat} {p : Addr} {xs : List V} {v : V} {d : PyData} (hq : SqL K H p xs) (h : EvD T K tb σ H (.int (j : Int))) (hx : xs[j]? = some v) (hv : Dt K H v d) (hσ : σ[i]? = some (some (.ref p)) := by rfl) : EvD T K (tOp (rIxL K) (tVar i) tb) σ H d := fun H1 a Q q =>
  ⟨.ref p, hσ, h H1 a _ fun u H2 a2 hu => by
    cases hu
    have e : atI xs (j : Int) = some v := by
      unfold atI ixN
      have := (List.getElem?_eq_some_iff.mp hx).1
      simp [this]
      exact (List.getElem?_eq_some_iff.mp hx).2
    exact ⟨p, xs, (j : Int), v, rfl, rfl, sql_le hq (a.trans a2), e, q v H2 a2 (hv.mono (a.trans a2).tk)⟩⟩
theorem xs_set {i : Nat} {lo hi : Int} (h : EvI T D C te σ H lo hi) (tH : LamX.Tabs T H) (d : Deal H D C) (q : ∀ r H', lo ≤ r → r < hi → Lx T D C H H' → En.nx (σ.set i (some (.int r))) H') : tAsg te (gName i) En σ H :=
  h H (Lx.refl tH d) _ fun r H2 r1 r2 k => q r H2 r1 r2 k
theorem xs_setR {i n : Nat} (h : EvR T K D C te σ H n) (tH : LamX.Tabs T H) (d : Deal H D C) (q : ∀ x v H', IB 12 n x → Lx T D C H H' → Dt K H' v (fr x) → En.nx (σ.set i (some v)) H') : tAsg te (gName i) En σ H :=
  h H (Lx.refl tH d) _ fun x v H2 hx k hv => q x v H2 hx k hv
/-- xs.append(v), xs a new list -/
theorem xs_append {i : Nat} {p : Addr} {acc : List V} {H0 : Hp} {d : PyData} (hp : H p = some (.lst acc)) (a : Lx T D C H0 H) (n : Nf H0 p) (he : EvD T K te σ H d) (hz : acc.length ≤ 100000)
    (q : ∀ v H', Lx T D C H0 H' → TK H H' → (∀ b o, b ≠ p → H b = some o → (∀ ps, o ≠ .tbl ps) → H' b = some o) → H' p = some (.lst (acc ++ [v])) → Dt K H' v d → En.nx σ H') (hσ : σ[i]? = some (some (.ref p)) := by rfl) :
    tDrop (tBM K "list" rAppend (tVar i) (tCons te tNil)) En σ H :=
  ⟨.ref p, hσ, .inl ⟨rfl, acc, SqL.of hp⟩, he H (Le.refl a.tab) _ fun v H1 a1 hv => by
    have h1 : H1 p = some (.lst acc) := a1.at_ hp pl_lst
    have tk : TK H1 (upd H1 p (.lst (acc ++ [v]))) := (TK.refl H1).lst h1
    refine ⟨p, acc, v, rfl, rfl, h1, Nat.lt_of_le_of_lt hz (by decide), q v _ ((a.le a1).mutL n h1) (a1.tk.trans tk) (fun b o hb ho z => ?_) upd_same (hv.mono tk)⟩
    rw [upd_ne hb]
    exact a1.ext b o ho z⟩
end
section
variable {P : Program} {w : World} {K : PySem.W.Frag} {mg : Str → Option Value} {base : Heap} {T : Tabl}
abbrev s_law_net : Stmt := topS 49
abbrev N_law_net : List Str := ["_law_deal_here", "_law_many", "_law_is_firm", "_law_at", "_law_ties", "_law_points", "_law_last", "_law_other", "_law_weight"]
theorem sc_law_net : FnScope N_law_net ["_law_deal_here", "_law_many", "_law_is_firm"] (defScope s_law_net) := ⟨rfl, rfl, rfl, by decide +kernel, rfl, by decide +kernel, by decide +kernel⟩
theorem ok_law_net {f : Addr} {fd : FuncData} (F : Fun K "_law_net" "_law_net" s_law_net f fd) (m : Mg K mg) (c_law_any : Cal P w K mg base "_law_any" ["_law_deal_here", "_law_bound"] 1 (spAny T K)) (c_law_of : Cal P w K mg base "_law_of" ["_law_deal_here", "_law_some_here"] 2 (spOf T K)) (c_law_some : Cal P w K mg base "_law_some" ["_law_deal_here", "_law_size"] 3 (spSome T K)) :
    FnOk P w K mg base CX0 4 f fd ["_law_deal_here", "_law_many", "_law_is_firm"] (spNet T K) := by
  refine F.ok sc_law_net (fun vs H Q E ⟨_, _, _, _, e, _⟩ => by rw [e]; rfl) (fun cdv A outer s H vs Q E hr h => ?_)
  obtain ⟨tH, D, C, n, rfl, hd, hn, q⟩ := h
  refine ⟨_, (pss_cons (ps_par (i := 5) (j := 6) rfl sc_law_net.nd rfl rfl (by decide) rfl rfl (pa_cons (pe_lst pa_nil) (pa_cons pe_int pa_nil)) (by rfl))
      (pss_cons (ps_for PassesOwn.never rfl (pi_range1 (by rfl) m.rng (pa_cons (pv 1) pa_nil)) (pg_name (i := 3) sc_law_net.nd rfl (.inl rfl)) (pss_cons (ps_set (i := 6) sc_law_net.nd rfl (.inl rfl) (pe_op op_add (pe_op op_add (pv 6) (pe_cal c_law_any (hr.mono (by decide)) (by rfl) (pa_cons (pv 0) (pa_cons (pe_cal c_law_of (hr.mono (by decide)) (by rfl) (pa_cons (pv 0) (pa_cons (pe_lst (pa_cons pe_int (pa_cons pe_int (pa_cons pe_int pa_nil)))) pa_nil))) pa_nil)))) (pe_ifExp (pt_cmpR op_gt (pv 3) pe_int (nomark _)) pe_int pe_int)))
      (pss_one (ps_expr (pe_bm PySem.F.plainAttrs_list PySem.F.slot_list_append PySem.F.type_list_append mt_append (pv 5) (pa_cons (pv 6) pa_nil))))))
      (pss_cons (ps_set (i := 4) sc_law_net.nd rfl (.inl rfl) (pe_lst pa_nil))
      (pss_cons (ps_for PassesOwn.never rfl (pi_range1 (by rfl) m.rng (pa_cons (pv 1) pa_nil)) (pg_name (i := 3) sc_law_net.nd rfl (.inl rfl)) (pss_one (ps_for PassesOwn.never rfl (pi_range1 (by rfl) m.rng (pa_cons (pv 3) pa_nil)) (pg_name (i := 7) sc_law_net.nd rfl (.inl rfl)) (pss_one (ps_if (pt_cmpR op_gt (pe_cal c_law_any (hr.mono (by decide)) (by rfl) (pa_cons (pv 0) (pa_cons pe_int pa_nil))) pe_int (nomark _)) (pss_cons (ps_set (i := 8) sc_law_net.nd rfl (.inl rfl) (pe_cal c_law_some (hr.mono (by decide)) (by rfl) (pa_cons (pv 0) (pa_cons pe_int pa_nil))))
      (pss_cons (ps_set (i := 8) sc_law_net.nd rfl (.inl rfl) (pe_ifExp (PW.pt (pw_or (pt_val (pv 2)) (pw_or1 (pt_cmpR op_gt (pe_cal c_law_any (hr.mono (by decide)) (by rfl) (pa_cons (pv 0) (pa_cons pe_int pa_nil))) pe_int (nomark _))))) (pe_tup (pa_cons (pe_callB w_abs (by rfl) m.abs (by decide +kernel) (pa_cons (pe_ix (w_ixT (K := K)) (pv 8) pe_int (fun _ _ => rfl)) pa_nil)) (pa_cons (pe_ix (w_ixT (K := K)) (pv 8) pe_int (fun _ _ => rfl)) pa_nil))) (pv 8)))
      (pss_one (ps_expr (pe_bm PySem.F.plainAttrs_list PySem.F.slot_list_append PySem.F.type_list_append mt_append (pv 4) (pa_cons (pe_tup (pa_cons (pe_ix (w_ixL (K := K)) (pv 5) (pv 7) (fun _ _ => rfl)) (pa_cons (pe_ix (w_ixL (K := K)) (pv 5) (pv 3) (fun _ _ => rfl)) (pa_cons (pe_ifExp (pt_cmpR op_ne (pe_ix (w_ixT (K := K)) (pv 8) pe_int (fun _ _ => rfl)) pe_int (nomark _)) (pv 8) (pe_tup (pa_cons pe_int (pa_cons pe_int pa_nil)))) pa_nil)))) pa_nil)))))) pss_nil)))))
      (pss_one (ps_ret (pe_tup (pa_cons (pe_callTy (w_tuple (K := K)) (by rfl) m.tup (by decide +kernel) (pa_cons (pv 5) pa_nil)) (pa_cons (pe_callTy (w_tuple (K := K)) (by rfl) m.tup (by decide +kernel) (pa_cons (pe_callB (w_sortTri (K := K) (Nat.lt_trans (Nat.lt_succ_self _) (hu65 hr))) (by rfl) m.srt (by decide +kernel) (pa_cons (pv 4) pa_nil)) pa_nil)) pa_nil))))))))), ?_⟩
  refine ⟨Nat.zero_le _, fun P hP => ⟨_, _, rfl, ?_⟩⟩
  have n1 := Le.new (o := .lst []) tH hP
  have nP : Nf H P := Nf.of hP
  dsimp only
  refine for_src (src_rng1 (K := K) (n := n) (ev_var (.int _)) (by omega)) n1.tab fun H1 a1 => ⟨fun r σ' H' => ∃ (i : Nat) (ps : List Int) (last : Int) (y3 : Option V), r = (List.range n).drop i ∧ i ≤ n ∧ σ' = [some (.ref D), some (.int n), some (.bl true), y3, none, some (.ref P), some (.int last), none, none] ∧ Lx T D C H H' ∧
      H' P = some (.lst (ps.map V.int)) ∧ ps.length = i ∧ ps.Pairwise (· < ·) ∧ (∀ p ∈ ps, 0 ≤ p ∧ p ≤ last) ∧ 0 ≤ last ∧ last ≤ 5 * (i : Int), ⟨0, [], 0, none, rfl, Nat.zero_le _, rfl, (Lx.of hd n1).le a1, a1.at_ upd_same pl_lst, rfl, .nil, (fun p hp => by cases hp), Int.le_refl _, by omega⟩, fun r σ' H' ⟨_, _, _, _, _, _, _, k, _⟩ => ⟨trivial, k.tab⟩, ?_, ?_⟩
  · rintro x r σ' H' H'' v hx ⟨i, ps, last, y3, e, hi, rfl, k, hL, hlen, hasc, hbd, l0, l5⟩ a4 rfl
    obtain ⟨rfl, hlt, rfl⟩ := drop_range e.symm
    have k4 := k.le a4
    refine xs_set (D := D) (C := C) (lo := last + (if x = 0 then 0 else 1)) (hi := last + 5 + (if x = 0 then 0 else 1)) (x_add (a := last) (b := last + 5) (c := if x = 0 then 0 else 1) (d := (if x = 0 then 0 else 1) + 1) (x_add (a := last) (b := last + 1) (c := 0) (d := 5) x_var (x_any (x_of3 (lo := 1) (hi := 6) (by decide) (by decide) (by decide)) (by decide) (by decide))) ?_) k4.tab k4.d1 fun r H5 r1 r2 k5 => ?_
    · refine x_if (b := decide (0 < (x : Int))) (fun H5 k5 => eb_test (ev_opB (g := fun i j => decide (j < i)) (ev_var (K := K) (.int _)) ev_int)) (fun z => ?_) fun z => ?_
      · rw [if_neg (by have := of_decide_eq_true z; omega)]
        exact x_con
      · rw [if_pos (by have := of_decide_eq_false z; omega)]
        exact x_con
    · have hL5 : H5 P = some (.lst (ps.map V.int)) := k5.at_ (a4.at_ hL pl_lst) pl_lst.1 (nP.off hd).1 (nP.off hd).2
      refine xs_append (d := .int r) hL5 (k4.trans k5) nP (ev_var (K := K) (.int _)) (by rw [List.length_map]; omega) fun v H6 k6 _ _ hL6 hv => ?_
      cases hv
      refine ⟨x + 1, ps ++ [r], r, _, rfl, hlt, rfl, k6, by rw [List.map_append]; exact hL6, by rw [List.length_append, hlen]; rfl, List.pairwise_append.mpr ⟨hasc, List.pairwise_singleton _ _, fun a ha b hb => ?_⟩, fun p hp => ?_, ?_, ?_⟩
      · rw [List.mem_singleton.mp hb]
        have := hbd a ha
        have : x ≠ 0 := fun z => by
          rw [z] at hlen
          rw [List.length_eq_zero_iff.mp hlen] at ha
          cases ha
        rw [if_neg this] at r1
        omega
      · rcases List.mem_append.mp hp with z | z
        · have := hbd p z
          split at r1 <;> omega
        · rw [List.mem_singleton.mp z]
          split at r1 <;> omega
      · split at r1 <;> omega
      · split at r2 <;> omega
  · rintro σ' H' ⟨i, ps, last, y3, e, hi, rfl, k, hL, hlen, hasc, hbd, l0, l5⟩
    have ei := drop_range_nil hi e
    subst ei
    clear e hi
    dsimp only
    refine ⟨Nat.zero_le _, fun L hLn => ?_⟩
    have nL := Le.new (o := .lst []) k.tab hLn
    have nfL : Nf H L := k.nf (Nf.of hLn)
    have kL := k.le nL
    have nePL : P ≠ L := fun z => by
      subst z
      rw [hLn] at hL
      cases hL
    dsimp only
    have hL0 : (upd H' L (.lst [])) P = some (.lst (ps.map V.int)) := by rw [upd_ne nePL]; exact hL
    have hn6 : ps.length ≤ 6 := by omega
    have p64 : ∀ p ∈ ps, 0 ≤ p ∧ p < 64 := fun p hp => by have := hbd p hp; omega
    refine for_src (src_rng1 (K := K) (n := ps.length) (ev_var (by rw [hlen]; exact .int _)) (by omega)) kL.tab fun H2 a2 => ⟨fun r σ' H' => ∃ (i : Nat) (ts : List Tie) (acc : List V) (y3 y7 y8 : Option V), r = (List.range ps.length).drop i ∧ i ≤ ps.length ∧ σ' = [some (.ref D), some (.int (ps.length : Nat)), some (.bl true), y3, some (.ref L), some (.ref P), some (.int last), y7, y8] ∧ Lx T D C H H' ∧
      H' P = some (.lst (ps.map V.int)) ∧ H' L = some (.lst acc) ∧ Dts K H' acc (ts.map tieD) ∧ TInv ps i 0 ts, ⟨0, [], [], y3, none, none, rfl, Nat.zero_le _, by rw [hlen]; rfl, kL.le a2, a2.at_ hL0 pl_lst, a2.at_ upd_same pl_lst, .nil, Nat.zero_le _, .nil, (fun t ht => by cases ht), fun t ht => by cases ht⟩, fun r σ' H' ⟨_, _, _, _, _, _, _, _, _, k, _⟩ => ⟨trivial, k.tab⟩, ?_, ?_⟩
    · rintro x r σ' H3 H4 v hx ⟨i, ts, acc, z3, z7, z8, e, hi, rfl, k3, hP3, hL3, hd3, inv⟩ a4 rfl
      obtain ⟨rfl, hlt, rfl⟩ := drop_range e.symm
      have k4 := k3.le a4
      refine for_src (src_rng1 (K := K) (n := x) (ev_var (.int _)) (by omega)) k4.tab fun H5 a5 => ⟨fun r σ' H' => ∃ (j : Nat) (ts : List Tie) (acc : List V) (y7 y8 : Option V), r = (List.range x).drop j ∧ j ≤ x ∧ σ' = [some (.ref D), some (.int (ps.length : Nat)), some (.bl true), some (.int (x : Nat)), some (.ref L), some (.ref P), some (.int last), y7, y8] ∧ Lx T D C H H' ∧
        H' P = some (.lst (ps.map V.int)) ∧ H' L = some (.lst acc) ∧ Dts K H' acc (ts.map tieD) ∧ TInv ps x j ts, ⟨0, ts, acc, z7, z8, rfl, Nat.zero_le _, rfl, k4.le a5, a5.at_ (a4.at_ hP3 pl_lst) pl_lst, a5.at_ (a4.at_ hL3 pl_lst) pl_lst, hd3.mono (a4.trans a5).tk, inv⟩, fun r σ' H' ⟨_, _, _, _, _, _, _, _, k, _⟩ => ⟨trivial, k.tab⟩, ?_, ?_⟩
      · rintro j r σ' H6 H7 v hj ⟨j', ts, acc, z7, z8, e, hj', rfl, k6, hP6, hL6, hd6, inv⟩ a7 rfl
        obtain ⟨rfl, hjx, rfl⟩ := drop_range e.symm
        have k7 := k6.le a7
        refine xs_if (D := D) (C := C) (x_test (x_any (K := K) (b := 3) x_con (by decide) (by decide))) k7.tab k7.d1 (fun H8 k8 => ?_) fun H8 k8 => ?_
        · have k08 := k7.trans k8
          refine xs_setR (D := D) (C := C) (x_some (n := 9) (by decide)) k08.tab k08.d1 fun x8 v8 H9 ib9 k9 hv9 => ?_
          have k09 := k08.trans k9
          refine sd_set (d := fr x8.abs) (ev_if (eb_is (c := true) (eb_or (b := true) (c := true) (eb_tB (ev_var (K := K) (.bl true))) fun z => by cases z) rfl) (fun _ => ev_is (ev_tup (evs_cons (ev_abs (ev_ix (d := .int x8.num) (ev_var hv9) ev_int (dat_nat (j := 0) rfl))) (evs_cons (ev_ix (d := .int (x8.den : Int)) (ev_var hv9) ev_int (dat_nat (j := 1) rfl)) evs_nil))) ?_) fun z => by cases z) k09.tab fun v10 H10 a10 hv10 => ?_
          · rw [fr_abs]
            have ab : ∀ i : Int, (if i < 0 then -i else i) = ((i.natAbs : Nat) : Int) := fun i => by split <;> omega
            rw [ab]
          · have k10 := k09.le a10
            have st : Lx T D C H6 H10 := ((Lx.of k6.d1 a7).trans (k8.trans k9)).le a10
            have hP10 := st.at_ hP6 pl_lst.1 (nP.off hd).1 (nP.off hd).2
            have hL10 := st.at_ hL6 pl_lst.1 (nfL.off hd).1 (nfL.off hd).2
            have ja : ps[j]? = some ps[j] := List.getElem?_eq_getElem (by omega)
            have xa : ps[x]? = some ps[x] := List.getElem?_eq_getElem (by omega)
            generalize ps[j] = pa at ja
            generalize ps[x] = pb at xa
            have jv : (ps.map V.int)[j]? = some (.int pa) := by rw [List.getElem?_map, ja]; rfl
            have xv : (ps.map V.int)[x]? = some (.int pb) := by rw [List.getElem?_map, xa]; rfl
            obtain ⟨wg, hwg, w0, wi⟩ : ∃ wg : Rat, (if x8.abs.num = 0 then fr 1 else fr x8.abs) = fr wg ∧ 0 < wg ∧ IB 12 9 wg := by
              by_cases z : x8.abs.num = 0
              · rw [if_pos z]
                exact ⟨1, rfl, by decide, by decide, ⟨12, by norm_cast⟩, by decide, by decide⟩
              · rw [if_neg z]
                exact ⟨_, rfl, abs_pos (fun y => z (by rw [Rat.num_eq_zero.mp y]; rfl)), ib_abs ib9⟩
            refine xs_append (d := tieD (pa, pb, wg)) hL10 k10 nfL (ev_tup (evs_cons (ev_ixLI (SqL.of hP10) (ev_var (.int _)) jv (.int _)) (evs_cons (ev_ixLI (SqL.of hP10) (ev_var (.int _)) xv (.int _)) (evs_cons ?_ evs_nil)))) ?_ fun v11 H11 k11 tk11 kp11 hL11 hv11 => ?_
            · show EvD T K _ _ _ (fr wg)
              rw [← hwg]
              refine ev_if (b := !decide (x8.abs.num = 0)) (eb_test (ev_neI (ev_ix (d := .int x8.abs.num) (ev_var hv10) ev_int (dat_nat (j := 0) rfl)) ev_int)) (fun z => ?_) fun z => ?_
              · rw [if_neg (by simpa using z)]
                exact ev_var hv10
              · rw [if_pos (by simpa using z)]
                exact ev_is (ev_tup (evs_cons ev_int (evs_cons ev_int evs_nil))) rfl
            · rw [hd6.length, List.length_map]
              have := inv.1
              omega
            · exact ⟨j + 1, ts ++ [(pa, pb, wg)], _, _, _, rfl, hjx, rfl, k11, kp11 P _ nePL hP10 pl_lst.1, hL11, by rw [List.map_append]; exact ((hd6.mono st.tk).mono tk11).snoc hv11, inv.snoc hasc ja xa hjx w0 wi⟩
        · have k08 := k7.trans k8
          exact ⟨j + 1, ts, acc, _, z8, rfl, hjx, rfl, k08, k8.at_ (a7.at_ hP6 pl_lst) pl_lst.1 (nP.off hd).1 (nP.off hd).2, k8.at_ (a7.at_ hL6 pl_lst) pl_lst.1 (nfL.off hd).1 (nfL.off hd).2, (hd6.mono a7.tk).mono k8.tk, inv.skip⟩
      · rintro σ' H6 ⟨j', ts, acc, z7, z8, e, hj', rfl, k6, hP6, hL6, hd6, inv⟩
        have ej := drop_range_nil hj' e
        subst ej
        exact ⟨j' + 1, ts, acc, _, z7, z8, rfl, hlt, rfl, k6, hP6, hL6, hd6, inv.next (by omega)⟩
    · rintro σ' H3 ⟨i, ts, acc, z3, z7, z8, e, hi, rfl, k3, hP3, hL3, hd3, inv⟩
      have ei := drop_range_nil hi e
      subst ei
      dsimp only
      refine ⟨.ref P, rfl, P, _, rfl, .inl ⟨SqL.of hP3, fun A1 hA1 => ?_⟩⟩
      have nA := Le.new (o := .tup (ps.map V.int)) k3.tab hA1
      refine ⟨.ref L, rfl, ?_⟩
      unfold tNil
      show rSortTri K [.ref L] _ _
      refine use_sortTri (ts := ts) (vs := acc) (.inl (SqL.of (nA.at_ hL3 pl_lst))) (hd3.mono nA.tk) (by have := inv.1; omega) (fun t ht => p64 _ (inv.2.2.1 t ht).2.1) inv.2.1 fun ts' ys S pS hS hy hSn => ?_
      have nS := Le.new (o := .lst ys) nA.tab hSn
      refine ⟨S, ys, rfl, .inl ⟨SqL.of upd_same, fun A2 hA2 => ⟨by show 2 ≤ sizeLine; decide, fun A3 hA3 => ?_⟩⟩⟩
      have nA2 := Le.new (o := .tup ys) nS.tab hA2
      have nA3 := Le.new (o := .tup [.ref A1, .ref A2]) nA2.tab hA3
      have kf := k3.le (((nA.trans nS).trans nA2).trans nA3)
      refine q ⟨ps, ts'⟩ _ _ ⟨hlen, hasc, p64, hS, fun t ht => inv.2.2.1 t (pS.mem_iff.mp ht)⟩ kf ?_
      refine .new upd_same (.cons (.new ?_ (dts_ints ps)) (.cons (.new ?_ ((hy.mono nS.tk).mono (nA2.trans nA3).tk)) .nil))
      · exact nA3.at_ (nA2.at_ (nS.at_ upd_same pl_tup) pl_tup) pl_tup
      · exact nA3.at_ upd_same pl_tup
end
end Lf
end

section
set_option maxRecDepth 100000
set_option maxHeartbeats 4000000
set_option exponentiation.threshold 3000
/-! The walk of the law's strict nets; comprehensions that deal. -/
namespace Lf
open PySem PySem.Spec PyProof.Rows L2
section
variable {α β : Type} {T : Tabl} {K : PySem.W.Frag} {σ : L2.St} {H : Hp} {D C : Addr} {wi : TI} {kp : Hp → Hp → Prop} {l : List α} {R : Hp → V → α → Prop} {g : TG} {te : TE} {tt : TT} {vs : List Nat}
theorem t_tup {ta : TA} {Q : VK} (h : ta σ H fun xs H1 => xs.length ≤ sizeLine ∧ ∀ p, H1 p = none → Q (.ref p) (upd H1 p (.tup xs))) : tTup ta σ H Q := h
theorem t_cons {tr : TA} {Q : List V → Hp → Prop} (h : te σ H fun x H1 => tr σ H1 fun xs H2 => Q (x :: xs) H2) : tCons te tr σ H Q := h
theorem x_use {lo hi : Int} {Q : VK} (h : EvI T D C te σ H lo hi) (tH : LamX.Tabs T H) (d : Deal H D C) (q : ∀ r H', lo ≤ r → r < hi → Lx T D C H H' → Q (.int r) H') : te σ H Q := h H (Lx.refl tH d) Q q
theorem e_use {d : PyData} {Q : VK} (h : EvD T K te σ H d) (tH : LamX.Tabs T H) (q : ∀ v H', Le T H H' → Dt K H' v d → Q v H') : te σ H Q := h H (Le.refl tH) Q q
/-- one turn of a comprehension that deals -/
def Turn (T : Tabl) (K : PySem.W.Frag) (D C : Addr) (all : Bool) (Rel : α → β → Prop) (h : β → PyData) (tt : TT) (te : TE) (σ : L2.St) (H : Hp) (x : α) : Prop :=
  ∀ Q' : Bool → Hp → Prop, (∀ b H3, Lx T D C H H3 → (all = true → b = true) → (b = true → ∀ Q'' : VK, (∀ y v H4, Rel x y → Lx T D C H3 H4 → Dt K H4 v (h y) → Q'' v H4) → te σ H3 Q'') → Q' b H3) → tt σ H Q'
theorem lcx_src {Rel : α → β → Prop} {h : β → PyData} {all : Bool} (hl : l.length ≤ 100000) (tH : LamX.Tabs T H) (d : Deal H D C) (hs : Src T wi σ H kp l R) (hkp : ∀ H1 H2, Lx T D C H1 H2 → kp H1 H2)
    (step : ∀ x ∈ l, ∀ H1 v, Lx T D C H H1 → R H1 v x → ∀ Q : L2.St → Hp → Prop, (∀ σ2, wipe σ2 vs = wipe σ vs → Turn T K D C all Rel h tt te σ2 H1 x → Q σ2 H1) → g v (wipe σ vs) H1 Q)
    {Q : VK} (q : ∀ p ws (zs : List (α × β)) H2, Lx T D C H H2 → Nf H p → H2 p = some (.lst ws) → Dts K H2 ws (zs.map fun z => h z.2) → (zs.map (·.1)).Sublist l → (∀ z ∈ zs, Rel z.1 z.2) → (all = true → zs.map (·.1) = l) → Q (.ref p) H2) :
    tLc wi g tt te vs σ H Q := by
  refine hs H (Le.refl tH) _ fun J H1 St a it hk P hP => ?_
  have nP : Nf H P := a.nf (Nf.of hP)
  have n0 := Le.new (o := .lst []) a.tab hP
  have l1 := Lx.of d a
  refine ⟨fun i m H' => m = l.length - i ∧ i ≤ l.length ∧ Lx T D C H1 H' ∧ ∃ acc, ∃ zs : List (α × β), H' P = some (.lst acc) ∧ acc.length ≤ i ∧ Dts K H' acc (zs.map fun z => h z.2) ∧ (zs.map (·.1)).Sublist (l.take i) ∧ (∀ z ∈ zs, Rel z.1 z.2) ∧ (all = true → zs.map (·.1) = l.take i),
    ⟨l.length, by simp, Nat.zero_le _, Lx.of l1.d1 n0, [], [], upd_same, Nat.zero_le _, .nil, List.nil_sublist _, (fun z hz => by cases hz), fun _ => by simp⟩, ?_⟩
  rintro i m H' ⟨rfl, hi, a', acc, zs, eP, hlen, hacc, hsub, hrel, hall⟩
  have st := hk H' (hkp _ _ a')
  by_cases hlt : i < l.length
  · have et : l.take (i + 1) = l.take i ++ [l[i]] := take_snoc hlt
    obtain ⟨g1, g2⟩ := it.go i l[i] H' st a'.tab (List.getElem?_eq_getElem hlt)
    refine .inr ⟨g1, fun H3 => Lx T D C H1 H3 ∧ ∃ acc, ∃ zs : List (α × β), H3 P = some (.lst acc) ∧ acc.length ≤ i + 1 ∧ Dts K H3 acc (zs.map fun z => h z.2) ∧ (zs.map (·.1)).Sublist (l.take (i + 1)) ∧ (∀ z ∈ zs, Rel z.1 z.2) ∧ (all = true → zs.map (·.1) = l.take (i + 1)), fun H3 ⟨k1, k2⟩ => ⟨l.length - (i + 1), by omega, rfl, hlt, k1, k2⟩, fun x H2 y => ?_⟩
    obtain ⟨y1, y2⟩ := g2 x H2 y
    have k2 := (l1.trans a').le y1
    refine step l[i] (List.getElem_mem hlt) H2 x k2 y2 _ fun σ2 z1 z2 => ⟨z1, z2 _ fun b H3 a3 hb z3 => ?_⟩
    have n1 := (nP.off d).1
    have n2 := (nP.off d).2
    have eP3 : H3 P = some (.lst acc) := a3.at_ (y1.at_ eP pl_lst) pl_lst.1 n1 n2
    have hacc3 := (hacc.mono y1.tk).mono a3.tk
    cases b with
    | true =>
      refine iteT (z3 rfl _ fun yv v H5 hr a5 hv => ?_)
      have eP5 : H5 P = some (.lst acc) := a5.at_ eP3 pl_lst.1 n1 n2
      have kk : Lx T D C H1 H5 := ((a'.le y1).trans a3).trans a5
      refine ⟨acc, eP5, ?_, kk.mutL (Nf.of hP) eP5, acc ++ [v], zs ++ [(l[i], yv)], upd_same, by simp; omega, ?_, ?_, ?_, ?_⟩
      · exact Nat.lt_of_lt_of_le (Nat.lt_of_le_of_lt hlen hlt) (Nat.le_trans hl (by decide))
      · rw [List.map_append]
        exact ((hacc3.mono a5.tk).mono ((TK.refl _).lst eP5)).snoc (hv.mono ((TK.refl _).lst eP5))
      · rw [et, List.map_append]
        exact hsub.append (List.Sublist.refl _)
      · intro z hz
        rcases List.mem_append.mp hz with w | w
        · exact hrel z w
        · rw [List.mem_singleton.mp w]; exact hr
      · intro w
        rw [et, List.map_append, hall w]
        rfl
    | false =>
      refine iteF ⟨(a'.le y1).trans a3, acc, zs, eP3, by omega, hacc3, ?_, hrel, fun w => ?_⟩
      · rw [et]
        exact hsub.trans (List.sublist_append_left _ _)
      · cases hb w
  · have e : i = l.length := by omega
    subst e
    refine .inl ⟨it.stop H' st, ?_⟩
    rw [List.take_length] at hsub hall
    exact q P acc zs H' (l1.trans a') nP eP hacc hsub hrel hall
theorem xs_lc {Rel : α → β → Prop} {h : β → PyData} {all : Bool} {i : Nat} {En : Ends} (hl : l.length ≤ 100000) (tH : LamX.Tabs T H) (d : Deal H D C) (hs : Src T wi σ H kp l R) (hkp : ∀ H1 H2, Lx T D C H1 H2 → kp H1 H2)
    (step : ∀ x ∈ l, ∀ H1 v, Lx T D C H H1 → R H1 v x → ∀ Q : L2.St → Hp → Prop, (∀ σ2, wipe σ2 vs = wipe σ vs → Turn T K D C all Rel h tt te σ2 H1 x → Q σ2 H1) → g v (wipe σ vs) H1 Q)
    (q : ∀ p ws (zs : List (α × β)) H2, Lx T D C H H2 → Nf H p → H2 p = some (.lst ws) → Dts K H2 ws (zs.map fun z => h z.2) → (zs.map (·.1)).Sublist l → (∀ z ∈ zs, Rel z.1 z.2) → (all = true → zs.map (·.1) = l) → En.nx (σ.set i (some (.ref p))) H2) :
    tAsg (tLc wi g tt te vs) (gName i) En σ H := lcx_src hl tH d hs hkp step q
end
def pairD (t : Tie) : PyData := .tuple [.int t.1, .int t.2.1]
theorem pairD_cut (t : Tie) : PyData.tuple (cutD [.int t.1, .int t.2.1, fr t.2.2] none (some 2)) = pairD t := rfl
theorem shaped_pair (a b : Int) : SeqAt.shaped (.tuple [.int a, .int b]) = true := by first | rfl | simp [SeqAt.shaped, SeqAt.shapedAll]
theorem eqv_pair (a b c d : Int) : PyData.eqv (.tuple [.int a, .int b]) (.tuple [.int c, .int d]) = decide (a = c ∧ b = d) := by
  have h : PyData.eqv (.tuple [.int a, .int b]) (.tuple [.int c, .int d]) = (decide (a = c) && decide (b = d)) := by
    simp only [PyData.eqv, PyData.eqvAll, Bool.and_true]
    first | rfl | simp
  rw [h, Bool.decide_and]
theorem shaped_list {ds : List PyData} (h : ∀ d ∈ ds, d.canLay0 = true ∧ d.depth ≤ 20) : SeqAt.shaped (.list ds) = true := by
  have h1 : ∀ ds : List PyData, (∀ d ∈ ds, d.canLay0 = true ∧ d.depth ≤ 20) → PyData.canLayAll0 ds = true ∧ PyData.depthAll ds ≤ 20 := fun ds => by
    induction ds with
    | nil => intro _; exact ⟨rfl, Nat.zero_le _⟩
    | cons d ds ih =>
      intro h
      obtain ⟨i1, i2⟩ := ih fun x hx => h x (List.mem_cons_of_mem _ hx)
      obtain ⟨j1, j2⟩ := h d List.mem_cons_self
      refine ⟨by simp only [PyData.canLayAll0, i1, j1, Bool.and_true], ?_⟩
      simp only [PyData.depthAll]
      omega
  obtain ⟨k1, k2⟩ := h1 ds h
  have k3 : PyData.depth (.list ds) ≤ 64 := by simp only [PyData.depth]; omega
  unfold SeqAt.shaped
  rw [decide_eq_true k3]
  simp only [PyData.canLay0, k1, Bool.and_true]
theorem pair_ok (a b : Int) : (PyData.tuple [.int a, .int b]).canLay0 = true ∧ (PyData.tuple [.int a, .int b]).depth ≤ 20 := by
  refine ⟨rfl, ?_⟩
  simp [PyData.depth, PyData.depthAll]
theorem shaped_pairs (ts : List Tie) : SeqAt.shaped (.list (ts.map pairD)) = true := shaped_list fun d hd => by
  obtain ⟨t, _, rfl⟩ := List.mem_map.mp hd
  exact pair_ok _ _
/-! ### the strict net's mathematics -/
theorem ch_of {ts : List Tie} : ∀ {l : List Int}, (∀ i a b, l[i]? = some a → l[i + 1]? = some b → ∃ w, (a, b, w) ∈ ts) → Ch ts l
  | [], _ => trivial
  | [_], _ => trivial
  | a :: b :: r, h => ⟨h 0 a b rfl rfl, ch_of fun i x y h1 h2 => h (i + 1) x y h1 h2⟩
def hasKey (ts : List Tie) (t : Tie) : Bool := ts.any fun u => decide (u.1 = t.1 ∧ u.2.1 = t.2.1)
structure Strict (n : Nat) (N : Net) : Prop where
  net : LawNet n N
  ch : Ch N.ties N.pts
def Link (ps : List Int) (i : Nat) (t : Tie) : Prop := ps[i]? = some t.1 ∧ ps[i + 1]? = some t.2.1 ∧ 0 < t.2.2 ∧ IB 12 9 t.2.2
theorem strict_of {n : Nat} {ps : List Int} {ts ts' : List Tie} {zs : List (Nat × Tie)} (h : LawNet n ⟨ps, ts⟩) (hz : zs.map (·.1) = List.range (n - 1)) (hl : ∀ z ∈ zs, Link ps z.1 z.2)
    (hp : ts'.Perm (ts ++ (zs.map (·.2)).filter fun t => !hasKey ts t)) (hs : ts'.Pairwise TLt) : Strict n ⟨ps, ts'⟩ := by
  have hlen : ps.length = n := h.len
  refine ⟨⟨h.len, h.asc, h.bd, hs, fun t ht => ?_⟩, ch_of fun i a b h1 h2 => ?_⟩
  · rcases List.mem_append.mp (hp.mem_iff.mp ht) with z | z
    · exact h.firm t z
    · obtain ⟨q, hq, rfl⟩ := List.mem_map.mp (List.mem_filter.mp z).1
      obtain ⟨l1, l2, l3, l4⟩ := hl q hq
      exact ⟨List.mem_of_getElem? l1, List.mem_of_getElem? l2, asc_at h.asc (Nat.lt_succ_self _) l1 l2, l3, l4⟩
  · have hi : i + 1 < ps.length := (List.getElem?_eq_some_iff.mp h2).1
    have : i ∈ zs.map (·.1) := by rw [hz]; exact List.mem_range.mpr (by omega)
    obtain ⟨q, hq, rfl⟩ := List.mem_map.mp this
    obtain ⟨l1, l2, l3, l4⟩ := hl q hq
    have h1 : ps[q.1]? = some a := h1
    have h2 : ps[q.1 + 1]? = some b := h2
    have e1 : q.2.1 = a := Option.some.inj (l1.symm.trans h1)
    have e2 : q.2.2.1 = b := Option.some.inj (l2.symm.trans h2)
    by_cases hk : hasKey ts q.2 = true
    · obtain ⟨u, hu, e⟩ := List.any_eq_true.mp hk
      have e := of_decide_eq_true e
      refine ⟨u.2.2, hp.mem_iff.mpr (List.mem_append.mpr (.inl ?_))⟩
      have : (a, b, u.2.2) = u := by rw [← e1, ← e2, ← e.1, ← e.2]
      rw [this]
      exact hu
    · refine ⟨q.2.2.2, hp.mem_iff.mpr (List.mem_append.mpr (.inr (List.mem_filter.mpr ⟨?_, ?_⟩)))⟩
      · have : (a, b, q.2.2.2) = q.2 := by rw [← e1, ← e2]
        rw [this]
        exact List.mem_map.mpr ⟨q, hq, rfl⟩
      · have : hasKey ts (a, b, q.2.2.2) = hasKey ts q.2 := by unfold hasKey; rw [e1, e2]
        rw [this]
        simpa using hk
theorem apart_of {l : List Tie} (h : l.Pairwise TLt) : l.Pairwise Apart := h.imp fun {a b} k z => by
  rcases k with k | k
  · have := z.1; omega
  · have := z.2; omega
theorem links_apart {ps : List Int} (asc : ps.Pairwise (· < ·)) : ∀ {zs : List (Nat × Tie)}, (zs.map (·.1)).Pairwise (· < ·) → (∀ z ∈ zs, Link ps z.1 z.2) → (zs.map (·.2)).Pairwise Apart
  | [], _, _ => .nil
  | z :: zs, h, hl => by
    have h' := List.pairwise_cons.mp h
    refine List.pairwise_cons.mpr ⟨fun t ht => ?_, links_apart asc h'.2 fun x hx => hl x (List.mem_cons_of_mem _ hx)⟩
    obtain ⟨q, hq, rfl⟩ := List.mem_map.mp ht
    have h1 := h'.1 q.1 (List.mem_map.mpr ⟨q, hq, rfl⟩)
    have := asc_at asc h1 (hl z List.mem_cons_self).1 (hl q (List.mem_cons_of_mem _ hq)).1
    rintro ⟨e, _⟩
    have e : z.2.1 = q.2.1 := e
    omega
theorem strict_apart {n : Nat} {ps : List Int} {ts : List Tie} {zs : List (Nat × Tie)} (h : LawNet n ⟨ps, ts⟩) (hz : zs.map (·.1) = List.range (n - 1)) (hl : ∀ z ∈ zs, Link ps z.1 z.2) : (ts ++ (zs.map (·.2)).filter fun t => !hasKey ts t).Pairwise Apart := by
  refine List.pairwise_append.mpr ⟨apart_of h.srt, (links_apart h.asc (by rw [hz]; exact List.pairwise_lt_range) hl).sublist List.filter_sublist, fun t ht u hu z => ?_⟩
  have := (List.mem_filter.mp hu).2
  have hk : hasKey ts u = true := List.any_eq_true.mpr ⟨t, ht, decide_eq_true z⟩
  rw [hk] at this
  cases this
def spStrict (T : Tabl) (K : PySem.W.Frag) : Sp := fun vs H Q _ => LamX.Tabs T H ∧ ∃ (D C : Addr) (n : Nat), vs = [.ref D, .int n] ∧ Deal H D C ∧ 1 ≤ n ∧ n ≤ 6 ∧ ∀ (N : Net) v H', Strict n N → Lx T D C H H' → Dt K H' v (netD N) → Q v H'
section
variable {P : Program} {w : World} {K : PySem.W.Frag} {mg : Str → Option Value} {base : Heap} {T : Tabl}
theorem ev_srtT {σ : L2.St} {H H1 : Hp} {te : TE} {ts : List Tie} {Q : VK} (h : EvD T K te σ H (.tuple (ts.map tieD))) (hl : ts.length < 64) (hb : ∀ t ∈ ts, 0 ≤ t.2.1 ∧ t.2.1 < 64) (hn : ts.Pairwise Apart) (a : Le T H H1)
    (q : ∀ (ts' : List Tie) (v : V) (H2 : Hp), ts'.Perm ts → ts'.Pairwise TLt → Le T H1 H2 → Dt K H2 v (.tuple (ts'.map tieD)) → Q v H2) : tCB (rTup K) (tCons (tCB (rSortTri K) (tCons te tNil)) tNil) σ H1 Q :=
  h H1 a _ fun v H2 a2 hv => by
    cases hv with
    | tup hs hd =>
      rename_i b vs
      unfold tNil
      show rSortTri K [.ref b] _ _
      refine use_sortTri (.inr hs) hd hl hb hn fun ts' ys p hp hs' hy hpn => ?_
      have n1 := Le.new (o := .lst ys) a2.tab hpn
      refine ⟨p, ys, rfl, .inl ⟨SqL.of upd_same, fun c hc => ?_⟩⟩
      have n2 := Le.new (o := .tup ys) n1.tab hc
      exact q ts' _ _ hp hs' ((a2.trans n1).trans n2) (.new upd_same (hy.mono (n1.trans n2).tk))
theorem ev_notInD {σ : L2.St} {H : Hp} {ta : TE} {i : Nat} {p : Addr} {ws : List V} {ds : List PyData} {d : PyData} (ha : EvD T K ta σ H d) (hp : SqL K H p ws) (hw : Dts K H ws ds) (h1 : SeqAt.shaped d = true) (h2 : SeqAt.shaped (.list ds) = true) (hσ : σ[i]? = some (some (.ref p)) := by rfl) :
    EvD T K (tOp (rNotInD K) ta (tVar i)) σ H (.bool (!ds.any fun z => PyData.eqv z d)) := fun H1 a Q q =>
  ha H1 a _ fun v H2 a2 hv => ⟨.ref p, hσ, d, ds, Dt.dp _ _ hv, .lst (sql_le hp (a.trans a2)) (Dts.dp _ _ (hw.mono (a.trans a2).tk)), h1, h2, q _ H2 a2 (.bl _)⟩
theorem ev_inD {σ : L2.St} {H : Hp} {ta : TE} {i : Nat} {p : Addr} {ws : List V} {ds : List PyData} {d : PyData} (ha : EvD T K ta σ H d) (hp : SqL K H p ws) (hw : Dts K H ws ds) (h1 : SeqAt.shaped d = true) (h2 : SeqAt.shaped (.list ds) = true) (hσ : σ[i]? = some (some (.ref p)) := by rfl) :
    EvD T K (tOp (rInD K) ta (tVar i)) σ H (.bool (ds.any fun z => PyData.eqv z d)) := fun H1 a Q q =>
  ha H1 a _ fun v H2 a2 hv => ⟨.ref p, hσ, d, ds, Dt.dp _ _ hv, .lst (sql_le hp (a.trans a2)) (Dts.dp _ _ (hw.mono (a.trans a2).tk)), h1, h2, q _ H2 a2 (.bl _)⟩
theorem any_pair (ts : List Tie) (a b : Int) : ((ts.map pairD).any fun z => PyData.eqv z (.tuple [.int a, .int b])) = ts.any fun u => decide (u.1 = a ∧ u.2.1 = b) := by
  rw [List.any_map]
  congr 1
  funext u
  exact eqv_pair _ _ _ _
abbrev s_law_strict : Stmt := topS 50
abbrev N_law_strict : List Str := ["_law_deal_here", "_law_many", "_law_here", "_law_more", "_law_points", "_law_ties", "_law_tie", "_law_at"]
theorem sc_law_strict : FnScope N_law_strict ["_law_deal_here", "_law_many"] (defScope s_law_strict) := ⟨rfl, rfl, rfl, by decide +kernel, rfl, by decide +kernel, by decide +kernel⟩
theorem ok_law_strict {f : Addr} {fd : FuncData} (F : Fun K "_law_strict" "_law_strict" s_law_strict f fd) (m : Mg K mg) (c_law_any : Cal P w K mg base "_law_any" ["_law_deal_here", "_law_bound"] 1 (spAny T K)) (c_law_net : Cal P w K mg base "_law_net" ["_law_deal_here", "_law_many", "_law_is_firm"] 4 (spNet T K)) :
    FnOk P w K mg base CX0 5 f fd ["_law_deal_here", "_law_many"] (spStrict T K) := by
  refine F.ok sc_law_strict (fun vs H Q E ⟨_, _, _, _, e, _⟩ => by rw [e]; rfl) (fun cdv A outer s H vs Q E hr h => ?_)
  obtain ⟨tH, D, C, n, rfl, hd, hn1, hn, q⟩ := h
  refine ⟨_, (pss_cons (ps_asg (pe_cal c_law_net (hr.mono (by decide)) (by rfl) (pa_cons (pv 0) (pa_cons (pv 1) (pa_cons pe_bl pa_nil)))) (w_pg (K := K) (n := 2) rfl (pgs_cons (pg_name (i := 4) sc_law_strict.nd rfl (.inr rfl)) (pgs_cons (pg_name (i := 5) sc_law_strict.nd rfl (.inl rfl)) pgs_nil))))
      (pss_cons (ps_set (i := 2) sc_law_strict.nd rfl (.inr rfl) (pe_lc (own := [("_law_tie", 6)]) rfl sc_law_strict.nd (w_piT (K := K) (pv 5)) (blkOk_by (own := [("_law_tie", 6)]) (N := N_law_strict) (sc := defScope s_law_strict) (by decide +kernel)) (fun _ _ _ _ _ => (pg_name (i := 6) sc_law_strict.nd rfl (.inl rfl))) (fun _ _ _ _ _ => pts_nil) (fun _ _ _ _ _ => (pe_slice (w_slT (K := K)) (pv 6) po_none (po_some pe_int)))))
      (pss_cons (ps_setLc (i := 3) (own := [("_law_at", 7)]) rfl sc_law_strict.nd rfl rfl (sw_true rfl rfl rfl (by decide +kernel)) (pi_range2 (by rfl) m.rng (pa_cons pe_int (pa_cons (pv 1) pa_nil))) (blkOk_by (own := [("_law_at", 7)]) (N := N_law_strict) (sc := defScope s_law_strict) (by decide +kernel)) (fun _ _ _ _ _ => (pg_name (i := 7) sc_law_strict.nd rfl (.inl rfl))) (fun _ _ _ _ _ => pts_nil) (fun _ _ _ _ _ => (pe_tup (pa_cons (pe_ix (w_ixT (K := K)) (pv 4) (pe_op op_sub (pv 7) pe_int) (fun _ _ => rfl)) (pa_cons (pe_ix (w_ixT (K := K)) (pv 4) (pv 7) (fun _ _ => rfl)) (pa_cons (pe_tup (pa_cons (pe_op op_add pe_int (pe_cal c_law_any (hr.mono (by decide)) (by rfl) (pa_cons (pv 0) (pa_cons pe_int pa_nil)))) (pa_cons pe_int pa_nil))) pa_nil))))))
      (pss_one (ps_ret (pe_tup (pa_cons (pv 4) (pa_cons (pe_callTy (w_tuple (K := K)) (by rfl) m.tup (by decide +kernel) (pa_cons (pe_callB (w_sortTri (K := K) (Nat.lt_trans (Nat.lt_succ_self _) (hu65 hr))) (by rfl) m.srt (by decide +kernel) (pa_cons (pe_op (w_cat (K := K)) (pv 5) (pe_callTy (w_tuple (K := K)) (by rfl) m.tup (by decide +kernel) (pa_cons (pe_lc (own := [("_law_tie", 6)]) rfl sc_law_strict.nd (w_piL (K := K) (pv 3)) (blkOk_by (own := [("_law_tie", 6)]) (N := N_law_strict) (sc := defScope s_law_strict) (by decide +kernel)) (fun _ _ _ _ _ => (pg_name (i := 6) sc_law_strict.nd rfl (.inl rfl))) (fun _ _ _ _ _ => pts_one (pt_cmpR (w_notInD (K := K) (hu65 hr)) (pe_slice (w_slT (K := K)) (pv 6) po_none (po_some pe_int)) (pv 2) (by with_unfolding_all rfl))) (fun _ _ _ _ _ => (pv 6))) pa_nil))) pa_nil)) pa_nil)) pa_nil)))))))), ?_⟩
  refine ⟨.ref D, rfl, .int (n : Int), rfl, tH, D, C, n, rfl, hd, hn, fun N vN H1 hN l1 hv => ?_⟩
  refine g_two hv fun w4 w5 k4 k5 => ?_
  have tl : N.ties.length ≤ 36 := ties_len hN.srt (fun t ht => ⟨(hN.firm t ht).1, (hN.firm t ht).2.1⟩) hN.bd (by rw [hN.len]; exact hn)
  dsimp only
  refine sd_setL (K := K) (ds := N.ties.map pairD) ?_ l1.tab fun L ws H2 a2 nL eL hws => ?_
  · refine lc_all (by omega) (src_tup (f := tieD) (l := N.ties) (ev_var k5)) (fun _ _ k => k.tk) fun t ht H3 v a3 hv Q' q' => ?_
    exact q' [some (.ref D), some (.int n), none, none, some w4, some w5, some v, none] rfl (ev_is (ev_sl (ds := [.int t.1, .int t.2.1, fr t.2.2]) (ev_var hv) eo_none (eo_some (K := K) ev_int)) (by rw [pairD_cut]))
  have l2 := l1.le a2
  have hlen := hN.len
  dsimp only
  refine xs_lc (T := T) (K := K) (D := D) (C := C) (α := Nat) (β := Tie) (all := true) (Rel := Link N.pts) (h := tieD) (by rw [List.length_range]; omega) l2.tab l2.d1 (src_rng2 (K := K) (m := 1) (n := n) ev_int (ev_var (.int _)) (by decide) (by omega)) (fun _ _ _ => trivial) (fun x hx H3 v l3 hv Q' q' => ?_) fun p ms zs H3 l3 np ep hms hsub hrel hall => ?_
  · subst hv
    refine q' [some (.ref D), some (.int n), some (.ref L), none, some w4, some w5, none, some (.int ((1 + x : Nat) : Int))] rfl fun Q3 q3 => q3 true H3 (Lx.refl l3.tab l3.d1) (fun _ => rfl) fun _ Q4 q4 => ?_
    have hxn := List.mem_range.mp hx
    have k4' := (k4.mono a2.tk).mono l3.tk
    have xa : N.pts[x]? = some N.pts[x] := List.getElem?_eq_getElem (by omega)
    have xb : N.pts[x + 1]? = some N.pts[x + 1] := List.getElem?_eq_getElem (by omega)
    generalize N.pts[x] = pa at xa
    generalize N.pts[x + 1] = pb at xb
    show tTup _ _ _ _
    refine ev_ix (T := T) (K := K) (d := .int pa) (ev_var k4') (ev_is (ev_op (g := fun i j => i - j) (ev_var (K := K) (.int _)) ev_int) (show PyData.int (((1 + x : Nat) : Int) - 1) = .int (x : Nat) by congr 1; omega)) (dat_nat (by rw [List.getElem?_map, xa]; rfl)) H3 (Le.refl l3.tab) _ fun va H4 a4 hva => ?_
    refine ev_ix (T := T) (K := K) (d := .int pb) (ev_var (k4'.mono a4.tk)) (ev_is (ev_var (K := K) (.int _)) (show PyData.int ((1 + x : Nat) : Int) = .int ((x + 1 : Nat) : Int) by rw [Nat.add_comm])) (dat_nat (by rw [List.getElem?_map, xb]; rfl)) H4 (Le.refl a4.tab) _ fun vb H5 a5 hvb => ?_
    refine t_cons (t_tup (t_cons (x_use (T := T) (D := D) (C := C) (lo := 1) (hi := 5) ?_ a5.tab ((l3.le a4).le a5).d1 fun r H6 r1 r2 l6 => ?_)))
    · exact x_add x_con (x_any (K := K) (b := 4) x_con (by decide) (by decide))
    refine ⟨by show 2 ≤ sizeLine; decide, fun b1 hb1 => ⟨by show 3 ≤ sizeLine; decide, fun b2 hb2 => ?_⟩⟩
    have n1 := Le.new (o := .tup [.int r, .int 1]) l6.tab hb1
    have n2 := Le.new (o := .tup [va, vb, .ref b1]) n1.tab hb2
    have er : (r : Rat) = mkRat r 1 := (Rat.mkRat_one r).symm
    refine q4 (pa, pb, (r : Rat)) _ _ ⟨xa, xb, ?_, ?_⟩ ((((Lx.of l3.d1 (a4.trans a5)).trans l6).le n1).le n2) ?_
    · show (0 : Rat) < (r : Rat)
      have : (0 : Int) < r := by omega
      exact_mod_cast this
    · show IB 12 9 (r : Rat)
      rw [er]
      exact ib_mk (by omega) (by omega) (.inl rfl)
    · cases hva
      cases hvb
      exact .new upd_same (.cons (.int _) (.cons (.int _) (.cons (.new (n2.at_ upd_same pl_tup) (.cons (.int _) (.cons (.int _) .nil))) .nil)))
  · have l23 := l2.trans l3
    have hz := hall rfl
    have em : (zs.map fun z => tieD z.2) = (zs.map (·.2)).map tieD := by rw [List.map_map]; rfl
    rw [em] at hms
    have zlen : (zs.map (·.2)).length = n - 1 := by
      rw [List.length_map, ← List.length_map (f := fun z : Nat × Tie => z.1), hz, List.length_range]
    have k4' := (k4.mono a2.tk).mono l3.tk
    have k5' := (k5.mono a2.tk).mono l3.tk
    have pLD := nL.off l1.d1
    have eL3 : H3 L = some (.lst ws) := l3.at_ eL pl_lst.1 pLD.1 pLD.2
    have hws3 : Dts K H3 ws (N.ties.map pairD) := hws.mono l3.tk
    dsimp only
    refine ⟨w4, rfl, ?_⟩
    have hk := fun t : Tie => any_pair N.ties t.1 t.2.1
    have flen : ((zs.map (·.2)).filter fun t => !hasKey N.ties t).length ≤ n - 1 := by rw [← zlen]; exact List.length_filter_le _ _
    have cat := ev_cat (T := T) (K := K) (σ := [some (.ref D), some (.int n), some (.ref L), some (.ref p), some w4, some w5, none, none]) (H := H3) (ev_var (i := 5) k5') (ev_tupL (lc_src (T := T) (K := K) (p := fun t => !hasKey N.ties t) (h := tieD) (te := tVar 6) (tt := tTest (tOp (rNotInD K) (tSl (rSlA K) (tVar 6) tNoPart (tPart (tC (V.int 2)))) (tVar 2))) (vs := [6]) (g := gName 6) (by omega) (src_var (i := 3) (f := tieD) (l := zs.map (·.2)) (SqL.of ep) hms) (fun H1 H2 k => KL.le k) (fun t ht H4 v a4 hv Q' q' => ?_))) ?_
    · refine ev_srtT (K := K) (ts := N.ties ++ (zs.map (·.2)).filter fun t => !hasKey N.ties t) (ev_is cat (by rw [List.map_append])) ?_ ?_ (strict_apart hN hz hrel) (Le.refl l23.tab) fun ts' v5 H5 hp hs a5 hv5 => ?_
      · rw [List.length_append]
        omega
      · intro t ht
        rcases List.mem_append.mp ht with z | z
        · exact hN.bd _ (hN.firm t z).2.1
        · obtain ⟨y, hy, rfl⟩ := List.mem_map.mp (List.mem_filter.mp z).1
          exact hN.bd _ (List.mem_of_getElem? (hrel y hy).2.1)
      · refine ⟨by show 2 ≤ sizeLine; decide, fun b hb => ?_⟩
        have nn := Le.new (o := .tup [w4, v5]) a5.tab hb
        exact q ⟨N.pts, ts'⟩ _ _ (strict_of hN hz hrel hp hs) ((l23.le a5).le nn) (.new upd_same (.cons ((k4'.mono a5.tk).mono nn.tk) (.cons (hv5.mono nn.tk) .nil)))
    · refine q' [some (.ref D), some (.int n), some (.ref L), some (.ref p), some w4, some w5, some v, none] rfl (eb_is (eb_test (ev_notInD (d := .tuple [.int t.1, .int t.2.1]) (p := L) (ws := ws) (ds := N.ties.map pairD) (ev_is (ev_sl (ds := [.int t.1, .int t.2.1, fr t.2.2]) (ev_var hv) eo_none (eo_some (K := K) ev_int)) (pairD_cut t)) (SqL.of (a4.at_ eL3 pl_lst)) (hws3.mono a4.tk) (shaped_pair _ _) (shaped_pairs _))) (by rw [hk]; rfl)) fun _ => ev_var hv
    · rw [List.length_map, List.length_map]
      omega
end
end Lf
end

section
set_option maxRecDepth 100000
set_option maxHeartbeats 4000000
set_option exponentiation.threshold 3000
/-! The walk of the law's sources and floors. -/
namespace Lf
open PySem PySem.Spec PyProof.Rows L2
def spLSrc (T : Tabl) (K : PySem.W.Frag) : Sp := fun vs H Q _ => LamX.Tabs T H ∧ ∃ (vn vm : V) (N : Net) (s : List Rat), vs = [vn, vm] ∧ Dt K H vn (netD N) ∧ Dt K H vm (.tuple (s.map fr)) ∧ SrcSz N s ∧
  ∀ p H', Le T H H' → Nf H p → Dic K H' p (N.pts.map fun p => (p, fr (src N.ties s p))) → Q (.ref p) H'
section
variable {P : Program} {w : World} {K : PySem.W.Frag} {mg : Str → Option Value} {base : Heap} {T : Tabl}
theorem ed_dictL {σ : L2.St} {H : Hp} {ta : TE} {l : List (Int × PyData)} (h : EvL T K ta σ H (l.map prI)) (hn : (l.map (·.1)).Nodup) : EvDic T K (tCB (rDictP K) (tCons ta tNil)) σ H l := fun H1 a Q q =>
  h H1 a _ fun b xs H2 a2 hb e h3 => by
    obtain ⟨ps, kvs, e', hp, hd⟩ := prs_dr h3
    subst e'
    refine ⟨b, ps, kvs, rfl, SqL.of e, hp, fun p hpn => ?_⟩
    have nn := Le.new (o := .dK (mergeK [] kvs)) a2.tab hpn
    have := merge_dr (kvs := []) (acc := []) (m := []) DR.nil hd hn fun _ _ z => by cases z
    exact q p _ (a2.trans nn) (a2.nf (Nf.of hpn)) ⟨_, upd_same, this.mono nn.tk⟩
theorem zip_at {α β : Type} {l : List α} {m : List β} {i : Nat} {x : α} {y : β} (h1 : l[i]? = some x) (h2 : m[i]? = some y) : (l.zip m)[i]? = some (x, y) := by
  rw [List.getElem?_zip_eq_some]
  exact ⟨h1, h2⟩
theorem take_at {α : Type} {l : List α} {i : Nat} {x : α} (h : l[i]? = some x) : l.take (i + 1) = l.take i ++ [x] := by
  rw [List.take_add_one, h]
  rfl
abbrev s_law_sources : Stmt := topS 51
abbrev N_law_sources : List Str := ["_law_network", "_law_stream", "_law_found", "_law_at", "_law_low", "_law_high", "_law_weight", "_law_point"]
theorem sc_law_sources : FnScope N_law_sources ["_law_network", "_law_stream"] (defScope s_law_sources) := ⟨rfl, rfl, rfl, by decide +kernel, rfl, by decide +kernel, by decide +kernel⟩
theorem ok_law_sources {f : Addr} {fd : FuncData} (F : Fun K "_law_sources" "_law_sources" s_law_sources f fd) (m : Mg K mg) (c_law_plus : Cal P w K mg base "_law_plus" ["_law_one", "_law_other"] 2 (Pur T K pPlus)) (c_law_less : Cal P w K mg base "_law_less" ["_law_one", "_law_other"] 2 (Pur T K pMinus)) :
    FnOk P w K mg base CX0 3 f fd ["_law_network", "_law_stream"] (spLSrc T K) := by
  refine F.ok sc_law_sources (fun vs H Q E ⟨_, _, _, _, _, e, _⟩ => by rw [e]; rfl) (fun cdv A outer s H vs Q E hr h => ?_)
  obtain ⟨tH, vn, vm, N, st, rfl, h1, h2, ⟨hlen, h36, hnd, h6, hin, A0, R, hA, bA, bR, hib⟩, q⟩ := h
  refine ⟨_, (pss_cons (ps_set (i := 2) sc_law_sources.nd rfl (.inl rfl) (pe_callTy (w_dictP (K := K) rfl) (by rfl) m.dct (by decide +kernel) (pa_cons (pe_lc (own := [("_law_point", 7)]) rfl sc_law_sources.nd (w_piT (K := K) (pe_ix (w_ixT (K := K)) (pv 0) pe_int (fun _ _ => rfl))) (blkOk_by (own := [("_law_point", 7)]) (N := N_law_sources) (sc := defScope s_law_sources) (by decide +kernel)) (fun _ _ _ _ _ => (pg_name (i := 7) sc_law_sources.nd rfl (.inl rfl))) (fun _ _ _ _ _ => pts_nil) (fun _ _ _ _ _ => (pe_tup (pa_cons (pv 7) (pa_cons (pe_tup (pa_cons pe_int (pa_cons pe_int pa_nil))) pa_nil))))) pa_nil)))
      (pss_cons (ps_for PassesOwn.never rfl (pi_range1 (by rfl) m.rng (pa_cons (pe_callB (w_len (K := K)) (by rfl) m.len PySem.boot_len (pa_cons (pv 1) pa_nil)) pa_nil)) (pg_name (i := 3) sc_law_sources.nd rfl (.inl rfl)) (pss_cons (ps_asg (pe_ix (w_ixT (K := K)) (pe_ix (w_ixT (K := K)) (pv 0) pe_int (fun _ _ => rfl)) (pv 3) (fun _ _ => rfl)) (w_pg (K := K) (n := 3) rfl (pgs_cons (pg_name (i := 4) sc_law_sources.nd rfl (.inl rfl)) (pgs_cons (pg_name (i := 5) sc_law_sources.nd rfl (.inl rfl)) (pgs_cons (pg_name (i := 6) sc_law_sources.nd rfl (.inl rfl)) pgs_nil)))))
      (pss_cons (ps_dput (hu_of hr) (pv 2) (pv 4) (pe_cal c_law_plus (hr.mono (by decide)) (by rfl) (pa_cons (pe_dget (hu_of hr) (pv 2) (pv 4) (fun _ _ => rfl)) (pa_cons (pe_ix (w_ixT (K := K)) (pv 1) (pv 3) (fun _ _ => rfl)) pa_nil))) rfl)
      (pss_one (ps_dput (hu_of hr) (pv 2) (pv 5) (pe_cal c_law_less (hr.mono (by decide)) (by rfl) (pa_cons (pe_dget (hu_of hr) (pv 2) (pv 5) (fun _ _ => rfl)) (pa_cons (pe_ix (w_ixT (K := K)) (pv 1) (pv 3) (fun _ _ => rfl)) pa_nil))) rfl)))))
      (pss_one (ps_ret (pv 2))))), ?_⟩
  have ez : ∀ l : List Int, (l.map fun p => (p, fr 0)).map (·.1) = l := fun l => by rw [List.map_map]; exact List.map_id _
  refine sd_setD (K := K) (l := N.pts.map fun p => (p, fr 0)) (ed_dictL ?_ (by rw [ez]; exact hnd)) tH fun L H1 a1 nL hD => ?_
  · rw [List.map_map]
    refine lc_all (by omega) (src_tup (f := PyData.int) (l := N.pts) (ev_ix (ev_var h1) ev_int (dat_nat (j := 0) rfl))) (fun _ _ k => k.tk) fun p hp H2 v a2 hv Q' q' => ?_
    exact q' [some vn, some vm, none, none, none, none, none, some v] rfl (ev_tup (evs_cons (ev_var hv) (evs_cons (ev_tup (evs_cons ev_int (evs_cons ev_int evs_nil))) evs_nil)))
  · dsimp only
    refine for_src (src_rng1 (K := K) (n := st.length) (ev_is (ev_len (ev_var (h2.mono a1.tk))) (by rw [List.length_map])) (by omega)) a1.tab fun H2 a2 => ⟨fun r σ' H' => ∃ (i : Nat) (done : List (Tie × Rat)) (y3 y4 y5 y6 : Option V), r = (List.range st.length).drop i ∧ i ≤ st.length ∧ σ' = [some vn, some vm, some (.ref L), y3, y4, y5, y6, none] ∧ Le T H H' ∧ done = (N.ties.zip st).take i ∧ Dic K H' L (N.pts.map fun p => (p, fr (src (done.map (·.1)) (done.map (·.2)) p))),
      ⟨0, [], none, none, none, none, rfl, Nat.zero_le _, rfl, a1.trans a2, rfl, hD.le a2⟩, fun r σ' H' ⟨_, _, _, _, _, _, _, _, _, k, _⟩ => ⟨trivial, k.tab⟩, ?_, ?_⟩
    · rintro x r σ' H' H'' v hxm ⟨i, done, y3, y4, y5, y6, e, hi, rfl, a, e2, hD'⟩ a3 rfl
      obtain ⟨rfl, hlt, rfl⟩ := drop_range e.symm
      have ea := a.trans a3
      have mt : N.ties[x]? = some N.ties[x] := List.getElem?_eq_getElem (by omega)
      have mm : st[x]? = some st[x] := List.getElem?_eq_getElem (by omega)
      generalize N.ties[x] = t at mt
      generalize st[x] = mu at mm
      have htm := List.mem_of_getElem? mt
      have hmm := List.mem_of_getElem? mm
      obtain ⟨i1, i2, i3⟩ := hin t htm
      have dl : done.length ≤ 36 := by
        rw [e2, List.length_take, List.length_zip]
        omega
      have dib : ∀ q ∈ done, IB A0 R q.2 := fun q hq => by
        rw [e2] at hq
        exact hib _ (List.of_mem_zip (show (q.1, q.2) ∈ N.ties.zip st from List.mem_of_mem_take hq)).2
      have sS : ∀ p, Sm (src (done.map (·.1)) (done.map (·.2)) p) := fun p => (src_ib hA p dib).sm bA (Nat.lt_of_le_of_lt (Nat.mul_le_mul_right _ (by rw [← Nat.mul_assoc]; exact Nat.mul_le_mul_right _ (by omega))) bR)
      have sM : Sm mu := (hib mu hmm).sm bA (Nat.lt_of_le_of_lt (Nat.mul_le_mul_right _ (by omega)) bR)
      refine sd_asg (d := tieD t) (ev_ix (ev_ix (ev_var (h1.mono ea.tk)) ev_int (dat_nat (j := 1) rfl)) (ev_var (K := K) (.int _)) (dat_nat (by rw [List.getElem?_map, mt]; rfl))) ea.tab fun v5 H5 a5 h5 => ?_
      refine g_three h5 fun w5 w6 w7 k5 k6 k7 => ?_
      have e5 := ea.trans a5
      have hm5 : EvD T K (tOp (rIxT K) (tVar 1) (tVar 3)) [some vn, some vm, some (.ref L), some (.int (x : Nat)), some w5, some w6, some w7, none] H5 (fr mu) := ev_ix (ev_var (h2.mono e5.tk)) (ev_var (K := K) (.int _)) (dat_nat (by rw [List.getElem?_map, mm]; rfl))
      dsimp only
      have hD2 := (hD'.le a3).le a5
      refine sd_dput (k := t.1) (d := fr (src (done.map (·.1)) (done.map (·.2)) t.1 + mu)) hD2 e5 nL (ev_call (evs_cons (ev_dget hD2 (ev_var k5) (getL_map _ i1)) (evs_cons hm5 evs_nil)) ⟨_, _, rfl, sS _, sM, rfl⟩) (ev_var k5) (by rw [List.length_map]; omega) fun H6 b1 b2 _ b3 => ?_
      rw [putL_map _ i1] at b3
      dsimp only
      have g2 : getL (N.pts.map fun p => (p, if p = t.1 then fr (src (done.map (·.1)) (done.map (·.2)) t.1 + mu) else fr (src (done.map (·.1)) (done.map (·.2)) p))) t.2.1 = some (fr (src (done.map (·.1)) (done.map (·.2)) t.2.1)) := by
        rw [getL_map (fun p => if p = t.1 then fr (src (done.map (·.1)) (done.map (·.2)) t.1 + mu) else fr (src (done.map (·.1)) (done.map (·.2)) p)) i2, if_neg fun z => i3 z.symm]
      have hm6 : EvD T K (tOp (rIxT K) (tVar 1) (tVar 3)) [some vn, some vm, some (.ref L), some (.int (x : Nat)), some w5, some w6, some w7, none] H6 (fr mu) := ev_ix (ev_var ((h2.mono e5.tk).mono b2)) (ev_var (K := K) (.int _)) (dat_nat (by rw [List.getElem?_map, mm]; rfl))
      refine sd_dput (k := t.2.1) (d := fr (src (done.map (·.1)) (done.map (·.2)) t.2.1 - mu)) b3 b1 nL (ev_call (evs_cons (ev_dget b3 (ev_var (k6.mono b2)) g2) (evs_cons hm6 evs_nil)) ⟨_, _, rfl, sS _, sM, rfl⟩) (ev_var (k6.mono b2)) (by rw [List.length_map]; omega) fun H7 c1 c2 _ c3 => ?_
      rw [putL_map _ i2] at c3
      refine ⟨x + 1, done ++ [(t, mu)], _, _, _, _, rfl, hlt, rfl, c1, ?_, ?_⟩
      · rw [take_at (zip_at mt mm), e2]
      have e5 : (N.pts.map fun p => (p, if p = t.2.1 then fr (src (done.map (·.1)) (done.map (·.2)) t.2.1 - mu) else if p = t.1 then fr (src (done.map (·.1)) (done.map (·.2)) t.1 + mu) else fr (src (done.map (·.1)) (done.map (·.2)) p))) = N.pts.map fun p => (p, fr (src ((done ++ [(t, mu)]).map (·.1)) ((done ++ [(t, mu)]).map (·.2)) p)) := by
        refine List.map_congr_left fun p _ => ?_
        rw [src_snoc]
        by_cases z1 : p = t.2.1
        · have z2 : ¬ t.1 = p := fun z => i3 (z.trans z1)
          have z3 : t.2.1 = p := z1.symm
          rw [if_pos z1, if_neg z2, if_pos z3, z3]
          congr 2
          grind
        · have z3 : ¬ t.2.1 = p := fun z => z1 z.symm
          rw [if_neg z1, if_neg z3]
          by_cases z2 : p = t.1
          · have z4 : t.1 = p := z2.symm
            rw [if_pos z2, if_pos z4, z4]
            congr 2
            grind
          · have z4 : ¬ t.1 = p := fun z => z2 z.symm
            rw [if_neg z2, if_neg z4]
            congr 2
            grind
      rw [e5] at c3
      exact c3
    · rintro σ' H' ⟨i, done, y3, y4, y5, y6, e, hi, rfl, a, e2, hD'⟩
      have ei := drop_range_nil hi e
      subst ei
      rw [List.take_of_length_le (by rw [List.length_zip]; omega)] at e2
      subst e2
      rw [List.map_fst_zip (by omega), List.map_snd_zip (by omega)] at hD'
      exact ⟨.ref L, rfl, q L H' a nL hD'⟩
theorem t_par3 {i j l : Nat} {ta : TA} {D : Ends} {σ : L2.St} {H : Hp} {tr : TS} (h : ta σ H fun vs H1 => ∃ u v w, vs = [u, v, w] ∧ tr D (((σ.set i (some u)).set j (some v)).set l (some w)) H1) : tSeq (tPar3 i j l ta) tr D σ H := h
theorem ed_lsrc {σ : L2.St} {H : Hp} {ta tb : TE} {N : Net} {s : List Rat} {E : XK} (h1 : EvD T K ta σ H (netD N)) (h2 : EvD T K tb σ H (.tuple (s.map fr))) (hs : SrcSz N s) : EvDic T K (tCall (spLSrc T K) [] E (tCons ta (tCons tb tNil))) σ H (N.pts.map fun p => (p, fr (src N.ties s p))) := fun H1 a Q q =>
  h1 H1 a _ fun v H2 a2 hv => h2 H2 (a.trans a2) _ fun u H3 a3 hu => ⟨a3.tab, v, u, N, s, rfl, hv.mono a3.tk, hu, hs, fun p H' k n hd => q p H' ((a2.trans a3).trans k) ((a2.trans a3).nf n) hd⟩
theorem fr_half : fr (1 / 2) = .tuple [.int 1, .int 2] := by
  have e : (1 / 2 : Rat) = mkRat 1 2 := by rw [Rat.mkRat_eq_div]; norm_cast
  rw [e]
  rfl
theorem sm_half : Sm (1 / 2) := by
  have e : (1 / 2 : Rat) = mkRat 1 2 := by rw [Rat.mkRat_eq_div]; norm_cast
  rw [e]
  refine ⟨?_, ?_⟩
  · show 1 < 2 ^ 1400
    exact Nat.one_lt_two_pow (by decide)
  · show 2 < 2 ^ 1400
    exact Nat.lt_of_lt_of_le (show 2 < 2 ^ 2 by decide) (Nat.pow_le_pow_right (by decide) (by decide))
abbrev s_law_floor : Stmt := topS 52
abbrev N_law_floor : List Str := ["_law_network", "_law_told", "_law_stream", "_law_at", "_law_out", "_law_found", "_law_lost", "_law_point", "_law_worth"]
theorem sc_law_floor : FnScope N_law_floor ["_law_network", "_law_told", "_law_stream"] (defScope s_law_floor) := ⟨rfl, rfl, rfl, by decide +kernel, rfl, by decide +kernel, by decide +kernel⟩
theorem ok_law_floor {f : Addr} {fd : FuncData} (F : Fun K "_law_floor" "_law_floor" s_law_floor f fd) (m : Mg K mg) (c_law_sources : Cal P w K mg base "_law_sources" ["_law_network", "_law_stream"] 3 (spLSrc T K)) (c_law_plus : Cal P w K mg base "_law_plus" ["_law_one", "_law_other"] 2 (Pur T K pPlus)) (c_law_less : Cal P w K mg base "_law_less" ["_law_one", "_law_other"] 2 (Pur T K pMinus))
    (c_law_times : Cal P w K mg base "_law_times" ["_law_one", "_law_other"] 2 (Pur T K pTimes)) (c_law_over : Cal P w K mg base "_law_over" ["_law_one", "_law_other"] 2 (Pur T K pOver)) : FnOk P w K mg base CX0 4 f fd ["_law_network", "_law_told", "_law_stream"] (spFloor T K) := by
  refine F.ok sc_law_floor (fun vs H Q E ⟨_, _, _, _, _, _, _, _, e, _⟩ => by rw [e]; rfl) (fun cdv A outer s H vs Q E hr h => ?_)
  obtain ⟨tH, vn, vt, vm, N, told, t, st, rfl, h1, h2, h3, hf, q⟩ := h
  have hlen := hf.sz.1
  have h36 := hf.sz.2.1
  refine ⟨_, (pss_cons (ps_par3 (i := 4) (j := 5) (l := 6) rfl sc_law_floor.nd rfl rfl rfl (by decide) (by decide) (by decide) rfl rfl rfl (pa_cons (pe_cal c_law_sources (hr.mono (by decide)) (by rfl) (pa_cons (pv 0) (pa_cons (pv 2) pa_nil))) (pa_cons (pe_tup (pa_cons pe_int (pa_cons pe_int pa_nil))) (pa_cons (pe_tup (pa_cons pe_int (pa_cons pe_int pa_nil))) pa_nil))) (by rfl))
      (pss_cons (ps_for PassesOwn.never rfl (w_piT (K := K) (pv 1)) (w_pg (K := K) (n := 2) rfl (pgs_cons (pg_name (i := 7) sc_law_floor.nd rfl (.inl rfl)) (pgs_cons (pg_name (i := 8) sc_law_floor.nd rfl (.inl rfl)) pgs_nil))) (pss_one (ps_set (i := 5) sc_law_floor.nd rfl (.inl rfl) (pe_cal c_law_plus (hr.mono (by decide)) (by rfl) (pa_cons (pv 5) (pa_cons (pe_cal c_law_times (hr.mono (by decide)) (by rfl) (pa_cons (pv 8) (pa_cons (pe_dget (hu_of hr) (pv 4) (pv 7) (fun _ _ => rfl)) pa_nil))) pa_nil))))))
      (pss_cons (ps_for PassesOwn.never rfl (pi_range1 (by rfl) m.rng (pa_cons (pe_callB (w_len (K := K)) (by rfl) m.len PySem.boot_len (pa_cons (pv 2) pa_nil)) pa_nil)) (pg_name (i := 3) sc_law_floor.nd rfl (.inl rfl)) (pss_one (ps_set (i := 6) sc_law_floor.nd rfl (.inl rfl) (pe_cal c_law_plus (hr.mono (by decide)) (by rfl) (pa_cons (pv 6) (pa_cons (pe_cal c_law_over (hr.mono (by decide)) (by rfl) (pa_cons (pe_cal c_law_times (hr.mono (by decide)) (by rfl) (pa_cons (pe_ix (w_ixT (K := K)) (pv 2) (pv 3) (fun _ _ => rfl)) (pa_cons (pe_ix (w_ixT (K := K)) (pv 2) (pv 3) (fun _ _ => rfl)) pa_nil))) (pa_cons (pe_ix (w_ixT (K := K)) (pe_ix (w_ixT (K := K)) (pe_ix (w_ixT (K := K)) (pv 0) pe_int (fun _ _ => rfl)) (pv 3) (fun _ _ => rfl)) pe_int (fun _ _ => rfl)) pa_nil))) pa_nil))))))
      (pss_one (ps_ret (pe_cal c_law_less (hr.mono (by decide)) (by rfl) (pa_cons (pv 5) (pa_cons (pe_cal c_law_times (hr.mono (by decide)) (by rfl) (pa_cons (pe_tup (pa_cons pe_int (pa_cons pe_int pa_nil))) (pa_cons (pv 6) pa_nil))) pa_nil)))))))), ?_⟩
  refine t_par3 (t_cons ?_)
  refine ed_lsrc (ev_var h1) (ev_var h3) hf.sz H (Le.refl tH) _ fun L H1 a1 nL hD => ?_
  refine t_cons (e_use (K := K) (d := fr 0) ?_ a1.tab fun v1 H2 a2 hv1 => t_cons (e_use (K := K) (d := fr 0) ?_ a2.tab fun v2 H3 a3 hv2 => ?_))
  · exact ev_is (ev_tup (evs_cons ev_int (evs_cons ev_int evs_nil))) rfl
  · exact ev_is (ev_tup (evs_cons ev_int (evs_cons ev_int evs_nil))) rfl
  refine ⟨_, _, _, rfl, ?_⟩
  have a03 := (a1.trans a2).trans a3
  rw [wI_map] at h2
  refine for_src (src_tup (f := fun p => prI (p, fr (t p))) (l := told) (ev_var (h2.mono a03.tk))) a03.tab fun H4 a4 => ⟨fun r σ' H' => ∃ acc va y6 y7, σ' = [some vn, some vt, some vm, none, some (.ref L), some va, some v2, y6, y7] ∧ Le T H H' ∧ TK H4 H' ∧ Dic K H' L (N.pts.map fun p => (p, fr (src N.ties st p))) ∧ Dt K H' va (fr acc) ∧ Dt K H' v2 (fr 0) ∧ SumOk acc (r.map fun p => t p * src N.ties st p) ∧ acc + tot (r.map fun p => t p * src N.ties st p) = tot (told.map fun p => t p * src N.ties st p),
    ⟨0, v1, none, none, rfl, a03.trans a4, TK.refl _, ((hD.le a2).le a3).le a4, (hv1.mono a3.tk).mono a4.tk, hv2.mono a4.tk, hf.sum, by rw [Rat.zero_add]⟩, fun r σ' H' ⟨_, _, _, _, _, k, k2, _⟩ => ⟨k2, k.tab⟩, ?_, ?_⟩
  · rintro p r σ' H' H'' v hpm ⟨acc, va, y6, y7, rfl, a, k2, hD', ha, hz, hso, e⟩ a4 hx
    have ea := a.trans a4
    refine g_two hx fun w6 w7 k6 k7 => ?_
    obtain ⟨s1, s2⟩ := hf.sm p hpm
    refine sd_set (ev_call (evs_cons (ev_var (ha.mono a4.tk)) (evs_cons (ev_call (evs_cons (ev_var k7) (evs_cons (ev_dget (hD'.le a4) (ev_var k6) (getL_map (fun p => fr (src N.ties st p)) (hf.sub p hpm))) evs_nil)) ⟨_, _, rfl, s1, s2, rfl⟩) evs_nil)) ⟨_, _, rfl, hso.1, hso.2.1, rfl⟩) ea.tab fun vc H5 a5 hc => ?_
    exact ⟨_, vc, _, _, rfl, ea.trans a5, k2.trans (a4.trans a5).tk, hD'.le (a4.trans a5), hc, hz.mono (a4.trans a5).tk, hso.2.2, by rw [← e]; show _ + tot _ = acc + (_ + tot _); rw [Rat.add_assoc]⟩
  · rintro σ' H' ⟨acc, va, y6, y7, rfl, a, k2, hD', ha, hz, hso, e⟩
    have e : acc + 0 = tot (told.map fun p => t p * src N.ties st p) := e
    rw [Rat.add_zero] at e
    subst e
    dsimp only
    refine for_src (src_rng1 (K := K) (n := st.length) (ev_is (ev_len (ev_var (h3.mono a.tk))) (by rw [List.length_map])) (by omega)) a.tab fun H5 a5 => ⟨fun r σ' H' => ∃ (i : Nat) (acc : Rat) (vl : V) (y3 : Option V), r = (List.range st.length).drop i ∧ i ≤ st.length ∧ σ' = [some vn, some vt, some vm, y3, some (.ref L), some va, some vl, y6, y7] ∧ Le T H H' ∧
      Dt K H' va (fr (tot (told.map fun p => t p * src N.ties st p))) ∧ Dt K H' vl (fr acc) ∧ SumOk acc (((N.ties.zip st).drop i).map fun q => q.2 * q.2 / q.1.2.2) ∧ acc + tot (((N.ties.zip st).drop i).map fun q => q.2 * q.2 / q.1.2.2) = tot ((N.ties.zip st).map fun q => q.2 * q.2 / q.1.2.2),
      ⟨0, 0, v2, none, rfl, Nat.zero_le _, rfl, a.trans a5, ha.mono a5.tk, hz.mono a5.tk, hf.los, by rw [Rat.zero_add]; rfl⟩, fun r σ' H' ⟨_, _, _, _, _, _, _, k, _⟩ => ⟨trivial, k.tab⟩, ?_, ?_⟩
    · rintro x r σ' H6 H7 v hxm ⟨i, acc, vl, y3, e, hi, rfl, a6, ha6, hl6, hso, et⟩ a7 rfl
      obtain ⟨rfl, hlt, rfl⟩ := drop_range e.symm
      have ea := a6.trans a7
      have mt : N.ties[x]? = some N.ties[x] := List.getElem?_eq_getElem (by omega)
      have mm : st[x]? = some st[x] := List.getElem?_eq_getElem (by omega)
      generalize N.ties[x] = u at mt
      generalize st[x] = mu at mm
      have ez := zip_at mt mm
      have ed : (N.ties.zip st).drop x = (u, mu) :: (N.ties.zip st).drop (x + 1) := by
        obtain ⟨k, e⟩ := List.getElem?_eq_some_iff.mp ez
        rw [List.drop_eq_getElem_cons k, e]
      rw [ed] at hso et
      obtain ⟨sm, sq⟩ := hf.sq mu (List.mem_of_getElem? mm)
      obtain ⟨w0, sw⟩ := hf.w u (List.mem_of_getElem? mt)
      have hm : EvD T K (tOp (rIxT K) (tVar 2) (tVar 3)) [some vn, some vt, some vm, some (.int (x : Nat)), some (.ref L), some va, some vl, y6, y7] H7 (fr mu) := ev_ix (ev_var (h3.mono ea.tk)) (ev_var (K := K) (.int _)) (dat_nat (by rw [List.getElem?_map, mm]; rfl))
      have ht : EvD T K (tOp (rIxT K) (tOp (rIxT K) (tVar 0) (tC (.int 1))) (tVar 3)) [some vn, some vt, some vm, some (.int (x : Nat)), some (.ref L), some va, some vl, y6, y7] H7 (tieD u) := ev_ix (ev_ix (ev_var (h1.mono ea.tk)) ev_int (dat_nat (j := 1) rfl)) (ev_var (K := K) (.int _)) (dat_nat (by rw [List.getElem?_map, mt]; rfl))
      refine sd_set (d := fr (acc + mu * mu / u.2.2)) (ev_call (evs_cons (ev_var (hl6.mono a7.tk)) (evs_cons (ev_call (evs_cons (ev_call (evs_cons hm (evs_cons hm evs_nil)) ⟨_, _, rfl, sm, sm, rfl⟩) (evs_cons (ev_ix ht ev_int (dat_nat (j := 2) rfl)) evs_nil)) ⟨_, _, rfl, sq, sw, w0, rfl⟩) evs_nil)) ⟨_, _, rfl, hso.1, hso.2.1, rfl⟩) ea.tab fun vc H8 a8 hc => ?_
      exact ⟨x + 1, _, vc, _, rfl, hlt, rfl, ea.trans a8, ha6.mono (a7.trans a8).tk, hc, hso.2.2, by rw [← et]; show _ + tot _ = acc + (_ + tot _); rw [Rat.add_assoc]⟩
    · rintro σ' H6 ⟨i, acc, vl, y3, e, hi, rfl, a6, ha6, hl6, hso, et⟩
      have ei := drop_range_nil hi e
      subst ei
      rw [List.drop_eq_nil_of_le (by rw [List.length_zip]; omega)] at et
      have et : acc + 0 = _ := et
      rw [Rat.add_zero] at et
      subst et
      refine sd_ret (K := K) (d := fr (flV N told t st)) (ev_call (evs_cons (ev_var ha6) (evs_cons (ev_call (evs_cons (ev_is (ev_tup (evs_cons ev_int (evs_cons ev_int evs_nil))) fr_half.symm) (evs_cons (ev_var hl6) evs_nil)) ⟨_, _, rfl, sm_half, hf.s2, rfl⟩) evs_nil)) ⟨_, _, rfl, hf.s1, ?_, ?_⟩) a6.tab fun v H7 a7 hv => q v H7 (a6.trans a7) hv
      · have e : (1 / 2 : Rat) * tot ((N.ties.zip st).map fun q => q.2 * q.2 / q.1.2.2) = tot ((N.ties.zip st).map fun q => q.2 * q.2 / q.1.2.2) / 2 := by grind
        rw [e]
        exact hf.s3
      · unfold flV
        congr 2
        grind
end
end Lf
end

section
set_option maxRecDepth 100000
set_option maxHeartbeats 4000000
set_option exponentiation.threshold 3000
/-! The walk of the law's is_stream. -/
namespace Lf
open PySem PySem.Spec PyProof.Rows L2
/-- what a stream's items may be -/
def Kd (d : PyData) : Prop := (∃ x : Rat, d = fr x ∧ Sm x) ∨ d = .none ∨ (∃ i, d = .int i) ∨ d = .tuple [.int 2, .int 4]
def spLIs (T : Tabl) (K : PySem.W.Frag) : Sp := fun vs H Q _ => LamX.Tabs T H ∧ ∃ (vn vt vv : V) (N : Net) (told : List Int) (t : Int → Rat), vs = [vn, vt, vv] ∧ Dt K H vn (netD N) ∧ DF K H vt (wI told t) ∧ told.Nodup ∧ N.ties.length ≤ 36 ∧ told.length ≤ 6 ∧ N.pts.length ≤ 6 ∧
  ((∃ tn : String, (∀ H', Le T H H' → TyX K H' vv (.type tn)) ∧ PySem.W.kitOne K (.type tn) (.type "tuple") = some false ∧ ∀ H', Le T H H' → Q (.bl false) H') ∨
    ∃ (ds : List PyData) (b : Bool), Dt K H vv (.tuple ds) ∧ ds.length ≤ 1000 ∧ (∀ d ∈ ds, Kd d) ∧ StreamAns N told ds b ∧ ∀ H', Le T H H' → Q (.bl b) H')
theorem told_some (told : List Int) (f : Int → PyData) (p : Int) : (getL (told.map fun q => (q, f q)) p).isSome = decide (p ∈ told) := by
  by_cases h : p ∈ told
  · rw [getL_map f h, decide_eq_true h]; rfl
  · rw [getL_none f h, decide_eq_false h]; rfl
theorem filt_nil {l told : List Int} {z : Int → Bool} : decide ((l.filter fun p => !decide (p ∈ told) && !z p) = []) = (l.filter fun p => !decide (p ∈ told)).all z := by
  rw [Bool.eq_iff_iff, decide_eq_true_eq, List.filter_eq_nil_iff, List.all_eq_true]
  constructor
  · intro h p hp
    obtain ⟨h1, h2⟩ := List.mem_filter.mp hp
    have := h p h1
    rw [h2] at this
    simpa using this
  · intro h p hp
    cases e : !decide (p ∈ told) with
    | false => simp
    | true =>
      have := h p (List.mem_filter.mpr ⟨hp, e⟩)
      rw [this]
      simp
section
variable {P : Program} {w : World} {K : PySem.W.Frag} {mg : Str → Option Value} {base : Heap} {T : Tabl}
theorem t_asg {σ : L2.St} {H : Hp} {te : TE} {g : TG} {D : Ends} {tr : TS} (h : te σ H fun v H1 => g v σ H1 (tr D)) : tSeq (tAsg te g) tr D σ H := h
theorem t_asg1 {σ : L2.St} {H : Hp} {te : TE} {g : TG} {D : Ends} (h : te σ H fun v H1 => g v σ H1 D.nx) : tAsg te g D σ H := h
theorem t_ret {σ : L2.St} {H : Hp} {te : TE} {D : Ends} (h : te σ H D.rt) : tRet te D σ H := h
theorem t_op {σ : L2.St} {H : Hp} {r : R2} {ta tb : TE} {Q : VK} (h : ta σ H fun x H1 => tb σ H1 fun y H2 => r x y H2 Q) : tOp r ta tb σ H Q := h
/-- not a fraction -/
theorem eb_item {σ : L2.St} {H : Hp} {v : V} {d : PyData} {i : Nat} {E : XK} (hk : Kd d) (hv : Dt K H v d) (hσ : σ[i]? = some (some v)) :
    EvB T (tOr (tNot (tB (tCB (rIsi K) (tCons (tVar i) (tCons (tC (.ty "tuple")) tNil))))) (tOr (tTest (tOp rNe (tCB (rLen K) (tCons (tVar i) tNil)) (tC (.int 2)))) (tTest (tOp (rNeD K) (tCall (Pur T K pFraction) [] E (tCons (tOp (rIxT K) (tVar i) (tC (.int 0))) (tCons (tOp (rIxT K) (tVar i) (tC (.int 1))) tNil))) (tVar i))))) σ H (!fracD d) := by
  have hx : EvD T K (tVar i) σ H d := ev_var hv hσ
  rcases hk with ⟨x, rfl, sx⟩ | rfl | ⟨j, rfl⟩ | rfl
  · have c0 : EvB T (tB (tCB (rIsi K) (tCons (tVar i) (tCons (tC (.ty "tuple")) tNil)))) σ H true := eb_tB (ev_isi hx (by first | rfl | decide +kernel))
    have c1 : EvB T (tTest (tOp rNe (tCB (rLen K) (tCons (tVar i) tNil)) (tC (.int 2)))) σ H false := eb_is (eb_test (ev_neI (ev_len hx) ev_int)) rfl
    have hd := x.den_pos
    have c2 : EvB T (tTest (tOp (rNeD K) (tCall (Pur T K pFraction) [] E (tCons (tOp (rIxT K) (tVar i) (tC (.int 0))) (tCons (tOp (rIxT K) (tVar i) (tC (.int 1))) tNil))) (tVar i))) σ H false := by
      refine eb_is (eb_test (ev_neD (d := fr x) (ev_call (evs_cons (ev_ix (d := .int x.num) hx ev_int (dat_nat (j := 0) rfl)) (evs_cons (ev_ix (d := .int (x.den : Int)) hx ev_int (dat_nat (j := 1) rfl)) evs_nil)) ⟨x.num, x.den, rfl, by omega, ?_, ?_⟩) hx (shaped_fr _) (shaped_fr _))) (by rw [eqv_fr, decide_eq_true rfl]; rfl)
      · rw [Int.natAbs_natCast]
        exact Nat.lt_trans sx.2 (Nat.pow_lt_pow_right (by decide) (by decide))
      · rw [Int.toNat_natCast, Rat.mkRat_self]
    refine eb_is (eb_or (eb_not c0) fun _ => eb_or c1 fun _ => c2) ?_
    rw [fracD_fr]
    rfl
  · have c0 : EvB T (tB (tCB (rIsi K) (tCons (tVar i) (tCons (tC (.ty "tuple")) tNil)))) σ H false := eb_tB (ev_isi hx (by first | rfl | decide +kernel))
    exact eb_is (eb_or (c := true) (eb_not c0) fun z => by cases z) rfl
  · have c0 : EvB T (tB (tCB (rIsi K) (tCons (tVar i) (tCons (tC (.ty "tuple")) tNil)))) σ H false := eb_tB (ev_isi hx (by first | rfl | decide +kernel))
    exact eb_is (eb_or (c := true) (eb_not c0) fun z => by cases z) rfl
  · have c0 : EvB T (tB (tCB (rIsi K) (tCons (tVar i) (tCons (tC (.ty "tuple")) tNil)))) σ H true := eb_tB (ev_isi hx (by first | rfl | decide +kernel))
    have c1 : EvB T (tTest (tOp rNe (tCB (rLen K) (tCons (tVar i) tNil)) (tC (.int 2)))) σ H false := eb_is (eb_test (ev_neI (ev_len hx) ev_int)) rfl
    have c2 : EvB T (tTest (tOp (rNeD K) (tCall (Pur T K pFraction) [] E (tCons (tOp (rIxT K) (tVar i) (tC (.int 0))) (tCons (tOp (rIxT K) (tVar i) (tC (.int 1))) tNil))) (tVar i))) σ H true := by
      refine eb_is (eb_test (ev_neD (d := fr (mkRat 2 4)) (ev_call (evs_cons (ev_ix (d := .int 2) hx ev_int (dat_nat (j := 0) rfl)) (evs_cons (ev_ix (d := .int 4) hx ev_int (dat_nat (j := 1) rfl)) evs_nil)) ⟨2, 4, rfl, by omega, ?_, rfl⟩) hx (shaped_fr _) (shaped_pair 2 4))) ?_
      · exact Nat.lt_of_lt_of_le (show (4 : Nat) < 2 ^ 3 by decide) (Nat.pow_le_pow_right (by decide) (by decide))
      · have e : fr (mkRat 2 4) = .tuple [.int 1, .int 2] := by
          have : mkRat 2 4 = (1 / 2 : Rat) := by rw [Rat.mkRat_eq_div]; norm_cast; grind
          rw [this]
          exact fr_half
        rw [e, eqv_pair]
        rfl
    exact eb_is (eb_or (eb_not c0) fun _ => eb_or c1 fun _ => c2) (by first | rfl | decide)
abbrev s_law_is_stream : Stmt := topS 55
abbrev N_law_is_stream : List Str := ["_law_network", "_law_told", "_law_value", "_law_much", "_law_out", "_law_known", "_law_point"]
theorem sc_law_is_stream : FnScope N_law_is_stream ["_law_network", "_law_told", "_law_value"] (defScope s_law_is_stream) := ⟨rfl, rfl, rfl, by decide +kernel, rfl, by decide +kernel, by decide +kernel⟩
theorem ok_law_is_stream {f : Addr} {fd : FuncData} (F : Fun K "_law_is_stream" "_law_is_stream" s_law_is_stream f fd) (m : Mg K mg) (c_law_frac : Cal P w K mg base "_law_frac" ["_law_top", "_law_bottom"] 1 (Pur T K pFraction)) (c_law_sources : Cal P w K mg base "_law_sources" ["_law_network", "_law_stream"] 3 (spLSrc T K)) :
    FnOk P w K mg base CX0 4 f fd ["_law_network", "_law_told", "_law_value"] (spLIs T K) := by
  refine F.ok sc_law_is_stream (fun vs H Q E ⟨_, _, _, _, _, _, _, e, _⟩ => by rw [e]; rfl) (fun cdv A outer s H vs Q E hr h => ?_)
  obtain ⟨tH, vn, vt, vv, N, told, t, rfl, h1, h2, hnd, h36, ht6, hp6, h⟩ := h
  refine ⟨_, (pss_cons (ps_if (PW.pt (pw_or (pt_not (pt_val (pe_callB (w_isi (K := K)) (by rfl) m.isi (by decide +kernel) (pa_cons (pv 2) (pa_cons (pe_bltn (v := .ty "tuple") (by rfl) m.tup (by decide +kernel) rfl) pa_nil))))) (pw_or1 (pt_cmpR op_ne (pe_callB (w_len (K := K)) (by rfl) m.len PySem.boot_len (pa_cons (pv 2) pa_nil)) (pe_callB (w_len (K := K)) (by rfl) m.len PySem.boot_len (pa_cons (pe_ix (w_ixT (K := K)) (pv 0) pe_int (fun _ _ => rfl)) pa_nil)) (nomark _))))) (pss_one (ps_ret pe_bl)) pss_nil)
      (pss_cons (ps_for PassesOwn.never rfl (w_piT (K := K) (pv 2)) (pg_name (i := 3) sc_law_is_stream.nd rfl (.inl rfl)) (pss_one (ps_if (PW.pt (pw_or (pt_not (pt_val (pe_callB (w_isi (K := K)) (by rfl) m.isi (by decide +kernel) (pa_cons (pv 3) (pa_cons (pe_bltn (v := .ty "tuple") (by rfl) m.tup (by decide +kernel) rfl) pa_nil))))) (pw_or (pt_cmpR op_ne (pe_callB (w_len (K := K)) (by rfl) m.len PySem.boot_len (pa_cons (pv 3) pa_nil)) pe_int (nomark _)) (pw_or1 (pt_cmpR (w_neD (K := K) hr.units) (pe_cal c_law_frac (hr.mono (by decide)) (by rfl) (pa_cons (pe_ix (w_ixT (K := K)) (pv 3) pe_int (fun _ _ => rfl)) (pa_cons (pe_ix (w_ixT (K := K)) (pv 3) pe_int (fun _ _ => rfl)) pa_nil))) (pv 3) (nomark _)))))) (pss_one (ps_ret pe_bl)) pss_nil)))
      (pss_cons (ps_asg (pe_tup (pa_cons (pe_cal c_law_sources (hr.mono (by decide)) (by rfl) (pa_cons (pv 0) (pa_cons (pv 2) pa_nil))) (pa_cons (pe_callTy (w_dictT (K := K) rfl) (by rfl) m.dct (by decide +kernel) (pa_cons (pv 1) pa_nil)) pa_nil))) (w_pg (K := K) (n := 2) rfl (pgs_cons (pg_name (i := 4) sc_law_is_stream.nd rfl (.inr rfl)) (pgs_cons (pg_name (i := 5) sc_law_is_stream.nd rfl (.inr rfl)) pgs_nil))))
      (pss_one (ps_ret (pe_cmpR (w_eqD (K := K) hr.units) (pe_lc (own := [("_law_point", 6)]) rfl sc_law_is_stream.nd (w_piT (K := K) (pe_ix (w_ixT (K := K)) (pv 0) pe_int (fun _ _ => rfl))) (blkOk_by (own := [("_law_point", 6)]) (N := N_law_is_stream) (sc := defScope s_law_is_stream) (by decide +kernel)) (fun _ _ _ _ _ => (pg_name (i := 6) sc_law_is_stream.nd rfl (.inl rfl))) (fun _ _ _ _ _ => pts_one (PW.pt (pw_and (pt_cmp (pc_dnotin (hu_of hr) (pv 6) (pv 5))) (pw_and1 (pt_cmpR (w_neD (K := K) hr.units) (pe_dget (hu_of hr) (pv 4) (pv 6) (fun _ _ => rfl)) (pe_tup (pa_cons pe_int (pa_cons pe_int pa_nil))) (nomark _)))))) (fun _ _ _ _ _ => (pv 6))) (pe_lst pa_nil) (nomark _))))))), ?_⟩
  rcases h with ⟨tn, hty, hk, q⟩ | ⟨ds, b, h3, h4, hkd, hans, q⟩
  · have c0 : EvB T (tB (tCB (rIsi K) (tCons (tVar 2) (tCons (tC (.ty "tuple")) tNil)))) [some vn, some vt, some vv, none, none, none, none] H false := fun H1 a Q' q' => ⟨vv, rfl, ⟨vv, .ty "tuple", .type tn, .type "tuple", false, rfl, .ty _, hty H1 a, hk, false, rfl, q' H1 (Le.refl a.tab)⟩⟩
    refine sd_yes (eb_is (eb_or (c := true) (eb_not c0) fun z => by cases z) rfl) tH fun H1 a1 => ?_
    exact sd_ret (K := K) ev_bl a1.tab fun v H2 a2 hv => by
      cases hv
      exact q H2 (a1.trans a2)
  · have c0 : EvB T (tB (tCB (rIsi K) (tCons (tVar 2) (tCons (tC (.ty "tuple")) tNil)))) [some vn, some vt, some vv, none, none, none, none] H true := eb_tB (ev_isi (ev_var h3) (by first | rfl | decide +kernel))
    have eN : EvD T K (tOp (rIxT K) (tVar 0) (tC (.int 1))) [some vn, some vt, some vv, none, none, none, none] H (.tuple (N.ties.map tieD)) := ev_ix (ev_var h1) ev_int (dat_nat (j := 1) rfl)
    have c1 := eb_test (ev_neI (ev_len (ev_var (i := 2) (σ := [some vn, some vt, some vv, none, none, none, none]) h3)) (ev_len eN))
    rcases Nat.decEq ds.length N.ties.length with hne | heq
    · have hb : b = false := by
        rcases hans with ⟨_, e⟩ | ⟨z, _, _⟩ | ⟨s, rfl, hs, _⟩
        · exact e
        · exact absurd z hne
        · exact absurd (by rw [List.length_map]; exact hs.1) hne
      refine sd_yes (eb_is (eb_or (eb_not c0) fun _ => c1) (by rw [List.length_map, decide_eq_false (by omega)]; rfl)) tH fun H1 a1 => sd_ret (K := K) ev_bl a1.tab fun v H2 a2 hv => ?_
      cases hv
      subst hb
      exact q H2 (a1.trans a2)
    · refine sd_no (eb_is (eb_or (eb_not c0) fun _ => c1) (by rw [List.length_map, decide_eq_true (by omega)]; rfl)) tH fun H1 a1 => ?_
      unfold tNext
      dsimp only
      refine for_src (src_tup (f := fun d : PyData => d) (l := ds) (ev_is (ev_var (h3.mono a1.tk)) (by rw [List.map_id']))) a1.tab fun H2 a2 => ⟨fun r σ' H' => ∃ (pre : List PyData) (y3 : Option V), ds = pre ++ r ∧ (∀ d ∈ pre, fracD d = true) ∧ σ' = [some vn, some vt, some vv, y3, none, none, none] ∧ Le T H H' ∧ TK H2 H', ⟨[], none, rfl, (fun d hd => by cases hd), rfl, a1.trans a2, TK.refl _⟩, fun r σ' H' ⟨_, _, _, _, _, k, k2⟩ => ⟨k2, k.tab⟩, ?_, ?_⟩
      · rintro d r σ' H' H'' v hd ⟨pre, y3, e, hpre, rfl, a, k2⟩ a3 hx
        have hx : Dt K H'' v d := hx
        have ea := a.trans a3
        cases hf : fracD d with
        | true =>
          refine sd_no (eb_is (eb_item (hkd d hd) hx rfl) (by rw [hf]; rfl)) ea.tab fun H4 a4 => ?_
          exact ⟨pre ++ [d], _, by rw [List.append_assoc]; exact e, (fun z hz => by
            rcases List.mem_append.mp hz with y | y
            · exact hpre z y
            · rw [List.mem_singleton.mp y]; exact hf), rfl, ea.trans a4, k2.trans (a3.trans a4).tk⟩
        | false =>
          have hb : b = false := by
            rcases hans with ⟨z, e⟩ | ⟨_, _, e⟩ | ⟨s, rfl, _, _⟩
            · exact e
            · exact e
            · obtain ⟨x, _, rfl⟩ := List.mem_map.mp hd
              rw [fracD_fr] at hf
              cases hf
          refine sd_yes (eb_is (eb_item (hkd d hd) hx rfl) (by rw [hf]; rfl)) ea.tab fun H4 a4 => sd_ret (K := K) ev_bl a4.tab fun v H5 a5 hv => ?_
          cases hv
          subst hb
          exact q H5 ((ea.trans a4).trans a5)
      · rintro σ' H' ⟨pre, y3, e, hpre, rfl, a, k2⟩
        rw [List.append_nil] at e
        subst e
        rcases hans with ⟨z, _⟩ | ⟨_, z, _⟩ | ⟨s, rfl, hs, hb⟩
        · exact absurd heq z
        · exfalso
          have : (ds.map fracD).all id = true := by
            rw [List.all_map]
            exact List.all_eq_true.mpr fun d hd => hpre d hd
          rw [this] at z
          cases z
        · dsimp only
          refine t_asg (t_tup (t_cons ?_))
          have k1 := h1.mono a.tk
          refine ed_lsrc (ev_var k1) (ev_var (h3.mono a.tk)) hs H' (Le.refl a.tab) _ fun L H3 a3 nL hD => ?_
          have a03 := a.trans a3
          refine t_cons ?_
          refine ed_dictT (l := told.map fun p => (p, fr (t p))) (ef_var (h2.le a03)) (by rw [wI_keys]; exact hnd) H3 (Le.refl a3.tab) _ fun M H4 a4 nM hM => ?_
          refine ⟨by show 2 ≤ sizeLine; decide, fun b2 hb2 => ?_⟩
          have n5 := Le.new (o := .tup [.ref L, .ref M]) a4.tab hb2
          refine ⟨b2, [.ref L, .ref M], rfl, .inl (.inl upd_same), rfl, _, _, rfl, _, _, rfl, rfl, ?_⟩
          have a05 := (a03.trans a4).trans n5
          have hD5 := (hD.le a4).le n5
          have hM5 := hM.le n5
          refine t_ret (t_op ?_)
          refine lc_src (K := K) (l := N.pts) (h := PyData.int) (p := fun p => !decide (p ∈ told) && !decide (src N.ties s p = 0)) (by omega) (src_tup (f := PyData.int) (l := N.pts) (ev_ix (ev_var (h1.mono a05.tk)) ev_int (dat_nat (j := 0) rfl))) (fun _ _ k => k.tk) (fun p hp H6 v a6 hv Q' q' => ?_) _ (Le.refl a05.tab) _ fun c ws H6 a6 nc ec hws => ?_
          · refine q' [some vn, some vt, some vv, y3, some (.ref L), some (.ref M), some v] rfl (eb_and (eb_is (eb_dnotin (hM5.le a6) (ev_var hv)) (by rw [told_some])) fun _ => ?_) fun _ => ev_var hv
            exact eb_is (eb_test (ev_neD (ev_dget (hD5.le a6) (ev_var hv) (getL_map (fun p => fr (src N.ties s p)) hp)) (ev_is (ev_tup (evs_cons ev_int (evs_cons ev_int evs_nil))) (show _ = fr 0 from rfl)) (shaped_fr _) (shaped_fr _))) (by rw [eqv_fr])
          · have ew := ints_of hws
            subst ew
            refine ⟨Nat.zero_le _, fun e he => ?_⟩
            have n7 := Le.new (o := .lst []) a6.tab he
            refine ⟨_, _, .lst (SqL.of (n7.at_ ec pl_lst)) (dp_ints _), .lst (SqL.of upd_same) .nil, shaped_ints _, shaped_ints [], ?_⟩
            rw [eqv_nil, filt_nil]
            rw [hb] at q
            exact q _ ((a05.trans a6).trans n7)
end
end Lf
end

section
set_option maxRecDepth 100000
set_option maxHeartbeats 4000000
set_option exponentiation.threshold 3000
/-! The walk of the law's is_below and is_more. -/
namespace Lf
open PySem PySem.Spec PyProof.Rows L2
/-- keywords in the row of the parameters -/
def gRow {α : Type} : List α → List α → List α
  | [], zs => zs
  | _ :: _, _ => []
theorem Dic.lx {T : Tabl} {K : PySem.W.Frag} {D C p : Addr} {H H' : Hp} {l : List (Int × PyData)} (h : Dic K H p l) (a : Lx T D C H H') (h1 : p ≠ D) (h2 : p ≠ C) : Dic K H' p l := by
  obtain ⟨kvs, e1, e2⟩ := h
  exact ⟨kvs, a.at_ e1 pl_dK.1 h1 h2, e2.mono a.tk⟩
/-- what one looks up in zs -/
theorem tf_mem : ∀ {zs : List (Int × Rat)}, (zs.map (·.1)).Nodup → ∀ z ∈ zs, tf zs z.1 = z.2
  | [], _, z, hz => by cases hz
  | (p, v) :: r, h, z, hz => by
    have h' := List.nodup_cons.mp h
    rcases List.mem_cons.mp hz with e | e
    · subst e
      show (if p = p then v else _) = v
      rw [if_pos rfl]
    · have : ¬ z.1 = p := fun y => h'.1 (y ▸ List.mem_map.mpr ⟨z, e, rfl⟩)
      show (if z.1 = p then v else tf r z.1) = z.2
      rw [if_neg this]
      exact tf_mem h'.2 z e
theorem tf_map {zs : List (Int × Rat)} (h : (zs.map (·.1)).Nodup) : zs.map (fun z => prI (z.1, fr z.2)) = wI (zs.map (·.1)) (tf zs) := by
  rw [wI_map, List.map_map]
  refine List.map_congr_left fun z hz => ?_
  show _ = prI (z.1, fr (tf zs z.1))
  rw [tf_mem h z hz]
/-- what is_below asks -/
structure BelOk (N : Net) (told : List Int) (t : Int → Rat) (least fl : Rat) : Prop where
  nd : N.pts.Nodup
  ndt : told.Nodup
  six : N.pts.length ≤ 6
  inn : ∀ u ∈ N.ties, u.1 ∈ N.pts ∧ u.2.1 ∈ N.pts
  ib : ∀ p ∈ told, IB 12 9 (t p)
  en : ∀ y : Int → Rat, (∀ p ∈ N.pts, IB 12 9 (y p)) → (∀ p ∈ N.pts, p ∈ told → y p = t p) → EnOk N.ties y ∧ Sm (en N.ties y) ∧ ¬ en N.ties y < fl
  sl : Sm least
  sf : Sm fl
  le : ¬ least < fl
def spBelow (T : Tabl) (K : PySem.W.Frag) : Sp := fun vs H Q _ => LamX.Tabs T H ∧ ∃ (D C : Addr) (vn vt vl vf : V) (N : Net) (told : List Int) (t : Int → Rat) (least fl : Rat), vs = [.ref D, vn, vt, vl, vf] ∧ Deal H D C ∧ Dt K H vn (netD N) ∧ DF K H vt (wI told t) ∧ Dt K H vl (fr least) ∧ Dt K H vf (fr fl) ∧ BelOk N told t least fl ∧
  ∀ H', Lx T D C H H' → Q (.bl true) H'
section
variable {P : Program} {w : World} {K : PySem.W.Frag} {mg : Str → Option Value} {base : Heap} {T : Tabl}
theorem t_cb {σ : L2.St} {H : Hp} {r : List V → Hp → VK → Prop} {ta : TA} {Q : VK} (h : ta σ H fun vs H1 => r vs H1 Q) : tCB r ta σ H Q := h
theorem xr_use {σ : L2.St} {H : Hp} {D C : Addr} {te : TE} {n : Nat} {Q : VK} (h : EvR T K D C te σ H n) (tH : LamX.Tabs T H) (d : Deal H D C) (q : ∀ x v H', IB 12 n x → Lx T D C H H' → Dt K H' v (fr x) → Q v H') : te σ H Q := h H (Lx.refl tH d) Q q
theorem ev_energy {σ : L2.St} {H : Hp} {ta tb : TE} {N : Net} {ks : List Int} {x : Int → Rat} {E : XK} (h1 : EvD T K ta σ H (netD N)) (h2 : EvF T K tb σ H (wI ks x)) (hn : ks.Nodup) (hi : ∀ t ∈ N.ties, t.1 ∈ ks ∧ t.2.1 ∈ ks) (ho : EnOk N.ties x) :
    EvD T K (tCall (spEnergy T K) [] E (tCons ta (tCons tb tNil))) σ H (fr (en N.ties x)) := fun H1 b Q q =>
  h1 H1 b _ fun v H2 a2 hv => h2 H2 (b.trans a2) _ fun u H3 a3 hu => ⟨a3.tab, v, u, N, ks, x, rfl, hv.mono a3.tk, hu, hn, hi, ho, fun z H4 a4 hz => q z H4 ((a2.trans a3).trans a4) hz⟩
theorem xs_lcF {α β : Type} {σ : L2.St} {H : Hp} {D C : Addr} {wi : TI} {kp : Hp → Hp → Prop} {l : List α} {R : Hp → V → α → Prop} {g : TG} {te : TE} {tt : TT} {vs : List Nat} {Rel : α → β → Prop} {h : β → PyData} {all : Bool} {i : Nat} {En : Ends} (hl : l.length ≤ 100000) (tH : LamX.Tabs T H) (d : Deal H D C) (hs : Src T wi σ H kp l R) (hkp : ∀ H1 H2, Lx T D C H1 H2 → kp H1 H2)
    (step : ∀ x ∈ l, ∀ H1 v, Lx T D C H H1 → R H1 v x → ∀ Q : L2.St → Hp → Prop, (∀ σ2, wipe σ2 vs = wipe σ vs → Turn T K D C all Rel h tt te σ2 H1 x → Q σ2 H1) → g v (wipe σ vs) H1 Q)
    (q : ∀ v (zs : List (α × β)) H2, Lx T D C H H2 → DF K H2 v (zs.map fun z => h z.2) → (zs.map (·.1)).Sublist l → (∀ z ∈ zs, Rel z.1 z.2) → (all = true → zs.map (·.1) = l) → En.nx (σ.set i (some v)) H2) :
    tAsg (tCB (rTupF K) (tCons (tLc wi g tt te vs) tNil)) (gName i) En σ H := by
  refine t_asg1 (t_cb (t_cons (lcx_src hl tH d hs hkp step fun p ws zs H2 l2 np ep hw hsub hrel hall => ?_)))
  refine ⟨p, ws, rfl, SqL.of ep, fun c o hc ho => ?_⟩
  have nn := Le.new (o := .frz o (.tup ws)) l2.tab hc
  exact q _ zs _ (l2.le nn) ⟨c, o, ws, rfl, upd_same, ho, hw.mono nn.tk⟩ hsub hrel hall
abbrev s_law_is_below : Stmt := topS 57
abbrev N_law_is_below : List Str := ["_law_deal_here", "_law_network", "_law_told", "_law_least", "_law_floor_here", "_law_known", "_law_turn", "_law_worths", "_law_point"]
theorem sc_law_is_below : FnScope N_law_is_below ["_law_deal_here", "_law_network", "_law_told", "_law_least", "_law_floor_here"] (defScope s_law_is_below) := ⟨rfl, rfl, rfl, by decide +kernel, rfl, by decide +kernel, by decide +kernel⟩
theorem ok_law_is_below {f : Addr} {fd : FuncData} (F : Fun K "_law_is_below" "_law_is_below" s_law_is_below f fd) (m : Mg K mg) (c_law_some : Cal P w K mg base "_law_some" ["_law_deal_here", "_law_size"] 3 (spSome T K)) (c_law_is_less : Cal P w K mg base "_law_is_less" ["_law_one", "_law_other"] 1 (Pur T K pLess)) (c_network_energy : Cal P w K mg base "network_energy" ["network", "worths"] 3 (spEnergy T K)) :
    FnOk P w K mg base CX0 4 f fd ["_law_deal_here", "_law_network", "_law_told", "_law_least", "_law_floor_here"] (spBelow T K) := by
  refine F.ok sc_law_is_below (fun vs H Q E ⟨_, _, _, _, _, _, _, _, _, _, _, _, e, _⟩ => by rw [e]; rfl) (fun cdv A outer s H vs Q E hr h => ?_)
  obtain ⟨tH, D, C, vn, vt, vl, vf, N, told, t, least, fl, rfl, hd, h1, h2, h3, h4, hb, q⟩ := h
  refine ⟨_, (pss_cons (ps_set (i := 5) sc_law_is_below.nd rfl (.inr rfl) (pe_callTy (w_dictT (K := K) rfl) (by rfl) m.dct (by decide +kernel) (pa_cons (pv 2) pa_nil)))
      (pss_cons (ps_for PassesOwn.never rfl (pi_range1 (by rfl) m.rng (pa_cons pe_int pa_nil)) (pg_name (i := 6) sc_law_is_below.nd rfl (.inl rfl)) (pss_cons (ps_set (i := 7) sc_law_is_below.nd rfl (.inl rfl) (pe_callTy (w_tupleF (K := K)) (by rfl) m.tup (by decide +kernel) (pa_cons (pe_lc (own := [("_law_point", 8)]) rfl sc_law_is_below.nd (w_piT (K := K) (pe_ix (w_ixT (K := K)) (pv 1) pe_int (fun _ _ => rfl))) (blkOk_by (own := [("_law_point", 8)]) (N := N_law_is_below) (sc := defScope s_law_is_below) (by decide +kernel)) (fun _ _ _ _ _ => (pg_name (i := 8) sc_law_is_below.nd rfl (.inl rfl))) (fun _ _ _ _ _ => pts_nil) (fun _ _ _ _ _ => (pe_tup (pa_cons (pv 8) (pa_cons (pe_dget2 (hu_of hr) (pv 5) (pv 8) (pe_cal c_law_some (hr.mono (by decide)) (by rfl) (pa_cons (pv 0) (pa_cons pe_int pa_nil))) ⟨by rfl, by rfl, by rfl, by rfl⟩) pa_nil))))) pa_nil)))
      (pss_one (ps_if (pt_val (pe_cal c_law_is_less (hr.mono (by decide)) (by rfl) (pa_cons (pe_cal c_network_energy (hr.mono (by decide)) (by rfl) (pa_cons (pv 1) (pa_cons (pv 7) pa_nil))) (pa_cons (pv 4) pa_nil)))) (pss_one (ps_ret pe_bl)) pss_nil))))
      (pss_one (ps_ret (pe_not (pe_cal c_law_is_less (hr.mono (by decide)) (by rfl) (pa_cons (pv 3) (pa_cons (pv 4) pa_nil)))))))), ?_⟩
  refine sd_setD (K := K) (l := told.map fun p => (p, fr (t p))) (ed_dictT (ef_var h2) (by rw [wI_keys]; exact hb.ndt)) tH fun M H1 a1 nM hM => ?_
  have nMo := nM.off hd
  dsimp only
  refine for_src (src_rng1 (K := K) (n := 2) ev_int (by decide)) a1.tab fun H2 a2 => ⟨fun r σ' H' => ∃ (y6 y7 : Option V), σ' = [some (.ref D), some vn, some vt, some vl, some vf, some (.ref M), y6, y7, none] ∧ Lx T D C H H' ∧ Dic K H' M (told.map fun p => (p, fr (t p))), ⟨none, none, rfl, (Lx.of hd a1).le a2, hM.le a2⟩, fun r σ' H' ⟨_, _, _, k, _⟩ => ⟨trivial, k.tab⟩, ?_, ?_⟩
  · rintro x r σ' H3 H4 v hx ⟨y6, y7, rfl, k, hM3⟩ a4 rfl
    have k4 := k.le a4
    have hM4 := hM3.le a4
    refine xs_lcF (T := T) (K := K) (D := D) (C := C) (α := Int) (β := Int × Rat) (all := true) (Rel := fun p z => z.1 = p ∧ IB 12 9 z.2 ∧ (p ∈ told → z.2 = t p)) (h := fun z => prI (z.1, fr z.2)) (by have := hb.six; omega) k4.tab k4.d1 (src_tup (f := PyData.int) (l := N.pts) (ev_ix (ev_var (h1.mono k4.tk)) ev_int (dat_nat (j := 0) rfl))) (fun _ _ k => k.tk) (fun p hp H5 v5 l5 hv5 Q' q' => ?_) fun v6 zs H6 l6 hv6 hsub hrel hall => ?_
    · refine q' [some (.ref D), some vn, some vt, some vl, some vf, some (.ref M), some (.int (x : Nat)), y7, some v5] rfl fun Q3 q3 => q3 true H5 (Lx.refl l5.tab l5.d1) (fun _ => rfl) fun _ Q4 q4 => ?_
      have hM5 := hM4.lx l5 nMo.1 nMo.2
      cases hv5
      refine t_tup (t_cons ⟨.int p, rfl, t_cons ?_⟩)
      refine ⟨.ref M, rfl, M, rfl, .inl (let ⟨kvs, e1, _⟩ := hM5; ⟨kvs, .inl e1⟩), .int p, rfl, ?_⟩
      refine xr_use (T := T) (K := K) (D := D) (C := C) (n := 9) ?_ l5.tab l5.d1 fun x7 v7 H7 ib7 l7 hv7 => ?_
      · exact x_some (by decide)
      have hM7 := hM5.lx l7 nMo.1 nMo.2
      have fin : ∀ (v8 : V) (x8 : Rat), Dt K H7 v8 (fr x8) → IB 12 9 x8 → (p ∈ told → x8 = t p) → ∀ b, H7 b = none → Q4 (.ref b) (upd H7 b (.tup [.int p, v8])) := fun v8 x8 hv8 i8 t8 b hb8 => by
        have nn := Le.new (o := .tup [.int p, v8]) l7.tab hb8
        exact q4 (p, x8) _ _ ⟨rfl, i8, t8⟩ (l7.le nn) (.new upd_same (.cons (.int p) (.cons (hv8.mono nn.tk) .nil)))
      obtain ⟨kvs, e1, e2⟩ := hM7
      rcases e2.val emI_inj p with ⟨z, z2⟩ | ⟨d', v8, z, z2, hv8⟩
      · refine ⟨none, .inl ⟨kvs, emI p, .inl e1, rfl, z2.symm⟩, by show 2 ≤ sizeLine; decide, fin v7 x7 hv7 ib7 fun hp7 => ?_⟩
        rw [getL_map (fun p => fr (t p)) hp7] at z
        cases z
      · have hp7 : p ∈ told := by
          by_cases y : p ∈ told
          · exact y
          · rw [getL_none (fun p => fr (t p)) y] at z
            cases z
        rw [getL_map (fun p => fr (t p)) hp7] at z
        cases z
        exact ⟨some v8, .inl ⟨kvs, emI p, .inl e1, rfl, z2.symm⟩, by show 2 ≤ sizeLine; decide, fin v8 (t p) hv8 (hb.ib p hp7) fun _ => rfl⟩
    · have hz := hall rfl
      have hnd : (zs.map (·.2)).map (·.1) = N.pts := by
        rw [← hz, List.map_map]
        exact List.map_congr_left fun z hz => (hrel z hz).1
      have e6 : (zs.map fun z => prI (z.2.1, fr z.2.2)) = wI N.pts (tf (zs.map (·.2))) := by
        have := tf_map (zs := zs.map (·.2)) (by rw [hnd]; exact hb.nd)
        rw [hnd, List.map_map] at this
        exact this
      rw [e6] at hv6
      have k6 := k4.trans l6
      have atp : ∀ p ∈ N.pts, ∃ z ∈ zs, z.1 = p ∧ tf (zs.map (·.2)) p = z.2.2 := fun p hp => by
        rw [← hz] at hp
        obtain ⟨z, h1, rfl⟩ := List.mem_map.mp hp
        refine ⟨z, h1, rfl, ?_⟩
        have e := (hrel z h1).1
        rw [← e]
        exact tf_mem (by rw [hnd]; exact hb.nd) z.2 (List.mem_map.mpr ⟨z, h1, rfl⟩)
      obtain ⟨o1, o2, o3⟩ := hb.en (tf (zs.map (·.2))) (fun p hp => by
        obtain ⟨z, h1, h2, h3⟩ := atp p hp
        rw [h3]
        exact (hrel z h1).2.1) fun p hp ht => by
        obtain ⟨z, h1, h2, h3⟩ := atp p hp
        rw [h3]
        have := (hrel z h1).2.2
        rw [h2] at this
        exact this ht
      refine sd_no (eb_is (eb_tB (ev_call (evs_cons (ev_energy (ev_var (h1.mono k6.tk)) (ef_var hv6) hb.nd hb.inn o1) (evs_cons (ev_var (h4.mono k6.tk)) evs_nil)) ⟨_, _, rfl, o2, hb.sf, rfl⟩)) (decide_eq_false o3)) k6.tab fun H8 a8 => ?_
      unfold tNext
      exact ⟨_, _, rfl, k6.le a8, (hM4.lx l6 nMo.1 nMo.2).le a8⟩
  · rintro σ' H3 ⟨y6, y7, rfl, k, hM3⟩
    refine sd_ret (K := K) (d := .bool true) (ev_is (ev_notV (ev_call (evs_cons (ev_var (h3.mono k.tk)) (evs_cons (ev_var (h4.mono k.tk)) evs_nil)) ⟨_, _, rfl, hb.sl, hb.sf, rfl⟩)) (by rw [decide_eq_false hb.le]; rfl)) k.tab fun v H4 a4 hv => ?_
    cases hv
    exact q H4 (k.le a4)
end
end Lf
end

section
set_option maxRecDepth 100000
set_option maxHeartbeats 4000000
set_option exponentiation.threshold 3000
/-! The walk of the law's is_more. -/
namespace Lf
open PySem PySem.Spec PyProof.Rows L2
def rest (N : Net) (told : List Int) : List Int := N.pts.filter fun p => !decide (p ∈ told)
/-- the worths that settle -/
def setl (N : Net) (told : List Int) (t : Int → Rat) : Int → Rat := settle N t (rest N told)
/-- what is_more asks -/
structure MoOk (N : Net) (told : List Int) (t : Int → Rat) (least : Rat) : Prop where
  two : 2 ≤ N.pts.length
  six : N.pts.length ≤ 6
  asc : N.pts.Pairwise (· < ·)
  few : told.length ≤ 6
  more : ∀ a b : Int, ∀ mo : Rat, a ∈ N.pts → b ∈ N.pts → a < b → 0 < mo → IB 12 9 mo → MoreOk N a b mo ∧ SetOk ⟨N.pts, insTie N.ties a b mo⟩ told (rest N told) t ∧ (∀ u ∈ insTie N.ties a b mo, u.1 ∈ N.pts ∧ u.2.1 ∈ N.pts) ∧ EnOk (insTie N.ties a b mo) (setl ⟨N.pts, insTie N.ties a b mo⟩ told t) ∧
    Sm (en (insTie N.ties a b mo) (setl ⟨N.pts, insTie N.ties a b mo⟩ told t)) ∧ ¬ en (insTie N.ties a b mo) (setl ⟨N.pts, insTie N.ties a b mo⟩ told t) < least
  sl : Sm least
def spIsMore (T : Tabl) (K : PySem.W.Frag) : Sp := fun vs H Q _ => LamX.Tabs T H ∧ ∃ (D C : Addr) (vn vt vl : V) (N : Net) (told : List Int) (t : Int → Rat) (least : Rat), vs = [.ref D, vn, vt, vl] ∧ Deal H D C ∧ Dt K H vn (netD N) ∧ DF K H vt (wI told t) ∧ Dt K H vl (fr least) ∧ MoOk N told t least ∧
  ∀ H', Lx T D C H H' → Q (.bl true) H'
section
variable {P : Program} {w : World} {K : PySem.W.Frag} {mg : Str → Option Value} {base : Heap} {T : Tabl}
theorem ef_worths {σ : L2.St} {H : Hp} {ta tb : TE} {N : Net} {told : List Int} {t : Int → Rat} {E : XK} (h1 : EvD T K ta σ H (netD N)) (h2 : EvF T K tb σ H (wI told t)) (hl : told.length ≤ 6) (ho : SetOk N told (rest N told) t) :
    EvF T K (tCall (spWorths T K) [] E (tCons ta (tCons tb tNil))) σ H (wI N.pts (setl N told t)) := fun H1 b Q q =>
  h1 H1 b _ fun v H2 a2 hv => h2 H2 (b.trans a2) _ fun u H3 a3 hu => ⟨a3.tab, v, u, N, told, t, rfl, hv.mono a3.tk, hu, hl, ho, fun z H4 a4 hz => q z H4 ((a2.trans a3).trans a4) hz⟩
theorem t_callK {σ : L2.St} {H : Hp} {sp : Sp} {gV : List V → List V → List V} {E : XK} {tk : TA} {Q : VK} (h : tk σ H fun zs H2 => sp (gV [] zs) H2 Q E) : tCallK sp gV E tNil tk σ H Q := h
theorem t_call {σ : L2.St} {H : Hp} {sp : Sp} {E : XK} {t : TA} {Q : VK} (h : t σ H fun vs H1 => sp (vs ++ []) H1 Q E) : tCall sp [] E t σ H Q := h
abbrev s_law_is_more : Stmt := topS 58
abbrev N_law_is_more : List Str := ["_law_deal_here", "_law_network", "_law_told", "_law_least", "_law_low", "_law_high", "_law_other"]
theorem sc_law_is_more : FnScope N_law_is_more ["_law_deal_here", "_law_network", "_law_told", "_law_least"] (defScope s_law_is_more) := ⟨rfl, rfl, rfl, by decide +kernel, rfl, by decide +kernel, by decide +kernel⟩
theorem ok_law_is_more {f : Addr} {fd : FuncData} (F : Fun K "_law_is_more" "_law_is_more" s_law_is_more f fd) (m : Mg K mg) (c_law_any : Cal P w K mg base "_law_any" ["_law_deal_here", "_law_bound"] 1 (spAny T K)) (c_law_frac : Cal P w K mg base "_law_frac" ["_law_top", "_law_bottom"] 1 (Pur T K pFraction)) (c_law_is_less : Cal P w K mg base "_law_is_less" ["_law_one", "_law_other"] 1 (Pur T K pLess))
    (c_network_energy : Cal P w K mg base "network_energy" ["network", "worths"] 3 (spEnergy T K)) (c_settled_worths : Cal P w K mg base "settled_worths" ["network", "told"] 8 (spWorths T K)) (ck_tied_more : CalK P w K mg base "tied_more" ["network", "low", "high", "more"] 3 (Pur T K pMore) ["network", "low", "high", "more"] gRow) :
    FnOk P w K mg base CX0 9 f fd ["_law_deal_here", "_law_network", "_law_told", "_law_least"] (spIsMore T K) := by
  refine F.ok sc_law_is_more (fun vs H Q E ⟨_, _, _, _, _, _, _, _, _, _, e, _⟩ => by rw [e]; rfl) (fun cdv A outer s H vs Q E hr h => ?_)
  obtain ⟨tH, D, C, vn, vt, vl, N, told, t, least, rfl, hd, h1, h2, h3, hb, q⟩ := h
  refine ⟨_, (pss_cons (ps_set (i := 4) sc_law_is_more.nd rfl (.inl rfl) (pe_cal c_law_any (hr.mono (by decide)) (by rfl) (pa_cons (pv 0) (pa_cons (pe_op op_sub (pe_callB (w_len (K := K)) (by rfl) m.len PySem.boot_len (pa_cons (pe_ix (w_ixT (K := K)) (pv 1) pe_int (fun _ _ => rfl)) pa_nil)) pe_int) pa_nil))))
      (pss_cons (ps_set (i := 5) sc_law_is_more.nd rfl (.inl rfl) (pe_op op_add (pe_op op_add (pv 4) pe_int) (pe_cal c_law_any (hr.mono (by decide)) (by rfl) (pa_cons (pv 0) (pa_cons (pe_op op_sub (pe_op op_sub (pe_callB (w_len (K := K)) (by rfl) m.len PySem.boot_len (pa_cons (pe_ix (w_ixT (K := K)) (pv 1) pe_int (fun _ _ => rfl)) pa_nil)) pe_int) (pv 4)) pa_nil)))))
      (pss_cons (ps_set (i := 6) sc_law_is_more.nd rfl (.inl rfl) (pe_calK ck_tied_more (hr.mono (by decide)) (by rfl) (pk_cons (pv 1) (pk_cons (pe_ix (w_ixT (K := K)) (pe_ix (w_ixT (K := K)) (pv 1) pe_int (fun _ _ => rfl)) (pv 4) (fun _ _ => rfl)) (pk_cons (pe_ix (w_ixT (K := K)) (pe_ix (w_ixT (K := K)) (pv 1) pe_int (fun _ _ => rfl)) (pv 5) (fun _ _ => rfl)) (pk_cons (pe_cal c_law_frac (hr.mono (by decide)) (by rfl) (pa_cons (pe_op op_add pe_int (pe_cal c_law_any (hr.mono (by decide)) (by rfl) (pa_cons (pv 0) (pa_cons pe_int pa_nil)))) (pa_cons (pe_op op_add pe_int (pe_cal c_law_any (hr.mono (by decide)) (by rfl) (pa_cons (pv 0) (pa_cons pe_int pa_nil)))) pa_nil))) pk_nil))))))
      (pss_one (ps_ret (pe_not (pe_cal c_law_is_less (hr.mono (by decide)) (by rfl) (pa_cons (pe_cal c_network_energy (hr.mono (by decide)) (by rfl) (pa_cons (pv 6) (pa_cons (pe_cal c_settled_worths (hr.mono (by decide)) (by rfl) (pa_cons (pv 6) (pa_cons (pv 2) pa_nil))) pa_nil))) (pa_cons (pv 3) pa_nil))))))))), ?_⟩
  have two := hb.two
  have six := hb.six
  have eLen : ∀ {σ : L2.St} {H' : Hp}, Lx T D C H H' → σ[1]? = some (some vn) → EvD T K (tCB (rLen K) (tCons (tOp (rIxT K) (tVar 1) (tC (.int 0))) tNil)) σ H' (.int (N.pts.length : Nat)) := fun k hσ => ev_is (ev_len (ev_ix (ev_var (h1.mono k.tk) hσ) ev_int (dat_nat (j := 0) rfl))) (by rw [List.length_map])
  have k0 := Lx.refl tH hd
  refine xs_set (T := T) (D := D) (C := C) (lo := 0) (hi := (N.pts.length : Nat) - 1) (x_any (K := K) (lo := (N.pts.length : Nat) - 1) (hi := (N.pts.length : Nat)) (x_sub (a := (N.pts.length : Nat)) (b := (N.pts.length : Nat) + 1) (c := 1) (d := 2) (x_ev (K := K) fun H1 k => eLen k rfl) x_con) (by omega) (by omega)) tH hd fun lo H1 r1 r2 k1 => ?_
  dsimp only
  refine xs_set (T := T) (D := D) (C := C) (lo := lo + 1) (hi := (N.pts.length : Nat)) (x_add (a := lo + 1) (b := lo + 2) (c := 0) (d := (N.pts.length : Nat) - 1 - lo) (x_add (a := lo) (b := lo + 1) (c := 1) (d := 2) x_var x_con) (x_any (K := K) (lo := (N.pts.length : Nat) - 1 - lo) (hi := (N.pts.length : Nat) - lo) (x_sub (a := (N.pts.length : Nat) - 1) (b := (N.pts.length : Nat)) (c := lo) (d := lo + 1) (x_sub (a := (N.pts.length : Nat)) (b := (N.pts.length : Nat) + 1) (c := 1) (d := 2) (x_ev (K := K) fun H2 k => eLen (k1.trans k) rfl) x_con) x_var) (by omega) (by omega))) k1.tab k1.d1 fun hi H2 s1 s2 k2 => ?_
  dsimp only
  have k02 := k1.trans k2
  refine t_asg (t_callK (t_cons ?_))
  have xa : N.pts[lo.toNat]? = some N.pts[lo.toNat] := List.getElem?_eq_getElem (by omega)
  have xb : N.pts[hi.toNat]? = some N.pts[hi.toNat] := List.getElem?_eq_getElem (by omega)
  generalize N.pts[lo.toNat] = pa at xa
  generalize N.pts[hi.toNat] = pb at xb
  have hab := asc_at hb.asc (show lo.toNat < hi.toNat by omega) xa xb
  have el : lo = ((lo.toNat : Nat) : Int) := by omega
  have eh : hi = ((hi.toNat : Nat) : Int) := by omega
  refine ⟨vn, rfl, t_cons ?_⟩
  refine ev_ix (T := T) (K := K) (d := .int pa) (ev_ix (ev_var (h1.mono k02.tk)) ev_int (dat_nat (j := 0) rfl)) (ev_is (ev_var (K := K) (.int lo)) (congrArg PyData.int el)) (dat_nat (by rw [List.getElem?_map, xa]; rfl)) H2 (Le.refl k02.tab) _ fun va H3 a3 hva => ?_
  refine t_cons ?_
  refine ev_ix (T := T) (K := K) (d := .int pb) (ev_ix (ev_var ((h1.mono k02.tk).mono a3.tk)) ev_int (dat_nat (j := 0) rfl)) (ev_is (ev_var (K := K) (.int hi)) (congrArg PyData.int eh)) (dat_nat (by rw [List.getElem?_map, xb]; rfl)) H3 (Le.refl a3.tab) _ fun vb H4 a4 hvb => ?_
  have k04 := k02.le (a3.trans a4)
  refine t_cons (t_call (t_cons (x_use (T := T) (D := D) (C := C) (lo := 1) (hi := 10) ?_ k04.tab k04.d1 fun u H5 u1 u2 k5 => t_cons (x_use (T := T) (D := D) (C := C) (lo := 1) (hi := 4) ?_ k5.tab k5.d1 fun z H6 z1 z2 k6 => ?_))))
  · exact x_add x_con (x_any (K := K) (b := 9) x_con (by decide) (by decide))
  · exact x_add x_con (x_any (K := K) (b := 3) x_con (by decide) (by decide))
  have k06 := (k04.trans k5).trans k6
  refine ⟨k06.tab, _, _, .cons (.int u) (.cons (.int z) .nil), ⟨u, z, rfl, by omega, ?_, rfl⟩, fun vm H7 a7 hvm => ?_⟩
  · have : z.natAbs < 2 ^ 10 := by omega
    exact Nat.lt_trans this (Nat.pow_lt_pow_right (by decide) (by decide))
  have k07 := k06.le a7
  have mp : 0 < mkRat u z.toNat := by
    have z0 : (0 : Rat) < ((z.toNat : Nat) : Rat) := by
      have : (0 : Nat) < z.toNat := by omega
      exact_mod_cast this
    have u0 : (0 : Rat) < (u : Rat) := by
      have : (0 : Int) < u := by omega
      exact_mod_cast this
    rw [Rat.mkRat_eq_div]
    exact div_pos u0 z0
  have mi : IB 12 9 (mkRat u z.toNat) := ib_mk (by omega) (by omega) (by omega)
  generalize mkRat u z.toNat = mo at mp mi hvm
  obtain ⟨b1, b2, b3, b4, b5, b6⟩ := hb.more pa pb mo (List.mem_of_getElem? xa) (List.mem_of_getElem? xb) hab mp mi
  cases hva
  cases hvb
  refine ⟨k07.tab, _, _, .cons (h1.mono k07.tk) (.cons (.int pa) (.cons (.int pb) (.cons hvm .nil))), ⟨N, pa, pb, mo, rfl, b1, rfl⟩, fun vo H8 a8 hvo => ?_⟩
  have k08 := k07.le a8
  show tRet _ _ _ _
  refine sd_ret (K := K) (d := .bool true) (ev_is (ev_notV (ev_call (evs_cons (ev_energy (N := ⟨N.pts, insTie N.ties pa pb mo⟩) (ks := N.pts) (ev_var hvo) (ef_worths (N := ⟨N.pts, insTie N.ties pa pb mo⟩) (ev_var hvo) (ef_var (h2.lx k08)) hb.few b2) (nodup_of hb.asc) b3 b4) (evs_cons (ev_var (h3.mono k08.tk)) evs_nil)) ⟨_, _, rfl, b5, hb.sl, rfl⟩)) (by rw [decide_eq_false b6]; rfl)) k08.tab fun v H9 a9 hv => ?_
  cases hv
  exact q H9 (k08.le a9)
end
end Lf
end

section
set_option maxRecDepth 100000
set_option maxHeartbeats 4000000
set_option exponentiation.threshold 3000
/-! f(k = v, ..) that may raise; the walk of the law's refused. -/
namespace Lf
open PySem PySem.Spec PyProof.Rows L2
section
variable {X : Cx} {CX : CXT} {k : Nat} {f C : Addr} {fd : FuncData} {ps ks : List Str} {sp : Sp} {E : L2.St → XK} {x : Str} {p pos : Pos} {g : List Value → List Value → List Value} {gV : List V → List V → List V} {kws : List Keyword} {tk : TA}
theorem run_fnkS {pins : List (Addr × Obj)} {σ : L2.St} {H : Hp} {s : Shared} {Q : VK} {ws : List Value} {zs : List V} (F : FnOk X.prog X.w X.K X.mg X.base CX k f fd ps sp) (hr : Room k X.A) (hb : KBinds X.K fd ps ks g gV) (hx : PassesAt CX X σ (E σ))
    (I : Inv X pins σ H s) (rz : Vals zs ws) (h : sp (gV [] zs) H Q (E σ)) : wpAny (model X.prog X.w) X.A (call (.ref f) [] (ks.zip ws)) (EP X pins σ Q) X.xe s := by
  have r2 := hb.rel (.nil : Vals [] []) rz
  have hl : (g [] ws).length = ps.length := by rw [← r2.length]; exact F.len _ _ _ _ h
  refine wpAny_call (codeAny_mono (F.run X.A X.stack s H ⟨[], ks.zip ws⟩ (g [] ws) (gV [] zs) Q (E σ) hr I.env0 (hb.to s [] ws I.kIn hl) r2 h) fun r s' hq => ?_)
  cases r with
  | error e => exact hx pins H s e s' I hq
  | ok fl =>
    cases fl with
    | ret u => exact I.after hq
    | next => exact False.elim hq
    | brk => exact False.elim hq
    | cont => exact False.elim hq
def tCallKS (sp : Sp) (gV : List V → List V → List V) (E : L2.St → XK) (tk : TA) : TE := fun σ H Q => tk σ H fun zs H2 => sp (gV [] zs) H2 Q (E σ)
structure CalXK (P : Program) (w : World) (K : PySem.W.Frag) (mg : Str → Option Value) (base : Heap) (x : Str) (ps : List Str) (k : Nat) (sp : Sp) (ks : List Str) (gV : List V → List V → List V) : Prop where
  ex : ∃ (f : Addr) (fd : FuncData) (g : List Value → List Value → List Value), FnOk P w K mg base (L2.CX P w) k f fd ps sp ∧ mg x = some (.ref f) ∧ PySem.W.keepIn K (.ref f) = true ∧ KBinds K fd ps ks g gV
theorem pe_calKS (C : CalXK X.prog X.w X.K X.mg X.base x ps k sp ks gV) (hr : Room k X.A) (hg : Gl X x) (hx : ∀ σ, PassesAt (L2.CX X.prog X.w) X σ (E σ)) (hkw : PK X kws tk)
    (hall : (backToKw pos (keywordEach kws X.env)).all (·.1.isSome) = true := by rfl) (hks : (backToKw pos (keywordEach kws X.env)).filterMap (·.1) = ks := by rfl) (hdb : (x == ("__debug__" : Str)) = false := by decide)
    (hpl : ((backTo pos (starEach [] X.env)).any (·.1) || (backToKw pos (keywordEach kws X.env)).any (·.1.isNone)) = false := by rfl) :
    PE X (.Call (.Name x p) [] kws pos) (tCallKS sp gV E tk) := by
  obtain ⟨f, fd, g, F, hm, hk, hb⟩ := C.ex
  refine ⟨fun pins s σ H Q I h => ?_⟩
  refine wpAny_Call_Name_kw (ld_glob I hg hm ?_ hdb)
  refine PySem.W.callWith_KW0 (h₀ := X.base) I.ok.mod.kin hk hall ?_ hpl
  refine thn (hkw.run pos pins s σ H _ I h) fun ws s2 ⟨zs, H2, I2, rz, q2⟩ => ⟨I2.kIn, ?_⟩
  rw [hks]
  exact run_fnkS F hr hb (hx σ) I2 rz q2
end
/-- (told, stream, network) in the row network, told, stream -/
def gTsn {α : Type} : List α → List α → List α
  | [], [a, b, c] => [c, a, b]
  | _, _ => []
def spRef (T : Tabl) (K : PySem.W.Frag) : Sp := fun vs H Q _ => LamX.Tabs T H ∧ ∃ (vn vt vm : V) (N : Net), vs = [vn, vt, vm] ∧ Dt K H vn (netD N) ∧ N.ties.length ≤ 1000 ∧ (N.ties.all fun t => decide (0 < sgn t.2.2)) = false ∧ ∀ H', Le T H H' → Q (.str "weight") H'
section
variable {P : Program} {w : World} {K : PySem.W.Frag} {mg : Str → Option Value} {base : Heap} {T : Tabl}
abbrev s_law_refused : Stmt := topS 56
abbrev N_law_refused : List Str := ["_law_network", "_law_told", "_law_stream", "e"]
theorem sc_law_refused : FnScope N_law_refused ["_law_network", "_law_told", "_law_stream"] (defScope s_law_refused) := ⟨rfl, rfl, rfl, by decide +kernel, rfl, by decide +kernel, by decide +kernel⟩
theorem ok_law_refused {f C : Addr} {fd : FuncData} (F : Fun K "_law_refused" "_law_refused" s_law_refused f fd) (m : Mg K mg) (kx : ExcK P K mg "Refused" "word" "word" C) (te : PySem.W.exmOne K (.ref C) (.ref C) = some true) (xf : XfC K C) (hno : PySem.W.findIn K (.ref C) "word" = some none)
    (c_floor : CalXK P w K mg base "stream_floor" ["network", "told", "stream"] 3 (spFloorX T K C) ["told", "stream", "network"] gTsn) : FnOk P w K mg base CX0 4 f fd ["_law_network", "_law_told", "_law_stream"] (spRef T K) := by
  refine F.ok sc_law_refused (fun vs H Q E ⟨_, _, _, _, _, e, _⟩ => by rw [e]; rfl) (fun cdv A outer s H vs Q E hr h => ?_)
  obtain ⟨tH, vn, vt, vm, N, rfl, h1, h2, h3, q⟩ := h
  refine ⟨_, (pss_one (ps_try_as (i := 3) rfl rfl sc_law_refused.nd rfl rfl ⟨by rfl, by decide, .inl kx.gC⟩ takes0 (fun W pn xe tk _ => pss_one (ps_ret (pe_calKS c_floor (hr.mono (by decide)) (by rfl) (fun σ => passAt tk σ) (pk_cons (pv 1) (pk_cons (pv 2) (pk_cons (pv 0) pk_nil)))))) (fun a oe cls d pn hz hf => pss_one (ps_ret (pe_xf (C := C) xf hno hz hf (pv 3)))))), ?_⟩
  refine ⟨vt, rfl, vm, rfl, vn, rfl, tH, vn, vt, vm, N, rfl, h1, h2, h3, fun dd H1 a1 hdd => ?_⟩
  refine ⟨true, te, fun _ a ha => ?_, fun z => by cases z⟩
  exact ⟨.ref a, rfl, rfl, rfl, dd, _, .str "weight", rfl, hdd, rfl, q H1 a1⟩
end
end Lf
end

section
set_option maxRecDepth 100000
set_option maxHeartbeats 4000000
set_option exponentiation.threshold 3000
/-! The walk of the law's round. -/
namespace Lf
open PySem PySem.Spec PyProof.Rows L2
theorem first_of {α : Type} (p : α → Bool) : ∀ {l : List α}, (∃ x ∈ l, p x = true) → ∃ (j : Nat) (x : α), l[j]? = some x ∧ p x = true ∧ ∀ (m : Nat) (y : α), m < j → l[m]? = some y → p y = false
  | [], ⟨x, hx, _⟩ => by cases hx
  | a :: l, ⟨x, hx, hp⟩ => by
    cases ha : p a with
    | true => exact ⟨0, a, rfl, ha, fun m y h => by omega⟩
    | false =>
      have : x ∈ l := by
        rcases List.mem_cons.mp hx with z | z
        · subst z; rw [ha] at hp; cases hp
        · exact z
      obtain ⟨j, y, h1, h2, h3⟩ := first_of p ⟨x, this, hp⟩
      refine ⟨j + 1, y, h1, h2, fun m z hm hz => ?_⟩
      match m, hz with
      | 0, hz => cases hz; exact ha
      | m + 1, hz => exact h3 m z (by omega) hz
section
variable {α : Type} {T : Tabl} {K : PySem.W.Frag} {σ : L2.St} {H H' : Hp} {te : TE} {ta : TA}
theorem t_par {i j : Nat} {D : Ends} {tr : TS} (h : ta σ H fun vs H1 => ∃ u v, vs = [u, v] ∧ tr D ((σ.set i (some u)).set j (some v)) H1) : tSeq (tPar i j ta) tr D σ H := h
theorem el_lst {ds : List PyData} (h : EvDs T K ta σ H ds) (hl : ds.length ≤ 100000 := by first | decide | simp) : EvL T K (tLst ta) σ H ds := fun H1 a Q q =>
  h H1 a _ fun vs H2 a2 hv => ⟨by rw [hv.length]; exact Nat.le_trans hl (by decide), fun p hp => by
    have n := Le.new (o := .lst vs) a2.tab hp
    exact q p vs _ (a2.trans n) (a2.nf (Nf.of hp)) upd_same (hv.mono n.tk)⟩
theorem src_lstN {l : List α} {f : α → PyData} {F : Addr} {xs0 : List V} (he : EvL T K te σ H (l.map f)) (hF : H F = some (.lst xs0)) :
    Src T (iList K te) σ H (fun H1 H' => TK H1 H' ∧ ∀ b o, b ≠ F → H1 b = some o → (∀ ps, o ≠ .tbl ps) → H' b = some o) l fun H v x => Dt K H v (f x) := by
  intro H1 a Rk q
  refine he H1 a _ fun p xs H2 a2 np ep hx => ?_
  have hne : p ≠ F := fun z => by
    subst z
    obtain ⟨ps, e⟩ := np _ (a.at_ hF pl_lst)
    cases e
  refine ⟨p, rfl, ⟨xs, SqL.of ep⟩, q _ H2 (fun H' => SqL K H' p xs ∧ Dts K H' xs (l.map f)) a2 ⟨fun H' st => ⟨xs, st.1, by rw [st.2.length, List.length_map]; exact Nat.le_refl _⟩, fun i x H' st tb hi => ?_⟩ fun H' k => ⟨SqL.of (k.2 p _ hne ep fun _ z => by cases z), hx.mono k.1⟩⟩
  have e1 : (l.map f)[i]? = some (f x) := by rw [List.getElem?_map, hi]; rfl
  obtain ⟨w, e2, e3⟩ := st.2.get e1
  refine ⟨⟨xs, w, st.1, e2⟩, fun v H'' y => ?_⟩
  obtain ⟨rfl, y⟩ := y
  have ex : v = w := Option.some.inj ((y xs st.1).symm.trans e2)
  subst ex
  exact ⟨Le.refl tb, e3⟩
theorem ev_index {i j : Nat} {p : Addr} {ws : List V} {ds : List PyData} {d z : PyData} (hp : SqL K H p ws) (hw : Dts K H ws ds) (he : EvD T K te σ H d) (h1 : SeqAt.shaped (.list ds) = true) (h2 : SeqAt.shaped d = true) (hj : ds[j]? = some z) (hz : PyData.eqv z d = true)
    (hno : ∀ (m : Nat) (z' : PyData), m < j → ds[m]? = some z' → PyData.eqv z' d = false) (hσ : σ[i]? = some (some (.ref p)) := by rfl) : EvD T K (tBM K "list" (rIndexD K) (tVar i) (tCons te tNil)) σ H (.int (j : Nat)) := fun H1 a Q q =>
  ⟨.ref p, hσ, .inl ⟨rfl, ws, sql_le hp a⟩, he H1 a _ fun v H2 a2 hv => ⟨p, v, d, ds, j, z, rfl, rfl, .lst (sql_le hp (a.trans a2)) (Dts.dp _ _ (hw.mono (a.trans a2).tk)), Dt.dp _ _ hv, h1, h2, hj, hz, hno, q _ H2 a2 (.int _)⟩⟩
theorem eqv_nilL : ∀ ds : List PyData, PyData.eqv (.list ds) (.list []) = decide (ds = [])
  | [] => by simp [PyData.eqv, PyData.eqvAll]
  | c :: cs => by simp [PyData.eqv, PyData.eqvAll]
theorem eb_isNil {i : Nat} {p : Addr} {ws : List V} {ds : List PyData} (hp : SqL K H p ws) (hw : Dts K H ws ds) (h1 : SeqAt.shaped (.list ds) = true) (hσ : σ[i]? = some (some (.ref p)) := by rfl) : EvB T (tTest (tOp (rEqD K) (tVar i) (tLst tNil))) σ H (decide (ds = [])) := fun H1 a Q q =>
  ⟨.ref p, hσ, Nat.zero_le _, fun b hb => by
    have n := Le.new (o := .lst []) a.tab hb
    refine ⟨.list ds, .list [], .lst (sql_le hp (a.trans n)) (Dts.dp _ _ (hw.mono (a.trans n).tk)), .lst (SqL.of upd_same) .nil, h1, shaped_ints [], _, rfl, ?_⟩
    rw [eqv_nilL]
    exact q _ n⟩
theorem eb_noNil {i : Nat} {p : Addr} {ws : List V} {ds : List PyData} (hp : SqL K H p ws) (hw : Dts K H ws ds) (h1 : SeqAt.shaped (.list ds) = true) (hσ : σ[i]? = some (some (.ref p)) := by rfl) : EvB T (tTest (tOp (rNeD K) (tVar i) (tLst tNil))) σ H (!decide (ds = [])) := fun H1 a Q q =>
  ⟨.ref p, hσ, Nat.zero_le _, fun b hb => by
    have n := Le.new (o := .lst []) a.tab hb
    refine ⟨.list ds, .list [], .lst (sql_le hp (a.trans n)) (Dts.dp _ _ (hw.mono (a.trans n).tk)), .lst (SqL.of upd_same) .nil, h1, shaped_ints [], _, rfl, ?_⟩
    rw [eqv_nilL]
    exact q _ n⟩
theorem dts_set {v : V} {d : PyData} (hv : Dt K H v d) : ∀ {xs : List V} {ds : List PyData} (j : Nat), Dts K H xs ds → Dts K H (xs.set j v) (ds.set j d)
  | _, _, _, .nil => .nil
  | _, _, 0, .cons _ h2 => .cons hv h2
  | _, _, j + 1, .cons h1 h2 => .cons h1 (dts_set hv j h2)
theorem ix_nat {n j : Nat} (h : j < n) : ixN n (j : Int) = some j := by
  unfold ixN
  simp [h]
theorem dts_at2 {xs : List V} {ds : List PyData} {i : Nat} {v : V} (h : Dts K H xs ds) (hi : xs[i]? = some v) : ∃ d, ds[i]? = some d ∧ Dt K H v d := by
  have hlt := (List.getElem?_eq_some_iff.mp hi).1
  rw [h.length] at hlt
  obtain ⟨w, e1, e2⟩ := h.get (List.getElem?_eq_getElem hlt)
  rw [hi] at e1
  cases e1
  exact ⟨_, List.getElem?_eq_getElem hlt, e2⟩
end
/-- two ties that a third one closes -/
def h3 (z : Tie × Tie) : PyData := .tuple [pairD z.1, pairD z.2]
def Good3 (ts : List Tie) (z : Tie × Tie) : Prop := z.1 ∈ ts ∧ z.2 ∈ ts ∧ ∃ u ∈ ts, u.1 = z.1.1 ∧ u.2.1 = z.2.2.1
theorem h3_ok (z : Tie × Tie) : (h3 z).canLay0 = true ∧ (h3 z).depth ≤ 20 := by
  refine ⟨rfl, ?_⟩
  simp [h3, pairD, PyData.depth, PyData.depthAll]
theorem shaped_h3 (l : List (Tie × Tie)) : SeqAt.shaped (.list (l.map h3)) = true := shaped_list fun d hd => by
  obtain ⟨t, _, rfl⟩ := List.mem_map.mp hd
  exact h3_ok _
def spRound (T : Tabl) (K : PySem.W.Frag) : Sp := fun vs H Q _ => LamX.Tabs T H ∧ ∃ (D C : Addr) (vn vm : V) (N : Net) (s : List Rat) (F R : Nat), vs = [.ref D, vn, vm] ∧ Deal H D C ∧ Dt K H vn (netD N) ∧ Dt K H vm (.tuple (s.map fr)) ∧ s.length = N.ties.length ∧ N.ties.length ≤ 36 ∧ 0 < F ∧ (∀ m ∈ s, IB (12 * F) R m) ∧ 12 * F < 2 ^ 1400 ∧ (R + 15) * (12 * F) < 2 ^ 1400 ∧
  ∀ (s' : List Rat) v H', s'.length = N.ties.length → (∀ m ∈ s', IB (12 * F) (R + 15) m) → Lx T D C H H' → Dt K H' v (.tuple (s'.map fr)) → Q v H'
section
variable {P : Program} {w : World} {K : PySem.W.Frag} {mg : Str → Option Value} {base : Heap} {T : Tabl}
abbrev s_law_round : Stmt := topS 53
abbrev N_law_round : List Str := ["_law_deal_here", "_law_network", "_law_stream", "_law_ties", "_law_threes", "_law_one", "_law_two", "_law_much", "_law_found", "_law_pair", "_law_sign", "_law_at", "_law_tie"]
theorem sc_law_round : FnScope N_law_round ["_law_deal_here", "_law_network", "_law_stream"] (defScope s_law_round) := ⟨rfl, rfl, rfl, by decide +kernel, rfl, by decide +kernel, by decide +kernel⟩
theorem ok_law_round {f : Addr} {fd : FuncData} (F : Fun K "_law_round" "_law_round" s_law_round f fd) (m : Mg K mg) (c_law_of : Cal P w K mg base "_law_of" ["_law_deal_here", "_law_some_here"] 2 (spOf T K)) (c_law_some : Cal P w K mg base "_law_some" ["_law_deal_here", "_law_size"] 3 (spSome T K)) (c_law_plus : Cal P w K mg base "_law_plus" ["_law_one", "_law_other"] 2 (Pur T K pPlus)) :
    FnOk P w K mg base CX0 4 f fd ["_law_deal_here", "_law_network", "_law_stream"] (spRound T K) := by
  refine F.ok sc_law_round (fun vs H Q E ⟨_, _, _, _, _, _, _, _, _, e, _⟩ => by rw [e]; rfl) (fun cdv A outer s H vs Q E hr h => ?_)
  obtain ⟨tH, D, C, vn, vm, N, st, F0, R, rfl, hd, h1, h2, hlen, h36, hF, hib, bA, bR, q⟩ := h
  refine ⟨_, (pss_cons (ps_set (i := 3) sc_law_round.nd rfl (.inr rfl) (pe_lc (own := [("_law_tie", 12)]) rfl sc_law_round.nd (w_piT (K := K) (pe_ix (w_ixT (K := K)) (pv 1) pe_int (fun _ _ => rfl))) (blkOk_by (own := [("_law_tie", 12)]) (N := N_law_round) (sc := defScope s_law_round) (by decide +kernel)) (fun _ _ _ _ _ => (pg_name (i := 12) sc_law_round.nd rfl (.inl rfl))) (fun _ _ _ _ _ => pts_nil) (fun _ _ _ _ _ => (pe_slice (w_slT (K := K)) (pv 12) po_none (po_some pe_int)))))
      (pss_cons (ps_set (i := 4) sc_law_round.nd rfl (.inl rfl) (pe_lst pa_nil))
      (pss_cons (ps_for PassesOwn.never rfl (w_piL (K := K) (pv 3)) (pg_name (i := 5) sc_law_round.nd rfl (.inr rfl)) (pss_one (ps_set (i := 4) sc_law_round.nd rfl (.inl rfl) (pe_op op_cat (pv 4) (pe_lc (own := [("_law_two", 6)]) rfl sc_law_round.nd (w_piL (K := K) (pv 3)) (blkOk_by (own := [("_law_two", 6)]) (N := N_law_round) (sc := defScope s_law_round) (by decide +kernel)) (fun _ _ _ _ _ => (pg_name (i := 6) sc_law_round.nd rfl (.inl rfl))) (fun _ _ _ _ _ => pts_one (PW.pt (pw_and (pt_cmpR op_eq (pe_ix (w_ixT (K := K)) (pv 5) pe_int (fun _ _ => rfl)) (pe_ix (w_ixT (K := K)) (pv 6) pe_int (fun _ _ => rfl)) (nomark _)) (pw_and1 (pt_cmpR (w_inD (K := K) (hu65 hr)) (pe_tup (pa_cons (pe_ix (w_ixT (K := K)) (pv 5) pe_int (fun _ _ => rfl)) (pa_cons (pe_ix (w_ixT (K := K)) (pv 6) pe_int (fun _ _ => rfl)) pa_nil))) (pv 3) (by with_unfolding_all rfl)))))) (fun _ _ _ _ _ => (pe_tup (pa_cons (pv 5) (pa_cons (pv 6) pa_nil)))))))))
      (pss_cons (ps_if (pt_cmpR (w_eqD (K := K) hr.units) (pv 4) (pe_lst pa_nil) (nomark _)) (pss_one (ps_ret (pv 2))) pss_nil)
      (pss_cons (ps_asg (pe_cal c_law_of (hr.mono (by decide)) (by rfl) (pa_cons (pv 0) (pa_cons (pv 4) pa_nil))) (w_pg (K := K) (n := 2) rfl (pgs_cons (pg_name (i := 5) sc_law_round.nd rfl (.inr rfl)) (pgs_cons (pg_name (i := 6) sc_law_round.nd rfl (.inl rfl)) pgs_nil))))
      (pss_cons (ps_par (i := 7) (j := 8) rfl sc_law_round.nd rfl rfl (by decide) rfl rfl (pa_cons (pe_cal c_law_some (hr.mono (by decide)) (by rfl) (pa_cons (pv 0) (pa_cons pe_int pa_nil))) (pa_cons (pe_callTy (w_list (K := K)) (by rfl) m.lst (by decide +kernel) (pa_cons (pv 2) pa_nil)) pa_nil)) (by rfl))
      (pss_cons (ps_for PassesOwn.never rfl (w_piL (K := K) (pe_lst (pa_cons (pe_tup (pa_cons (pv 5) (pa_cons pe_int pa_nil))) (pa_cons (pe_tup (pa_cons (pv 6) (pa_cons pe_int pa_nil))) (pa_cons (pe_tup (pa_cons (pe_tup (pa_cons (pe_ix (w_ixT (K := K)) (pv 5) pe_int (fun _ _ => rfl)) (pa_cons (pe_ix (w_ixT (K := K)) (pv 6) pe_int (fun _ _ => rfl)) pa_nil))) (pa_cons (pe_un un_neg pe_int) pa_nil))) pa_nil))))) (w_pg (K := K) (n := 2) rfl (pgs_cons (pg_name (i := 9) sc_law_round.nd rfl (.inl rfl)) (pgs_cons (pg_name (i := 10) sc_law_round.nd rfl (.inl rfl)) pgs_nil))) (pss_cons (ps_set (i := 11) sc_law_round.nd rfl (.inl rfl) (pe_bm PySem.F.plainAttrs_list PySem.F.slot_list_index PySem.F.type_list_index (mt_indexD (hu65 hr)) (pv 3) (pa_cons (pv 9) pa_nil)))
      (pss_one (ps_asg (pe_cal c_law_plus (hr.mono (by decide)) (by rfl) (pa_cons (pe_ix (w_ixL (K := K)) (pv 8) (pv 11) (fun _ _ => rfl)) (pa_cons (pe_tup (pa_cons (pe_op op_mulW (pv 10) (pe_ix (w_ixT (K := K)) (pv 7) pe_int (fun _ _ => rfl))) (pa_cons (pe_ix (w_ixT (K := K)) (pv 7) pe_int (fun _ _ => rfl)) pa_nil))) pa_nil))) (pg_sub (pv 8) (pv 11) set_list)))))
      (pss_one (ps_ret (pe_callTy (w_tuple (K := K)) (by rfl) m.tup (by decide +kernel) (pa_cons (pv 8) pa_nil))))))))))), ?_⟩
  refine sd_setL (K := K) (ds := N.ties.map pairD) ?_ tH fun L ws H1 a1 nL eL hws => ?_
  · refine lc_all (by omega) (src_tup (f := tieD) (l := N.ties) (ev_ix (ev_var h1) ev_int (dat_nat (j := 1) rfl))) (fun _ _ k => k.tk) fun t ht H3 v a3 hv Q' q' => ?_
    exact q' [some (.ref D), some vn, some vm, none, none, none, none, none, none, none, none, none, some v] rfl (ev_is (ev_sl (ds := [.int t.1, .int t.2.1, fr t.2.2]) (ev_var hv) eo_none (eo_some (K := K) ev_int)) (pairD_cut t))
  dsimp only
  refine sd_nil a1.tab fun A4 H2 a2 n4 e4 => ?_
  have a12 := a1.trans a2
  have eL2 := a2.at_ eL pl_lst
  have hws2 := hws.mono a2.tk
  dsimp only
  refine for_src (src_var2 (i := 3) (f := pairD) (l := N.ties) (SqL.of eL2) hws2) a12.tab fun H3 a3 => ⟨fun r σ' H' => ∃ (pre : List Tie) (A4 : Addr) (acc : List V) (l3 : List (Tie × Tie)) (y5 : Option V), N.ties = pre ++ r ∧ σ' = [some (.ref D), some vn, some vm, some (.ref L), some (.ref A4), y5, none, none, none, none, none, none, none] ∧ Le T H2 H' ∧ TK H3 H' ∧
      Nf H A4 ∧ H' A4 = some (.lst acc) ∧ Dts K H' acc (l3.map h3) ∧ l3.length ≤ pre.length * 36 ∧ (∀ z ∈ l3, Good3 N.ties z), ⟨[], A4, [], [], none, rfl, rfl, a3, TK.refl _, a1.nf n4, a3.at_ e4 pl_lst, .nil, Nat.zero_le _, fun z hz => by cases hz⟩, fun r σ' H' ⟨_, _, _, _, _, _, _, k, k2, _⟩ => ⟨⟨k2, SqL.of (k.at_ eL2 pl_lst)⟩, k.tab⟩, ?_, ?_⟩
  · rintro one r σ' H4 H5 v hone ⟨pre, B4, acc, l3, y5, e, rfl, k, k2, nB, eB, hacc, hlen3, hgood⟩ a5 hv
    have k5 := k.trans a5
    have eB5 := a5.at_ eB pl_lst
    have eL5 := k5.at_ eL2 pl_lst
    have hws5 := hws2.mono k5.tk
    refine t_asg1 (t_op ⟨.ref B4, rfl, ?_⟩)
    refine lc_src (K := K) (l := N.ties) (h := fun u => h3 (one, u)) (p := fun u => decide (one.2.1 = u.1) && N.ties.any fun x => decide (x.1 = one.1 ∧ x.2.1 = u.2.1)) (by omega) (src_var (i := 3) (f := pairD) (l := N.ties) (SqL.of eL5) hws5) (fun H1 H2 k => KL.le k) (fun u hu H6 vu a6 hvu Q' q' => ?_) _ (Le.refl k5.tab) _ fun c us H6 a6 nc ec hus => ?_
    · have hv6 := hv.mono a6.tk
      refine q' [some (.ref D), some vn, some vm, some (.ref L), some (.ref B4), some v, some vu, none, none, none, none, none, none] rfl (eb_and (eb_test (ev_eqI (ev_ix (ds := [.int one.1, .int one.2.1]) (ev_var hv6) ev_int (dat_nat (j := 1) rfl)) (ev_ix (ds := [.int u.1, .int u.2.1]) (ev_var hvu) ev_int (dat_nat (j := 0) rfl)))) fun _ => ?_) fun _ => ev_is (ev_tup (evs_cons (ev_var hv6) (evs_cons (ev_var hvu) evs_nil))) rfl
      refine eb_is (eb_test (ev_inD (d := .tuple [.int one.1, .int u.2.1]) (p := L) (ws := ws) (ds := N.ties.map pairD) (ev_tup (evs_cons (ev_ix (ds := [.int one.1, .int one.2.1]) (ev_var hv6) ev_int (dat_nat (j := 0) rfl)) (evs_cons (ev_ix (ds := [.int u.1, .int u.2.1]) (ev_var hvu) ev_int (dat_nat (j := 1) rfl)) evs_nil))) (SqL.of (a6.at_ eL5 pl_lst)) (hws5.mono a6.tk) (shaped_pair _ _) (shaped_pairs _))) (any_pair _ _ _)
    · have lenU : us.length ≤ 36 := by
        rw [hus.length, List.length_map]
        exact Nat.le_trans (List.length_filter_le _ _) h36
      have hpre : pre.length + 1 ≤ 36 := by
        have := congrArg List.length e
        rw [List.length_append, List.length_cons] at this
        omega
      have lenA : acc.length = l3.length := by rw [hacc.length, List.length_map]
      refine ⟨B4, c, acc, us, rfl, rfl, a6.at_ eB5 pl_lst, ec, Nat.le_trans (show acc.length + us.length ≤ 100000 by omega) (by decide), fun p hp => ?_⟩
      have n7 := Le.new (o := .lst (acc ++ us)) a6.tab hp
      have k7 := (k5.trans a6).trans n7
      refine ⟨pre ++ [one], p, acc ++ us, l3 ++ ((N.ties.filter fun u => decide (one.2.1 = u.1) && N.ties.any fun x => decide (x.1 = one.1 ∧ x.2.1 = u.2.1)).map fun u => (one, u)), _, by rw [List.append_assoc]; exact e, rfl, k7, k2.trans ((a5.trans a6).trans n7).tk, (a12.trans (k5.trans a6)).nf (Nf.of hp), upd_same, ?_, ?_, ?_⟩
      · rw [List.map_append, List.map_map]
        exact (((hacc.mono a5.tk).mono a6.tk).mono n7.tk).append (hus.mono n7.tk)
      · rw [List.length_append, List.length_map, List.length_append, List.length_singleton]
        have := List.length_filter_le (fun u => decide (one.2.1 = u.1) && N.ties.any fun x => decide (x.1 = one.1 ∧ x.2.1 = u.2.1)) N.ties
        omega
      · intro z hz
        rcases List.mem_append.mp hz with y | y
        · exact hgood z y
        · obtain ⟨u, hu, rfl⟩ := List.mem_map.mp y
          obtain ⟨hu1, hu2⟩ := List.mem_filter.mp hu
          have hu3 := (Bool.and_eq_true_iff.mp hu2).2
          obtain ⟨x, hx, hx2⟩ := List.any_eq_true.mp hu3
          exact ⟨hone, hu1, x, hx, of_decide_eq_true hx2⟩
  · rintro σ' H4 ⟨pre, B4, acc, l3, y5, e, rfl, k, k2, nB, eB, hacc, hlen3, hgood⟩
    have hpre : pre.length ≤ 36 := by
      have := congrArg List.length e
      rw [List.length_append] at this
      omega
    have a04 := a12.trans k
    dsimp only
    by_cases hl3 : l3 = []
    · subst hl3
      refine sd_yes (eb_is (eb_isNil (SqL.of eB) hacc (shaped_h3 _)) rfl) k.tab fun H5 a5 => ?_
      refine sd_ret (K := K) (ev_var ((h2.mono a04.tk).mono a5.tk)) a5.tab fun v H6 a6 hv => ?_
      exact q st v H6 hlen (fun m hm => (hib m hm).mono (by omega)) (Lx.of hd ((a04.trans a5).trans a6)) hv
    · refine sd_no (eb_is (eb_isNil (SqL.of eB) hacc (shaped_h3 _)) (decide_eq_false fun z => hl3 (List.map_eq_nil_iff.mp z))) k.tab fun H5 a5 => ?_
      unfold tNext
      dsimp only
      have a05 := a04.trans a5
      have l5 := Lx.of hd a05
      have eB5 := a5.at_ eB pl_lst
      have hacc5 := hacc.mono a5.tk
      refine t_asg (t_call ⟨.ref D, rfl, .ref B4, rfl, a05.tab, D, C, B4, acc, rfl, l5.d1, eB5, (nB.off hd).1, (nB.off hd).2, fun z => ?_, ?_, fun i v H6 hv l6 => ?_⟩)
      · subst z
        cases l3 with
        | nil => exact hl3 rfl
        | cons => cases hacc
      · rw [hacc.length, List.length_map]
        omega
      obtain ⟨d, hd1, hd2⟩ := dts_at2 hacc5 hv
      rw [List.getElem?_map] at hd1
      cases hz : l3[i]? with
      | none => rw [hz] at hd1; cases hd1
      | some z =>
      rw [hz] at hd1
      cases hd1
      obtain ⟨g1, g2, u, gu, gu1, gu2⟩ := hgood z (List.mem_of_getElem? hz)
      refine g_two (hd2.mono l6.tk) fun w5 w6 k5 k6 => ?_
      have l06 := l5.trans l6
      refine t_par (t_cons (xr_use (T := T) (K := K) (D := D) (C := C) (n := 5) ?_ l06.tab l06.d1 fun xr v7 H7 ib7 l7 hv7 => t_cons ?_))
      · exact x_some (by decide)
      have l07 := l06.trans l7
      have hm7 := h2.mono l07.tk
      cases hm7 with
      | tup hs hdm =>
      rename_i pm ys
      refine t_cb (t_cons ⟨.ref pm, rfl, pm, ys, rfl, .inr hs, fun Fd hFd => ⟨_, _, rfl, ?_⟩⟩)
      have nn := Le.new (o := .lst ys) l07.tab hFd
      have nF : Nf H Fd := l07.nf (Nf.of hFd)
      have lb := l07.le nn
      have lstep : Lx T D C H5 (upd H7 Fd (.lst ys)) := (l6.trans l7).le nn
      have eL8 : (upd H7 Fd (.lst ys)) L = some (.lst ws) := lstep.at_ (a5.at_ (k.at_ eL2 pl_lst) pl_lst) pl_lst.1 (nL.off hd).1 (nL.off hd).2
      have hws8 : Dts K (upd H7 Fd (.lst ys)) ws (N.ties.map pairD) := ((hws2.mono k.tk).mono a5.tk).mono lstep.tk
      have k5b := (k5.mono l7.tk).mono nn.tk
      have k6b := (k6.mono l7.tk).mono nn.tk
      have hv7b := hv7.mono nn.tk
      have hneL : L ≠ Fd := fun y => by
        subst y
        rw [lstep.at_ (a5.at_ (k.at_ eL2 pl_lst) pl_lst) pl_lst.1 (nL.off hd).1 (nL.off hd).2] at eL8
        have := l7.at_ (l6.at_ (a5.at_ (k.at_ eL2 pl_lst) pl_lst) pl_lst.1 (nL.off hd).1 (nL.off hd).2) pl_lst.1 (nL.off hd).1 (nL.off hd).2
        rw [hFd] at this
        cases this
      have hitems : ∀ x ∈ [(pairD z.1, (1 : Int)), (pairD z.2, 1), (PyData.tuple [.int z.1.1, .int z.2.2.1], -1)], (∃ a b, x.1 = .tuple [.int a, .int b] ∧ ∃ u ∈ N.ties, u.1 = a ∧ u.2.1 = b) ∧ (x.2 = 1 ∨ x.2 = -1) := fun x hx => by
        simp only [List.mem_cons, List.not_mem_nil, or_false] at hx
        rcases hx with rfl | rfl | rfl
        · exact ⟨⟨_, _, rfl, z.1, g1, rfl, rfl⟩, .inl rfl⟩
        · exact ⟨⟨_, _, rfl, z.2, g2, rfl, rfl⟩, .inl rfl⟩
        · exact ⟨⟨_, _, rfl, u, gu, gu1, gu2⟩, .inr rfl⟩
      refine for_src (src_lstN (F := Fd) (l := [(pairD z.1, (1 : Int)), (pairD z.2, 1), (PyData.tuple [.int z.1.1, .int z.2.2.1], -1)]) (f := fun x => .tuple [x.1, .int x.2]) (el_lst (evs_cons (ev_tup (evs_cons (ev_var k5b) (evs_cons ev_int evs_nil))) (evs_cons (ev_tup (evs_cons (ev_var k6b) (evs_cons ev_int evs_nil))) (evs_cons (ev_tup (evs_cons (ev_tup (evs_cons (ev_ix (ds := [.int z.1.1, .int z.1.2.1]) (ev_var k5b) ev_int (dat_nat (j := 0) rfl)) (evs_cons (ev_ix (ds := [.int z.2.1, .int z.2.2.1]) (ev_var k6b) ev_int (dat_nat (j := 1) rfl)) evs_nil))) (evs_cons (ev_un (g := fun i => -i) ev_int) evs_nil))) evs_nil)))) upd_same) lb.tab
        fun H9 a9 => ⟨fun r σ' H' => ∃ (s' : List Rat) (ys' : List V) (y9 y10 y11 : Option V), σ' = [some (.ref D), some vn, some (.ref pm), some (.ref L), some (.ref B4), some w5, some w6, some v7, some (.ref Fd), y9, y10, y11, none] ∧ r.length ≤ 3 ∧ Lx T D C H H' ∧ TK H9 H' ∧ (∀ b o, b ≠ Fd → H9 b = some o → (∀ ps, o ≠ .tbl ps) → H' b = some o) ∧
          H' Fd = some (.lst ys') ∧ Dts K H' ys' (s'.map fr) ∧ s'.length = N.ties.length ∧ (∀ m ∈ s', IB (12 * F0) (R + 15 - 5 * r.length) m), ⟨st, ys, none, none, none, rfl, Nat.le_refl _, lb.le a9, TK.refl _, (fun _ _ _ h _ => h), a9.at_ upd_same pl_lst, (hdm.mono nn.tk).mono a9.tk, hlen, fun m hm => (hib m hm).mono (by simp)⟩, fun r σ' H' ⟨_, _, _, _, _, _, _, k, k2, k3, _⟩ => ⟨⟨k2, k3⟩, k.tab⟩, ?_, ?_⟩
      · rintro ⟨dx, sg⟩ r σ' H10 H11 v hx ⟨s', ys', y9, y10, y11, rfl, hr3, k10, tk10, kp10, eF, hys, hsl, hsi⟩ a11 hv
        obtain ⟨⟨ka, kb, rfl, ut, hut, hua, hub⟩, hsg⟩ := hitems _ hx
        have hsg : sg = 1 ∨ sg = -1 := hsg
        rw [List.length_cons] at hr3 hsi
        refine g_two hv fun w9 w10 k9 k10' => ?_
        cases k10'
        have k11 := k10.le a11
        have eF11 := a11.at_ eF pl_lst
        have hys11 := hys.mono a11.tk
        have st11 : Lx T D C (upd H7 Fd (.lst ys)) H11 → True := fun _ => trivial
        have eL11 : H11 L = some (.lst ws) := a11.at_ (kp10 L _ hneL (a9.at_ eL8 pl_lst) pl_lst.1) pl_lst
        have hws11 : Dts K H11 ws (N.ties.map pairD) := ((hws8.mono a9.tk).mono tk10).mono a11.tk
        have hv7c : Dt K H11 v7 (fr xr) := ((hv7b.mono a9.tk).mono tk10).mono a11.tk
        obtain ⟨j, tj, hj, hpj, hno⟩ := first_of (fun t : Tie => PyData.eqv (pairD t) (.tuple [.int ka, .int kb])) (l := N.ties) ⟨ut, hut, by rw [show PyData.eqv (pairD ut) (.tuple [.int ka, .int kb]) = decide (ut.1 = ka ∧ ut.2.1 = kb) from eqv_pair _ _ _ _]; exact decide_eq_true ⟨hua, hub⟩⟩
        have hjlt : j < N.ties.length := (List.getElem?_eq_some_iff.mp hj).1
        dsimp only
        refine sd_set (K := K) (d := .int (j : Nat)) (ev_index (p := L) (ws := ws) (ds := N.ties.map pairD) (d := .tuple [.int ka, .int kb]) (z := pairD tj) (SqL.of eL11) hws11 (ev_var k9) (shaped_pairs _) (shaped_pair _ _) (by rw [List.getElem?_map, hj]; rfl) hpj fun mi z' hmi hz' => ?_) k11.tab fun vj H12 a12' hvj => ?_
        · rw [List.getElem?_map] at hz'
          cases hy : N.ties[mi]? with
          | none => rw [hy] at hz'; cases hz'
          | some y =>
            rw [hy] at hz'
            cases hz'
            exact hno mi y hmi hy
        cases hvj
        have mm : s'[j]? = some s'[j] := List.getElem?_eq_getElem (by omega)
        generalize s'[j] = mu at mm
        have hys12 := hys11.mono a12'.tk
        have eF12 := a12'.at_ eF11 pl_lst
        obtain ⟨vmu, hvm1, hvm2⟩ := hys12.get (show (s'.map fr)[j]? = some (fr mu) by rw [List.getElem?_map, mm]; rfl)
        have k12 := k11.le a12'
        have ibmu := hsi mu (List.mem_of_getElem? mm)
        have numb : xr.num.natAbs < 2 ^ 1400 := Nat.lt_of_le_of_lt ib7.num (Nat.lt_of_lt_of_le (show 5 * 12 < 2 ^ 6 by decide) (Nat.pow_le_pow_right (by decide) (by decide)))
        obtain ⟨y, hy, iby⟩ : ∃ y : Rat, PyData.tuple [.int (sg * xr.num), .int (xr.den : Int)] = fr y ∧ IB 12 5 y := by
          rcases hsg with rfl | rfl
          · exact ⟨xr, by rw [Int.one_mul]; rfl, ib7⟩
          · exact ⟨-xr, by unfold fr; rw [Rat.neg_num, Rat.neg_den, Int.neg_one_mul], ib7.neg⟩
        have iby2 := iby.lift hF
        have ibn : IB (12 * F0) (R + 15 - 5 * r.length) (mu + y) := (ibmu.add iby2).mono (by omega)
        have smu : Sm mu := ibmu.sm bA (Nat.lt_of_le_of_lt (Nat.mul_le_mul_right _ (by omega)) bR)
        have smy : Sm y := iby2.sm bA (Nat.lt_of_le_of_lt (Nat.mul_le_mul_right _ (by omega)) bR)
        dsimp only
        refine sd_asg (K := K) (d := fr (mu + y)) (ev_call (evs_cons (ev_ixLI (i := 8) (SqL.of eF12) (ev_var (K := K) (.int _)) hvm1 hvm2) (evs_cons (ev_is (ev_tup (evs_cons (ev_opC (g := fun i j => i * j) (ev_var (K := K) (.int sg)) (ev_ix (d := .int xr.num) (ev_var (hv7c.mono a12'.tk)) ev_int (dat_nat (j := 0) rfl)) (Sm.mul (by rcases hsg with rfl | rfl <;> exact Nat.one_lt_two_pow (by decide)) numb)) (evs_cons (ev_ix (d := .int (xr.den : Int)) (ev_var (hv7c.mono a12'.tk)) ev_int (dat_nat (j := 1) rfl)) evs_nil))) hy) evs_nil)) ⟨mu, y, rfl, smu, smy, rfl⟩) k12.tab fun vn2 H13 a13 hv13 => ?_
        have eF13 := a13.at_ eF12 pl_lst
        have k13 := k12.le a13
        refine ⟨.ref Fd, rfl, .int (j : Nat), rfl, Fd, ys', (j : Nat), j, rfl, rfl, eF13, ix_nat (by rw [hys.length, List.length_map]; omega), ?_⟩
        have tkF : TK H13 (upd H13 Fd (.lst (ys'.set j vn2))) := (TK.refl H13).lst eF13
        have tks := (a11.trans (a12'.trans a13)).tk
        refine ⟨s'.set j (mu + y), ys'.set j vn2, _, _, _, rfl, by omega, k13.mutL nF eF13, (tk10.trans tks).trans tkF, fun b o hb ho hn => ?_, upd_same, ?_, by rw [List.length_set]; exact hsl, fun mv hm => ?_⟩
        · rw [upd_ne hb]
          exact (a11.trans (a12'.trans a13)).ext b o (kp10 b o hb ho hn) hn
        · rw [List.map_set]
          exact dts_set (hv13.mono tkF) j ((hys12.mono a13.tk).mono tkF)
        · rcases List.mem_or_eq_of_mem_set hm with z | z
          · exact (hsi mv z).mono (by omega)
          · rw [z]; exact ibn
      · rintro σ' H10 ⟨s', ys', y9, y10, y11, rfl, _, k10, _, _, eF, hys, hsl, hsi⟩
        dsimp only
        refine t_ret (t_cb (t_cons ⟨.ref Fd, rfl, Fd, ys', rfl, .inl ⟨SqL.of eF, fun c hc => ?_⟩⟩))
        have n11 := Le.new (o := .tup ys') k10.tab hc
        exact q s' _ _ hsl (fun m hm => (hsi m hm).mono (by simp)) (k10.le n11) (.new upd_same (hys.mono n11.tk))
end
end Lf
end

section
set_option maxRecDepth 100000
set_option maxHeartbeats 4000000
/-! tuple * 1: the tuple itself. -/
namespace Lf
open PySem PySem.Spec PyProof.Rows L2
theorem tuple_mul1 (l : Addr) (items : Array Value) (n : Nat) (dd : Option Addr) (sl : Array (Option Value)) (u : Tok) :
    Meets (Builtin.«tuple.__mul__» ⟨[.ref l, .int 1 u], []⟩) (fun _ R s => s.heap.get? l = some { cls := .type "tuple", dict := dd, data := .seq items n, slots := sl } ∧ R (.ok (.ret (Value.ref l))) s) :=
  .of_wp fun prog w A R s h => by
    obtain ⟨hp, g, d, tk, os⟩ := s
    obtain ⟨hl, h⟩ := h
    have f1 := AutoSeq1.idx_int
    wp_walk using wpAny_loadPart' hl
    exact ⟨_, rfl, h⟩
def rRepP (K : PySem.W.Frag) : R2 := fun x y H Q => (∃ l xs, x = .ref l ∧ y = .int 1 ∧ SqT K H l xs ∧ Q (.ref l) H) ∨ rRepT K x y H Q
theorem w_repP {X : Cx} {K : PySem.W.Frag} (hK : X.K = K := by rfl) : OpR X (binaryOp .Mult) (rRepP K) := by
  subst hK
  intro pins s σ H x y v u Q I rx ry h
  rcases h with ⟨l, xs, rfl, rfl, hT, q⟩ | h
  · cases rx
    obtain ⟨t, rfl⟩ := ry
    obtain ⟨its, r, ⟨⟨cls, dd, data, sl⟩, ho, hc, n, hd⟩, hs⟩ := I.tuple hT
    simp only at hc hd
    subst hc hd
    refine wpAny_binaryOp_repeat_ref (T := "tuple") (U := "int") (by decide) ⟨_, ho, rfl⟩ (fun s' => typeIs_int s' 1 t) noFill_tuple_mul F.fills_int_mul F.slot_int_rmul repeat_tuple F.slot_int_index.lookup
      (call_meets F.slot_int_rmul (typeIs_int s 1 t) F.entry_int_rmul (F.args_int_rmul_2 _ _) (int_rmul_tuple 1 t l its.toArray n dd sl)
        ⟨ho, rfl, ⟨_, ho, rfl⟩, call_meets F.slot_tuple_mul ⟨_, ho, rfl⟩ F.entry_tuple_mul (F.args_tuple_mul_2 _ _) (tuple_mul1 l its.toArray n dd sl t) ⟨ho, ?_⟩⟩)
    exact ⟨.ref l, H, I, rfl, q⟩
  · exact op_repT pins s σ H x y v u Q I rx ry h
end Lf
end

section
set_option maxRecDepth 100000
set_option maxHeartbeats 4000000
set_option exponentiation.threshold 3000
/-! The walk of the law's bent. -/
namespace Lf
open PySem PySem.Spec PyProof.Rows L2
/-- what a bent stream may be -/
def BentOut (T : Tabl) (K : PySem.W.Frag) (n A R : Nat) (H : Hp) (v : V) : Prop :=
  (∃ tn : String, (∀ H', Le T H H' → TyX K H' v (.type tn)) ∧ PySem.W.kitOne K (.type tn) (.type "tuple") = some false) ∨
  ∃ ds : List PyData, Dt K H v (.tuple ds) ∧ ds.length ≤ 1000 ∧ (∀ d ∈ ds, Kd d) ∧ (ds.length ≠ n ∨ (ds.length = n ∧ (ds.map fracD).all id = false) ∨ ∃ s' : List Rat, ds = s'.map fr ∧ s'.length = n ∧ ∀ m ∈ s', IB A R m)
def spBent (T : Tabl) (K : PySem.W.Frag) : Sp := fun vs H Q _ => LamX.Tabs T H ∧ ∃ (D C : Addr) (vm : V) (s : List Rat) (F R : Nat), vs = [.ref D, vm] ∧ Deal H D C ∧ Dt K H vm (.tuple (s.map fr)) ∧ 1 ≤ s.length ∧ s.length ≤ 36 ∧ 0 < F ∧ (∀ m ∈ s, IB (12 * F) R m) ∧ 12 * F < 2 ^ 1400 ∧ (R + 9) * (12 * F) < 2 ^ 1400 ∧
  ∀ v H', Lx T D C H H' → BentOut T K s.length (12 * F) (R + 9) H' v → Q v H'
theorem cut_to (ds : List PyData) (k : Nat) : cutD ds none (some ((k : Nat) : Int)) = ds.take k := by
  unfold cutD
  have e1 : HT.sIx ds.length ds.length (some ((k : Nat) : Int)) = min k ds.length := HT.sIx_nat _ _ k
  rw [e1, HT.sIx_none, Nat.sub_zero, List.drop_zero]
  rcases Nat.le_total k ds.length with z | z
  · rw [Nat.min_eq_left z]
  · rw [Nat.min_eq_right z, List.take_of_length_le (Nat.le_refl _), List.take_of_length_le z]
theorem eqv_nilT : ∀ ds : List PyData, PyData.eqv (.tuple ds) (.tuple []) = decide (ds = [])
  | [] => by simp [PyData.eqv, PyData.eqvAll]
  | c :: cs => by simp [PyData.eqv, PyData.eqvAll]
theorem fr_ok (x : Rat) : (fr x).canLay0 = true ∧ (fr x).depth ≤ 20 := by
  refine ⟨rfl, ?_⟩
  simp [fr, PyData.depth, PyData.depthAll]
theorem shaped_tup {ds : List PyData} (h : ∀ d ∈ ds, d.canLay0 = true ∧ d.depth ≤ 20) : SeqAt.shaped (.tuple ds) = true := by
  have := shaped_list h
  unfold SeqAt.shaped at *
  simpa [PyData.canLay0, PyData.depth] using this
theorem kd_fr {x : Rat} (h : Sm x) : Kd (fr x) := .inl ⟨x, rfl, h⟩
section
variable {T : Tabl} {K : PySem.W.Frag} {σ : L2.St} {H : Hp} {D C : Addr}
theorem x_or {t u : TT} (h1 : ∀ H1, Lx T D C H H1 → EvB T t σ H1 false) (h2 : EvT T D C u σ H) : EvT T D C (tOr t u) σ H := fun H1 k Q q => h1 H1 k H1 (Le.refl k.tab) _ fun H2 a => by
  show u σ H2 Q
  exact h2 H2 (k.le a) Q fun b H3 k3 => q b H3 ((Lx.of k.d1 a).trans k3)
theorem t_lst {ta : TA} {Q : VK} (h : ta σ H fun xs H1 => xs.length ≤ sizeLine ∧ ∀ p, H1 p = none → Q (.ref p) (upd H1 p (.lst xs))) : tLst ta σ H Q := h
theorem t_con {v : V} {Q : VK} (h : Q v H) : tC v σ H Q := h
theorem t_var {i : Nat} {v : V} {Q : VK} (h : Q v H) (hσ : σ[i]? = some (some v) := by rfl) : tVar i σ H Q := ⟨v, hσ, h⟩
/-- x * k, x a tuple of one item -/
theorem ev_rep1 {d : PyData} {n : Nat} {ta tb : TE} (ha : EvD T K ta σ H (.tuple [d])) (hb : EvD T K tb σ H (.int (n : Nat))) (h1 : 1 ≤ n) (h2 : n ≤ 1000) : EvD T K (tOp (rRepP K) ta tb) σ H (.tuple (List.replicate n d)) := fun H1 a Q q =>
  ha H1 a _ fun v H2 a2 hv => hb H2 (a.trans a2) _ fun u H3 a3 hu => by
    cases hu
    have hv3 := hv.mono a3.tk
    cases hv3 with
    | tup hs hd =>
    rename_i p xs
    by_cases e : n = 1
    · subst e
      exact .inl ⟨p, xs, rfl, rfl, hs, q _ H3 (a2.trans a3) (.tup hs hd)⟩
    · cases hd with
      | cons d1 hd =>
      cases hd
      rename_i x
      refine .inr ⟨p, (n : Nat), [x], rfl, rfl, hs, by simp, by omega, by omega, by simp, fun b hb => ?_⟩
      rw [Int.toNat_natCast]
      have nn := Le.new (o := .tup (List.replicate n [x]).flatten) a3.tab hb
      have ef : (List.replicate n [x]).flatten = List.replicate n x := by simp
      refine q _ _ ((a2.trans a3).trans nn) (.new upd_same ?_)
      rw [ef]
      have : ∀ n : Nat, Dts K (upd H3 b (.tup (List.replicate n.succ [x]).flatten)) (List.replicate n x) (List.replicate n d) → True := fun _ _ => trivial
      have rep : ∀ (H5 : Hp), Dt K H5 x d → ∀ n : Nat, Dts K H5 (List.replicate n x) (List.replicate n d) := fun H5 h n => by
        induction n with
        | zero => exact .nil
        | succ n ih => exact .cons h ih
      exact rep _ (d1.mono (by rw [ef] at nn; exact nn.tk)) n
end
section
variable {P : Program} {w : World} {K : PySem.W.Frag} {mg : Str → Option Value} {base : Heap} {T : Tabl}
abbrev s_law_bent : Stmt := topS 54
abbrev N_law_bent : List Str := ["_law_deal_here", "_law_stream", "_law_at", "_law_new"]
theorem sc_law_bent : FnScope N_law_bent ["_law_deal_here", "_law_stream"] (defScope s_law_bent) := ⟨rfl, rfl, rfl, by decide +kernel, rfl, by decide +kernel, by decide +kernel⟩
theorem ok_law_bent {f : Addr} {fd : FuncData} (F : Fun K "_law_bent" "_law_bent" s_law_bent f fd) (m : Mg K mg) (c_law_any : Cal P w K mg base "_law_any" ["_law_deal_here", "_law_bound"] 1 (spAny T K)) (c_law_of : Cal P w K mg base "_law_of" ["_law_deal_here", "_law_some_here"] 2 (spOf T K)) (c_law_some : Cal P w K mg base "_law_some" ["_law_deal_here", "_law_size"] 3 (spSome T K)) (c_law_plus : Cal P w K mg base "_law_plus" ["_law_one", "_law_other"] 2 (Pur T K pPlus)) :
    FnOk P w K mg base CX0 4 f fd ["_law_deal_here", "_law_stream"] (spBent T K) := by
  refine F.ok sc_law_bent (fun vs H Q E ⟨_, _, _, _, _, _, _, e, _⟩ => by rw [e]; rfl) (fun cdv A outer s H vs Q E hr h => ?_)
  obtain ⟨tH, D, C, vm, st, F0, R, rfl, hd, h2, hl1, h36, hF, hib, bA, bR, q⟩ := h
  refine ⟨_, (pss_cons (ps_if (PW.pt (pw_or (pt_cmpR (w_eqD (K := K) hr.units) (pv 1) (pe_tup pa_nil) (nomark _)) (pw_or1 (pt_cmpR op_eq (pe_cal c_law_any (hr.mono (by decide)) (by rfl) (pa_cons (pv 0) (pa_cons pe_int pa_nil))) pe_int (nomark _))))) (pss_one (ps_ret (pe_cal c_law_of (hr.mono (by decide)) (by rfl) (pa_cons (pv 0) (pa_cons (pe_lst (pa_cons pe_non (pa_cons (pe_callTy (w_list (K := K)) (by rfl) m.lst (by decide +kernel) (pa_cons (pv 1) pa_nil)) (pa_cons (pe_op (w_cat (K := K)) (pv 1) (pe_tup (pa_cons (pe_tup (pa_cons pe_int (pa_cons pe_int pa_nil))) pa_nil))) (pa_cons (pe_slice (w_slT (K := K)) (pv 1) (po_some pe_int) po_none) (pa_cons pe_str (pa_cons (pe_op (w_repP (K := K)) (pe_tup (pa_cons pe_non pa_nil)) (pe_callB (w_len (K := K)) (by rfl) m.len PySem.boot_len (pa_cons (pv 1) pa_nil))) pa_nil))))))) pa_nil))))) pss_nil)
      (pss_cons (ps_set (i := 2) sc_law_bent.nd rfl (.inl rfl) (pe_cal c_law_any (hr.mono (by decide)) (by rfl) (pa_cons (pv 0) (pa_cons (pe_callB (w_len (K := K)) (by rfl) m.len PySem.boot_len (pa_cons (pv 1) pa_nil)) pa_nil))))
      (pss_cons (ps_set (i := 3) sc_law_bent.nd rfl (.inl rfl) (pe_cal c_law_of (hr.mono (by decide)) (by rfl) (pa_cons (pv 0) (pa_cons (pe_lst (pa_cons (pe_cal c_law_plus (hr.mono (by decide)) (by rfl) (pa_cons (pe_ix (w_ixT (K := K)) (pv 1) (pv 2) (fun _ _ => rfl)) (pa_cons (pe_tup (pa_cons pe_int (pa_cons pe_int pa_nil))) pa_nil))) (pa_cons pe_non (pa_cons (pe_tup (pa_cons pe_int (pa_cons pe_int pa_nil))) (pa_cons pe_int (pa_cons (pe_cal c_law_some (hr.mono (by decide)) (by rfl) (pa_cons (pv 0) (pa_cons pe_int pa_nil))) pa_nil)))))) pa_nil))))
      (pss_one (ps_ret (pe_op (w_cat (K := K)) (pe_op (w_cat (K := K)) (pe_slice (w_slT (K := K)) (pv 1) po_none (po_some (pv 2))) (pe_tup (pa_cons (pv 3) pa_nil))) (pe_slice (w_slT (K := K)) (pv 1) (po_some (pe_op op_add (pv 2) pe_int)) po_none))))))), ?_⟩
  have ib9 : ∀ m ∈ st, IB (12 * F0) (R + 9) m := fun m hm => (hib m hm).mono (by omega)
  have smA : ∀ {x : Rat}, IB (12 * F0) (R + 9) x → Sm x := fun h => h.sm bA bR
  have k0 := Lx.refl tH hd
  have hne : st ≠ [] := fun z => by rw [z] at hl1; simp at hl1
  refine xs_if (T := T) (D := D) (C := C) (x_or (fun H1 k => eb_is (eb_test (ev_eqD (K := K) (ev_var (h2.mono k.tk)) (ev_tup evs_nil) (shaped_tup fun d hd => by
    obtain ⟨x, _, rfl⟩ := List.mem_map.mp hd
    exact fr_ok x) rfl)) (by rw [eqv_nilT]; exact decide_eq_false fun z => hne (List.map_eq_nil_iff.mp z))) (x_testEq (x_any (K := K) (b := 3) x_con (by decide) (by decide)))) tH hd (fun H1 k1 => ?_) fun H1 k1 => ?_
  · have hm1 := h2.mono k1.tk
    cases hm1 with
    | tup hs hdm =>
    rename_i pm ys
    refine t_ret (t_call (t_cons (t_var (v := .ref D) (t_cons (t_lst (t_cons (t_con (t_cons (t_cb (t_cons (t_var (v := .ref pm) ⟨pm, ys, rfl, .inr hs, fun Lq hLq => ?_⟩)))))))))))
    have nL := Le.new (o := .lst ys) k1.tab hLq
    have k2 := k1.le nL
    have nLq : Nf H Lq := k1.nf (Nf.of hLq)
    refine t_cons (e_use (K := K) (d := .tuple (st.map fr ++ [fr 0])) ?_ nL.tab fun v3 H3 a3 hv3 => ?_)
    · exact ev_cat (ev_var (h2.mono k2.tk)) (ev_is (ev_tup (evs_cons (ev_tup (evs_cons ev_int (evs_cons ev_int evs_nil))) evs_nil)) rfl) (by rw [List.length_map, List.length_singleton]; omega)
    have k3 := k2.le a3
    refine t_cons (e_use (K := K) (d := .tuple ((st.map fr).drop 1)) ?_ a3.tab fun v4 H4 a4 hv4 => ?_)
    · exact ev_is (ev_sl (ev_var (h2.mono k3.tk)) (eo_some (K := K) ev_int) eo_none) (congrArg PyData.tuple (cut_from (st.map fr) 1))
    have k4 := k3.le a4
    refine t_cons (t_con (t_cons (e_use (K := K) (d := .tuple (List.replicate st.length .none)) ?_ a4.tab fun v6 H6 a6 hv6 => ⟨by show 6 ≤ sizeLine; decide, fun Lz hLz => ?_⟩)))
    · exact ev_rep1 (ev_tup (evs_cons ev_non evs_nil)) (ev_is (ev_len (ev_var (h2.mono k4.tk))) (by rw [List.length_map])) hl1 (by omega)
    have k6 := k4.le a6
    have nZ := Le.new (o := .lst [.non, .ref Lq, v3, v4, .str "stream", v6]) a6.tab hLz
    have k7 := k6.le nZ
    have ne := (Nf.of hLz).off k6.d1
    have eLq : (upd H6 Lz (.lst [.non, .ref Lq, v3, v4, .str "stream", v6])) Lq = some (.lst ys) := nZ.at_ (a6.at_ (a4.at_ (a3.at_ upd_same pl_lst) pl_lst) pl_lst) pl_lst
    refine ⟨k7.tab, D, C, Lz, [.non, .ref Lq, v3, v4, .str "stream", v6], rfl, k7.d1, upd_same, ne.1, ne.2, by simp, by simp, fun i v H8 hv l8 => ?_⟩
    have kdf : ∀ x ∈ st, Kd (fr x) := fun x hx => kd_fr (smA (ib9 x hx))
    match i, hv with
    | 0, h => cases h; exact q _ H8 (k7.trans l8) (.inl ⟨"NoneType", fun _ _ => .base .non, by first | rfl | decide +kernel⟩)
    | 1, h => cases h; exact q _ H8 (k7.trans l8) (.inl ⟨"list", fun H9 a9 => .base (.lst (a9.at_ (l8.at_ eLq pl_lst.1 (nLq.off hd).1 (nLq.off hd).2) pl_lst)), by first | rfl | decide +kernel⟩)
    | 2, h =>
      cases h
      refine q _ H8 (k7.trans l8) (.inr ⟨_, (hv3.mono ((a4.trans a6).trans nZ).tk).mono l8.tk, by rw [List.length_append, List.length_map, List.length_singleton]; omega, fun d hd => ?_, .inl (by rw [List.length_append, List.length_map, List.length_singleton]; omega)⟩)
      rcases List.mem_append.mp hd with z | z
      · obtain ⟨x, hx, rfl⟩ := List.mem_map.mp z
        exact kdf x hx
      · rw [List.mem_singleton.mp z]
        exact kd_fr (IB.zero (E := 1) (R := 1) (by decide) |>.sm (Nat.one_lt_two_pow (by decide)) (Nat.one_lt_two_pow (by decide)))
    | 3, h =>
      cases h
      refine q _ H8 (k7.trans l8) (.inr ⟨_, (hv4.mono (a6.trans nZ).tk).mono l8.tk, by rw [List.length_drop, List.length_map]; omega, fun d hd => ?_, .inl (by rw [List.length_drop, List.length_map]; omega)⟩)
      obtain ⟨x, hx, rfl⟩ := List.mem_map.mp (List.mem_of_mem_drop hd)
      exact kdf x hx
    | 4, h => cases h; exact q _ H8 (k7.trans l8) (.inl ⟨"str", fun _ _ => .base (.str _), by first | rfl | decide +kernel⟩)
    | 5, h =>
      cases h
      refine q _ H8 (k7.trans l8) (.inr ⟨_, (hv6.mono nZ.tk).mono l8.tk, by rw [List.length_replicate]; omega, fun d hd => ?_, .inr (.inl ⟨List.length_replicate, ?_⟩)⟩)
      · rw [List.eq_of_mem_replicate hd]
        exact .inr (.inl rfl)
      · obtain ⟨k, e⟩ : ∃ k, st.length = k + 1 := ⟨st.length - 1, by omega⟩
        rw [e, List.replicate_succ]
        rfl
  · unfold tNext
    dsimp only
    refine xs_set (T := T) (D := D) (C := C) (lo := 0) (hi := (st.length : Nat)) (x_any (K := K) (lo := (st.length : Nat)) (hi := (st.length : Nat) + 1) (x_ev (K := K) fun H2 k => ev_is (ev_len (ev_var (h2.mono (k1.trans k).tk))) (by rw [List.length_map])) (by omega) (by omega)) k1.tab k1.d1 fun r H2 r0 r1 k2 => ?_
    obtain ⟨j, rfl⟩ := Int.eq_ofNat_of_zero_le r0
    have hj : j < st.length := by omega
    have k02 := k1.trans k2
    have mm : st[j]? = some st[j] := List.getElem?_eq_getElem hj
    generalize st[j] = mu at mm
    have ibmu := hib mu (List.mem_of_getElem? mm)
    have third : IB 12 1 (mkRat 1 3) := ib_mk (by omega) (by omega) (by omega)
    have ibn : IB (12 * F0) (R + 9) (mu + mkRat 1 3) := (ibmu.add (third.lift hF)).mono (by omega)
    dsimp only
    -- the bent stream
    have fin : ∀ (v : V) (H' : Hp) (dn : PyData), Lx T D C H H' → Dt K H' v dn → Kd dn → (fracD dn = false ∨ ∃ y, dn = fr y ∧ IB (12 * F0) (R + 9) y) →
        tRet (tOp (rCatA K) (tOp (rCatA K) (tSl (rSlA K) (tVar 1) tNoPart (tPart (tVar 2))) (tTup (tCons (tVar 3) tNil))) (tSl (rSlA K) (tVar 1) (tPart (tOp (rI0 fun i j => V.int (i + j)) (tVar 2) (tC (V.int 1)))) tNoPart)) { nx := fun _ H' => Q .non H', rt := Q } [some (.ref D), some vm, some (.int (j : Nat)), some v] H' := fun v H' dn k hv hk hdn => by
      refine sd_ret (K := K) (d := .tuple ((st.map fr).take j ++ [dn] ++ (st.map fr).drop (j + 1))) (ev_cat (ev_cat (ev_is (ev_sl (ev_var (h2.mono k.tk)) eo_none (eo_some (K := K) (ev_var (.int _)))) (congrArg PyData.tuple (cut_to (st.map fr) j))) (ev_tup (evs_cons (ev_var hv) evs_nil)) ?_) (ev_is (ev_sl (ev_var (h2.mono k.tk)) (eo_some (K := K) (ev_op (g := fun i j => i + j) (ev_var (.int _)) ev_int)) eo_none) (congrArg PyData.tuple (cut_from (st.map fr) (j + 1)))) ?_) k.tab fun v9 H9 a9 hv9 => ?_
      · rw [List.length_take, List.length_map, List.length_singleton]; omega
      · rw [List.length_append, List.length_take, List.length_map, List.length_singleton, List.length_drop, List.length_map]; omega
      have hl : ((st.map fr).take j ++ [dn] ++ (st.map fr).drop (j + 1)).length = st.length := by
        rw [List.length_append, List.length_append, List.length_take, List.length_map, List.length_singleton, List.length_drop, List.length_map]
        omega
      refine q v9 H9 (k.le a9) (.inr ⟨_, hv9, by rw [hl]; omega, fun d hd => ?_, .inr ?_⟩)
      · have old : ∀ d, d ∈ st.map fr → Kd d := fun d hd => by
          obtain ⟨x, hx, rfl⟩ := List.mem_map.mp hd
          exact kd_fr (smA (ib9 x hx))
        rcases List.mem_append.mp hd with z | z
        · rcases List.mem_append.mp z with y | y
          · exact old d (List.mem_of_mem_take y)
          · rw [List.mem_singleton.mp y]; exact hk
        · exact old d (List.mem_of_mem_drop z)
      · rcases hdn with z | ⟨y, rfl, iy⟩
        · refine .inl ⟨hl, ?_⟩
          rw [List.map_append, List.map_append, List.all_append, List.all_append]
          show ((_ && (id (fracD dn) && true)) && _) = false
          rw [z]
          simp
        · refine .inr ⟨st.set j y, ?_, by rw [List.length_set], fun m hm => ?_⟩
          · rw [List.set_eq_take_append_cons_drop, if_pos hj, List.map_append, List.map_cons, List.map_take, List.map_drop, List.append_assoc]
            rfl
          · rcases List.mem_or_eq_of_mem_set hm with z | z
            · exact ib9 m z
            · rw [z]; exact iy
    refine t_asg (t_call (t_cons (t_var (v := .ref D) (t_cons (t_lst (t_cons (e_use (K := K) (d := fr (mu + mkRat 1 3)) ?_ k02.tab fun v3 H3 a3 hv3 => ?_)))))))
    · exact ev_call (evs_cons (ev_ix (ev_var (h2.mono k02.tk)) (ev_var (.int _)) (dat_nat (by rw [List.getElem?_map, mm]; rfl))) (evs_cons (ev_tup (evs_cons ev_int (evs_cons ev_int evs_nil))) evs_nil)) ⟨mu, mkRat 1 3, rfl, smA (ib9 mu (List.mem_of_getElem? mm)), (third.lift hF).sm bA (Nat.lt_of_le_of_lt (Nat.mul_le_mul_right _ (by omega)) bR), rfl⟩
    have k3 := k02.le a3
    refine t_cons (t_con (t_cons (e_use (K := K) (d := .tuple [.int 2, .int 4]) ?_ k3.tab fun v4 H4 a4 hv4 => ?_)))
    · exact ev_tup (evs_cons ev_int (evs_cons ev_int evs_nil))
    have k4 := k3.le a4
    refine t_cons (t_con (t_cons (xr_use (T := T) (K := K) (D := D) (C := C) (n := 9) ?_ k4.tab k4.d1 fun x5 v5 H5 ib5 l5 hv5 => ⟨by show 5 ≤ sizeLine; decide, fun Lz hLz => ?_⟩)))
    · exact x_some (by decide)
    have k5 := k4.trans l5
    have nZ := Le.new (o := .lst [v3, .non, v4, .int 1, v5]) k5.tab hLz
    have k7 := k5.le nZ
    have ne := (Nf.of hLz).off k5.d1
    refine ⟨k7.tab, D, C, Lz, [v3, .non, v4, .int 1, v5], rfl, k7.d1, upd_same, ne.1, ne.2, by simp, by simp, fun i v H8 hv l8 => ?_⟩
    match i, hv with
    | 0, h => cases h; exact fin _ H8 _ (k7.trans l8) ((((hv3.mono a4.tk).mono l5.tk).mono nZ.tk).mono l8.tk) (kd_fr (smA ibn)) (.inr ⟨_, rfl, ibn⟩)
    | 1, h => cases h; exact fin _ H8 .none (k7.trans l8) .non (.inr (.inl rfl)) (.inl rfl)
    | 2, h => cases h; exact fin _ H8 _ (k7.trans l8) (((hv4.mono l5.tk).mono nZ.tk).mono l8.tk) (.inr (.inr (.inr rfl))) (.inl rfl)
    | 3, h => cases h; exact fin _ H8 (.int 1) (k7.trans l8) (.int 1) (.inr (.inr (.inl ⟨1, rfl⟩))) (.inl rfl)
    | 4, h =>
      cases h
      have i9 : IB (12 * F0) (R + 9) x5 := (ib5.lift hF).mono (by omega)
      exact fin _ H8 _ (k7.trans l8) ((hv5.mono nZ.tk).mono l8.tk) (kd_fr (smA i9)) (.inr ⟨_, rfl, i9⟩)
end
end Lf
end

section
set_option maxRecDepth 100000
set_option maxHeartbeats 2000000
set_option exponentiation.threshold 3000
/-! repr of data, where no other repr is under way. -/
namespace Lf
open PySem PySem.Spec PyProof.Rows L2
/-- data that repr shows: its length, its depth -/
def Gd (n k : Nat) (d : PyData) : Prop := d.showable = true ∧ d.hasDict = false ∧ d.shown.length ≤ n ∧ d.depth ≤ k
theorem gd_int {i : Int} (h : i.natAbs < 2 ^ 1400) : Gd 1921 0 (.int i) := by
  have hl : i.natAbs.log2 < 1920 := by
    by_cases z : i.natAbs = 0
    · rw [z]; decide
    · exact (Nat.log2_lt z).mpr (Nat.lt_trans h (Nat.pow_lt_pow_right (by decide) (by decide)))
  refine ⟨?_, ?_, ?_, ?_⟩
  · simp only [PyData.showable]; exact decide_eq_true hl
  · simp only [PyData.hasDict]
  · simp only [PyData.shown]
    have e := int_text_length_le (k := 1920) (by decide) hl
    rw [PySem.ofString_length]
    exact e
  · simp [PyData.depth]
theorem piled_le {n : Nat} : ∀ {ts : List Str}, (∀ t ∈ ts, t.length ≤ n) → piled ts ≤ ts.length * (n + 2)
  | [], _ => by rw [piled_nil]; omega
  | t :: ts, h => by
    rw [piled_cons, List.length_cons, Nat.succ_mul]
    have h1 := h t List.mem_cons_self
    have h2 := piled_le fun u hu => h u (List.mem_cons_of_mem _ hu)
    omega
theorem tupleText_le {n : Nat} {ts : List Str} (h : ∀ t ∈ ts, t.length ≤ n) : (tupleText ts).length ≤ ts.length * (n + 2) + 3 := by
  unfold tupleText
  rw [strLen_append, strLen_append]
  have e1 : ((("(" : String) : Str)).length = 1 := rfl
  have e3 : (((if ts.length == 1 then ",)" else ")" : String) : Str)).length ≤ 2 := by split <;> decide
  rw [e1]
  by_cases z : ts = []
  · subst z
    have : (Str.join ", " []).length = 0 := rfl
    rw [this]
    have e4 : (([] : List Str).length) * (n + 2) = 0 := by simp
    omega
  · have h1 := join_length_add ts z
    have h2 := piled_le h
    omega
theorem gd_tup {n k : Nat} {ds : List PyData} (h : ∀ d ∈ ds, Gd n k d) : Gd (ds.length * (n + 2) + 3) (k + 1) (.tuple ds) := by
  have all : ∀ ds : List PyData, (∀ d ∈ ds, Gd n k d) → PyData.showableAll ds = true ∧ PyData.hasDictAll ds = false ∧ (PyData.shownAll ds).length = ds.length ∧ (∀ t ∈ PyData.shownAll ds, t.length ≤ n) ∧ PyData.depthAll ds ≤ k := fun ds => by
    induction ds with
    | nil => intro _; exact ⟨rfl, rfl, rfl, (fun t ht => by cases ht), Nat.zero_le _⟩
    | cons d ds ih =>
      intro h
      obtain ⟨i1, i2, i3, i4, i5⟩ := ih fun x hx => h x (List.mem_cons_of_mem _ hx)
      obtain ⟨j1, j2, j3, j4⟩ := h d List.mem_cons_self
      refine ⟨by simp only [PyData.showableAll, i1, j1, Bool.and_true], by simp only [PyData.hasDictAll, i2, j2, Bool.or_false], by simp only [PyData.shownAll, List.length_cons, i3], fun t ht => ?_, by simp only [PyData.depthAll]; omega⟩
      simp only [PyData.shownAll] at ht
      rcases List.mem_cons.mp ht with z | z
      · rw [z]; exact j3
      · exact i4 t z
  obtain ⟨i1, i2, i3, i4, i5⟩ := all ds h
  refine ⟨by simp only [PyData.showable, i1], by simp only [PyData.hasDict, i2], ?_, by simp only [PyData.depth]; omega⟩
  simp only [PyData.shown]
  have := tupleText_le i4
  rw [i3] at this
  exact this
theorem Gd.mono {n k n' k' : Nat} {d : PyData} (h : Gd n k d) (h1 : n ≤ n') (h2 : k ≤ k') : Gd n' k' d := ⟨h.1, h.2.1, Nat.le_trans h.2.2.1 h1, Nat.le_trans h.2.2.2 h2⟩
theorem gd_fr {x : Rat} (h : Sm x) : Gd 4000 1 (fr x) := by
  refine (gd_tup (n := 1921) (k := 0) fun d hd => ?_).mono (by show 2 * (1921 + 2) + 3 ≤ 4000; decide) (by decide)
  simp only [List.mem_cons, List.not_mem_nil, or_false] at hd
  rcases hd with rfl | rfl
  · exact gd_int h.1
  · exact gd_int h.dn
theorem gd_strm {s : List Rat} (hl : s.length ≤ 36) (h : ∀ x ∈ s, Sm x) : Gd 200000 2 (.tuple (s.map fr)) := by
  refine (gd_tup (n := 4000) (k := 1) fun d hd => ?_).mono ?_ (by decide)
  · obtain ⟨x, hx, rfl⟩ := List.mem_map.mp hd
    exact gd_fr (h x hx)
  · rw [List.length_map]; omega
theorem gd_wI {ks : List Int} {x : Int → Rat} (hl : ks.length ≤ 6) (hk : ∀ p ∈ ks, p.natAbs < 2 ^ 1400) (h : ∀ p ∈ ks, Sm (x p)) : Gd 200000 3 (.tuple (wI ks x)) := by
  rw [wI_map]
  refine (gd_tup (n := 9000) (k := 2) fun d hd => ?_).mono ?_ (by decide)
  · obtain ⟨p, hp, rfl⟩ := List.mem_map.mp hd
    refine (gd_tup (n := 4000) (k := 1) fun d hd => ?_).mono (by show 2 * (4000 + 2) + 3 ≤ 9000; decide) (by decide)
    simp only [List.mem_cons, List.not_mem_nil, or_false] at hd
    rcases hd with rfl | rfl
    · exact (gd_int (hk p hp)).mono (by decide) (by decide)
    · exact gd_fr (h p hp)
  · rw [List.length_map]; omega
/-- repr(x) -/
def rRepr (K : PySem.W.Frag) : List V → Hp → VK → Prop := fun xs H Q => (∃ (a : Addr) (d : PyData), xs = [.ref a] ∧ Dp K H (.ref a) d ∧ Gd 200000 20 d ∧ Q (.str d.shown) H) ∨ ∃ b, xs = [.bl b] ∧ Q (.str (if b then "True" else "False")) H
theorem w_repr {X : Cx} {K : PySem.W.Frag} (hg : X.A.guards = some []) (hu : X.A.units + 65 < cLine) (hK : X.K = K := by rfl) : CallR X (.builtin "repr") (rRepr K) := by
  subst hK
  intro pins s σ H xs us Q I r h
  rcases h with ⟨a, d, rfl, hd, hG, q⟩ | ⟨b, rfl, q⟩
  · obtain ⟨u, rfl, ru⟩ := vals1 r
    obtain ⟨as, rd⟩ := Dp.reads I d (.ref a) u hd ru
    cases ru
    refine PySem.repr_of_reads' rd hG.1 (PyData.noDict_hsm hG.2.1) hg (by have := hG.2.2.2; omega) (fun _ _ e => e) (fun h' t tk hk => ?_) (Nat.le_trans hG.2.2.1 (by rw [sizeLine_eq]; decide))
    exact ⟨.str d.shown, H, I.kept hk, ⟨t, rfl⟩, q⟩
  · obtain ⟨u, rfl, t⟩ := vals1 r
    cases t
    exact PySem.P.repr_of_bool ⟨.str _, H, I.tok _, ⟨_, rfl⟩, q⟩
section
variable {T : Tabl} {K : PySem.W.Frag} {σ : L2.St} {H : Hp} {ta : TE}
theorem ev_repr {ds : List PyData} (h : EvD T K ta σ H (.tuple ds)) (hG : Gd 200000 20 (.tuple ds)) : EvD T K (tCB (rRepr K) (tCons ta tNil)) σ H (.str (PyData.shown (.tuple ds))) := fun H1 a Q q =>
  h H1 a _ fun v H2 a2 hv => by
    have hd := Dt.dp _ _ hv
    cases hv with
    | tup hs hdm => exact .inl ⟨_, .tuple ds, rfl, hd, hG, q _ H2 a2 (.str _)⟩
theorem ev_reprB {b : Bool} (h : EvD T K ta σ H (.bool b)) : EvD T K (tCB (rRepr K) (tCons ta tNil)) σ H (.str (if b then "True" else "False")) := fun H1 a Q q =>
  h H1 a _ fun v H2 a2 hv => by
    cases hv
    exact .inr ⟨b, rfl, q _ H2 a2 (.str _)⟩
end
end Lf
end

section
set_option maxHeartbeats 2000000
set_option exponentiation.threshold 3000
/-! The law's mathematics: sizes. -/
namespace Lf
theorem fin5 (n : Nat) (h : n ≤ 5) : fin n 4 5 ≤ 532 ∧ Fit n 4 5 := by
  match n, h with
  | 0, _ => exact ⟨by decide, by simp [Fit]⟩
  | 1, _ => exact ⟨by decide, by simp [Fit]⟩
  | 2, _ => exact ⟨by decide, by simp [Fit]⟩
  | 3, _ => exact ⟨by decide, by simp [Fit]⟩
  | 4, _ => exact ⟨by decide, by simp [Fit]⟩
  | 5, _ => exact ⟨by decide, by simp [Fit]⟩
/-- a net of the law, or one of its ties made more -/
structure LNet (N : Net) : Prop where
  ok : NetOk N
  six : N.pts.length ≤ 6
  bd : Bd64 N
  tb : TB 12 18 N.ties
theorem LNet.nb {N : Net} (h : LNet N) : NB 4 5 N := ⟨h.ok, h.six, 12, 18, by decide, by decide, by decide, h.tb⟩
theorem LNet.t36 {N : Net} (h : LNet N) : N.ties.length ≤ 36 := h.nb.ties h.bd
/-- told points -/
structure Told (N : Net) (told : List Int) (t : Int → Rat) : Prop where
  sub : told.Sublist N.pts
  ne : told ≠ []
  ib : ∀ p ∈ told, IB 12 9 (t p)
theorem rest_mem {N : Net} {told : List Int} {q : Int} : q ∈ rest N told ↔ q ∈ N.pts ∧ q ∉ told := by
  unfold rest
  rw [List.mem_filter]
  simp
theorem Told.elim {N : Net} {told : List Int} {t : Int → Rat} (h : LNet N) (k : Told N told t) : Elim N told (rest N told) := by
  refine ⟨fun q hq => ?_, ?_, fun q hq => rest_mem.mp hq, ?_⟩
  · by_cases z : q ∈ told
    · exact .inl z
    · exact .inr (rest_mem.mpr ⟨hq, z⟩)
  · exact (nodup_of h.ok.srt).filter _
  · cases e : told with
    | nil => exact absurd e k.ne
    | cons a r => exact ⟨a, List.mem_cons_self, k.sub.subset (by rw [e]; exact List.mem_cons_self)⟩
theorem told_perm {told : List Int} : ∀ {pts : List Int}, pts.Nodup → told.Sublist pts → (told ++ (pts.filter fun p => !decide (p ∈ told))).Perm pts := fun {pts} hn hs => by
  refine (List.perm_ext_iff_of_nodup ?_ hn).mpr fun p => ?_
  · refine List.nodup_append.mpr ⟨hn.sublist hs, hn.filter _, fun a ha b hb => ?_⟩
    have := (List.mem_filter.mp hb).2
    intro z
    subst z
    simp [ha] at this
  · rw [List.mem_append, List.mem_filter]
    constructor
    · rintro (z | z)
      · exact hs.subset z
      · exact z.1
    · intro z
      by_cases y : p ∈ told
      · exact .inl y
      · exact .inr ⟨z, by simp [y]⟩
theorem rest_len {N : Net} {told : List Int} {t : Int → Rat} (h : LNet N) (k : Told N told t) : (rest N told).length ≤ 5 := by
  have p := (told_perm (nodup_of h.ok.srt) k.sub).length_eq
  rw [List.length_append] at p
  have := List.length_pos_iff.mpr k.ne
  have := h.six
  unfold rest
  omega
theorem set_ok {N : Net} {told : List Int} {t : Int → Rat} (h : LNet N) (k : Told N told t) : SetOk N told (rest N told) t := by
  have e := k.elim h
  obtain ⟨f1, f2⟩ := fin5 _ (rest_len h k)
  refine ⟨⟨told, 4, 5, h.nb, e, f2, h.bd⟩, rec_ok h.nb e f2 (by omega) k.ib, (nodup_of h.ok.srt).sublist k.sub, ?_, h.ok.srt, h.six⟩
  exact ((List.reverse_perm _).append_left _).trans (told_perm (nodup_of h.ok.srt) k.sub)
theorem setl_ib {N : Net} {told : List Int} {t : Int → Rat} (h : LNet N) (k : Told N told t) : ∃ F, 0 < F ∧ F ≤ 2 ^ 532 ∧ ∀ q ∈ N.pts, IB F 9 (setl N told t q) := by
  obtain ⟨F, h1, h2, h3⟩ := settle_ib (t := t) h.nb (k.elim h) k.ib
  exact ⟨F, h1, Nat.le_trans h2 (Nat.pow_le_pow_right (by decide) (fin5 _ (rest_len h k)).1), h3⟩
theorem setl_told {N : Net} {told : List Int} {t : Int → Rat} (h : LNet N) (k : Told N told t) : ∀ q ∈ told, setl N told t q = t q := settle_told (k.elim h)
theorem setl_harm {N : Net} {told : List Int} {t : Int → Rat} (h : LNet N) (k : Told N told t) (y : Int → Rat) (hy : ∀ q ∈ told, y q = 0) : bil N.ties (setl N told t) y = 0 := settle_harm h.ok (k.elim h) y hy
end Lf
end

section
set_option maxHeartbeats 2000000
set_option exponentiation.threshold 3000
/-! The law's mathematics: energies, streams, floors fit. -/
namespace Lf
theorem lt_pow {a b : Nat} (h : a ≤ 2 ^ b) (hb : b < 1400 := by decide) : a < 2 ^ 1400 := pow_lt h hb
/-- 12 F F -/
theorem ff_le {F : Nat} (h : F ≤ 2 ^ 532) : 12 * (F * F) ≤ 2 ^ 1068 := by
  have := mul_pow (show (12 : Nat) ≤ 2 ^ 4 by decide) (mul_pow h h)
  exact this
theorem en_ok {ts : List Tie} {x : Int → Rat} {F : Nat} (h36 : ts.length ≤ 36) (hF : 0 < F) (bF : F ≤ 2 ^ 532) (hw : TB 12 18 ts) (hx : ∀ t ∈ ts, IB F 9 (x t.1) ∧ IB F 9 (x t.2.1)) : EnOk ts x ∧ Sm (bil ts x x) ∧ Sm (en ts x) := by
  have b1 : F < 2 ^ 1400 := lt_pow bF
  have bFF : F * F ≤ 2 ^ 1064 := mul_pow bF bF
  have hFF : 0 < F * F := Nat.mul_pos hF hF
  have dif : ∀ t ∈ ts, IB F 18 (x t.1 - x t.2.1) := fun t ht => (hx t ht).1.sub (hx t ht).2
  have sq : ∀ t ∈ ts, IB (F * F) 324 ((x t.1 - x t.2.1) * (x t.1 - x t.2.1)) := fun t ht => (dif t ht).mul (dif t ht)
  have term : ∀ t ∈ ts, IB (12 * (F * F)) 5832 (t.2.2 * ((x t.1 - x t.2.1) * (x t.1 - x t.2.1))) := fun t ht => (hw t ht).mul (sq t ht)
  have bA : 12 * (F * F) < 2 ^ 1400 := lt_pow (ff_le bF)
  have big : ∀ n : Nat, n ≤ 2 ^ 20 → n * (12 * (F * F)) < 2 ^ 1400 := fun n hn => lt_pow (b := 20 + 1068) (mul_pow hn (ff_le bF))
  have all : ∀ y ∈ ts.map (fun t => t.2.2 * ((x t.1 - x t.2.1) * (x t.1 - x t.2.1))), IB (12 * (F * F)) 5832 y := fun y hy => by
    obtain ⟨t, ht, rfl⟩ := List.mem_map.mp hy
    exact term t ht
  have tib : ∀ l : List Rat, (∀ y ∈ l, IB (12 * (F * F)) 5832 y) → IB (12 * (F * F)) (l.length * 5832) (tot l) := fun l => by
    induction l with
    | nil => intro _; exact IB.zero (Nat.mul_pos (by decide) hFF)
    | cons a l ih =>
      intro h
      have := (h a List.mem_cons_self).add (ih fun y hy => h y (List.mem_cons_of_mem _ hy))
      refine this.mono ?_
      rw [List.length_cons]
      omega
  have tb := tib _ all
  rw [tot_bil, List.length_map] at tb
  have sb : Sm (bil ts x x) := tb.sm bA (big _ (by omega))
  refine ⟨⟨fun t ht => ⟨(hw t ht).sm (Nat.lt_of_lt_of_le (show 12 < 2 ^ 4 by decide) (Nat.pow_le_pow_right (by decide) (by decide))) (Nat.lt_of_lt_of_le (show 18 * 12 < 2 ^ 8 by decide) (Nat.pow_le_pow_right (by decide) (by decide))), (hx t ht).1.sm b1 (lt_pow (b := 4 + 532) (mul_pow (by decide) bF)), (hx t ht).2.sm b1 (lt_pow (b := 4 + 532) (mul_pow (by decide) bF)), (dif t ht).sm b1 (lt_pow (b := 5 + 532) (mul_pow (by decide) bF)), (sq t ht).sm (lt_pow bFF) (lt_pow (b := 9 + 1064) (mul_pow (by decide) bFF))⟩, ?_, sb⟩, sb, ?_⟩
  · refine sumOk_ib (A := 12 * (F * F)) (R := 5832) (M := 0) bA (IB.zero (Nat.mul_pos (by decide) hFF)) all ?_
    rw [List.length_map]
    exact big _ (by omega)
  · have h2 : IB 2 1 (1 / 2) := ⟨by decide, ⟨1, by grind⟩, by grind, by grind⟩
    have := h2.mul tb
    have e : (1 / 2 : Rat) * bil ts x x = en ts x := by unfold en; grind
    rw [e] at this
    refine this.sm (lt_pow (b := 1 + 1068) (mul_pow (by decide) (ff_le bF))) ?_
    exact lt_pow (b := 20 + (1 + 1068)) (mul_pow (show 1 * (ts.length * 5832) ≤ 2 ^ 20 by omega) (mul_pow (by decide) (ff_le bF)))
theorem st_ok {ts : List Tie} {x : Int → Rat} {F : Nat} (hF : 0 < F) (bF : F ≤ 2 ^ 532) (hw : TB 12 18 ts) (hx : ∀ t ∈ ts, IB F 9 (x t.1) ∧ IB F 9 (x t.2.1)) : StOk ts x ∧ ∀ m ∈ strm ts x, IB (12 * F) 324 m := by
  have b1 : F < 2 ^ 1400 := lt_pow bF
  have dif : ∀ t ∈ ts, IB F 18 (x t.1 - x t.2.1) := fun t ht => (hx t ht).1.sub (hx t ht).2
  refine ⟨fun t ht => ⟨(hw t ht).sm (Nat.lt_of_lt_of_le (show 12 < 2 ^ 4 by decide) (Nat.pow_le_pow_right (by decide) (by decide))) (Nat.lt_of_lt_of_le (show 18 * 12 < 2 ^ 8 by decide) (Nat.pow_le_pow_right (by decide) (by decide))), (hx t ht).1.sm b1 (lt_pow (b := 4 + 532) (mul_pow (by decide) bF)), (hx t ht).2.sm b1 (lt_pow (b := 4 + 532) (mul_pow (by decide) bF)), (dif t ht).sm b1 (lt_pow (b := 5 + 532) (mul_pow (by decide) bF))⟩, fun m hm => ?_⟩
  unfold strm at hm
  obtain ⟨t, ht, rfl⟩ := List.mem_map.mp hm
  exact (hw t ht).mul (dif t ht)
theorem lnet_in {N : Net} (h : LNet N) {P : Int → Prop} (hP : ∀ p ∈ N.pts, P p) : ∀ t ∈ N.ties, P t.1 ∧ P t.2.1 := fun t ht => ⟨hP _ (h.ok.ok t ht).2.1, hP _ (h.ok.ok t ht).2.2.1⟩
theorem src_sz {N : Net} (h : LNet N) {s : List Rat} {F R : Nat} (hl : s.length = N.ties.length) (hF : 0 < F) (bF : F ≤ 2 ^ 532) (bR : R ≤ 400) (hs : ∀ m ∈ s, IB (12 * F) R m) : SrcSz N s := by
  have bA : 12 * F ≤ 2 ^ 536 := mul_pow (show (12 : Nat) ≤ 2 ^ 4 by decide) bF
  exact ⟨hl, h.t36, nodup_of h.ok.srt, h.six, fun t ht => ⟨(h.ok.ok t ht).2.1, (h.ok.ok t ht).2.2.1, fun z => by have := (h.ok.ok t ht).1; omega⟩, 12 * F, R, by omega, lt_pow bA, lt_pow (b := 15 + 536) (mul_pow (by omega) bA), hs⟩
end Lf
end

section
set_option maxHeartbeats 2000000
set_option exponentiation.threshold 3000
/-! The law's mathematics: floors fit. -/
namespace Lf
theorem sumOk_last {y : Rat} : ∀ {l : List Rat} {acc : Rat}, SumOk acc (l ++ [y]) → SumOk acc l ∧ Sm (acc + tot l)
  | [], acc, h => ⟨True.intro, by show Sm (acc + 0); rw [Rat.add_zero]; exact h.1⟩
  | x :: l, acc, h => by
    obtain ⟨h1, h2, h3⟩ := h
    obtain ⟨i1, i2⟩ := sumOk_last h3
    refine ⟨⟨h1, h2, i1⟩, ?_⟩
    show Sm (acc + (x + tot l))
    rw [← Rat.add_assoc]
    exact i2
theorem tot_half : ∀ l : List Rat, tot (l.map fun x => 1 / 2 * x) = tot l / 2
  | [] => by show (0 : Rat) = 0 / 2; grind
  | x :: l => by
    show 1 / 2 * x + tot (l.map fun x => 1 / 2 * x) = (x + tot l) / 2
    rw [tot_half l]
    grind
theorem grow_all {A R : Nat} {l : List Rat} (hA : 0 < A) (hl : l.length ≤ 37) (hx : ∀ x ∈ l, ∃ m, 0 < m ∧ m ≤ 128 ∧ IB (A * m) R x) (bA : A ≤ 2 ^ 1074) (bR : R ≤ 2 ^ 22) : SumOk 0 l ∧ Sm (tot l) := by
  have h : SumOk 0 (l ++ [0]) := by
    refine sumOk_grow (A := A) (R := R) (G := 128) (B := 1) (M := 0) hA (by decide) (by decide) (IB.zero (by omega)) (fun x hm => ?_) ?_
    · rcases List.mem_append.mp hm with z | z
      · exact hx x z
      · rw [List.mem_singleton.mp z]
        exact ⟨1, by decide, by decide, IB.zero (by omega)⟩
    · rw [List.length_append, List.length_singleton]
      have g : (128 : Nat) ^ (l.length + 1 + 1) ≤ 2 ^ 273 := by
        have : (128 : Nat) ^ (l.length + 1 + 1) ≤ 128 ^ 39 := Nat.pow_le_pow_right (by decide) (by omega)
        exact Nat.le_trans this (by decide)
      have r : 0 + (l.length + 1 + 1) * R + 1 ≤ 2 ^ 28 := by
        have := Nat.mul_le_mul (show l.length + 1 + 1 ≤ 39 by omega) bR
        omega
      exact lt_pow (b := 1074 + 0 + 273 + 28) (mul_pow (mul_pow (mul_pow bA (by decide)) g) r)
  obtain ⟨h1, h2⟩ := sumOk_last h
  rw [Rat.zero_add] at h2
  exact ⟨h1, h2⟩
theorem tot_ib {A R : Nat} (hA : 0 < A) : ∀ {l : List Rat}, (∀ y ∈ l, IB A R y) → IB A (l.length * R) (tot l)
  | [], _ => IB.zero hA
  | a :: l, h => by
    have := (h a List.mem_cons_self).add (tot_ib hA fun y hy => h y (List.mem_cons_of_mem _ hy))
    refine this.mono ?_
    rw [List.length_cons, Nat.succ_mul]
    omega
theorem tot_neg : ∀ l : List Rat, tot (l.map fun x => -(1 / 2 * x)) = -(tot l / 2)
  | [] => by show (0 : Rat) = -(0 / 2); grind
  | x :: l => by
    show -(1 / 2 * x) + tot (l.map fun x => -(1 / 2 * x)) = -((x + tot l) / 2)
    rw [tot_neg l]
    grind
theorem inv_ib {w : Rat} (h : IB 12 9 w) (w0 : 0 < w) : ∃ P : Nat, 0 < P ∧ P ≤ 128 ∧ IB P 12 (1 / w) := by
  obtain ⟨h0, ⟨p, hp⟩, h1, h2⟩ := h
  obtain ⟨P, P0, eP⟩ := whole_of hp (by decide) w0
  have hw : w ≠ 0 := by grind
  have e12 : (((12 : Nat)) : Rat) = 12 := rfl
  have e9 : (((9 : Nat)) : Rat) = 9 := rfl
  rw [e12] at eP
  rw [e9] at h2
  have P108 : P ≤ 108 := by
    have : (P : Rat) ≤ ((108 : Nat) : Rat) := by
      have e108 : (((108 : Nat)) : Rat) = 108 := rfl
      rw [← eP, e108]
      grind
    exact_mod_cast this
  have Pp : (0 : Rat) < (P : Rat) := Rat.natCast_pos.mpr P0
  have P1 : (1 : Rat) ≤ (P : Rat) := by exact_mod_cast P0
  have e1 : 1 / w * w = 1 := Rat.div_mul_cancel hw
  have e2 : 1 / w * (P : Rat) = 12 := by rw [← eP, ← Rat.mul_assoc, e1]; grind
  refine ⟨P, P0, by omega, P0, ⟨12, by rw [e2]; rfl⟩, ?_, ?_⟩
  · rw [e12]
    have : (0 : Rat) ≤ 1 / w := Rat.le_of_lt (div_pos (by decide) w0)
    grind
  · rw [e12]
    refine Rat.le_of_mul_le_mul_right (c := (P : Rat)) ?_ Pp
    rw [e2]
    grind
theorem fl_ok {N : Net} (h : LNet N) (h9 : TB 12 9 N.ties) {told : List Int} {t : Int → Rat} (k : Told N told t) {s : List Rat} {F R : Nat} (hl : s.length = N.ties.length) (hF : 0 < F) (bF : F ≤ 2 ^ 532) (bR : R ≤ 400) (hs : ∀ m ∈ s, IB (12 * F) R m) : FlOk N told t s ∧ Sm (flV N told t s) := by
  have hz := src_sz h hl hF bF bR hs
  have h12 : 0 < 12 * F := by omega
  have bA : 12 * F ≤ 2 ^ 536 := mul_pow (show (12 : Nat) ≤ 2 ^ 4 by decide) bF
  have six : told.length ≤ 6 := Nat.le_trans k.sub.length_le h.six
  have h36 := h.t36
  have sib : ∀ p, IB (12 * F) (36 * (2 * R)) (src N.ties s p) := fun p => by
    have := src_ib (A := 12 * F) (R := R) h12 p (l := N.ties.zip s) fun q hq => hs _ (List.of_mem_zip (show (q.1, q.2) ∈ N.ties.zip s from hq)).2
    rw [List.map_fst_zip (by omega), List.map_snd_zip (by omega)] at this
    refine this.mono ?_
    rw [List.length_zip]
    exact Nat.mul_le_mul_right _ (by omega)
  have smS : ∀ p, Sm (src N.ties s p) := fun p => (sib p).sm (lt_pow bA) (lt_pow (b := 15 + 536) (mul_pow (by omega) bA))
  have tib : ∀ p ∈ told, IB (12 * (12 * F)) (9 * (36 * (2 * R))) (t p * src N.ties s p) := fun p hp => (k.ib p hp).mul (sib p)
  have mib : ∀ m ∈ s, IB (12 * F * (12 * F)) (R * R) (m * m) := fun m hm => (hs m hm).mul (hs m hm)
  have bAA : 12 * F * (12 * F) ≤ 2 ^ 1072 := mul_pow bA bA
  have bRR : R * R ≤ 160000 := Nat.mul_le_mul bR bR
  have lib : ∀ y ∈ (N.ties.zip s).map (fun q => q.2 * q.2 / q.1.2.2), ∃ m, 0 < m ∧ m ≤ 128 ∧ IB (12 * F * (12 * F) * m) (R * R * 12) y := fun y hy => by
    obtain ⟨q, hq, rfl⟩ := List.mem_map.mp hy
    have hz := List.of_mem_zip (show (q.1, q.2) ∈ N.ties.zip s from hq)
    have w0 := (h.ok.ok _ hz.1).2.2.2
    obtain ⟨P, P0, P1, iP⟩ := inv_ib (h9 _ hz.1) w0
    refine ⟨P, P0, P1, ?_⟩
    have := (mib _ hz.2).mul iP
    have e : q.2 * q.2 * (1 / q.1.2.2) = q.2 * q.2 / q.1.2.2 := by
      rw [Rat.div_def, Rat.div_def, Rat.one_mul]
    rw [e] at this
    exact this
  have ll : ((N.ties.zip s).map fun q => q.2 * q.2 / q.1.2.2).length ≤ 36 := by
    rw [List.length_map, List.length_zip]; omega
  obtain ⟨g1, g2⟩ := grow_all (A := 12 * F * (12 * F)) (R := R * R * 12) (Nat.mul_pos h12 h12) (Nat.le_succ_of_le ll) lib (Nat.le_trans bAA (Nat.pow_le_pow_right (by decide) (by decide))) (by omega)
  have half : Sm (tot ((N.ties.zip s).map fun q => q.2 * q.2 / q.1.2.2) / 2) := by
    have := (grow_all (A := 2 * (12 * F * (12 * F))) (R := 1 * (R * R * 12)) (l := ((N.ties.zip s).map fun q => q.2 * q.2 / q.1.2.2).map fun x => 1 / 2 * x) (Nat.mul_pos (by decide) (Nat.mul_pos h12 h12)) (by rw [List.length_map]; exact Nat.le_succ_of_le ll) (fun y hy => by
      obtain ⟨x, hx, rfl⟩ := List.mem_map.mp hy
      obtain ⟨m, m0, m1, hi⟩ := lib x hx
      have h2 : IB 2 1 (1 / 2) := ⟨by decide, ⟨1, by grind⟩, by grind, by grind⟩
      refine ⟨m, m0, m1, ?_⟩
      rw [Nat.mul_assoc 2]
      exact h2.mul hi) (Nat.le_trans (mul_pow (show (2 : Nat) ≤ 2 ^ 1 by decide) bAA) (Nat.pow_le_pow_right (by decide) (by decide))) (by omega)).2
    rw [tot_half] at this
    exact this
  have bT : 12 * (12 * F) ≤ 2 ^ 540 := mul_pow (show (12 : Nat) ≤ 2 ^ 4 by decide) bA
  have so : SumOk 0 ((told.map fun p => t p * src N.ties s p) ++ [0]) := by
    refine sumOk_ib (A := 12 * (12 * F)) (R := 9 * (36 * (2 * R))) (M := 0) (lt_pow bT) (IB.zero (by omega)) (fun y hy => ?_) ?_
    · rcases List.mem_append.mp hy with z | z
      · obtain ⟨p, hp, rfl⟩ := List.mem_map.mp z
        exact tib p hp
      · rw [List.mem_singleton.mp z]
        exact IB.zero (by omega)
    · rw [List.length_append, List.length_map, List.length_singleton]
      refine lt_pow (b := 22 + 540) (mul_pow ?_ bT)
      have := Nat.mul_le_mul (show told.length + 1 + 1 ≤ 8 by omega) (show 9 * (36 * (2 * R)) ≤ 259200 by omega)
      omega
  obtain ⟨o1, o2⟩ := sumOk_last so
  rw [Rat.zero_add] at o2
  have sI : IB (12 * (12 * F)) (6 * (9 * (36 * (2 * R)))) (tot (told.map fun p => t p * src N.ties s p)) := by
    have := tot_ib (A := 12 * (12 * F)) (R := 9 * (36 * (2 * R))) (by omega) (l := told.map fun p => t p * src N.ties s p) fun y hy => by
      obtain ⟨p, hp, rfl⟩ := List.mem_map.mp hy
      exact tib p hp
    refine this.mono ?_
    rw [List.length_map]
    exact Nat.mul_le_mul_right _ six
  have fin : Sm (flV N told t s) := by
    have := (grow_all (A := 2 * (12 * F * (12 * F))) (R := 2 ^ 22) (l := tot (told.map fun p => t p * src N.ties s p) :: ((N.ties.zip s).map fun q => q.2 * q.2 / q.1.2.2).map fun x => -(1 / 2 * x)) (Nat.mul_pos (by decide) (Nat.mul_pos h12 h12)) (by rw [List.length_cons, List.length_map]; omega) (fun y hy => by
      rcases List.mem_cons.mp hy with z | z
      · subst z
        refine ⟨1, by decide, by decide, ?_⟩
        have l2 := sI.lift (F := 2 * F) (by omega)
        have e : 12 * (12 * F) * (2 * F) = 2 * (12 * F * (12 * F)) * 1 := by
          rw [Nat.mul_one]
          have a1 : 12 * (12 * F) * (2 * F) = 288 * (F * F) := by
            rw [Nat.mul_mul_mul_comm 12 (12 * F) 2 F, Nat.mul_assoc 12 F F, ← Nat.mul_assoc]
          have a2 : 2 * (12 * F * (12 * F)) = 288 * (F * F) := by
            rw [Nat.mul_mul_mul_comm 12 F 12 F, ← Nat.mul_assoc]
          rw [a1, a2]
        rw [e] at l2
        exact l2.mono (by omega)
      · obtain ⟨x, hx, rfl⟩ := List.mem_map.mp z
        obtain ⟨m, m0, m1, hi⟩ := lib x hx
        have h2 : IB 2 1 (1 / 2) := ⟨by decide, ⟨1, by grind⟩, by grind, by grind⟩
        refine ⟨m, m0, m1, ?_⟩
        rw [Nat.mul_assoc 2]
        exact ((h2.mul hi).neg).mono (by omega)) (Nat.le_trans (mul_pow (show (2 : Nat) ≤ 2 ^ 1 by decide) bAA) (Nat.pow_le_pow_right (by decide) (by decide))) (Nat.le_refl _)).2
    have e : tot (tot (told.map fun p => t p * src N.ties s p) :: ((N.ties.zip s).map fun q => q.2 * q.2 / q.1.2.2).map fun x => -(1 / 2 * x)) = flV N told t s := by
      show _ + tot _ = _
      rw [tot_neg]
      unfold flV
      grind
    rw [e] at this
    exact this
  have sm12 : ∀ {x : Rat}, IB 12 9 x → Sm x := fun h => h.sm (Nat.lt_of_lt_of_le (show 12 < 2 ^ 4 by decide) (Nat.pow_le_pow_right (by decide) (by decide))) (Nat.lt_of_lt_of_le (show 9 * 12 < 2 ^ 7 by decide) (Nat.pow_le_pow_right (by decide) (by decide)))
  exact ⟨⟨hz, fun u hu => ⟨(h.ok.ok u hu).2.2.2, sm12 (h9 u hu)⟩, fun p hp => k.sub.subset hp, six, fun p hp => ⟨sm12 (k.ib p hp), smS p⟩, o1, fun m hm => ⟨(hs m hm).sm (lt_pow bA) (lt_pow (b := 9 + 536) (mul_pow (by omega) bA)), (mib m hm).sm (lt_pow bAA) (lt_pow (b := 18 + 1072) (mul_pow (by omega) bAA))⟩, g1, o2, g2, half⟩, fin⟩
end Lf
end

section
set_option maxHeartbeats 2000000
set_option exponentiation.threshold 3000
/-! The law's mathematics: floors are below energies. -/
namespace Lf
theorem Strict.lnet {n : Nat} {N : Net} (h : Strict n N) (hn : n ≤ 6) : LNet N ∧ TB 12 9 N.ties := by
  have ok : ∀ t ∈ N.ties, t.1 < t.2.1 ∧ t.1 ∈ N.pts ∧ t.2.1 ∈ N.pts ∧ 0 < t.2.2 := fun t ht => by
    obtain ⟨a, b, c, d, e⟩ := h.net.firm t ht
    exact ⟨c, a, b, d⟩
  have tb : TB 12 9 N.ties := fun t ht => (h.net.firm t ht).2.2.2.2
  exact ⟨⟨⟨h.net.asc, h.net.srt, ok, h.ch⟩, by rw [h.net.len]; exact hn, h.net.bd, tb.mono (by decide)⟩, tb⟩
theorem ch_keeps {ts ts' : List Tie} (h : ∀ a b, (∃ w, (a, b, w) ∈ ts) → ∃ w, (a, b, w) ∈ ts') : ∀ {l : List Int}, Ch ts l → Ch ts' l
  | [], _ => trivial
  | [_], _ => trivial
  | a :: b :: r, k => ⟨h a b k.1, ch_keeps h k.2⟩
theorem LNet.more {N : Net} (h : LNet N) (h9 : TB 12 9 N.ties) {a b : Int} {mo : Rat} (ha : a ∈ N.pts) (hb : b ∈ N.pts) (hab : a < b) (m0 : 0 < mo) (mi : IB 12 9 mo) : LNet ⟨N.pts, insTie N.ties a b mo⟩ := by
  refine ⟨⟨h.ok.srt, ins_sorted a b mo h.ok.ts, fun t ht => ?_, ch_keeps (fun c d k => ins_keeps k) h.ok.ch⟩, h.six, h.bd, h9.ins mi⟩
  rcases mem_ins ht with z | z | ⟨w, hw, z⟩
  · exact h.ok.ok t z
  · subst z
    exact ⟨hab, ha, hb, m0⟩
  · subst z
    obtain ⟨h1, h2, h3, h4⟩ := h.ok.ok _ hw
    refine ⟨h1, h2, h3, ?_⟩
    have h4 : 0 < w := h4
    show 0 < w + mo
    grind
def tl (told : List Int) (t : Int → Rat) : List (Int × Rat) := told.map fun p => (p, t p)
theorem tl_keys (told : List Int) (t : Int → Rat) : (tl told t).map (·.1) = told := by
  unfold tl
  rw [List.map_map]
  exact List.map_id _
theorem least_floor {N : Net} (h : LNet N) {told : List Int} {t : Int → Rat} (k : Told N told t) : flV N told t (strm N.ties (setl N told t)) = en N.ties (setl N told t) := by
  rw [flV_eq]
  refine floor_own h.ok (by rw [show (told.map fun p => (p, t p)) = tl told t from rfl, tl_keys]; exact k.sub) (fun y hy => ?_) fun q hq => ?_
  · rw [show (told.map fun p => (p, t p)) = tl told t from rfl, tl_keys] at hy
    exact setl_harm h k y hy
  · obtain ⟨p, hp, rfl⟩ := List.mem_map.mp hq
    exact setl_told h k p hp
/-- a stream: nothing springs off the told points -/
def Flows (N : Net) (told : List Int) (s : List Rat) : Prop := ∀ p ∈ N.pts, p ∉ told → src N.ties s p = 0
theorem least_flows {N : Net} (h : LNet N) {told : List Int} {t : Int → Rat} (k : Told N told t) : Flows N told (strm N.ties (setl N told t)) := fun p hp ht =>
  src_strm h.ok (T := tl told t) (fun y hy => setl_harm h k y (by rw [tl_keys] at hy; exact hy)) p hp (by rw [tl_keys]; exact ht)
theorem floor_below {N : Net} (h : LNet N) {told : List Int} {t : Int → Rat} (k : Told N told t) {s : List Rat} (hs : Flows N told s) {y : Int → Rat} (hy : ∀ p ∈ told, y p = t p) : flV N told t s ≤ en N.ties y := by
  rw [flV_eq]
  refine floor_le h.ok (by rw [show (told.map fun p => (p, t p)) = tl told t from rfl, tl_keys]; exact k.sub) (fun p hp ht => ?_) fun q hq => ?_
  · rw [show (told.map fun p => (p, t p)) = tl told t from rfl, tl_keys] at ht
    exact hs p hp ht
  · obtain ⟨p, hp, rfl⟩ := List.mem_map.mp hq
    exact hy p hp
theorem not_lt_of {a b : Rat} (h : b ≤ a) : ¬ a < b := fun z => by grind
theorem setl_en {N : Net} (h : LNet N) {told : List Int} {t : Int → Rat} (k : Told N told t) : EnOk N.ties (setl N told t) ∧ Sm (en N.ties (setl N told t)) ∧ StOk N.ties (setl N told t) ∧ ∃ F, 0 < F ∧ F ≤ 2 ^ 532 ∧ ∀ m ∈ strm N.ties (setl N told t), IB (12 * F) 324 m := by
  obtain ⟨F, F0, bF, hF⟩ := setl_ib h k
  have hx := lnet_in h hF
  obtain ⟨e1, _, e3⟩ := en_ok h.t36 F0 bF h.tb hx
  obtain ⟨s1, s2⟩ := st_ok F0 bF h.tb hx
  exact ⟨e1, e3, s1, F, F0, bF, s2⟩
theorem bel_ok {N : Net} (h : LNet N) (h9 : TB 12 9 N.ties) {told : List Int} {t : Int → Rat} (k : Told N told t) {s : List Rat} {F R : Nat} (hl : s.length = N.ties.length) (hF : 0 < F) (bF : F ≤ 2 ^ 532) (bR : R ≤ 400) (hs : ∀ m ∈ s, IB (12 * F) R m) (hf : Flows N told s) :
    BelOk N told t (en N.ties (setl N told t)) (flV N told t s) := by
  refine ⟨nodup_of h.ok.srt, (nodup_of h.ok.srt).sublist k.sub, h.six, fun u hu => ⟨(h.ok.ok u hu).2.1, (h.ok.ok u hu).2.2.1⟩, k.ib, fun y hy ht => ?_, (setl_en h k).2.1, (fl_ok h h9 k hl hF bF bR hs).2, not_lt_of (floor_below h k hf (setl_told h k))⟩
  obtain ⟨e1, _, e3⟩ := en_ok (x := y) (F := 12) h.t36 (by decide) (Nat.le_trans (show 12 ≤ 2 ^ 4 by decide) (Nat.pow_le_pow_right (by decide) (by decide))) h.tb (lnet_in h hy)
  exact ⟨e1, e3, not_lt_of (floor_below h k hf fun p hp => ht p (k.sub.subset hp) hp)⟩
theorem mo_ok {N : Net} (h : LNet N) (h9 : TB 12 9 N.ties) (two : 2 ≤ N.pts.length) {told : List Int} {t : Int → Rat} (k : Told N told t) : MoOk N told t (en N.ties (setl N told t)) := by
  have sm12 : ∀ {x : Rat}, IB 12 9 x → Sm x := fun h => h.sm (Nat.lt_of_lt_of_le (show 12 < 2 ^ 4 by decide) (Nat.pow_le_pow_right (by decide) (by decide))) (Nat.lt_of_lt_of_le (show 9 * 12 < 2 ^ 7 by decide) (Nat.pow_le_pow_right (by decide) (by decide)))
  refine ⟨two, h.six, h.ok.srt, Nat.le_trans k.sub.length_le h.six, fun a b mo ha hb hab m0 mi => ?_, (setl_en h k).2.1⟩
  have h' := h.more h9 ha hb hab m0 mi
  have k' : Told ⟨N.pts, insTie N.ties a b mo⟩ told t := ⟨k.sub, k.ne, k.ib⟩
  have er : rest ⟨N.pts, insTie N.ties a b mo⟩ told = rest N told := rfl
  have s' := set_ok h' k'
  rw [er] at s'
  obtain ⟨e1, e2, _⟩ := setl_en h' k'
  refine ⟨⟨h.ok.ts, by have := h.t36; omega, fun u hu => ⟨h.bd _ (h.ok.ok u hu).2.1, h.bd _ (h.ok.ok u hu).2.2.1, (h.ok.ok u hu).2.2.2, sm12 (h9 u hu)⟩, h.bd a ha, h.bd b hb, m0, sm12 mi⟩, s', fun u hu => ⟨(h'.ok.ok u hu).2.1, (h'.ok.ok u hu).2.2.1⟩, e1, e2, not_lt_of ?_⟩
  rw [← least_floor h k]
  refine Rat.le_trans (floor_below h k (least_flows h k) (y := setl ⟨N.pts, insTie N.ties a b mo⟩ told t) fun p hp => setl_told h' k' p hp) (en_more m0 _)
end Lf
end

section
set_option maxRecDepth 100000
set_option maxHeartbeats 4000000
set_option exponentiation.threshold 3000
/-! The walk of the law. -/
namespace Lf
open PySem PySem.Spec PyProof.Rows L2
theorem pi_or {X : Cx} {tg e : Expr} {w1 w2 : TI} (h1 : PI X tg e w1) (h2 : PI X tg e w2) : PI X tg e (fun σ H R => w1 σ H R ∨ w2 σ H R) := ⟨fun pins s σ H R I h => by
  rcases h with h | h
  · exact h1.run pins s σ H R I h
  · exact h2.run pins s σ H R I h⟩
section
variable {α : Type} {T : Tabl} {K : PySem.W.Frag} {σ : L2.St} {H : Hp} {w1 w2 : TI} {kp : Hp → Hp → Prop} {l : List α} {R : Hp → V → α → Prop}
theorem src_or1 (h : Src T w1 σ H kp l R) : Src T (fun σ H R => w1 σ H R ∨ w2 σ H R) σ H kp l R := fun H1 a Rk q => .inl (h H1 a Rk q)
theorem src_or2 (h : Src T w2 σ H kp l R) : Src T (fun σ H R => w1 σ H R ∨ w2 σ H R) σ H kp l R := fun H1 a Rk q => .inr (h H1 a Rk q)
end
section
variable {α : Type} {T : Tabl} {K : PySem.W.Frag} {σ : L2.St} {H : Hp} {wi : TI} {kp kp' : Hp → Hp → Prop} {l : List α} {R : Hp → V → α → Prop} {te : TE}
theorem src_weak (h : Src T wi σ H kp l R) (k : ∀ H1 H2, kp' H1 H2 → kp H1 H2) : Src T wi σ H kp' l R := fun H1 a Rk q => h H1 a Rk fun J H2 St a2 it hk => q J H2 St a2 it fun H' z => hk H' (k _ _ z)
/-- a list that is known by its place -/
theorem src_at {a : Addr} {xs : List V} {f : α → PyData} (he : ∀ H1, Le T H H1 → ∀ Q : VK, (∀ H2, Le T H1 H2 → Q (.ref a) H2) → te σ H1 Q) (hq : SqL K H a xs) (hx : Dts K H xs (l.map f)) : Src T (iList K te) σ H (KL K a) l fun H v x => Dt K H v (f x) := by
  intro H1 a1 Rk q
  refine he H1 a1 _ fun H2 a2 => ?_
  have a12 := a1.trans a2
  refine ⟨a, rfl, ⟨xs, sql_le hq a12⟩, q _ H2 (fun H' => SqL K H' a xs ∧ Dts K H' xs (l.map f)) a2 ⟨fun H' st => ⟨xs, st.1, by rw [st.2.length, List.length_map]; exact Nat.le_refl _⟩, fun i x H' st tb hi => ?_⟩ fun H' k => ⟨k.2 xs (sql_le hq a12), (hx.mono a12.tk).mono k.1⟩⟩
  have e1 : (l.map f)[i]? = some (f x) := by rw [List.getElem?_map, hi]; rfl
  obtain ⟨w, e2, e3⟩ := st.2.get e1
  refine ⟨⟨xs, w, st.1, e2⟩, fun v H'' y => ?_⟩
  obtain ⟨rfl, y⟩ := y
  have ex : v = w := Option.some.inj ((y xs st.1).symm.trans e2)
  subst ex
  exact ⟨Le.refl tb, e3⟩
theorem KL.lx {D C a : Addr} {H1 H2 : Hp} (h : Lx T D C H1 H2) (h1 : a ≠ D) (h2 : a ≠ C) : KL K a H1 H2 := ⟨h.tk, fun xs k => by
  rcases k with k | k
  · rcases k with k | ⟨o, k⟩
    · exact .inl (.inl (h.keep a _ k (fun _ z => by cases z) h1 h2))
    · exact .inl (.inr ⟨o, h.keep a _ k (fun _ z => by cases z) h1 h2⟩)
  · exact .inr k⟩
end
section
variable {T : Tabl} {K : PySem.W.Frag} {σ : L2.St} {H : Hp} {ta tb : TE}
theorem ev_neS {x y : Str} (ha : EvD T K ta σ H (.str x)) (hb : EvD T K tb σ H (.str y)) : EvD T K (tOp rNe ta tb) σ H (.bool (!decide (x = y))) := fun H1 a Q q =>
  ha H1 a _ fun v H2 a2 hv => hb H2 (a.trans a2) _ fun u H3 a3 hu => by
    cases hv; cases hu
    refine ⟨rfl, ?_⟩
    have e : decide (V.str x = V.str y) = decide (x = y) := decide_eq_decide.mpr ⟨fun z => V.str.inj z, fun z => by rw [z]⟩
    rw [e]
    exact q _ H3 (a2.trans a3) (.bl _)
theorem ev_eqS {x y : Str} (ha : EvD T K ta σ H (.str x)) (hb : EvD T K tb σ H (.str y)) : EvD T K (tOp rEq ta tb) σ H (.bool (decide (x = y))) := fun H1 a Q q =>
  ha H1 a _ fun v H2 a2 hv => hb H2 (a.trans a2) _ fun u H3 a3 hu => by
    cases hv; cases hu
    refine ⟨rfl, ?_⟩
    have e : decide (V.str x = V.str y) = decide (x = y) := decide_eq_decide.mpr ⟨fun z => V.str.inj z, fun z => by rw [z]⟩
    rw [e]
    exact q _ H3 (a2.trans a3) (.bl _)
theorem ev_notB {x y : Bool} (ha : EvD T K ta σ H (.bool x)) (hb : EvD T K tb σ H (.bool y)) : EvD T K (tOp rNotB ta tb) σ H (.bool (!decide (x = y))) := fun H1 a Q q =>
  ha H1 a _ fun v H2 a2 hv => hb H2 (a.trans a2) _ fun u H3 a3 hu => by
    cases hv; cases hu
    exact ⟨x, y, rfl, rfl, q _ H3 (a2.trans a3) (.bl _)⟩
theorem ev_isB {x y : Bool} (ha : EvD T K ta σ H (.bool x)) (hb : EvD T K tb σ H (.bool y)) : EvD T K (tOp rIsB ta tb) σ H (.bool (decide (x = y))) := fun H1 a Q q =>
  ha H1 a _ fun v H2 a2 hv => hb H2 (a.trans a2) _ fun u H3 a3 hu => by
    cases hv; cases hu
    exact ⟨x, y, rfl, rfl, q _ H3 (a2.trans a3) (.bl _)⟩
theorem ev_floor {tc : TE} {N : Net} {told : List Int} {t : Int → Rat} {st : List Rat} {E : XK} (h1 : EvD T K ta σ H (netD N)) (h2 : EvD T K tb σ H (.tuple (wI told t))) (h3 : EvD T K tc σ H (.tuple (st.map fr))) (hf : FlOk N told t st) :
    EvD T K (tCall (spFloor T K) [] E (tCons ta (tCons tb (tCons tc tNil)))) σ H (fr (flV N told t st)) := fun H1 a Q q =>
  h1 H1 a _ fun v1 H2 a2 k1 => h2 H2 (a.trans a2) _ fun v2 H3 a3 k2 => h3 H3 ((a.trans a2).trans a3) _ fun v3 H4 a4 k3 =>
    ⟨a4.tab, v1, v2, v3, N, told, t, st, rfl, k1.mono (a3.trans a4).tk, k2.mono a4.tk, k3, hf, fun v H5 a5 hv => q v H5 (((a2.trans a3).trans a4).trans a5) hv⟩
theorem xs_noOr {D C : Addr} {t : TT} {te : TE} {ts us : TS} {En : Ends} (tH : LamX.Tabs T H) (d : Deal H D C) (h1 : EvB T t σ H false) (h2 : ∀ H1, Lx T D C H H1 → ∀ Q : VK, (∀ H2, Lx T D C H H2 → Q (.bl true) H2) → te σ H1 Q) (q : ∀ H', Lx T D C H H' → us En σ H') : tIfS (tOr t (tNot (tB te))) ts us En σ H :=
  h1 H (Le.refl tH) _ fun H2 a => by
    show te σ H2 _
    exact h2 H2 (.of d a) _ fun H3 k => ⟨true, rfl, iteF (q H3 k)⟩
theorem t_nil {Q : List V → Hp → Prop} (h : Q [] H) : tNil σ H Q := h
theorem ef_sourcesK {tk : TA} {vn vm : V} {N : Net} {s : List Rat} {E : XK} (h : ∀ H1, Le T H H1 → ∀ Q : List V → Hp → Prop, Q [vn, vm] H1 → tk σ H1 Q) (h1 : Dt K H vn (netD N)) (h2 : Dt K H vm (.tuple (s.map fr))) (hs : SrcSz N s) : EvF T K (tCallK (spSources T K) gRow E tNil tk) σ H (wI N.pts (src N.ties s)) := fun H1 a Q q =>
  h H1 a _ ⟨a.tab, vn, vm, N, s, rfl, h1.mono a.tk, h2.mono a.tk, hs, fun v H' k hv => q v H' k hv⟩
theorem ev_strictK {tk : TA} {N : Net} {E : XK} (h : EvDs T K tk σ H [netD N]) (hl : N.ties.length ≤ 1000) : EvD T K (tCallK (Pur T K pStrict) gRow E tNil tk) σ H (.bool (N.ties.all fun t => decide (0 < sgn t.2.2))) := fun H1 a Q q =>
  h H1 a _ fun vs H2 a2 hv => ⟨a2.tab, _, _, hv, ⟨N, rfl, hl, rfl⟩, fun v H3 a3 h3 => q v H3 (a2.trans a3) h3⟩
end
theorem ties_pos {N : Net} (h : LNet N) (two : 2 ≤ N.pts.length) : 1 ≤ N.ties.length := by
  have hc := h.ok.ch
  match e : N.pts, two with
  | a :: b :: r, _ =>
    rw [e] at hc
    obtain ⟨⟨w, hw⟩, _⟩ := hc
    exact List.length_pos_iff.mpr (List.ne_nil_of_mem hw)
theorem xv_if {T : Tabl} {D C : Addr} {σ : L2.St} {H : Hp} {tt : TT} {ta tb : TE} {b : Bool} {Q : VK} {Out : Hp → V → Prop} (tH : LamX.Tabs T H) (d : Deal H D C) (hb : EvB T tt σ H b) (h1 : ∀ H1, Lx T D C H H1 → ∀ Q : VK, (∀ v H2, Lx T D C H H2 → Out H2 v → Q v H2) → ta σ H1 Q)
    (h2 : ∀ H1, Lx T D C H H1 → ∀ Q : VK, (∀ v H2, Lx T D C H H2 → Out H2 v → Q v H2) → tb σ H1 Q) (q : ∀ v H2, Lx T D C H H2 → Out H2 v → Q v H2) : tIf tt ta tb σ H Q :=
  hb H (Le.refl tH) _ fun H2 a => by
    cases b with
    | true => exact iteT (h1 H2 (.of d a) Q q)
    | false => exact iteF (h2 H2 (.of d a) Q q)
theorem BentOut.mono {T : Tabl} {K : PySem.W.Frag} {n A R S : Nat} {H : Hp} {v : V} (h : BentOut T K n A R H v) (hS : R ≤ S) : BentOut T K n A S H v := by
  rcases h with h | ⟨ds, h1, h2, h3, h4 | h4 | ⟨s', e1, e2, e3⟩⟩
  · exact .inl h
  · exact .inr ⟨ds, h1, h2, h3, .inl h4⟩
  · exact .inr ⟨ds, h1, h2, h3, .inr (.inl h4)⟩
  · exact .inr ⟨ds, h1, h2, h3, .inr (.inr ⟨s', e1, e2, fun m hm => (e3 m hm).mono hS⟩)⟩
/-- what is_stream answers of a value -/
theorem ans_of {T : Tabl} {K : PySem.W.Frag} {N : Net} (h : LNet N) (told : List Int) {F : Nat} (hF : 0 < F) (bF : F ≤ 2 ^ 532) {H : Hp} {v : V} (hb : BentOut T K N.ties.length (12 * F) 339 H v) :
    (∃ tn : String, (∀ H', Le T H H' → TyX K H' v (.type tn)) ∧ PySem.W.kitOne K (.type tn) (.type "tuple") = some false) ∨
    ∃ (ds : List PyData) (b : Bool), Dt K H v (.tuple ds) ∧ ds.length ≤ 1000 ∧ (∀ d ∈ ds, Kd d) ∧ StreamAns N told ds b ∧ (b = true → ∃ s' : List Rat, ds = s'.map fr ∧ SrcSz N s' ∧ s'.length = N.ties.length ∧ (∀ m ∈ s', IB (12 * F) 339 m) ∧ Flows N told s') := by
  rcases hb with h1 | ⟨ds, h1, h2, h3, h4 | ⟨h4, h5⟩ | ⟨s', rfl, e2, e3⟩⟩
  · exact .inl h1
  · exact .inr ⟨ds, false, h1, h2, h3, .inl ⟨h4, rfl⟩, fun z => by cases z⟩
  · exact .inr ⟨ds, false, h1, h2, h3, .inr (.inl ⟨h4, h5, rfl⟩), fun z => by cases z⟩
  · have sz := src_sz h e2 hF bF (by decide) e3
    refine .inr ⟨_, _, h1, h2, h3, .inr (.inr ⟨s', rfl, sz, rfl⟩), fun z => ⟨s', rfl, sz, e2, e3, fun p hp ht => ?_⟩⟩
    have := List.all_eq_true.mp z p (List.mem_filter.mpr ⟨hp, by simp [ht]⟩)
    exact of_decide_eq_true this
theorem src_sm {N : Net} {s : List Rat} (h : SrcSz N s) (p : Int) : Sm (src N.ties s p) := by
  obtain ⟨hl, h36, _, _, _, A, R, hA, bA, bR, hs⟩ := h
  have dib : ∀ q ∈ N.ties.zip s, IB A R q.2 := fun q hq => hs _ (List.of_mem_zip (show (q.1, q.2) ∈ N.ties.zip s from hq)).2
  have e := src_ib hA p dib
  rw [List.map_fst_zip (by omega), List.map_snd_zip (by omega)] at e
  refine e.sm bA (Nat.lt_of_le_of_lt (Nat.mul_le_mul_right _ ?_) bR)
  rw [List.length_zip, ← Nat.mul_assoc]
  exact Nat.mul_le_mul_right _ (by omega)
theorem small_pt {p : Int} (h : 0 ≤ p ∧ p < 64) : p.natAbs < 2 ^ 1400 := Nat.lt_of_lt_of_le (show p.natAbs < 2 ^ 6 by omega) (Nat.pow_le_pow_right (by decide) (by decide))
def toldOf (N : Net) (sl : List Int) : List Int := if sl = [] then N.pts.take 1 else sl
def spLaw (T : Tabl) (K : PySem.W.Frag) : Sp := fun vs H Q _ => LamX.Tabs T H ∧ ∃ (a : Addr) (ns : List Int), vs = [.ref a] ∧ SqL K H a (ns.map V.int) ∧ ∀ H', Q (.bl true) H'
section
variable {P : Program} {w : World} {K : PySem.W.Frag} {mg : Str → Option Value} {base : Heap} {T : Tabl}
abbrev s_law : Stmt := topS 59
abbrev N_law : List Str := ["_law_script", "_law_deal_here", "_law_network", "_law_some_here", "_law_told", "_law_worths", "_law_due", "_law_turn", "_law_at", "_law_other", "_law_least", "_law_known", "_law_stream", "_law_value", "_law_is_right", "_law_low", "_law_high", "_law_weight", "_law_point", "_law_tie", "_law_out", "_law_floor_here"]
theorem sc_law : FnScope N_law ["_law_script"] (defScope s_law) := ⟨rfl, rfl, rfl, by decide +kernel, rfl, by decide +kernel, by decide +kernel⟩
theorem law_body {f : Addr} {fd : FuncData} (m : Mg K mg)
    (c_law_deal : Cal P w K mg base "_law_deal" ["_law_script", "_law_base"] 1 (spDeal T K)) (c_law_any : Cal P w K mg base "_law_any" ["_law_deal_here", "_law_bound"] 1 (spAny T K)) (c_law_some : Cal P w K mg base "_law_some" ["_law_deal_here", "_law_size"] 3 (spSome T K))
    (c_law_strict : Cal P w K mg base "_law_strict" ["_law_deal_here", "_law_many"] 5 (spStrict T K)) (c_settled_worths : Cal P w K mg base "settled_worths" ["network", "told"] 8 (spWorths T K))
    (ck_network_energy : CalK P w K mg base "network_energy" ["network", "worths"] 3 (spEnergy T K) ["network", "worths"] gRow) (ck_stream_of : CalK P w K mg base "stream_of" ["network", "worths"] 3 (spStream T K) ["network", "worths"] gRow)
    (c_law_times : Cal P w K mg base "_law_times" ["_law_one", "_law_other"] 2 (Pur T K pTimes)) (c_law_less : Cal P w K mg base "_law_less" ["_law_one", "_law_other"] 2 (Pur T K pMinus))
    (ck_is_strict : CalK P w K mg base "is_strict" ["network"] 2 (Pur T K pStrict) ["network"] gRow) (c_is_strict : Cal P w K mg base "is_strict" ["network"] 2 (Pur T K pStrict))
    (c_stream_floor : Cal P w K mg base "stream_floor" ["network", "told", "stream"] 4 (spFloor T K)) (c_law_is_more : Cal P w K mg base "_law_is_more" ["_law_deal_here", "_law_network", "_law_told", "_law_least"] 9 (spIsMore T K))
    (c_law_round : Cal P w K mg base "_law_round" ["_law_deal_here", "_law_network", "_law_stream"] 4 (spRound T K)) (c_law_bent : Cal P w K mg base "_law_bent" ["_law_deal_here", "_law_stream"] 4 (spBent T K))
    (c_law_is_stream : Cal P w K mg base "_law_is_stream" ["_law_network", "_law_told", "_law_value"] 4 (spLIs T K)) (ck_is_stream : CalK P w K mg base "is_stream" ["network", "told", "value"] 4 (spIsStream T K) ["network", "told", "value"] gRow)
    (c_law_sources : Cal P w K mg base "_law_sources" ["_law_network", "_law_stream"] 3 (spLSrc T K)) (ck_sources_of : CalK P w K mg base "sources_of" ["network", "stream"] 3 (spSources T K) ["network", "stream"] gRow)
    (c_law_floor : Cal P w K mg base "_law_floor" ["_law_network", "_law_told", "_law_stream"] 4 (spFloor T K)) (c_law_is_below : Cal P w K mg base "_law_is_below" ["_law_deal_here", "_law_network", "_law_told", "_law_least", "_law_floor_here"] 4 (spBelow T K))
    (c_law_refused : Cal P w K mg base "_law_refused" ["_law_network", "_law_told", "_law_stream"] 4 (spRef T K)) :
    ∀ (cdv : Value) (outer : List Env) (s : Shared) (H : Hp) (vs : List V) (Q : VK) (E : XK), Room 9 (callerA.deeper (envOfC "law" (defScope s_law) s.heap.objs.size f cdv)) → spLaw T K vs H Q E →
      ∃ t, PSs (cxOf CX0 P w K mg base N_law "law" (defScope s_law) f cdv callerA outer s H E).nox (defBody s_law) t ∧ t { nx := fun _ H' => Q .non H', rt := Q } (start N_law vs) H := by
  intro cdv outer s H vs Q E hr h
  obtain ⟨tH, a, ns, rfl, hq, q⟩ := h
  refine ⟨_, (pss_cons (ps_set (i := 1) sc_law.nd rfl (.inr rfl) (pe_cal c_law_deal (hr.mono (by decide)) (by rfl) (pa_cons (pv 0) (pa_cons pe_int pa_nil))))
      (pss_cons (ps_set (i := 2) sc_law.nd rfl (.inl rfl) (pe_cal c_law_strict (hr.mono (by decide)) (by rfl) (pa_cons (pv 1) (pa_cons (pe_op op_add pe_int (pe_cal c_law_any (hr.mono (by decide)) (by rfl) (pa_cons (pv 1) (pa_cons pe_int pa_nil)))) pa_nil))))
      (pss_cons (ps_setLc (i := 3) (own := [("_law_point", 18)]) rfl sc_law.nd rfl rfl (sw_true rfl rfl rfl (by decide +kernel)) (w_piT (K := K) (pe_ix (w_ixT (K := K)) (pv 2) pe_int (fun _ _ => rfl))) (blkOk_by (own := [("_law_point", 18)]) (N := N_law) (sc := defScope s_law) (by decide +kernel)) (fun _ _ _ _ _ => (pg_name (i := 18) sc_law.nd rfl (.inl rfl))) (fun _ _ _ _ _ => pts_one (pt_cmpR op_eq (pe_cal c_law_any (hr.mono (by decide)) (by rfl) (pa_cons (pv 1) (pa_cons pe_int pa_nil))) pe_int (nomark _))) (fun _ _ _ _ _ => (pv 18)))
      (pss_cons (ps_set (i := 4) sc_law.nd rfl (.inl rfl) (pe_callTy (w_tupleF (K := K)) (by rfl) m.tup (by decide +kernel) (pa_cons (pe_lc (own := [("_law_point", 18)]) rfl sc_law.nd (pi_or (w_piL (K := K) (pe_ifExp (pt_cmpR (w_neD (K := K) hr.units) (pv 3) (pe_lst pa_nil) (nomark _)) (pv 3) (pe_slice (w_slT (K := K)) (pe_ix (w_ixT (K := K)) (pv 2) pe_int (fun _ _ => rfl)) po_none (po_some pe_int)))) (w_piT (K := K) (pe_ifExp (pt_cmpR (w_neD (K := K) hr.units) (pv 3) (pe_lst pa_nil) (nomark _)) (pv 3) (pe_slice (w_slT (K := K)) (pe_ix (w_ixT (K := K)) (pv 2) pe_int (fun _ _ => rfl)) po_none (po_some pe_int))))) (blkOk_by (own := [("_law_point", 18)]) (N := N_law) (sc := defScope s_law) (by decide +kernel)) (fun _ _ _ _ _ => (pg_name (i := 18) sc_law.nd rfl (.inl rfl))) (fun _ _ _ _ _ => pts_nil) (fun _ _ _ _ _ => (pe_tup (pa_cons (pv 18) (pa_cons (pe_cal c_law_some (hr.mono (by decide)) (by rfl) (pa_cons (pv 1) (pa_cons pe_int pa_nil))) pa_nil))))) pa_nil)))
      (pss_cons (ps_set (i := 5) sc_law.nd rfl (.inl rfl) (pe_cal c_settled_worths (hr.mono (by decide)) (by rfl) (pa_cons (pv 2) (pa_cons (pv 4) pa_nil))))
      (pss_cons (ps_asg (pe_tup (pa_cons (pe_calK ck_network_energy (hr.mono (by decide)) (by rfl) (pk_cons (pv 2) (pk_cons (pv 5) pk_nil))) (pa_cons (pe_callTy (w_dictT (K := K) rfl) (by rfl) m.dct (by decide +kernel) (pa_cons (pv 5) pa_nil)) (pa_cons (pe_calK ck_stream_of (hr.mono (by decide)) (by rfl) (pk_cons (pv 2) (pk_cons (pv 5) pk_nil))) pa_nil)))) (w_pg (K := K) (n := 3) rfl (pgs_cons (pg_name (i := 10) sc_law.nd rfl (.inl rfl)) (pgs_cons (pg_name (i := 11) sc_law.nd rfl (.inr rfl)) (pgs_cons (pg_name (i := 12) sc_law.nd rfl (.inl rfl)) pgs_nil)))))
      (pss_cons (ps_set (i := 6) sc_law.nd rfl (.inl rfl) (pe_callTy (w_tuple (K := K)) (by rfl) m.tup (by decide +kernel) (pa_cons (pe_lc (own := [("_law_tie", 19)]) rfl sc_law.nd (w_piT (K := K) (pe_ix (w_ixT (K := K)) (pv 2) pe_int (fun _ _ => rfl))) (blkOk_by (own := [("_law_tie", 19)]) (N := N_law) (sc := defScope s_law) (by decide +kernel)) (fun _ _ _ _ _ => (pg_name (i := 19) sc_law.nd rfl (.inl rfl))) (fun _ _ _ _ _ => pts_nil) (fun _ _ _ _ _ => (pe_cal c_law_times (hr.mono (by decide)) (by rfl) (pa_cons (pe_ix (w_ixT (K := K)) (pv 19) pe_int (fun _ _ => rfl)) (pa_cons (pe_cal c_law_less (hr.mono (by decide)) (by rfl) (pa_cons (pe_dget (hu_of hr) (pv 11) (pe_ix (w_ixT (K := K)) (pv 19) pe_int (fun _ _ => rfl)) (fun _ _ => rfl)) (pa_cons (pe_dget (hu_of hr) (pv 11) (pe_ix (w_ixT (K := K)) (pv 19) pe_int (fun _ _ => rfl)) (fun _ _ => rfl)) pa_nil))) pa_nil))))) pa_nil)))
      (pss_cons (ps_if (PW.pt (pw_or (pt_cmpR op_ne (pe_callB (w_repr (K := K) rfl (hu65 hr)) (by rfl) m.repr (by decide +kernel) (pa_cons (pv 12) pa_nil)) (pe_callB (w_repr (K := K) rfl (hu65 hr)) (by rfl) m.repr (by decide +kernel) (pa_cons (pv 6) pa_nil)) (nomark _)) (pw_or1 (pt_cmpR op_notBl (pe_calK ck_is_strict (hr.mono (by decide)) (by rfl) (pk_cons (pv 2) pk_nil)) pe_bl (nomark _))))) (pss_one (ps_ret pe_bl)) pss_nil)
      (pss_cons (ps_if (PW.pt (pw_or (pt_cmpR op_ne (pe_callB (w_repr (K := K) rfl (hu65 hr)) (by rfl) m.repr (by decide +kernel) (pa_cons (pe_cal c_stream_floor (hr.mono (by decide)) (by rfl) (pa_cons (pv 2) (pa_cons (pv 4) (pa_cons (pv 12) pa_nil)))) pa_nil)) (pe_callB (w_repr (K := K) rfl (hu65 hr)) (by rfl) m.repr (by decide +kernel) (pa_cons (pv 10) pa_nil)) (nomark _)) (pw_or1 (pt_not (pt_val (pe_cal c_law_is_more (hr.mono (by decide)) (by rfl) (pa_cons (pv 1) (pa_cons (pv 2) (pa_cons (pv 4) (pa_cons (pv 10) pa_nil)))))))))) (pss_one (ps_ret pe_bl)) pss_nil)
      (pss_cons (ps_for PassesOwn.never rfl (pi_range1 (by rfl) m.rng (pa_cons pe_int pa_nil)) (pg_name (i := 7) sc_law.nd rfl (.inl rfl)) (pss_cons (ps_set (i := 13) sc_law.nd rfl (.inl rfl) (pe_ifExp (pt_cmpR op_eq (pv 7) pe_int (nomark _)) (pe_cal c_law_round (hr.mono (by decide)) (by rfl) (pa_cons (pv 1) (pa_cons (pv 2) (pa_cons (pv 12) pa_nil)))) (pe_cal c_law_bent (hr.mono (by decide)) (by rfl) (pa_cons (pv 1) (pa_cons (pv 12) pa_nil)))))
      (pss_cons (ps_set (i := 14) sc_law.nd rfl (.inl rfl) (pe_cal c_law_is_stream (hr.mono (by decide)) (by rfl) (pa_cons (pv 2) (pa_cons (pv 4) (pa_cons (pv 13) pa_nil)))))
      (pss_cons (ps_if (pt_cmpR op_ne (pe_callB (w_repr (K := K) rfl (hu65 hr)) (by rfl) m.repr (by decide +kernel) (pa_cons (pe_calK ck_is_stream (hr.mono (by decide)) (by rfl) (pk_cons (pv 2) (pk_cons (pv 4) (pk_cons (pv 13) pk_nil)))) pa_nil)) (pe_callB (w_repr (K := K) rfl (hu65 hr)) (by rfl) m.repr (by decide +kernel) (pa_cons (pv 14) pa_nil)) (nomark _)) (pss_one (ps_ret pe_bl)) pss_nil)
      (pss_one (ps_if (pt_val (pv 14)) (pss_cons (ps_asg (pe_tup (pa_cons (pe_cal c_law_sources (hr.mono (by decide)) (by rfl) (pa_cons (pv 2) (pa_cons (pv 13) pa_nil))) (pa_cons (pe_cal c_stream_floor (hr.mono (by decide)) (by rfl) (pa_cons (pv 2) (pa_cons (pv 4) (pa_cons (pv 13) pa_nil)))) pa_nil))) (w_pg (K := K) (n := 2) rfl (pgs_cons (pg_name (i := 20) sc_law.nd rfl (.inr rfl)) (pgs_cons (pg_name (i := 21) sc_law.nd rfl (.inl rfl)) pgs_nil))))
      (pss_cons (ps_if (pt_cmpR op_ne (pe_callB (w_repr (K := K) rfl (hu65 hr)) (by rfl) m.repr (by decide +kernel) (pa_cons (pe_calK ck_sources_of (hr.mono (by decide)) (by rfl) (pk_cons (pv 2) (pk_cons (pv 13) pk_nil))) pa_nil)) (pe_callB (w_repr (K := K) rfl (hu65 hr)) (by rfl) m.repr (by decide +kernel) (pa_cons (pe_callTy (w_tuple (K := K)) (by rfl) m.tup (by decide +kernel) (pa_cons (pe_lc (own := [("_law_point", 18)]) rfl sc_law.nd (w_piT (K := K) (pe_ix (w_ixT (K := K)) (pv 2) pe_int (fun _ _ => rfl))) (blkOk_by (own := [("_law_point", 18)]) (N := N_law) (sc := defScope s_law) (by decide +kernel)) (fun _ _ _ _ _ => (pg_name (i := 18) sc_law.nd rfl (.inl rfl))) (fun _ _ _ _ _ => pts_nil) (fun _ _ _ _ _ => (pe_tup (pa_cons (pv 18) (pa_cons (pe_dget (hu_of hr) (pv 20) (pv 18) (fun _ _ => rfl)) pa_nil))))) pa_nil)) pa_nil)) (nomark _)) (pss_one (ps_ret pe_bl)) pss_nil)
      (pss_one (ps_if (PW.pt (pw_or (pt_cmpR op_ne (pe_callB (w_repr (K := K) rfl (hu65 hr)) (by rfl) m.repr (by decide +kernel) (pa_cons (pv 21) pa_nil)) (pe_callB (w_repr (K := K) rfl (hu65 hr)) (by rfl) m.repr (by decide +kernel) (pa_cons (pe_cal c_law_floor (hr.mono (by decide)) (by rfl) (pa_cons (pv 2) (pa_cons (pv 4) (pa_cons (pv 13) pa_nil)))) pa_nil)) (nomark _)) (pw_or1 (pt_not (pt_val (pe_cal c_law_is_below (hr.mono (by decide)) (by rfl) (pa_cons (pv 1) (pa_cons (pv 2) (pa_cons (pv 4) (pa_cons (pv 10) (pa_cons (pv 21) pa_nil))))))))))) (pss_one (ps_ret pe_bl)) pss_nil)))) pss_nil))))))
      (pss_cons (ps_set (i := 8) sc_law.nd rfl (.inl rfl) (pe_cal c_law_any (hr.mono (by decide)) (by rfl) (pa_cons (pv 1) (pa_cons (pe_callB (w_len (K := K)) (by rfl) m.len PySem.boot_len (pa_cons (pe_ix (w_ixT (K := K)) (pv 2) pe_int (fun _ _ => rfl)) pa_nil)) pa_nil))))
      (pss_cons (ps_asg (pe_ix (w_ixT (K := K)) (pe_ix (w_ixT (K := K)) (pv 2) pe_int (fun _ _ => rfl)) (pv 8) (fun _ _ => rfl)) (w_pg (K := K) (n := 3) rfl (pgs_cons (pg_name (i := 15) sc_law.nd rfl (.inl rfl)) (pgs_cons (pg_name (i := 16) sc_law.nd rfl (.inl rfl)) (pgs_cons (pg_name (i := 17) sc_law.nd rfl (.inl rfl)) pgs_nil)))))
      (pss_cons (ps_set (i := 9) sc_law.nd rfl (.inl rfl) (pe_tup (pa_cons (pe_ix (w_ixT (K := K)) (pv 2) pe_int (fun _ _ => rfl)) (pa_cons (pe_op (w_cat (K := K)) (pe_op (w_cat (K := K)) (pe_slice (w_slT (K := K)) (pe_ix (w_ixT (K := K)) (pv 2) pe_int (fun _ _ => rfl)) po_none (po_some (pv 8))) (pe_tup (pa_cons (pe_tup (pa_cons (pv 15) (pa_cons (pv 16) (pa_cons (pe_tup (pa_cons (pe_un un_neg (pe_ix (w_ixT (K := K)) (pv 17) pe_int (fun _ _ => rfl))) (pa_cons (pe_ix (w_ixT (K := K)) (pv 17) pe_int (fun _ _ => rfl)) pa_nil))) pa_nil)))) pa_nil))) (pe_slice (w_slT (K := K)) (pe_ix (w_ixT (K := K)) (pv 2) pe_int (fun _ _ => rfl)) (po_some (pe_op op_add (pv 8) pe_int)) po_none)) pa_nil))))
      (pss_one (ps_ret (pe_and (pe_cmpR op_isBl (pe_cal c_is_strict (hr.mono (by decide)) (by rfl) (pa_cons (pv 9) pa_nil)) pe_bl (nomark _)) (pe_one (pe_cmpR op_eq (pe_cal c_law_refused (hr.mono (by decide)) (by rfl) (pa_cons (pv 9) (pa_cons (pv 4) (pa_cons (pv 12) pa_nil)))) pe_str (nomark _))))))))))))))))))), ?_⟩
  refine t_asg (t_call (t_cons (t_var (v := .ref a) (t_cons (t_con ⟨tH, a, ns, 55, rfl, hq, by decide, by decide, fun D C H1 a1 nD nC d1 => ?_⟩)))))
  have nfD : Nf H D := nD
  have l1 := Lx.refl a1.tab d1
  refine t_asg (t_call (t_cons (t_var (v := .ref D) (t_cons (x_use (T := T) (D := D) (C := C) (lo := 2) (hi := 7) ?_ l1.tab l1.d1 fun r H2 r1 r2 l2 => ?_)))))
  · exact x_add x_con (x_any (K := K) (b := 5) x_con (by decide) (by decide))
  obtain ⟨n, rfl⟩ := Int.eq_ofNat_of_zero_le (show 0 ≤ r by omega)
  refine ⟨l2.tab, D, C, n, rfl, l2.d1, by omega, by omega, fun N vN H3 hS l3 hvN => ?_⟩
  have n2 : 2 ≤ n := by omega
  have n6 : n ≤ 6 := by omega
  obtain ⟨hN, h9⟩ := hS.lnet n6
  have hlen := hS.net.len
  have k3 := l2.trans l3
  clear hq r1 r2
  show tSeq _ _ _ _ _
  refine xs_lc (T := T) (K := K) (D := D) (C := C) (α := Int) (β := Int) (all := false) (Rel := fun p q => q = p) (h := PyData.int) (by have := hN.six; omega) k3.tab k3.d1 (src_tup (f := PyData.int) (l := N.pts) (ev_ix (ev_var hvN) ev_int (dat_nat (j := 0) rfl))) (fun _ _ k => k.tk) (fun p hp H5 v5 l5 hv5 Q' q' => ?_) fun L4 ws zs H4 l4 nL4 eL4 hws4 hsub hrel _ => ?_
  · refine q' [some (.ref a), some (.ref D), some vN, none, none, none, none, none, none, none, none, none, none, none, none, none, none, none, some v5, none, none, none] rfl fun Q3 q3 => ?_
    exact x_testEq (x_any (K := K) (b := 2) x_con (by decide) (by decide)) H5 (Lx.refl l5.tab l5.d1) _ fun b H6 l6 => q3 b H6 l6 (fun z => by cases z) fun _ Q4 q4 => t_var (q4 p v5 H6 rfl (Lx.refl l6.tab l6.d1) (hv5.mono l6.tk))
  -- the told points
  have esl : zs.map (fun z => PyData.int z.2) = (zs.map (·.1)).map PyData.int := by
    rw [List.map_map]
    exact List.map_congr_left fun z hz => congrArg PyData.int (hrel z hz)
  rw [esl] at hws4
  generalize zs.map (·.1) = sl at hws4 hsub
  clear esl hrel
  have k4 := k3.trans l4
  have ht1 : (toldOf N sl).Sublist N.pts := by
    unfold toldOf
    split
    · exact List.take_sublist _ _
    · exact hsub
  have ht2 : toldOf N sl ≠ [] := by
    unfold toldOf
    split
    · intro z
      have := congrArg List.length z
      rw [List.length_take, hlen] at this
      simp at this
      omega
    · assumption
  have hvN4 := hvN.mono l4.tk
  have nL4o := nL4.off k3.d1
  have tst : ∀ {σ : L2.St}, σ[3]? = some (some (.ref L4)) → EvB T (tTest (tOp (rNeD K) (tVar 3) (tLst tNil))) σ H4 (!decide (sl = [])) := fun hσ => eb_is (eb_noNil (SqL.of eL4) hws4 (shaped_ints _) hσ) (by simp)
  have eSrc : ∀ {σ : L2.St}, σ[3]? = some (some (.ref L4)) → σ[2]? = some (some vN) → Src T (fun σ H R => iList K (tIf (tTest (tOp (rNeD K) (tVar 3) (tLst tNil))) (tVar 3) (tSl (rSlA K) (tOp (rIxT K) (tVar 2) (tC (.int 0))) tNoPart (tPart (tC (.int 1))))) σ H R ∨ iTup K (tIf (tTest (tOp (rNeD K) (tVar 3) (tLst tNil))) (tVar 3) (tSl (rSlA K) (tOp (rIxT K) (tVar 2) (tC (.int 0))) tNoPart (tPart (tC (.int 1))))) σ H R) σ H4 (Lx T D C) (toldOf N sl) fun H v x => Dt K H v (.int x) := fun {σ} h3 h2 => by
    by_cases z : sl = []
    · refine src_or2 (src_weak (src_tup (f := PyData.int) (l := toldOf N sl) (ev_if (tst h3) (fun y => by rw [decide_eq_true z] at y; cases y) fun _ => ev_is (ev_sl (ev_ix (ev_var hvN4 h2) ev_int (dat_nat (j := 0) rfl)) eo_none (eo_some (K := K) ev_int)) ?_)) fun _ _ k => k.tk)
      unfold toldOf
      rw [if_pos z, List.map_take]
      exact congrArg PyData.tuple (cut_to (N.pts.map PyData.int) 1)
    · refine src_or1 (src_weak (src_at (a := L4) (f := PyData.int) (l := toldOf N sl) (fun H1 a1 Q q => tst h3 H1 a1 _ fun H2 a2 => ?_) (SqL.of eL4) (by unfold toldOf; rw [if_neg z]; exact hws4)) fun _ _ k => KL.lx k nL4o.1 nL4o.2)
      rw [decide_eq_false z]
      exact iteT (t_var (q H2 a2) h3)
  generalize toldOf N sl = told at ht1 ht2 eSrc
  clear tst hsub hws4
  have tnd : told.Nodup := (nodup_of hN.ok.srt).sublist ht1
  have tl6 : told.length ≤ 6 := Nat.le_trans ht1.length_le hN.six
  dsimp only
  refine xs_lcF (T := T) (K := K) (D := D) (C := C) (α := Int) (β := Int × Rat) (all := true) (l := told) (Rel := fun p z => z.1 = p ∧ IB 12 9 z.2) (h := fun z => prI (z.1, fr z.2)) (by omega) k4.tab k4.d1 (eSrc rfl rfl) (fun _ _ k => k) (fun p hp H5 v5 l5 hv5 Q' q' => ?_) fun v5 zs2 H5 l5 hv5 _ hrel hall => ?_
  · refine q' [some (.ref a), some (.ref D), some vN, some (.ref L4), none, none, none, none, none, none, none, none, none, none, none, none, none, none, some v5, none, none, none] rfl fun Q3 q3 => q3 true H5 (Lx.refl l5.tab l5.d1) (fun _ => rfl) fun _ Q4 q4 => ?_
    cases hv5
    refine t_tup (t_cons (t_var (v := .int p) (t_cons (xr_use (T := T) (K := K) (D := D) (C := C) (n := 9) ?_ l5.tab l5.d1 fun x7 v7 H7 ib7 l7 hv7 => ⟨by show 2 ≤ sizeLine; decide, fun b hb => ?_⟩))))
    · exact x_some (by decide)
    have nn := Le.new (o := .tup [.int p, v7]) l7.tab hb
    exact q4 (p, x7) _ _ ⟨rfl, ib7⟩ (l7.le nn) (.new upd_same (.cons (.int p) (.cons (hv7.mono nn.tk) .nil)))
  -- the told worths
  have hz := hall rfl
  have hnd : (zs2.map (·.2)).map (·.1) = told := by
    rw [← hz, List.map_map]
    exact List.map_congr_left fun z hz => (hrel z hz).1
  have e6 : (zs2.map fun z => prI (z.2.1, fr z.2.2)) = wI told (tf (zs2.map (·.2))) := by
    have := tf_map (zs := zs2.map (·.2)) (by rw [hnd]; exact tnd)
    rw [hnd, List.map_map] at this
    exact this
  rw [e6] at hv5
  have tib : ∀ p ∈ told, IB 12 9 (tf (zs2.map (·.2)) p) := fun p hp => by
    rw [← hz] at hp
    obtain ⟨z, h1, rfl⟩ := List.mem_map.mp hp
    have e := (hrel z h1).1
    rw [← e, tf_mem (by rw [hnd]; exact tnd) z.2 (List.mem_map.mpr ⟨z, h1, rfl⟩)]
    exact (hrel z h1).2
  generalize tf (zs2.map (·.2)) = t at hv5 tib
  clear e6 hz hall hrel hnd eSrc
  have hT : Told N told t := ⟨ht1, ht2, tib⟩
  have k5 := k4.trans l5
  have hvN5 := hvN4.mono l5.tk
  obtain ⟨en1, en2, st1, F, F0, bF, sI⟩ := setl_en hN hT
  dsimp only
  refine t_asg (ef_worths (K := K) (N := N) (told := told) (t := t) (ev_var hvN5) (ef_var hv5) tl6 (set_ok hN hT) H5 (Le.refl k5.tab) _ fun v6 H6 a6 hv6 => ?_)
  have k6 := k5.le a6
  have hvN6 := hvN5.mono a6.tk
  have hin : ∀ u ∈ N.ties, u.1 ∈ N.pts ∧ u.2.1 ∈ N.pts := fun u hu => ⟨(hN.ok.ok u hu).2.1, (hN.ok.ok u hu).2.2.1⟩
  have pnd := nodup_of hN.ok.srt
  refine t_asg (t_tup (t_cons (t_callK (t_cons (t_var (v := vN) (t_cons (t_var (v := v6) ⟨k6.tab, vN, v6, N, N.pts, setl N told t, rfl, hvN6, hv6, pnd, hin, en1, fun v7 H7 a7 hv7 => t_cons ?_⟩)))))))
  refine ed_dictT (K := K) (l := N.pts.map fun p => (p, fr (setl N told t p))) (ef_var (hv6.le a7)) (by rw [wI_keys]; exact pnd) H7 (Le.refl a7.tab) _ fun M H8 a8 nM hM => ?_
  have k8 := k6.le (a7.trans a8)
  refine t_cons (t_callK (t_cons (t_var (v := vN) (t_cons (t_var (v := v6) ⟨k8.tab, vN, v6, N, N.pts, setl N told t, rfl, hvN6.mono (a7.trans a8).tk, hv6.le (a7.trans a8), pnd, hin, by have := hN.t36; omega, st1, fun v9 H9 a9 hv9 => ⟨by show 3 ≤ sizeLine; decide, fun b3 hb3 => ?_⟩⟩)))))
  have n10 := Le.new (o := .tup [v7, .ref M, v9]) a9.tab hb3
  refine ⟨b3, [v7, .ref M, v9], rfl, .inl (.inl upd_same), rfl, _, _, rfl, _, _, rfl, _, _, rfl, rfl, ?_⟩
  have a10 := ((a7.trans a8).trans a9).trans n10
  have k10 := k6.le a10
  have hvN10 := hvN6.mono a10.tk
  have hM10 := (hM.le a9).le n10
  have hv9' := hv9.mono n10.tk
  have hv7' := hv7.mono ((a8.trans a9).trans n10).tk
  have hv5' := (hv5.le a6).le a10
  refine sd_set (K := K) (d := .tuple ((strm N.ties (setl N told t)).map fr)) (ev_tupL ?_) k10.tab fun v11 H11 a11 hv11 => ?_
  · unfold strm
    rw [List.map_map]
    refine lc_all (by have := hN.t36; omega) (src_tup (f := tieD) (l := N.ties) (ev_ix (ev_var hvN10) ev_int (dat_nat (j := 1) rfl))) (fun _ _ k => k.tk) fun u hu H12 v12 a12 hv12 Q' q' => ?_
    obtain ⟨s1, s2, s3, s4⟩ := st1 u hu
    refine q' [some (.ref a), some (.ref D), some vN, some (.ref L4), some v5, some v6, none, none, none, none, some v7, some (.ref M), some v9, none, none, none, none, none, none, some v12, none, none] rfl ?_
    exact ev_call (evs_cons (ev_ix (ds := [.int u.1, .int u.2.1, fr u.2.2]) (ev_var hv12) ev_int (dat_nat (j := 2) rfl)) (evs_cons (ev_call (evs_cons (ev_dget (hM10.le a12) (ev_ix (ds := [.int u.1, .int u.2.1, fr u.2.2]) (ev_var hv12) ev_int (dat_nat (j := 0) rfl)) (getL_map (fun p => fr (setl N told t p)) (hin u hu).1)) (evs_cons (ev_dget (hM10.le a12) (ev_ix (ds := [.int u.1, .int u.2.1, fr u.2.2]) (ev_var hv12) ev_int (dat_nat (j := 1) rfl)) (getL_map (fun p => fr (setl N told t p)) (hin u hu).2)) evs_nil)) ⟨_, _, rfl, s2, s3, rfl⟩) evs_nil)) ⟨_, _, rfl, s1, s4, rfl⟩
  have k11 := k10.le a11
  have sSm : ∀ m ∈ strm N.ties (setl N told t), Sm m := fun m hm => (sI m hm).sm (lt_pow (b := 4 + 532) (mul_pow (by decide) bF)) (lt_pow (b := 9 + (4 + 532)) (mul_pow (by decide) (mul_pow (by decide) bF)))
  have sLen : (strm N.ties (setl N told t)).length = N.ties.length := by unfold strm; rw [List.length_map]
  have gS : Gd 200000 20 (.tuple ((strm N.ties (setl N told t)).map fr)) := (gd_strm (by rw [sLen]; exact hN.t36) sSm).mono (by decide) (by decide)
  have allS : (N.ties.all fun t => decide (0 < sgn t.2.2)) = true := List.all_eq_true.mpr fun u hu => decide_eq_true (by rw [one_sgn (hN.ok.ok u hu).2.2.2]; decide)
  have t36 := hN.t36
  refine sd_no (eb_is (eb_or (eb_test (ev_neS (ev_repr (ev_var (hv9'.mono a11.tk)) gS) (ev_repr (ev_var hv11) gS))) fun _ => eb_test (ev_notB (ev_strictK (evs_cons (ev_var (hvN10.mono a11.tk)) evs_nil) (by omega)) ev_bl)) (by rw [allS]; simp)) k11.tab fun H12 a12 => ?_
  have k12 := k11.le a12
  unfold tNext
  dsimp only
  -- the floor of the stream is the least energy; more weight lowers nothing
  obtain ⟨flo, flo2⟩ := fl_ok hN h9 hT sLen F0 bF (by omega) sI
  have eqf := least_floor hN hT
  have a1012 := a11.trans a12
  have hvN12 := hvN10.mono a1012.tk
  have hv512 := (hv5'.le a11).le a12
  have hv712 := hv7'.mono a1012.tk
  have hv912 := hv9'.mono a1012.tk
  have gE : Gd 200000 20 (fr (en N.ties (setl N told t))) := (gd_fr en2).mono (by decide) (by decide)
  have isF : ∀ H1, Lx T D C H12 H1 → EvB T (tTest (tOp rNe (tCB (rRepr K) (tCons (tCall (spFloor T K) [] E0 (tCons (tVar 2) (tCons (tVar 4) (tCons (tVar 12) tNil)))) tNil)) (tCB (rRepr K) (tCons (tVar 10) tNil)))) [some (.ref a), some (.ref D), some vN, some (.ref L4), some v5, some v6, some v11, none, none, none, some v7, some (.ref M), some v9, none, none, none, none, none, none, none, none, none] H1 false := fun H1 k => by
    refine eb_is (eb_test (ev_neS (ev_repr (ds := [.int (en N.ties (setl N told t)).num, .int ((en N.ties (setl N told t)).den : Int)]) (ev_is (ev_floor (ev_var (hvN12.mono k.tk)) (ev_var (hv512.lx k).dt) (ev_var (hv912.mono k.tk)) flo) (by rw [eqf]; rfl)) gE) (ev_repr (ds := [.int (en N.ties (setl N told t)).num, .int ((en N.ties (setl N told t)).den : Int)]) (ev_var (hv712.mono k.tk)) gE))) (by simp)
  refine xs_noOr (T := T) (D := D) (C := C) k12.tab k12.d1 (isF H12 (Lx.refl k12.tab k12.d1)) (fun H13 k13 Q' q' => ?_) fun H13 l13 => ?_
  · exact ⟨.ref D, rfl, vN, rfl, v5, rfl, v7, rfl, k13.tab, D, C, vN, v5, v7, N, told, t, _, rfl, k13.d1, hvN12.mono k13.tk, hv512.lx k13, hv712.mono k13.tk, mo_ok hN h9 (by omega) hT, fun H14 k14 => q' H14 (k13.trans k14)⟩
  dsimp only
  have k13 := k12.trans l13
  have hvN13 := hvN12.mono l13.tk
  have hv513 := hv512.lx l13
  have hv713 := hv712.mono l13.tk
  have hv913 := hv912.mono l13.tk
  refine for_src (src_rng1 (K := K) (n := 3) ev_int (by decide)) k13.tab fun H14 a14 => ⟨fun r σ' H' => ∃ (i : Nat) (y7 y13 y14 y20 y21 : Option V), r = (List.range 3).drop i ∧ i ≤ 3 ∧ σ' = [some (.ref a), some (.ref D), some vN, some (.ref L4), some v5, some v6, some v11, y7, none, none, some v7, some (.ref M), some v9, y13, y14, none, none, none, none, none, y20, y21] ∧ Lx T D C H13 H',
    ⟨0, none, none, none, none, none, rfl, Nat.zero_le _, rfl, .of k13.d1 a14⟩, fun r σ' H' ⟨_, _, _, _, _, _, _, _, _, k⟩ => ⟨trivial, k.tab⟩, ?_, ?_⟩
  · rintro x r σ' H15 H16 v hx ⟨i, y7, y13, y14, y20, y21, e, hi, rfl, k15⟩ a16 rfl
    obtain ⟨rfl, hlt, rfl⟩ := drop_range e.symm
    have k16 := k15.le a16
    have bA : 12 * F ≤ 2 ^ 536 := mul_pow (show (12 : Nat) ≤ 2 ^ 4 by decide) bF
    have hvN16 := hvN13.mono k16.tk
    have hv916 := hv913.mono k16.tk
    refine t_asg ?_
    have t36 := hN.t36
    have bB : (324 + 15) * (12 * F) < 2 ^ 1400 := lt_pow (b := 9 + 536) (mul_pow (by decide) bA)
    have smB : ∀ {x : Rat}, IB (12 * F) 339 x → Sm x := fun h => h.sm (lt_pow bA) bB
    refine xv_if (T := T) (D := D) (C := C) (Out := fun H v => BentOut T K N.ties.length (12 * F) 339 H v) k16.tab (k13.trans k16).d1 (eb_test (ev_eqI (K := K) (ev_var (.int _)) ev_int)) (fun H17 k17 Q' q' => ?_) (fun H17 k17 Q' q' => ?_) fun v17 H17 l17 hb => ?_
    · refine ⟨.ref D, rfl, vN, rfl, v9, rfl, k17.tab, D, C, vN, v9, N, strm N.ties (setl N told t), F, 324, rfl, k17.d1, hvN16.mono k17.tk, hv916.mono k17.tk, sLen, t36, F0, sI, lt_pow bA, bB, fun s' v' H' e1 e2 l18 hv' => q' v' H' (k17.trans l18) (.inr ⟨_, hv', by rw [List.length_map]; omega, fun d hd => ?_, .inr (.inr ⟨s', rfl, e1, e2⟩)⟩)⟩
      obtain ⟨y, hy, rfl⟩ := List.mem_map.mp hd
      exact kd_fr (smB (e2 y hy))
    · refine ⟨.ref D, rfl, v9, rfl, k17.tab, D, C, v9, strm N.ties (setl N told t), F, 324, rfl, k17.d1, hv916.mono k17.tk, ?_, by rw [sLen]; exact t36, F0, sI, lt_pow bA, lt_pow (b := 9 + 536) (mul_pow (by decide) bA), fun v' H' l18 hb => q' v' H' (k17.trans l18) (by rw [sLen] at hb; exact hb.mono (by decide))⟩
      rw [sLen]
      exact ties_pos hN (by omega)
    have k17 := k16.trans l17
    have kA := k13.trans k17
    have hvN17 := hvN13.mono k17.tk
    have hv517 := hv513.lx k17
    have hv717 := hv713.mono k17.tk
    have p6 := hN.six
    obtain ⟨b, cL, cK, hbt⟩ : ∃ b : Bool, (∀ (H1 : Hp) (Q : VK) (E : XK), Le T H17 H1 → (∀ H2, Le T H1 H2 → Q (.bl b) H2) → spLIs T K [vN, v5, v17] H1 Q E) ∧ (∀ (H1 : Hp) (Q : VK) (E : XK), Le T H17 H1 → (∀ H2, Le T H1 H2 → Q (.bl b) H2) → spIsStream T K [vN, v5, v17] H1 Q E) ∧
        (b = true → ∃ s' : List Rat, Dt K H17 v17 (.tuple (s'.map fr)) ∧ SrcSz N s' ∧ s'.length = N.ties.length ∧ (∀ m ∈ s', IB (12 * F) 339 m) ∧ Flows N told s') := by
      rcases ans_of hN told F0 bF hb with ⟨tn, t1, t2⟩ | ⟨ds, b, d1, d2, d3, d4, d5⟩
      · refine ⟨false, fun H1 Q E k q => ⟨k.tab, vN, v5, v17, N, told, t, rfl, hvN17.mono k.tk, hv517.le k, tnd, t36, tl6, p6, .inl ⟨tn, fun H' k' => t1 H' (k.trans k'), t2, q⟩⟩, fun H1 Q E k q => ⟨k.tab, vN, v5, v17, N, told, t, rfl, hvN17.mono k.tk, (hv517.le k).dt, t36, tl6, p6, .inl ⟨tn, fun H' k' => t1 H' (k.trans k'), t2, q⟩⟩, fun z => by cases z⟩
      · refine ⟨b, fun H1 Q E k q => ⟨k.tab, vN, v5, v17, N, told, t, rfl, hvN17.mono k.tk, hv517.le k, tnd, t36, tl6, p6, .inr ⟨ds, b, d1.mono k.tk, d2, d3, d4, q⟩⟩, fun H1 Q E k q => ⟨k.tab, vN, v5, v17, N, told, t, rfl, hvN17.mono k.tk, (hv517.le k).dt, t36, tl6, p6, .inr ⟨ds, b, d1.mono k.tk, d2, d4, q⟩⟩, fun z => ?_⟩
        obtain ⟨s', rfl, e1, e2, e3, e4⟩ := d5 z
        exact ⟨s', d1, e1, e2, e3, e4⟩
    refine t_asg (t_call (t_cons (t_var (v := vN) (t_cons (t_var (v := v5) (t_cons (t_var (v := v17) (t_nil (cL H17 _ _ (Le.refl kA.tab) fun H18 a18 => ?_)))))))))
    have k18 := k17.le a18
    have kB := k13.trans k18
    have evK : EvD T K (tCallK (spIsStream T K) gRow E0 tNil (tCons (tVar 2) (tCons (tVar 4) (tCons (tVar 13) tNil)))) [some (.ref a), some (.ref D), some vN, some (.ref L4), some v5, some v6, some v11, some (.int (x : Nat)), none, none, some v7, some (.ref M), some v9, some v17, some (.bl b), none, none, none, none, none, y20, y21] H18 (.bool b) := fun H1 k Q q => ⟨vN, rfl, v5, rfl, v17, rfl, cK H1 _ E0 (a18.trans k) fun H2 k2 => q _ H2 k2 (.bl b)⟩
    refine sd_no (eb_is (eb_test (ev_neS (ev_reprB evK) (ev_reprB (ev_var (i := 14) (.bl b))))) (by simp)) kB.tab fun H19 a19 => ?_
    have k19 := k18.le a19
    have kC := k13.trans k19
    dsimp only
    cases b with
    | false =>
      refine sd_no (eb_tB (ev_var (K := K) (.bl false))) kC.tab fun H20 a20 => ?_
      exact ⟨x + 1, _, _, _, _, _, rfl, hlt, rfl, k19.le a20⟩
    | true =>
      refine sd_yes (eb_tB (ev_var (K := K) (.bl true))) kC.tab fun H20 a20 => ?_
      obtain ⟨s', hs', sz, sl', sib, sfl⟩ := hbt rfl
      have k20 := k19.le a20
      have kD := k13.trans k20
      have st20 := (a18.trans a19).trans a20
      have hvN20 := hvN17.mono st20.tk
      have hv520 := hv517.le st20
      have hv720 := hv717.mono st20.tk
      have hs20 := hs'.mono st20.tk
      obtain ⟨fl1, fl2⟩ := fl_ok hN h9 hT sl' F0 bF (by decide) sib
      refine t_asg (t_tup (t_cons ?_))
      refine ed_lsrc (K := K) (ev_var hvN20) (ev_var hs20) sz H20 (Le.refl kD.tab) _ fun L H21 a21 nL hL => ?_
      refine t_cons (e_use (K := K) (d := fr (flV N told t s')) (ev_floor (ev_var (hvN20.mono a21.tk)) (ev_var (hv520.le a21).dt) (ev_var (hs20.mono a21.tk)) fl1) a21.tab fun v21 H22 a22 hv21 => ⟨by show 2 ≤ sizeLine; decide, fun b2 hb2 => ?_⟩)
      have n23 := Le.new (o := .tup [.ref L, v21]) a22.tab hb2
      refine ⟨b2, [.ref L, v21], rfl, .inl (.inl upd_same), rfl, _, _, rfl, _, _, rfl, rfl, ?_⟩
      have st23 := (a21.trans a22).trans n23
      have k23 := k20.le st23
      have kE := k13.trans k23
      have hvN23 := hvN20.mono st23.tk
      have hv523 := hv520.le st23
      have hv723 := hv720.mono st23.tk
      have hs23 := hs20.mono st23.tk
      have hL23 := (hL.le a22).le n23
      have hv21' := hv21.mono n23.tk
      have smS : ∀ p ∈ N.pts, Sm (src N.ties s' p) := fun p _ => src_sm sz p
      have gW : Gd 200000 20 (.tuple (wI N.pts (src N.ties s'))) := (gd_wI hN.six (fun p hp => small_pt (hN.bd p hp)) smS).mono (by decide) (by decide)
      refine sd_no (eb_is (eb_test (ev_neS (ev_repr (EvF.ev (ef_sourcesK (fun H1 a Q q => t_cons (t_var (t_cons (t_var (t_nil q))))) hvN23 hs23 sz)) gW) (ev_repr (ds := wI N.pts (src N.ties s')) (ev_tupL ?_) gW))) (by simp)) kE.tab fun H24 a24 => ?_
      · rw [wI_map]
        refine lc_all (by omega) (src_tup (f := PyData.int) (l := N.pts) (ev_ix (ev_var hvN23) ev_int (dat_nat (j := 0) rfl))) (fun _ _ k => k.tk) fun p hp H25 v25 a25 hv25 Q' q' => ?_
        refine q' [some (.ref a), some (.ref D), some vN, some (.ref L4), some v5, some v6, some v11, some (.int (x : Nat)), none, none, some v7, some (.ref M), some v9, some v17, some (.bl true), none, none, none, some v25, none, some (.ref L), some v21] rfl ?_
        exact ev_tup (evs_cons (ev_var hv25) (evs_cons (ev_dget (hL23.le a25) (ev_var hv25) (getL_map (fun p => fr (src N.ties s' p)) hp)) evs_nil))
      have k24 := k23.le a24
      have kF := k13.trans k24
      dsimp only
      have gF : Gd 200000 20 (fr (flV N told t s')) := (gd_fr fl2).mono (by decide) (by decide)
      refine xs_noOr (T := T) (D := D) (C := C) kF.tab kF.d1 (eb_is (eb_test (ev_neS (ev_repr (ds := [.int (flV N told t s').num, .int ((flV N told t s').den : Int)]) (ev_var (hv21'.mono a24.tk)) gF) (ev_repr (ds := [.int (flV N told t s').num, .int ((flV N told t s').den : Int)]) (ev_floor (ev_var (hvN23.mono a24.tk)) (ev_var (hv523.le a24).dt) (ev_var (hs23.mono a24.tk)) fl1) gF))) (by simp)) (fun H25 k25 Q' q' => ?_) fun H25 k25 => ?_
      · exact ⟨.ref D, rfl, vN, rfl, v5, rfl, v7, rfl, v21, rfl, k25.tab, D, C, vN, v5, v7, v21, N, told, t, _, _, rfl, k25.d1, (hvN23.mono a24.tk).mono k25.tk, (hv523.le a24).lx k25, (hv723.mono a24.tk).mono k25.tk, (hv21'.mono a24.tk).mono k25.tk, bel_ok hN h9 hT sl' F0 bF (by decide) sib sfl, fun H26 k26 => q' H26 (k25.trans k26)⟩
      · exact ⟨x + 1, _, _, _, _, _, rfl, hlt, rfl, k24.trans k25⟩
  · rintro σ' H15 ⟨i, y7, y13, y14, y20, y21, e, hi, rfl, k15⟩
    clear e hi
    have t36 := hN.t36
    have hvN15 := hvN13.mono k15.tk
    have hv915 := hv913.mono k15.tk
    have hv515 := hv513.lx k15
    have t1 := ties_pos hN (by omega)
    refine xs_set (T := T) (D := D) (C := C) (lo := 0) (hi := (N.ties.length : Nat)) (x_any (K := K) (lo := (N.ties.length : Nat)) (hi := (N.ties.length : Nat) + 1) (x_ev (K := K) fun H2 k => ev_is (ev_len (ev_ix (ev_var (hvN15.mono k.tk)) ev_int (dat_nat (j := 1) rfl))) (by rw [List.length_map])) (by omega) (by omega)) k15.tab k15.d1 fun r H16 r0 r1 k16 => ?_
    obtain ⟨j, rfl⟩ := Int.eq_ofNat_of_zero_le r0
    have hj : j < N.ties.length := by omega
    have k16' := k15.trans k16
    have mt : N.ties[j]? = some N.ties[j] := List.getElem?_eq_getElem hj
    generalize N.ties[j] = u at mt
    have hu := List.mem_of_getElem? mt
    have hvN16 := hvN15.mono k16.tk
    dsimp only
    refine sd_asg (K := K) (d := tieD u) (ev_ix (ev_ix (ev_var hvN16) ev_int (dat_nat (j := 1) rfl)) (ev_var (K := K) (.int _)) (dat_nat (by rw [List.getElem?_map, mt]; rfl))) k16.tab fun v5' H17 a17 h17 => ?_
    refine g_three h17 fun w15 w16 w17 g15 g16 g17 => ?_
    have k17 := k16'.le a17
    have hvN17 := hvN16.mono a17.tk
    dsimp only
    have en : netD ⟨N.pts, N.ties.take j ++ [(u.1, u.2.1, -u.2.2)] ++ N.ties.drop (j + 1)⟩ = .tuple [.tuple (N.pts.map .int), .tuple ((N.ties.map tieD).take j ++ [.tuple [.int u.1, .int u.2.1, .tuple [.int (-u.2.2.num), .int (u.2.2.den : Int)]]] ++ (N.ties.map tieD).drop (j + 1))] := by
      show PyData.tuple [_, .tuple (List.map tieD _)] = _
      rw [List.map_append, List.map_append, List.map_take, List.map_drop]
      rfl
    refine sd_set (K := K) (d := netD ⟨N.pts, N.ties.take j ++ [(u.1, u.2.1, -u.2.2)] ++ N.ties.drop (j + 1)⟩) (ev_is ?_ en.symm) k17.tab fun v18 H18 a18 hv18 => ?_
    · refine ev_tup (evs_cons (ev_ix (ev_var hvN17) ev_int (dat_nat (j := 0) rfl)) (evs_cons ?_ evs_nil))
      refine ev_cat (ev_cat (ev_is (ev_sl (ev_ix (ds := [.tuple (N.pts.map .int), .tuple (N.ties.map tieD)]) (ev_var hvN17) ev_int (dat_nat (j := 1) rfl)) eo_none (eo_some (K := K) (ev_var (.int _)))) (congrArg PyData.tuple (cut_to (N.ties.map tieD) j))) (ev_tup (evs_cons (ev_tup (evs_cons (ev_var g15) (evs_cons (ev_var g16) (evs_cons (ev_tup (evs_cons (ev_un (g := fun i => -i) (ev_ix (ds := [.int u.2.2.num, .int (u.2.2.den : Int)]) (ev_var g17) ev_int (dat_nat (j := 0) rfl))) (evs_cons (ev_ix (ds := [.int u.2.2.num, .int (u.2.2.den : Int)]) (ev_var g17) ev_int (dat_nat (j := 1) rfl)) evs_nil))) evs_nil)))) evs_nil)) ?_) (ev_is (ev_sl (ev_ix (ds := [.tuple (N.pts.map .int), .tuple (N.ties.map tieD)]) (ev_var hvN17) ev_int (dat_nat (j := 1) rfl)) (eo_some (K := K) (ev_op (g := fun i j => i + j) (ev_var (.int _)) ev_int)) eo_none) (congrArg PyData.tuple (cut_from (N.ties.map tieD) (j + 1)))) ?_
      · rw [List.length_take, List.length_map, List.length_singleton]; omega
      · rw [List.length_append, List.length_take, List.length_map, List.length_singleton, List.length_drop, List.length_map]; omega
    have k18 := k17.le a18
    have hv518 := ((hv515.lx k16).le a17).le a18
    have hv918 := ((hv915.mono k16.tk).mono a17.tk).mono a18.tk
    have bad : ((N.ties.take j ++ [(u.1, u.2.1, -u.2.2)] ++ N.ties.drop (j + 1)).all fun t => decide (0 < sgn t.2.2)) = false := by
      rw [List.all_append, List.all_append]
      have : decide (0 < sgn (-u.2.2)) = false := by
        have w0 := (hN.ok.ok u hu).2.2.2
        have n0 : 0 < u.2.2.num := num_pos w0
        unfold sgn
        rw [Rat.neg_num, if_neg (by omega), if_neg (by omega)]
        rfl
      show ((_ && (decide (0 < sgn (-u.2.2)) && true)) && _) = false
      rw [this]
      simp
    have ln : (N.ties.take j ++ [(u.1, u.2.1, -u.2.2)] ++ N.ties.drop (j + 1)).length ≤ 1000 := by
      rw [List.length_append, List.length_append, List.length_take, List.length_singleton, List.length_drop]; omega
    dsimp only
    refine sd_ret (K := K) (d := .bool true) (ev_is (ev_andV (b := true) (c := true) (ev_is (ev_isB (ev_call (evs_cons (ev_var hv18) evs_nil) ⟨_, rfl, ln, rfl⟩) ev_bl) (by rw [bad]; rfl)) fun _ => ev_is (ev_eqS (x := "weight") (y := "weight") ?_ ev_str) (by simp)) rfl) k18.tab fun v19 H19 a19 hv19 => ?_
    · exact fun H1 a Q' q' => t_call (t_cons (t_var (t_cons (t_var (t_cons (t_var (t_nil ⟨a.tab, v18, v5, v9, _, rfl, hv18.mono a.tk, ln, bad, fun H2 a2 => q' _ H2 a2 (.str _)⟩)))))))
    · cases hv19
      exact q H19
end
end Lf
end

section
set_option maxRecDepth 100000
set_option maxHeartbeats 4000000
/-! The end: law's run at callerA alone, with one table of code objects. -/
namespace Lf
open PySem PySem.Spec PyProof.Rows L2
/-- a def's run at callerA, by its body there -/
theorem run_atC {P : Program} {w : World} {K : PySem.W.Frag} {mg : Str → Option Value} {base : Heap} {k : Nat} {f : Addr} {name qual : Str} {params : Arguments} {body : List Stmt} {scope : Scope} {dV kV doc pm cdv ct oc : Value} {an od : Option Addr}
    {osl : Array (Option Value)} {N ps : List Str} {s : Shared} {H : Hp} {args : Args} {us : List Value} {vs : List V} {Q : VK} {E : XK} {t : TS}
    (lk : K.lookup f = some ⟨oc, od, .func (PySem.W.fnOf name qual params body scope dV kV doc pm an cdv ct), osl⟩) (hcd : PySem.W.codeIn K cdv qual = true) (S : FnScope N ps scope) (hr : Room (k + 1) callerA)
    (hl : vs.length = ps.length) (e0 : Env0 P w K mg base callerA [] s H) (hb : BindsTo s (PySem.W.fnOf name qual params body scope dV kV doc pm an cdv ct) args (ps.zip us)) (r : Vals vs us)
    (ht : PSs (cxOf CX0 P w K mg base N qual scope f cdv callerA [] s H E) body t) (q : t { nx := fun _ H' => Q .non H', rt := Q } (start N vs) H) :
    codeAny (model P w) callerA (.call (.ref f) args) (CR CX0 [] P w H s Q E) s := by
  have old : ∀ b o, base.get? b = some o → s.heap.get? b = some o := fun b o z => (e0.bs b o z).1
  have KX : K.In s.heap := e0.mod.kin.keeps old
  have nm : ∀ y ∈ ps.zip us, scope.names.lookup y.1 = some .local ∨ (scope.names.lookup y.1 = some .cell ∧ ((cellsFrom (s.heap.objs.size + 1) scope.names []).lookup y.1).isSome = true) := by
    rintro ⟨n, v⟩ hy
    exact (S.par n (List.of_mem_zip hy).1).imp id fun z => ⟨z, PySem.W.cellsFrom_some _ _ _ (.inl z)⟩
  refine codeAny_call_function hr.depth (KX _ _ lk) rfl S.co S.gen rfl (PySem.W.codeRec_of KX hcd) (hb _ _ _ _ (wpAny_newFunctionEnv_cells S.kind nm fun env he s1 x => ?_))
  subst he
  refine ⟨(e0.mod.nolimit.keeps old).keeps x.toInCall.keep, codeAny_func ?_⟩
  have I : Inv (cxOf CX0 P w K mg base N qual scope f cdv callerA [] s H E) [] (start N vs) H s1 := inv_start S hr.hd e0 hl r x
  refine wpAny_mono (ht.run [] s1 (start N vs) H _ I q) (fun fl s' hs => ?_) fun e s' hs => hs
  cases fl with
  | ret u => exact let ⟨v, _, H', J, rv, qq⟩ := hs; ⟨v, H', J.os, J.bare, J.base, J.hok, rv, qq⟩
  | next => exact let ⟨_, H', J, qq⟩ := hs; ⟨V.non, H', J.os, J.bare, J.base, J.hok, rfl, qq⟩
  | brk => exact let ⟨_, _, _, qq⟩ := hs; qq.elim
  | cont => exact let ⟨_, _, _, qq⟩ := hs; qq.elim
/-- an empty table -/
abbrev tab0 : Obj := { cls := .none, data := .fields #[] }
/-- the heap at the law's start: the table of code objects; the script, where K does not know it -/
def H0 (K : PySem.W.Frag) (a Pt : Addr) (vs : List Value) (ns : List Int) : Hp := fun b =>
  if b = Pt then some (.tbl #[]) else if b = a ∧ K.lookup a = none then some (.frz { cls := .type "list", data := .seq vs.toArray } (.lst (ns.map V.int))) else none
theorem h0_cases {K : PySem.W.Frag} {a Pt b : Addr} {vs : List Value} {ns : List Int} : (b = Pt ∧ H0 K a Pt vs ns b = some (.tbl #[])) ∨ (b ≠ Pt ∧ b = a ∧ K.lookup a = none ∧ H0 K a Pt vs ns b = some (.frz { cls := .type "list", data := .seq vs.toArray } (.lst (ns.map V.int)))) ∨ (b ≠ Pt ∧ (b = a → K.lookup a ≠ none) ∧ H0 K a Pt vs ns b = none) := by
  unfold H0
  by_cases h1 : b = Pt
  · exact .inl ⟨h1, if_pos h1⟩
  · by_cases h2 : b = a ∧ K.lookup a = none
    · exact .inr (.inl ⟨h1, h2.1, h2.2, by rw [if_neg h1, if_pos h2]⟩)
    · exact .inr (.inr ⟨h1, fun z y => h2 ⟨z, y⟩, by rw [if_neg h1, if_neg h2]⟩)
/-- what law's run is asked at the start -/
def RunAt (P : Program) (w : World) (K : PySem.W.Frag) (mg : Str → Option Value) (fa c Pt : Addr) : Prop :=
  ∀ (base : Heap) (s : Shared) (H : Hp) (a : Addr) (ns : List Int), LamX.TabB base mg c Pt → Env0 P w K mg base callerA [] s H → H Pt = some (.tbl #[]) → SqL K H a (ns.map V.int) →
    codeAny (model P w) callerA (.call (.ref fa) ⟨[.ref a], []⟩) (CR CX0 [] P w H s (fun v _ => v = .bl true) fun _ _ _ => False) s
theorem law_end {P : Program} {w : World} {K : PySem.W.Frag} {mg mb : Str → Option Value} {fa a c Pt : Addr} {s : Shared} {vs : List Value} {ns : List Int} (KX : K.In s.heap) (nG : s.heap.Ns mainGlobals mg) (nB : s.heap.Ns builtinsNs mb)
    (bb : ∀ x : Str, x ≠ "__name__" → mb x = bootBuiltins x) (lim : s.heap.NoLimit) (gn : s.gens = #[]) (hT : s.heap.get? Pt = some tab0) (nT : K.lookup Pt = none) (C : PySem.W.CodeHd s.heap c Pt)
    (bm : ∃ (bm : Addr) (ob : Obj), mg "__builtins__" = some (.ref bm) ∧ bm ≠ builtinsNs ∧ s.heap.get? bm = some ob ∧ ob.cls = .type "module" ∧ ob.dict = some builtinsNs ∧ ob.data = .plain)
    (ha : s.heap.get? a = some { cls := .type "list", data := .seq vs.toArray }) (hi : IntsAre vs ns) (hl : ns.length ≤ sizeLine) (run : RunAt P w K mg fa c Pt) :
    codeAny (model P w) callerA (.call (.ref fa) ⟨[.ref a], []⟩) (fun r s' => r = .ok (.ret (.bool true)) ∧ OldK s.heap s'.heap ∧ s'.os = s.os ∧ AllBare s'.gens) s := by
  have aT : a ≠ Pt := fun z => by
    rw [z, hT] at ha
    cases ha
  -- what is tracked is no dict, no code, no module
  have hid : ∀ {b : Addr} {o : Obj}, s.heap.get? b = some o → (∀ xs n, o.data ≠ .seq xs n) → o.data ≠ .fields #[] → (hidT s.heap (H0 K a Pt vs ns)).get? b = some o := fun {b o} z n1 n2 => by
    refine hidT_get z ?_
    rcases h0_cases (K := K) (a := a) (Pt := Pt) (b := b) (vs := vs) (ns := ns) with ⟨y, _⟩ | ⟨_, y, _⟩ | ⟨_, _, y⟩
    · rw [y, hT] at z
      cases z
      exact absurd rfl n2
    · rw [y, ha] at z
      cases z
      exact absurd rfl (n1 _ _)
    · exact y
  have hidN : ∀ {b : Addr} {m : Str → Option Value}, s.heap.Ns b m → (hidT s.heap (H0 K a Pt vs ns)).Ns b m := fun {b m} ⟨o, es, ep, z, d, more⟩ => ⟨o, es, ep, hid z (fun xs n y => by rw [d] at y; cases y) (fun y => by rw [d] at y; cases y), d, more⟩
  have hidK : K.In (hidT s.heap (H0 K a Pt vs ns)) := fun b o z => hidT_get (KX b o z) (by
    rcases h0_cases (K := K) (a := a) (Pt := Pt) (b := b) (vs := vs) (ns := ns) with ⟨y, _⟩ | ⟨_, y, k, _⟩ | ⟨_, _, y⟩
    · rw [y, nT] at z
      cases z
    · rw [y, k] at z
      cases z
    · exact y)
  have hok : HOk P w (H0 K a Pt vs ns) s.heap := fun b o z => by
    rcases h0_cases (K := K) (a := a) (Pt := Pt) (b := b) (vs := vs) (ns := ns) with ⟨y, k⟩ | ⟨_, y, _, k⟩ | ⟨_, _, k⟩
    · rw [k] at z
      cases z
      rw [y]
      exact hT
    · rw [k] at z
      cases z
      rw [y]
      exact ⟨ha, by rw [List.length_map]; exact hl, vs, _, vals_ints hi, ha⟩
    · rw [k] at z
      cases z
  have md : L2.Mod K mg (hidT s.heap (H0 K a Pt vs ns)) := ⟨hidK, hidN nG, ⟨mb, hidN nB, bb⟩, let ⟨mc, y, z⟩ := lim; ⟨mc, hidN y, z⟩⟩
  have tb : LamX.TabB (hidT s.heap (H0 K a Pt vs ns)) mg c Pt := by
    refine ⟨?_, ?_, fun z => ?_⟩
    · obtain ⟨o, us, file, tf, flags, tg, inF, text, tt, y, r1, r2, r3, more⟩ := C
      refine ⟨o, us, file, tf, flags, tg, inF, text, tt, hid y (fun xs n z => by rw [r2] at z; cases z) (fun z => ?_), r1, r2, r3, more⟩
      rw [r2] at z
      cases z
      simp at r3
    · obtain ⟨b, ob, b1, b2, b3, b4, b5, b6⟩ := bm
      refine ⟨b, ob, b1, b2, fun z => ?_, fun z => ?_, hid b3 (fun xs n y => by rw [b6] at y; cases y) (fun y => by rw [b6] at y; cases y), b4, b5, b6⟩
      · obtain ⟨o, es, ep, y, d, _⟩ := nG
        rw [z, y] at b3
        cases b3
        rw [d] at b6
        cases b6
      · rw [z, hT] at b3
        cases b3
        cases b6
    · obtain ⟨o, es, ep, y, d, _⟩ := nG
      rw [z, hT] at y
      cases y
      cases d
  have e0 : Env0 P w K mg (hidT s.heap (H0 K a Pt vs ns)) callerA [] s (H0 K a Pt vs ns) := ⟨rfl, md, fun b o z => of_hidT z, Nat.le_of_eq (hidT_size _ _), trivial, fun b hb => absurd (show b ∈ ([] : List Addr) from hb) List.not_mem_nil, hok, .of_eq gn⟩
  have sq : SqL K (H0 K a Pt vs ns) a (ns.map V.int) := by
    cases k : K.lookup a with
    | some o =>
      have y := KX a o k
      rw [ha] at y
      cases y
      exact .inr ⟨_, vs.toArray, _, k, rfl, rfl, rfl, by rw [List.size_toArray, hi.length]; exact hl, by simpa using vals_ints hi⟩
    | none => exact .inl (.inr ⟨_, by unfold H0; rw [if_neg aT, if_pos ⟨rfl, k⟩]⟩)
  have hP : H0 K a Pt vs ns Pt = some (.tbl #[]) := if_pos rfl
  refine codeAny_mono (run _ s _ a ns tb e0 hP sq) fun r s' h => ?_
  match r, h with
  | .error e, h => exact h.elim
  | .ok .next, h => exact h.elim
  | .ok .brk, h => exact h.elim
  | .ok .cont, h => exact h.elim
  | .ok (.ret u), h =>
    obtain ⟨v, H', os, bare, un, hok', rv, rfl⟩ := h
    obtain rfl : u = Value.bool true := rv
    obtain ⟨more, tP⟩ := un.tbls Pt #[] hP
    have tP := hok' Pt _ tP
    have same : ∀ b o, b ≠ Pt → s.heap.get? b = some o → s'.heap.get? b = some o := fun b o nb z => by
      rcases h0_cases (K := K) (a := a) (Pt := Pt) (b := b) (vs := vs) (ns := ns) with ⟨y, _⟩ | ⟨_, y, _, k⟩ | ⟨_, _, k⟩
      · exact absurd y nb
      · obtain ⟨g, _⟩ := hok' b _ (un.frzs b _ _ k)
        rw [y, ha] at z
        cases z
        exact g
      · exact un.keep b o z k (fun y => List.not_mem_nil (show b ∈ ([] : List Addr) from y)) List.not_mem_nil
    refine ⟨rfl, ⟨fun b o z => ?_, fun b o z => ?_⟩, os, bare⟩
    · by_cases nb : b = Pt
      · subst nb
        rw [hT] at z
        cases z
        exact .inr (.inl ⟨(C.tab hT).isCodeTable, rfl, #[], more, rfl, by rw [Array.empty_append]; rw [Array.empty_append] at tP; exact tP⟩)
      · exact .inl (same b o nb z)
    · by_cases nb : b = Pt
      · exact ⟨_, by rw [nb]; exact tP⟩
      · exact ⟨o, same b o nb z⟩
/-- the walk, told law's run at the start -/
theorem walk_end {l : PySem.W.OpenLaw} {n : Nat} {q : Program} {loose : List Str} {XP : (Str → Option Value) → Heap → Prop} {YP : World → Heap → Prop} {d : DefRec} (hn : l.most = some n) (hn2 : n ≤ sizeLine) (hdf : d.params.defaults = [])
    (F : ∀ (w : World) (mg : Str → Option Value) (fa : Addr) (h : Heap), YP w h → h.Ns mainGlobals mg → mg d.name = some (.ref fa) → ∃ (K : PySem.W.Frag) (c Pt : Addr), K.In h ∧ h.get? Pt = some tab0 ∧ K.lookup Pt = none ∧ PySem.W.CodeHd h c Pt ∧ RunAt l.prog w K mg fa c Pt) :
    PySem.W.WalkO q loose XP YP l.row.toRowW d [] (fun f vs => PySem.call f vs) :=
  Att.attach_callB hn hdf fun w s₀ s mg mb fa o pm cd doc a vs ns G Y ho hd hcd hmg hobj hints hlen hbits hg =>
    let ⟨_, _, _, KX, hT, nT, C, run⟩ := F w mg fa _ Y G.T.g hmg
    law_end KX G.T.g G.T.b G.T.builtins G.T.nolimit hg hT nT C G.T.bmain hobj hints (Nat.le_trans hlen hn2) run
end Lf
end

section
set_option maxRecDepth 100000
set_option maxHeartbeats 4000000
/-! What the head tells: Bools over the written part, and what they give. -/
namespace Lf
open PySem PySem.Spec PyProof.Rows L2
theorem fun_ofD {K : PySem.W.Frag} {x qual : Str} {st : Stmt} {f : Addr} {fd : FuncData} (F : FunD K x qual (defArgs st) (defBody st) (defScope st) [] [] f fd) : Fun K x qual st f fd := by
  obtain ⟨oc, od, dV, kV, doc, pm, an, cdv, ct, osl, rfl, lk, hcd, hD, _⟩ := F.ex
  rcases hD with ⟨_, rfl⟩ | ⟨e, _⟩
  · exact ⟨⟨oc, od, kV, doc, pm, an, cdv, ct, osl, rfl, lk, hcd⟩, F.kp⟩
  · exact absurd rfl e
/-- keywords alone -/
theorem fun_kb {K : PySem.W.Frag} {x qual : Str} {st : Stmt} {f : Addr} {fd : FuncData} {ps ks : List Str} {g : {α : Type} → List α → List α → List α} (F : Fun K x qual st f fd)
    (hrel : ∀ {vs : List V} {us : List Value} {zs : List V} {ws : List Value}, Vals vs us → Vals zs ws → Vals (g vs zs) (g us ws))
    (h : ∀ (kV doc pm : Value) (an : Option Addr) (cdv ct : Value) (us ws : List Value), (g us ws).length = ps.length → bindArgs (PySem.W.fnOf x qual (defArgs st) (defBody st) (defScope st) .none kV doc pm an cdv ct) ⟨us, ks.zip ws⟩ = pure (ps.zip (g us ws))) : KBinds K fd ps ks g g := by
  obtain ⟨oc, od, kV, doc, pm, an, cdv, ct, osl, rfl, lk, hcd⟩ := F.ex
  exact ⟨fun s us ws _ hl => .of_eq (h kV doc pm an cdv ct us ws hl), hrel⟩
theorem row_rel {vs : List V} {us : List Value} {zs : List V} {ws : List Value} (h : Vals vs us) (k : Vals zs ws) : Vals (gRow vs zs) (gRow us ws) := by
  cases h with
  | nil => exact k
  | cons _ _ => exact .nil
theorem tsn_rel {vs : List V} {us : List Value} {zs : List V} {ws : List Value} (h : Vals vs us) (k : Vals zs ws) : Vals (gTsn vs zs) (gTsn us ws) := by
  cases h with
  | cons _ _ => exact .nil
  | nil =>
    cases k with
    | nil => exact .nil
    | cons a k =>
      cases k with
      | nil => exact .nil
      | cons b k =>
        cases k with
        | nil => exact .nil
        | cons c k =>
          cases k with
          | nil => exact .cons c (.cons a (.cons b .nil))
          | cons _ _ => exact .nil
/-! ### own exceptions -/
def clsB (K : PySem.W.Frag) (C : Addr) : Bool := match K.lookup C with
  | some ⟨.type c, _, .cls cd, sl⟩ => (match cd.mro, sl.toList with
    | [.ref C', .ref D, .type e1, .type e2, .type e3], [_, _, _, _, some (.builtin n), _] => decide (c = "type") && (decide (C' = C) && (decide (n = "Exception.__new__") && (!cd.hasDel && (cd.hasDict && (decide (e1 = "Exception") && (decide (e2 = "BaseException") && (decide (e3 = "object") &&
        He.eqO (PySem.W.alongIn K "__init__" (.ref D :: ESX.exTail)) (some (some (.builtin "Exception.__init__")))))))))) 
    | _, _ => false)
  | _ => false
theorem clsB_ok {K : PySem.W.Frag} {C : Addr} (h : clsB K C = true) : ∃ (D : Addr) (nm q : Str) (N : Addr) (bs : List Value) (sn : List Str) (sub : List Value) (ab : Bool) (col : Option Bool) (dd : Option Addr) (k0 k1 k2 k3 k5 : Option Value), K.lookup C = some (excClassObj nm q C N bs (.ref D :: ESX.exTail) true sn sub ab col dd k0 k1 k2 k3 k5 "Exception.__new__") ∧
    PySem.W.alongIn K "__init__" (.ref D :: ESX.exTail) = some (some (.builtin "Exception.__init__")) := by
  unfold clsB at h
  split at h
  · rename_i c dd cd sl ho
    split at h
    · rename_i C' D e1 e2 e3 k0 k1 k2 k3 n k5 hm hs
      simp only [Bool.and_eq_true, decide_eq_true_eq, Bool.not_eq_true'] at h
      obtain ⟨rfl, rfl, rfl, hdel, hd, rfl, rfl, rfl, al⟩ := h
      obtain ⟨nm, bs, mro, ns, qn, hd', sn, sub, ab, col, del⟩ := cd
      dsimp only at hm hdel hd
      subst hm hdel hd
      have hsl : sl = #[k0, k1, k2, k3, some (.builtin "Exception.__new__"), k5] := by
        obtain ⟨l⟩ := sl
        simp only at hs
        rw [hs]
      subst hsl
      exact ⟨D, nm, qn, ns, bs, sn, sub, ab, col, dd, k0, k1, k2, k3, k5, ho, He.eqO_ok al⟩
    · cases h
  · cases h
abbrev FnC : Type := Option (Str × Arguments × FuncBody × Scope × Addr × List Str × Value × Addr)
/-- what is seen of the function at f -/
def fnC (K : PySem.W.Frag) (f : Addr) : FnC := match K.lookup f with
  | some ⟨_, _, .func fd, _⟩ => some (fd.name, fd.params, fd.body, fd.scope, fd.globals, fd.closure.map (·.1), fd.defaults, fd.builtins)
  | _ => none
/-- its code object and its cell -/
def iniB (P : Program) (K : PySem.W.Frag) (C f : Addr) : Bool := match K.lookup f with
  | some ⟨_, _, .func fd, _⟩ => (match fd.code, fd.closure with
    | .ref cda, [(_, cc)] => (match K.lookup cda with
      | some ⟨_, _, .fields vs, _⟩ => (match (vs[1]? : Option Value), (vs[2]? : Option Value) with
        | some (.str q _), some (.str file _) => decide (q = fd.qualname) && (P.main.file == file)
        | _, _ => false)
      | _ => false) && (match K.lookup cc with
      | some ⟨_, _, .cell (some (.ref C')), _⟩ => decide (C' = C)
      | _ => false)
    | _, _ => false)
  | _ => false
theorem ini_ok {P : Program} {K : PySem.W.Frag} {C f : Addr} {params : Arguments} {body : List Stmt} {scope : Scope} (e : fnC K f = (some ("__init__", params, .stmts body, scope, mainGlobals, ["__class__"], .none, builtinsNs) : FnC)) (h : iniB P K C f = true) :
    ∃ (cc cda : Addr) (q : Str) (kV doc pm : Value) (an : Option Addr) (ct oc : Value) (od : Option Addr) (osl : Array (Option Value)), K.lookup f = some ⟨oc, od, .func (supFn q params body scope cc cda kV doc pm an ct), osl⟩ ∧
    (∃ (ccl : Value) (cdd : Option Addr) (vs : Array Value) (ccs : Array (Option Value)) (tq tf : Tok) (file : Str), K.lookup cda = some ⟨ccl, cdd, .fields vs, ccs⟩ ∧ vs[1]? = some (.str q tq) ∧ vs[2]? = some (.str file tf) ∧ (P.main.file == file) = true) ∧
    ∃ (cl : Value) (cld : Option Addr) (csl : Array (Option Value)), K.lookup cc = some ⟨cl, cld, .cell (some (.ref C)), csl⟩ := by
  unfold iniB at h
  unfold fnC at e
  split at h
  · rename_i oc od fd osl ho
    rw [ho] at e
    obtain ⟨n1, n2, n3, n4, n5, n6, n7, n8, n9, n10, n11, n12, n13, n14, n15⟩ := fd
    simp only [Option.some.injEq, Prod.mk.injEq] at e
    obtain ⟨rfl, rfl, rfl, rfl, rfl, e7, rfl, rfl⟩ := e
    split at h
    · rename_i cda nm cc hc hcl
      dsimp only at hc hcl
      subst hc hcl
      simp only [List.map_cons, List.map_nil, List.cons.injEq, and_true] at e7
      subst e7
      obtain ⟨h1, h2⟩ := He.ba h
      split at h1
      · rename_i ccl cdd vs ccs hk
        split at h1
        · rename_i q tq file tf v1 v2
          obtain ⟨h3, h4⟩ := He.ba h1
          have h3 : q = _ := of_decide_eq_true h3
          subst h3
          split at h2
          · rename_i cl cld C' csl hcc
            have h5 : C' = C := of_decide_eq_true h2
            subst h5
            exact ⟨cc, cda, _, _, _, _, _, _, oc, od, osl, ho, ⟨ccl, cdd, vs, ccs, tq, tf, file, hk, v1, v2, h4⟩, cl, cld, csl, hcc⟩
          · cases h2
        · cases h1
      · cases h1
    · cases h
  · cases h
/-- the class by the name x, its attribute f -/
def excB (P : Program) (K : PySem.W.Frag) (x f : Str) : Bool :=
  He.eqO (PySem.W.nsIn K mainGlobals x) (some (some (.ref (He.ga K x)))) && (PySem.W.keepIn K (.ref (He.ga K x)) && (clsB K (He.ga K x) && (He.eqO (PySem.W.findIn K (.ref (He.ga K x)) "__setattr__") (some (some (.builtin "object.__setattr__"))) && (He.eqO (PySem.W.findIn K (.ref (He.ga K x)) f) (some none) &&
    (He.eqO (PySem.W.findIn K (.ref (He.ga K x)) "__init__") (some (some (.ref (He.ma K (He.ga K x) "__init__")))) && (decide (PySem.W.typeIn K (.ref (He.ma K (He.ga K x) "__init__")) = some (.type "function")) && (iniB P K (He.ga K x) (He.ma K (He.ga K x) "__init__") &&
      (He.eqO (PySem.W.nsIn K mainGlobals "super") (some none) && (He.eqO (PySem.W.nsIn K cStatics "thirdparty.any") (some none) && (decide (PySem.W.subIn K (.ref (He.ga K x)) (.type "BaseException") = some true) && decide (PySem.W.typeIn K (.ref (He.ga K x)) = some (.type "type"))))))))))))
theorem excB_ok {P : Program} {K : PySem.W.Frag} {h : Heap} {mg : Str → Option Value} {x f a : Str} {q1 q2 p0 p1 p2 p3 p4 p5 p6 p7 p8 p9 : Pos} (X : K.In h) (G : h.Ns mainGlobals mg) (b : excB P K x f = true)
    (e : fnC K (He.ma K (He.ga K x) "__init__") = (some ("__init__", supArgs a q1 q2, .stmts (supBody a f p0 p1 p2 p3 p4 p5 p6 p7 p8 p9), supScope a, mainGlobals, ["__class__"], .none, builtinsNs) : FnC)) (sc : SupCall a p0 p1 p2 p3 p4)
    (top : (P.main.scope.names.lookup ("super" : Str)).isSome = false) : ExcK P K mg x f a (He.ga K x) := by
  unfold excB at b
  obtain ⟨b1, b⟩ := He.ba b
  obtain ⟨b2, b⟩ := He.ba b
  obtain ⟨b3, b⟩ := He.ba b
  obtain ⟨b4, b⟩ := He.ba b
  obtain ⟨b5, b⟩ := He.ba b
  obtain ⟨b6, b⟩ := He.ba b
  obtain ⟨b7, b⟩ := He.ba b
  obtain ⟨b8, b⟩ := He.ba b
  obtain ⟨b9, b⟩ := He.ba b
  obtain ⟨b10, b⟩ := He.ba b
  obtain ⟨b11, b12⟩ := He.ba b
  obtain ⟨cc, cda, q, kV, doc, pm, an, ct, oc, od, osl, l1, l2, l3⟩ := ini_ok e b8
  exact ⟨PySem.W.mg_of X G (He.eqO_ok b1), b2, clsB_ok b3, He.eqO_ok b4, He.eqO_ok b5, ⟨_, cc, cda, q, kV, doc, pm, an, ct, oc, od, osl, q1, q2, p0, p1, p2, p3, p4, p5, p6, p7, p8, p9, He.eqO_ok b6, of_decide_eq_true b7, l1, l2, sc, l3⟩,
    PySem.W.mg_none_of X G (He.eqO_ok b9), He.eqO_ok b10, top, of_decide_eq_true b11, of_decide_eq_true b12⟩
/-- the call of super().__init__ on one line -/
theorem supCall {a : Str} {p0 p1 p2 p3 p4 : Pos} (h : (p2.endLine == p4.line) = true) : SupCall a p0 p1 p2 p3 p4 := by
  refine ⟨do return (← (pure (some false) : Sem (Option Bool))).getD true, fun env => ?_⟩
  have e : ∀ ov : Value, methodCall (.Call (.Name "super" p0) [] [] p1) "__init__" p2 p4 env ov 1 (backTo p4 (starEach [.Name a p3] env)) [] = (do
      let (f, first) ← holding [ov] (getMethod ov "__init__" (do return (← (pure (some false) : Sem (Option Bool))).getD true))
      callWith p4 f first (backTo p4 (starEach [.Name a p3] env)) []) := fun ov => by
    have z := mcall_line (o := .Call (.Name "super" p0) [] [] p1) (m := "__init__") (apos := p2) (pos := p4) (env := env) (ov := ov) (n := 1) (args := backTo p4 (starEach [.Name a p3] env)) (kws := []) rfl h
    have y : plainOf (.Call (.Name "super" p0) [] [] p1) env = (do return (← (pure (some false) : Sem (Option Bool))).getD true) := by
      unfold plainOf importBound
      rfl
    rw [y] at z
    exact z
  show (do
    let ov ← attributeBase (.Call (.Name "super" p0) [] [] p1) "__init__" env (eval (.Call (.Name "super" p0) [] [] p1) env)
    standAt p2.atName
    methodCall (.Call (.Name "super" p0) [] [] p1) "__init__" p2 p4 env ov 1 (backTo p4 (starEach [.Name a p3] env)) []) = _
  simp only [e]
end Lf
end

section
set_option maxRecDepth 100000
set_option maxHeartbeats 4000000
/-! The head's Hook; all defs joined. -/
namespace Lf
open PySem PySem.Spec PyProof.Rows L2
abbrev pwL : Program := PySem.Challenge.pw_leastfield_k55_whole_floors_by_streams
abbrev dD (x : Str) (st : Stmt) : He.DefD := ⟨(x, none), x, x, defArgs st, defBody st, defScope st, [], []⟩
def fnA : List He.DefD := [dD "fraction" s_fraction, dD "plus" s_plus, dD "minus" s_minus, dD "times" s_times, dD "over" s_over, dD "half" s_half, dD "sign_of" s_sign_of, dD "total_of" s_total_of, dD "pairs_of" s_pairs_of, dD "pull_of" s_pull_of, dD "network_energy" s_network_energy, dD "stream_of" s_stream_of, dD "is_strict" s_is_strict, dD "tied_more" s_tied_more, dD "dropped" s_dropped, dD "means_of" s_means_of, dD "settled_by" s_settled_by, dD "settled_worths" s_settled_worths, dD "sources_of" s_sources_of, dD "is_integer" s_is_integer, dD "is_tuple_of" s_is_tuple_of, dD "need_fraction" s_need_fraction, dD "is_fraction" s_is_fraction, dD "is_stream" s_is_stream]
def fnB : List He.DefD := [dD "stream_floor" s_stream_floor, dD "_law_frac" s_law_frac, dD "_law_plus" s_law_plus, dD "_law_less" s_law_less, dD "_law_times" s_law_times, dD "_law_over" s_law_over, dD "_law_is_less" s_law_is_less, dD "_law_any" s_law_any, dD "_law_of" s_law_of, dD "_law_some" s_law_some, dD "_law_deal" s_law_deal, dD "_law_net" s_law_net, dD "_law_strict" s_law_strict, dD "_law_sources" s_law_sources, dD "_law_floor" s_law_floor, dD "_law_is_stream" s_law_is_stream, dD "_law_is_below" s_law_is_below, dD "_law_is_more" s_law_is_more, dD "_law_refused" s_law_refused, dD "_law_round" s_law_round, dD "_law_bent" s_law_bent, dD "law" s_law]
abbrev fnL : List He.DefD := fnA ++ fnB
def faA : List He.Fa := [.glo "fraction", .glo "plus", .glo "minus", .glo "times", .glo "over", .glo "half", .glo "sign_of", .glo "total_of", .glo "pairs_of", .glo "pull_of", .glo "network_energy", .glo "stream_of", .glo "is_strict", .glo "tied_more", .glo "dropped", .glo "means_of", .glo "settled_by", .glo "settled_worths", .glo "sources_of", .glo "is_integer", .glo "is_tuple_of", .glo "need_fraction", .glo "is_fraction", .glo "is_stream"]
def faB : List He.Fa := [.glo "stream_floor", .glo "_law_frac", .glo "_law_plus", .glo "_law_less", .glo "_law_times", .glo "_law_over", .glo "_law_is_less", .glo "_law_any", .glo "_law_of", .glo "_law_some", .glo "_law_deal", .glo "_law_net", .glo "_law_strict", .glo "_law_sources", .glo "_law_floor", .glo "_law_is_stream", .glo "_law_is_below", .glo "_law_is_more", .glo "_law_refused", .glo "_law_round", .glo "_law_bent", .glo "law"]
def faC : List He.Fa := [.free "len", .free "tuple", .free "list", .free "dict", .free "sorted", .free "all", .free "zip", .free "enumerate", .free "range", .free "isinstance", .free "abs", .free "int", .free "bool", .free "repr"]
abbrev faL : List He.Fa := faA ++ (faB ++ faC)
def iniV (i : Nat) : FnC := some ("__init__", defArgs (inClass (topS i) 0), .stmts (defBody (inClass (topS i) 0)), defScope (inClass (topS i) 0), mainGlobals, ["__class__"], .none, builtinsNs)
def exL (K : PySem.W.Frag) : Bool := excB pwL K "InvalidFraction" "at" && (excB pwL K "Refused" "word" && (decide (PySem.W.exmOne K (.ref (He.ga K "InvalidFraction")) (.ref (He.ga K "InvalidFraction")) = some true) && (decide (PySem.W.exmOne K (.ref (He.ga K "Refused")) (.ref (He.ga K "Refused")) = some true) &&
  (xfB K (He.ga K "Refused") && (He.eqO (PySem.W.nsIn K mainGlobals "gcd") (some (some (.builtin "math.gcd"))) && (He.eqO (PySem.W.nsIn K mainGlobals "ZERO") (some (some (.ref (He.ga K "ZERO")))) && He.tupB K "ZERO" [.int 0, .int 1]))))))
abbrev pO : He.Defn := ("pairs_of", none)
/-- the part of the heap that is looked at -/
def kkG (g : Addr → Option Obj) : PySem.W.Frag := He.frT g (cStatics :: He.asD g 4)
abbrev AlL : Type := He.AlD × FnC × FnC × Bool
def obsL (g : Addr → Option Obj) : AlL := (He.obsD faL fnL (kkG g), fnC (kkG g) (He.ma (kkG g) (He.ga (kkG g) "InvalidFraction") "__init__"), fnC (kkG g) (He.ma (kkG g) (He.ga (kkG g) "Refused") "__init__"), exL (kkG g) && He.tabsB g [pO] (kkG g))
def valL : AlL := (He.valD fnL, iniV 3, iniV 5, true)
/-- what the head tells -/
structure SaysL (h : Heap) (K : PySem.W.Frag) : Prop where
  kin : K.In h
  d : He.SaysD faL fnL K
  i1 : fnC K (He.ma K (He.ga K "InvalidFraction") "__init__") = iniV 3
  i2 : fnC K (He.ma K (He.ga K "Refused") "__init__") = iniV 5
  ex : exL K = true
  hd : PySem.W.codeHdIn K (He.cT K pO).1 (He.cT K pO).2 = true
  out : K.lookup (He.cT K pO).2 = none
  empty : h.get? (He.cT K pO).2 = some tab0
theorem says_of {h : Heap} (e : obsL h.get? = valL) : SaysL h (kkG h.get?) := by
  have e1 : He.obsD faL fnL (kkG h.get?) = He.valD fnL := congrArg (fun z : AlL => z.1) e
  have e2 := congrArg (fun z : AlL => z.2.1) e
  have e3 := congrArg (fun z : AlL => z.2.2.1) e
  have e4 : (exL (kkG h.get?) && He.tabsB h.get? [pO] (kkG h.get?)) = true := congrArg (fun z : AlL => z.2.2.2) e
  obtain ⟨h1, h2⟩ := He.ba e4
  obtain ⟨h3, h4⟩ := He.ba (List.all_eq_true.mp h2 pO List.mem_cons_self)
  cases q : h.get? (He.cT (kkG h.get?) pO).2 with
  | none =>
    rw [q] at h4
    cases h4
  | some o =>
    rw [q] at h4
    exact ⟨He.frT_in, e1, e2, e3, h1, h3, He.frT_none q h4, by rw [q, He.emptyTab_eq h4]⟩
def hkL : PySem.W.Hook where
  α := AlL
  obs := fun s => obsL s.heap.get?
  val := fun _ => valL
  says := fun _ h => ∃ K : PySem.W.Frag, SaysL h K
  of := fun _ _ e => ⟨_, says_of e⟩
  keeps := fun _ _ _ ⟨K, c⟩ k => ⟨K, ⟨PySem.W.Frag.In.keeps c.kin k, c.d, c.i1, c.i2, c.ex, c.hd, c.out, k _ _ c.empty⟩⟩
theorem all_run {w : World} {K : PySem.W.Frag} {h : Heap} {mg : Str → Option Value} {fa : Addr} (G : h.Ns mainGlobals mg) (hfa : mg "law" = some (.ref fa)) (c : SaysL h K) : RunAt pwL w K mg fa (He.cT K pO).1 (He.cT K pO).2 := by
  intro base s H a ns TB e0 hP hS
  have X := c.kin
  obtain ⟨x1, x⟩ := He.ba c.ex
  obtain ⟨x2, x⟩ := He.ba x
  obtain ⟨x3, x⟩ := He.ba x
  obtain ⟨x4, x⟩ := He.ba x
  obtain ⟨x5, x⟩ := He.ba x
  obtain ⟨x6, x⟩ := He.ba x
  obtain ⟨x7, x8⟩ := He.ba x
  have kx_IF : ExcK pwL K mg "InvalidFraction" "at" "at" (He.ga K "InvalidFraction") := excB_ok X G x1 c.i1 (supCall (by decide)) (by decide +kernel)
  have kx_RF : ExcK pwL K mg "Refused" "word" "word" (He.ga K "Refused") := excB_ok X G x2 c.i2 (supCall (by decide)) (by decide +kernel)
  have te_IF := of_decide_eq_true x3
  have te_RF := of_decide_eq_true x4
  have xf_RF := xfB_ok x5
  have hno_RF := kx_RF.no
  have m : Mg K mg := ⟨He.free_ok X G (c.d.fact 46 (f := .free "len") rfl), He.free_ok X G (c.d.fact 47 (f := .free "tuple") rfl), He.free_ok X G (c.d.fact 48 (f := .free "list") rfl), He.free_ok X G (c.d.fact 49 (f := .free "dict") rfl), He.free_ok X G (c.d.fact 50 (f := .free "sorted") rfl), He.free_ok X G (c.d.fact 51 (f := .free "all") rfl), He.free_ok X G (c.d.fact 52 (f := .free "zip") rfl), He.free_ok X G (c.d.fact 53 (f := .free "enumerate") rfl), He.free_ok X G (c.d.fact 54 (f := .free "range") rfl), He.free_ok X G (c.d.fact 55 (f := .free "isinstance") rfl), He.free_ok X G (c.d.fact 56 (f := .free "abs") rfl), He.free_ok X G (c.d.fact 57 (f := .free "int") rfl), He.free_ok X G (c.d.fact 58 (f := .free "bool") rfl), He.free_ok X G (c.d.fact 59 (f := .free "repr") rfl), PySem.W.mg_of X G (He.eqO_ok x6), _, PySem.W.mg_of X G (He.eqO_ok x7), fun H => .tup (He.tupB_ok x8 H) (.cons (.int 0) (.cons (.int 1) .nil))⟩
  obtain ⟨fd_fraction, FD_fraction⟩ := c.d.def_ 0 (d := dD "fraction" s_fraction) rfl
  have F_fraction : Fun K "fraction" "fraction" s_fraction (He.ga K "fraction") fd_fraction := fun_ofD FD_fraction
  have g_fraction : mg "fraction" = some (.ref (He.ga K "fraction")) := He.glo_ok X G (c.d.fact 0 (f := .glo "fraction") rfl)
  have b_fraction := F_fraction.binds (ps := ["top", "bottom"]) fun _ _ _ _ _ _ us hl => match us, hl with | [_, _], _ => rfl
  obtain ⟨fd_plus, FD_plus⟩ := c.d.def_ 1 (d := dD "plus" s_plus) rfl
  have F_plus : Fun K "plus" "plus" s_plus (He.ga K "plus") fd_plus := fun_ofD FD_plus
  have g_plus : mg "plus" = some (.ref (He.ga K "plus")) := He.glo_ok X G (c.d.fact 1 (f := .glo "plus") rfl)
  have b_plus := F_plus.binds (ps := ["one", "other"]) fun _ _ _ _ _ _ us hl => match us, hl with | [_, _], _ => rfl
  obtain ⟨fd_minus, FD_minus⟩ := c.d.def_ 2 (d := dD "minus" s_minus) rfl
  have F_minus : Fun K "minus" "minus" s_minus (He.ga K "minus") fd_minus := fun_ofD FD_minus
  have g_minus : mg "minus" = some (.ref (He.ga K "minus")) := He.glo_ok X G (c.d.fact 2 (f := .glo "minus") rfl)
  have b_minus := F_minus.binds (ps := ["one", "other"]) fun _ _ _ _ _ _ us hl => match us, hl with | [_, _], _ => rfl
  obtain ⟨fd_times, FD_times⟩ := c.d.def_ 3 (d := dD "times" s_times) rfl
  have F_times : Fun K "times" "times" s_times (He.ga K "times") fd_times := fun_ofD FD_times
  have g_times : mg "times" = some (.ref (He.ga K "times")) := He.glo_ok X G (c.d.fact 3 (f := .glo "times") rfl)
  have b_times := F_times.binds (ps := ["one", "other"]) fun _ _ _ _ _ _ us hl => match us, hl with | [_, _], _ => rfl
  obtain ⟨fd_over, FD_over⟩ := c.d.def_ 4 (d := dD "over" s_over) rfl
  have F_over : Fun K "over" "over" s_over (He.ga K "over") fd_over := fun_ofD FD_over
  have g_over : mg "over" = some (.ref (He.ga K "over")) := He.glo_ok X G (c.d.fact 4 (f := .glo "over") rfl)
  have b_over := F_over.binds (ps := ["one", "other"]) fun _ _ _ _ _ _ us hl => match us, hl with | [_, _], _ => rfl
  obtain ⟨fd_half, FD_half⟩ := c.d.def_ 5 (d := dD "half" s_half) rfl
  have F_half : Fun K "half" "half" s_half (He.ga K "half") fd_half := fun_ofD FD_half
  have g_half : mg "half" = some (.ref (He.ga K "half")) := He.glo_ok X G (c.d.fact 5 (f := .glo "half") rfl)
  have b_half := F_half.binds (ps := ["one"]) fun _ _ _ _ _ _ us hl => match us, hl with | [_], _ => rfl
  obtain ⟨fd_sign_of, FD_sign_of⟩ := c.d.def_ 6 (d := dD "sign_of" s_sign_of) rfl
  have F_sign_of : Fun K "sign_of" "sign_of" s_sign_of (He.ga K "sign_of") fd_sign_of := fun_ofD FD_sign_of
  have g_sign_of : mg "sign_of" = some (.ref (He.ga K "sign_of")) := He.glo_ok X G (c.d.fact 6 (f := .glo "sign_of") rfl)
  have b_sign_of := F_sign_of.binds (ps := ["one"]) fun _ _ _ _ _ _ us hl => match us, hl with | [_], _ => rfl
  obtain ⟨fd_total_of, FD_total_of⟩ := c.d.def_ 7 (d := dD "total_of" s_total_of) rfl
  have F_total_of : Fun K "total_of" "total_of" s_total_of (He.ga K "total_of") fd_total_of := fun_ofD FD_total_of
  have g_total_of : mg "total_of" = some (.ref (He.ga K "total_of")) := He.glo_ok X G (c.d.fact 7 (f := .glo "total_of") rfl)
  have b_total_of := F_total_of.binds (ps := ["some"]) fun _ _ _ _ _ _ us hl => match us, hl with | [_], _ => rfl
  obtain ⟨fd_pairs_of, FD_pairs_of⟩ := c.d.def_ 8 (d := dD "pairs_of" s_pairs_of) rfl
  have F_pairs_of : Fun K "pairs_of" "pairs_of" s_pairs_of (He.ga K "pairs_of") fd_pairs_of := fun_ofD FD_pairs_of
  have g_pairs_of : mg "pairs_of" = some (.ref (He.ga K "pairs_of")) := He.glo_ok X G (c.d.fact 8 (f := .glo "pairs_of") rfl)
  have b_pairs_of := F_pairs_of.binds (ps := ["network", "point"]) fun _ _ _ _ _ _ us hl => match us, hl with | [_, _], _ => rfl
  obtain ⟨fd_pull_of, FD_pull_of⟩ := c.d.def_ 9 (d := dD "pull_of" s_pull_of) rfl
  have F_pull_of : Fun K "pull_of" "pull_of" s_pull_of (He.ga K "pull_of") fd_pull_of := fun_ofD FD_pull_of
  have g_pull_of : mg "pull_of" = some (.ref (He.ga K "pull_of")) := He.glo_ok X G (c.d.fact 9 (f := .glo "pull_of") rfl)
  have b_pull_of := F_pull_of.binds (ps := ["network", "point"]) fun _ _ _ _ _ _ us hl => match us, hl with | [_, _], _ => rfl
  obtain ⟨fd_network_energy, FD_network_energy⟩ := c.d.def_ 10 (d := dD "network_energy" s_network_energy) rfl
  have F_network_energy : Fun K "network_energy" "network_energy" s_network_energy (He.ga K "network_energy") fd_network_energy := fun_ofD FD_network_energy
  have g_network_energy : mg "network_energy" = some (.ref (He.ga K "network_energy")) := He.glo_ok X G (c.d.fact 10 (f := .glo "network_energy") rfl)
  have b_network_energy := F_network_energy.binds (ps := ["network", "worths"]) fun _ _ _ _ _ _ us hl => match us, hl with | [_, _], _ => rfl
  obtain ⟨fd_stream_of, FD_stream_of⟩ := c.d.def_ 11 (d := dD "stream_of" s_stream_of) rfl
  have F_stream_of : Fun K "stream_of" "stream_of" s_stream_of (He.ga K "stream_of") fd_stream_of := fun_ofD FD_stream_of
  have g_stream_of : mg "stream_of" = some (.ref (He.ga K "stream_of")) := He.glo_ok X G (c.d.fact 11 (f := .glo "stream_of") rfl)
  have b_stream_of := F_stream_of.binds (ps := ["network", "worths"]) fun _ _ _ _ _ _ us hl => match us, hl with | [_, _], _ => rfl
  obtain ⟨fd_is_strict, FD_is_strict⟩ := c.d.def_ 12 (d := dD "is_strict" s_is_strict) rfl
  have F_is_strict : Fun K "is_strict" "is_strict" s_is_strict (He.ga K "is_strict") fd_is_strict := fun_ofD FD_is_strict
  have g_is_strict : mg "is_strict" = some (.ref (He.ga K "is_strict")) := He.glo_ok X G (c.d.fact 12 (f := .glo "is_strict") rfl)
  have b_is_strict := F_is_strict.binds (ps := ["network"]) fun _ _ _ _ _ _ us hl => match us, hl with | [_], _ => rfl
  obtain ⟨fd_tied_more, FD_tied_more⟩ := c.d.def_ 13 (d := dD "tied_more" s_tied_more) rfl
  have F_tied_more : Fun K "tied_more" "tied_more" s_tied_more (He.ga K "tied_more") fd_tied_more := fun_ofD FD_tied_more
  have g_tied_more : mg "tied_more" = some (.ref (He.ga K "tied_more")) := He.glo_ok X G (c.d.fact 13 (f := .glo "tied_more") rfl)
  have b_tied_more := F_tied_more.binds (ps := ["network", "low", "high", "more"]) fun _ _ _ _ _ _ us hl => match us, hl with | [_, _, _, _], _ => rfl
  obtain ⟨fd_dropped, FD_dropped⟩ := c.d.def_ 14 (d := dD "dropped" s_dropped) rfl
  have F_dropped : Fun K "dropped" "dropped" s_dropped (He.ga K "dropped") fd_dropped := fun_ofD FD_dropped
  have g_dropped : mg "dropped" = some (.ref (He.ga K "dropped")) := He.glo_ok X G (c.d.fact 14 (f := .glo "dropped") rfl)
  have b_dropped := F_dropped.binds (ps := ["network", "point"]) fun _ _ _ _ _ _ us hl => match us, hl with | [_, _], _ => rfl
  obtain ⟨fd_means_of, FD_means_of⟩ := c.d.def_ 15 (d := dD "means_of" s_means_of) rfl
  have F_means_of : Fun K "means_of" "means_of" s_means_of (He.ga K "means_of") fd_means_of := fun_ofD FD_means_of
  have g_means_of : mg "means_of" = some (.ref (He.ga K "means_of")) := He.glo_ok X G (c.d.fact 15 (f := .glo "means_of") rfl)
  have b_means_of := F_means_of.binds (ps := ["network", "order"]) fun _ _ _ _ _ _ us hl => match us, hl with | [_, _], _ => rfl
  obtain ⟨fd_settled_by, FD_settled_by⟩ := c.d.def_ 16 (d := dD "settled_by" s_settled_by) rfl
  have F_settled_by : Fun K "settled_by" "settled_by" s_settled_by (He.ga K "settled_by") fd_settled_by := fun_ofD FD_settled_by
  have g_settled_by : mg "settled_by" = some (.ref (He.ga K "settled_by")) := He.glo_ok X G (c.d.fact 16 (f := .glo "settled_by") rfl)
  have b_settled_by := F_settled_by.binds (ps := ["network", "told", "order"]) fun _ _ _ _ _ _ us hl => match us, hl with | [_, _, _], _ => rfl
  obtain ⟨fd_settled_worths, FD_settled_worths⟩ := c.d.def_ 17 (d := dD "settled_worths" s_settled_worths) rfl
  have F_settled_worths : Fun K "settled_worths" "settled_worths" s_settled_worths (He.ga K "settled_worths") fd_settled_worths := fun_ofD FD_settled_worths
  have g_settled_worths : mg "settled_worths" = some (.ref (He.ga K "settled_worths")) := He.glo_ok X G (c.d.fact 17 (f := .glo "settled_worths") rfl)
  have b_settled_worths := F_settled_worths.binds (ps := ["network", "told"]) fun _ _ _ _ _ _ us hl => match us, hl with | [_, _], _ => rfl
  obtain ⟨fd_sources_of, FD_sources_of⟩ := c.d.def_ 18 (d := dD "sources_of" s_sources_of) rfl
  have F_sources_of : Fun K "sources_of" "sources_of" s_sources_of (He.ga K "sources_of") fd_sources_of := fun_ofD FD_sources_of
  have g_sources_of : mg "sources_of" = some (.ref (He.ga K "sources_of")) := He.glo_ok X G (c.d.fact 18 (f := .glo "sources_of") rfl)
  have b_sources_of := F_sources_of.binds (ps := ["network", "stream"]) fun _ _ _ _ _ _ us hl => match us, hl with | [_, _], _ => rfl
  obtain ⟨fd_is_integer, FD_is_integer⟩ := c.d.def_ 19 (d := dD "is_integer" s_is_integer) rfl
  have F_is_integer : Fun K "is_integer" "is_integer" s_is_integer (He.ga K "is_integer") fd_is_integer := fun_ofD FD_is_integer
  have g_is_integer : mg "is_integer" = some (.ref (He.ga K "is_integer")) := He.glo_ok X G (c.d.fact 19 (f := .glo "is_integer") rfl)
  have b_is_integer := F_is_integer.binds (ps := ["value"]) fun _ _ _ _ _ _ us hl => match us, hl with | [_], _ => rfl
  obtain ⟨fd_is_tuple_of, FD_is_tuple_of⟩ := c.d.def_ 20 (d := dD "is_tuple_of" s_is_tuple_of) rfl
  have F_is_tuple_of : Fun K "is_tuple_of" "is_tuple_of" s_is_tuple_of (He.ga K "is_tuple_of") fd_is_tuple_of := fun_ofD FD_is_tuple_of
  have g_is_tuple_of : mg "is_tuple_of" = some (.ref (He.ga K "is_tuple_of")) := He.glo_ok X G (c.d.fact 20 (f := .glo "is_tuple_of") rfl)
  have b_is_tuple_of := F_is_tuple_of.binds (ps := ["value", "size"]) fun _ _ _ _ _ _ us hl => match us, hl with | [_, _], _ => rfl
  obtain ⟨fd_need_fraction, FD_need_fraction⟩ := c.d.def_ 21 (d := dD "need_fraction" s_need_fraction) rfl
  have F_need_fraction : Fun K "need_fraction" "need_fraction" s_need_fraction (He.ga K "need_fraction") fd_need_fraction := fun_ofD FD_need_fraction
  have g_need_fraction : mg "need_fraction" = some (.ref (He.ga K "need_fraction")) := He.glo_ok X G (c.d.fact 21 (f := .glo "need_fraction") rfl)
  have b_need_fraction := F_need_fraction.binds (ps := ["value"]) fun _ _ _ _ _ _ us hl => match us, hl with | [_], _ => rfl
  obtain ⟨fd_is_fraction, FD_is_fraction⟩ := c.d.def_ 22 (d := dD "is_fraction" s_is_fraction) rfl
  have F_is_fraction : Fun K "is_fraction" "is_fraction" s_is_fraction (He.ga K "is_fraction") fd_is_fraction := fun_ofD FD_is_fraction
  have g_is_fraction : mg "is_fraction" = some (.ref (He.ga K "is_fraction")) := He.glo_ok X G (c.d.fact 22 (f := .glo "is_fraction") rfl)
  have b_is_fraction := F_is_fraction.binds (ps := ["value"]) fun _ _ _ _ _ _ us hl => match us, hl with | [_], _ => rfl
  obtain ⟨fd_is_stream, FD_is_stream⟩ := c.d.def_ 23 (d := dD "is_stream" s_is_stream) rfl
  have F_is_stream : Fun K "is_stream" "is_stream" s_is_stream (He.ga K "is_stream") fd_is_stream := fun_ofD FD_is_stream
  have g_is_stream : mg "is_stream" = some (.ref (He.ga K "is_stream")) := He.glo_ok X G (c.d.fact 23 (f := .glo "is_stream") rfl)
  have b_is_stream := F_is_stream.binds (ps := ["network", "told", "value"]) fun _ _ _ _ _ _ us hl => match us, hl with | [_, _, _], _ => rfl
  obtain ⟨fd_stream_floor, FD_stream_floor⟩ := c.d.def_ 24 (d := dD "stream_floor" s_stream_floor) rfl
  have F_stream_floor : Fun K "stream_floor" "stream_floor" s_stream_floor (He.ga K "stream_floor") fd_stream_floor := fun_ofD FD_stream_floor
  have g_stream_floor : mg "stream_floor" = some (.ref (He.ga K "stream_floor")) := He.glo_ok X G (c.d.fact 24 (f := .glo "stream_floor") rfl)
  have b_stream_floor := F_stream_floor.binds (ps := ["network", "told", "stream"]) fun _ _ _ _ _ _ us hl => match us, hl with | [_, _, _], _ => rfl
  obtain ⟨fd_law_frac, FD_law_frac⟩ := c.d.def_ 25 (d := dD "_law_frac" s_law_frac) rfl
  have F_law_frac : Fun K "_law_frac" "_law_frac" s_law_frac (He.ga K "_law_frac") fd_law_frac := fun_ofD FD_law_frac
  have g_law_frac : mg "_law_frac" = some (.ref (He.ga K "_law_frac")) := He.glo_ok X G (c.d.fact 25 (f := .glo "_law_frac") rfl)
  have b_law_frac := F_law_frac.binds (ps := ["_law_top", "_law_bottom"]) fun _ _ _ _ _ _ us hl => match us, hl with | [_, _], _ => rfl
  obtain ⟨fd_law_plus, FD_law_plus⟩ := c.d.def_ 26 (d := dD "_law_plus" s_law_plus) rfl
  have F_law_plus : Fun K "_law_plus" "_law_plus" s_law_plus (He.ga K "_law_plus") fd_law_plus := fun_ofD FD_law_plus
  have g_law_plus : mg "_law_plus" = some (.ref (He.ga K "_law_plus")) := He.glo_ok X G (c.d.fact 26 (f := .glo "_law_plus") rfl)
  have b_law_plus := F_law_plus.binds (ps := ["_law_one", "_law_other"]) fun _ _ _ _ _ _ us hl => match us, hl with | [_, _], _ => rfl
  obtain ⟨fd_law_less, FD_law_less⟩ := c.d.def_ 27 (d := dD "_law_less" s_law_less) rfl
  have F_law_less : Fun K "_law_less" "_law_less" s_law_less (He.ga K "_law_less") fd_law_less := fun_ofD FD_law_less
  have g_law_less : mg "_law_less" = some (.ref (He.ga K "_law_less")) := He.glo_ok X G (c.d.fact 27 (f := .glo "_law_less") rfl)
  have b_law_less := F_law_less.binds (ps := ["_law_one", "_law_other"]) fun _ _ _ _ _ _ us hl => match us, hl with | [_, _], _ => rfl
  obtain ⟨fd_law_times, FD_law_times⟩ := c.d.def_ 28 (d := dD "_law_times" s_law_times) rfl
  have F_law_times : Fun K "_law_times" "_law_times" s_law_times (He.ga K "_law_times") fd_law_times := fun_ofD FD_law_times
  have g_law_times : mg "_law_times" = some (.ref (He.ga K "_law_times")) := He.glo_ok X G (c.d.fact 28 (f := .glo "_law_times") rfl)
  have b_law_times := F_law_times.binds (ps := ["_law_one", "_law_other"]) fun _ _ _ _ _ _ us hl => match us, hl with | [_, _], _ => rfl
  obtain ⟨fd_law_over, FD_law_over⟩ := c.d.def_ 29 (d := dD "_law_over" s_law_over) rfl
  have F_law_over : Fun K "_law_over" "_law_over" s_law_over (He.ga K "_law_over") fd_law_over := fun_ofD FD_law_over
  have g_law_over : mg "_law_over" = some (.ref (He.ga K "_law_over")) := He.glo_ok X G (c.d.fact 29 (f := .glo "_law_over") rfl)
  have b_law_over := F_law_over.binds (ps := ["_law_one", "_law_other"]) fun _ _ _ _ _ _ us hl => match us, hl with | [_, _], _ => rfl
  obtain ⟨fd_law_is_less, FD_law_is_less⟩ := c.d.def_ 30 (d := dD "_law_is_less" s_law_is_less) rfl
  have F_law_is_less : Fun K "_law_is_less" "_law_is_less" s_law_is_less (He.ga K "_law_is_less") fd_law_is_less := fun_ofD FD_law_is_less
  have g_law_is_less : mg "_law_is_less" = some (.ref (He.ga K "_law_is_less")) := He.glo_ok X G (c.d.fact 30 (f := .glo "_law_is_less") rfl)
  have b_law_is_less := F_law_is_less.binds (ps := ["_law_one", "_law_other"]) fun _ _ _ _ _ _ us hl => match us, hl with | [_, _], _ => rfl
  obtain ⟨fd_law_any, FD_law_any⟩ := c.d.def_ 31 (d := dD "_law_any" s_law_any) rfl
  have F_law_any : Fun K "_law_any" "_law_any" s_law_any (He.ga K "_law_any") fd_law_any := fun_ofD FD_law_any
  have g_law_any : mg "_law_any" = some (.ref (He.ga K "_law_any")) := He.glo_ok X G (c.d.fact 31 (f := .glo "_law_any") rfl)
  have b_law_any := F_law_any.binds (ps := ["_law_deal_here", "_law_bound"]) fun _ _ _ _ _ _ us hl => match us, hl with | [_, _], _ => rfl
  obtain ⟨fd_law_of, FD_law_of⟩ := c.d.def_ 32 (d := dD "_law_of" s_law_of) rfl
  have F_law_of : Fun K "_law_of" "_law_of" s_law_of (He.ga K "_law_of") fd_law_of := fun_ofD FD_law_of
  have g_law_of : mg "_law_of" = some (.ref (He.ga K "_law_of")) := He.glo_ok X G (c.d.fact 32 (f := .glo "_law_of") rfl)
  have b_law_of := F_law_of.binds (ps := ["_law_deal_here", "_law_some_here"]) fun _ _ _ _ _ _ us hl => match us, hl with | [_, _], _ => rfl
  obtain ⟨fd_law_some, FD_law_some⟩ := c.d.def_ 33 (d := dD "_law_some" s_law_some) rfl
  have F_law_some : Fun K "_law_some" "_law_some" s_law_some (He.ga K "_law_some") fd_law_some := fun_ofD FD_law_some
  have g_law_some : mg "_law_some" = some (.ref (He.ga K "_law_some")) := He.glo_ok X G (c.d.fact 33 (f := .glo "_law_some") rfl)
  have b_law_some := F_law_some.binds (ps := ["_law_deal_here", "_law_size"]) fun _ _ _ _ _ _ us hl => match us, hl with | [_, _], _ => rfl
  obtain ⟨fd_law_deal, FD_law_deal⟩ := c.d.def_ 34 (d := dD "_law_deal" s_law_deal) rfl
  have F_law_deal : Fun K "_law_deal" "_law_deal" s_law_deal (He.ga K "_law_deal") fd_law_deal := fun_ofD FD_law_deal
  have g_law_deal : mg "_law_deal" = some (.ref (He.ga K "_law_deal")) := He.glo_ok X G (c.d.fact 34 (f := .glo "_law_deal") rfl)
  have b_law_deal := F_law_deal.binds (ps := ["_law_script", "_law_base"]) fun _ _ _ _ _ _ us hl => match us, hl with | [_, _], _ => rfl
  obtain ⟨fd_law_net, FD_law_net⟩ := c.d.def_ 35 (d := dD "_law_net" s_law_net) rfl
  have F_law_net : Fun K "_law_net" "_law_net" s_law_net (He.ga K "_law_net") fd_law_net := fun_ofD FD_law_net
  have g_law_net : mg "_law_net" = some (.ref (He.ga K "_law_net")) := He.glo_ok X G (c.d.fact 35 (f := .glo "_law_net") rfl)
  have b_law_net := F_law_net.binds (ps := ["_law_deal_here", "_law_many", "_law_is_firm"]) fun _ _ _ _ _ _ us hl => match us, hl with | [_, _, _], _ => rfl
  obtain ⟨fd_law_strict, FD_law_strict⟩ := c.d.def_ 36 (d := dD "_law_strict" s_law_strict) rfl
  have F_law_strict : Fun K "_law_strict" "_law_strict" s_law_strict (He.ga K "_law_strict") fd_law_strict := fun_ofD FD_law_strict
  have g_law_strict : mg "_law_strict" = some (.ref (He.ga K "_law_strict")) := He.glo_ok X G (c.d.fact 36 (f := .glo "_law_strict") rfl)
  have b_law_strict := F_law_strict.binds (ps := ["_law_deal_here", "_law_many"]) fun _ _ _ _ _ _ us hl => match us, hl with | [_, _], _ => rfl
  obtain ⟨fd_law_sources, FD_law_sources⟩ := c.d.def_ 37 (d := dD "_law_sources" s_law_sources) rfl
  have F_law_sources : Fun K "_law_sources" "_law_sources" s_law_sources (He.ga K "_law_sources") fd_law_sources := fun_ofD FD_law_sources
  have g_law_sources : mg "_law_sources" = some (.ref (He.ga K "_law_sources")) := He.glo_ok X G (c.d.fact 37 (f := .glo "_law_sources") rfl)
  have b_law_sources := F_law_sources.binds (ps := ["_law_network", "_law_stream"]) fun _ _ _ _ _ _ us hl => match us, hl with | [_, _], _ => rfl
  obtain ⟨fd_law_floor, FD_law_floor⟩ := c.d.def_ 38 (d := dD "_law_floor" s_law_floor) rfl
  have F_law_floor : Fun K "_law_floor" "_law_floor" s_law_floor (He.ga K "_law_floor") fd_law_floor := fun_ofD FD_law_floor
  have g_law_floor : mg "_law_floor" = some (.ref (He.ga K "_law_floor")) := He.glo_ok X G (c.d.fact 38 (f := .glo "_law_floor") rfl)
  have b_law_floor := F_law_floor.binds (ps := ["_law_network", "_law_told", "_law_stream"]) fun _ _ _ _ _ _ us hl => match us, hl with | [_, _, _], _ => rfl
  obtain ⟨fd_law_is_stream, FD_law_is_stream⟩ := c.d.def_ 39 (d := dD "_law_is_stream" s_law_is_stream) rfl
  have F_law_is_stream : Fun K "_law_is_stream" "_law_is_stream" s_law_is_stream (He.ga K "_law_is_stream") fd_law_is_stream := fun_ofD FD_law_is_stream
  have g_law_is_stream : mg "_law_is_stream" = some (.ref (He.ga K "_law_is_stream")) := He.glo_ok X G (c.d.fact 39 (f := .glo "_law_is_stream") rfl)
  have b_law_is_stream := F_law_is_stream.binds (ps := ["_law_network", "_law_told", "_law_value"]) fun _ _ _ _ _ _ us hl => match us, hl with | [_, _, _], _ => rfl
  obtain ⟨fd_law_is_below, FD_law_is_below⟩ := c.d.def_ 40 (d := dD "_law_is_below" s_law_is_below) rfl
  have F_law_is_below : Fun K "_law_is_below" "_law_is_below" s_law_is_below (He.ga K "_law_is_below") fd_law_is_below := fun_ofD FD_law_is_below
  have g_law_is_below : mg "_law_is_below" = some (.ref (He.ga K "_law_is_below")) := He.glo_ok X G (c.d.fact 40 (f := .glo "_law_is_below") rfl)
  have b_law_is_below := F_law_is_below.binds (ps := ["_law_deal_here", "_law_network", "_law_told", "_law_least", "_law_floor_here"]) fun _ _ _ _ _ _ us hl => match us, hl with | [_, _, _, _, _], _ => rfl
  obtain ⟨fd_law_is_more, FD_law_is_more⟩ := c.d.def_ 41 (d := dD "_law_is_more" s_law_is_more) rfl
  have F_law_is_more : Fun K "_law_is_more" "_law_is_more" s_law_is_more (He.ga K "_law_is_more") fd_law_is_more := fun_ofD FD_law_is_more
  have g_law_is_more : mg "_law_is_more" = some (.ref (He.ga K "_law_is_more")) := He.glo_ok X G (c.d.fact 41 (f := .glo "_law_is_more") rfl)
  have b_law_is_more := F_law_is_more.binds (ps := ["_law_deal_here", "_law_network", "_law_told", "_law_least"]) fun _ _ _ _ _ _ us hl => match us, hl with | [_, _, _, _], _ => rfl
  obtain ⟨fd_law_refused, FD_law_refused⟩ := c.d.def_ 42 (d := dD "_law_refused" s_law_refused) rfl
  have F_law_refused : Fun K "_law_refused" "_law_refused" s_law_refused (He.ga K "_law_refused") fd_law_refused := fun_ofD FD_law_refused
  have g_law_refused : mg "_law_refused" = some (.ref (He.ga K "_law_refused")) := He.glo_ok X G (c.d.fact 42 (f := .glo "_law_refused") rfl)
  have b_law_refused := F_law_refused.binds (ps := ["_law_network", "_law_told", "_law_stream"]) fun _ _ _ _ _ _ us hl => match us, hl with | [_, _, _], _ => rfl
  obtain ⟨fd_law_round, FD_law_round⟩ := c.d.def_ 43 (d := dD "_law_round" s_law_round) rfl
  have F_law_round : Fun K "_law_round" "_law_round" s_law_round (He.ga K "_law_round") fd_law_round := fun_ofD FD_law_round
  have g_law_round : mg "_law_round" = some (.ref (He.ga K "_law_round")) := He.glo_ok X G (c.d.fact 43 (f := .glo "_law_round") rfl)
  have b_law_round := F_law_round.binds (ps := ["_law_deal_here", "_law_network", "_law_stream"]) fun _ _ _ _ _ _ us hl => match us, hl with | [_, _, _], _ => rfl
  obtain ⟨fd_law_bent, FD_law_bent⟩ := c.d.def_ 44 (d := dD "_law_bent" s_law_bent) rfl
  have F_law_bent : Fun K "_law_bent" "_law_bent" s_law_bent (He.ga K "_law_bent") fd_law_bent := fun_ofD FD_law_bent
  have g_law_bent : mg "_law_bent" = some (.ref (He.ga K "_law_bent")) := He.glo_ok X G (c.d.fact 44 (f := .glo "_law_bent") rfl)
  have b_law_bent := F_law_bent.binds (ps := ["_law_deal_here", "_law_stream"]) fun _ _ _ _ _ _ us hl => match us, hl with | [_, _], _ => rfl
  obtain ⟨fd_law, FD_law⟩ := c.d.def_ 45 (d := dD "law" s_law) rfl
  have F_law : Fun K "law" "law" s_law (He.ga K "law") fd_law := fun_ofD FD_law
  have g_law : mg "law" = some (.ref (He.ga K "law")) := He.glo_ok X G (c.d.fact 45 (f := .glo "law") rfl)
  have hT : ∀ q ∈ [((He.cT K pO).2, lamQ)], LamX.TabS H q.1 q.2 := fun q hq => by
    rw [List.mem_singleton.mp hq]
    exact LamX.TabS.nil hP
  generalize eT : [((He.cT K pO).2, lamQ)] = T at hT
  have hc : fd_pairs_of.code = .ref (He.cT K pO).1 := by
    obtain ⟨oc, od, kV, doc, pm, an, cdv, ct, osl, rfl, lk, hcd⟩ := F_pairs_of.ex
    obtain ⟨cc, rfl⟩ := He.codeIn_ref hcd
    exact congrArg Value.ref (He.codeOf_eq (K := K) (p := pO) lk rfl).symm
  have o_fraction : FnOk pwL w K mg base CX0 1 (He.ga K "fraction") fd_fraction ["top", "bottom"] (Pur T K pFraction) := ok_fraction F_fraction m
  have c_fraction : Cal pwL w K mg base "fraction" ["top", "bottom"] 1 (Pur T K pFraction) := ⟨⟨_, _, o_fraction, g_fraction, F_fraction.kp, b_fraction⟩⟩
  have o_plus : FnOk pwL w K mg base CX0 2 (He.ga K "plus") fd_plus ["one", "other"] (Pur T K pPlus) := ok_plus F_plus c_fraction
  have c_plus : Cal pwL w K mg base "plus" ["one", "other"] 2 (Pur T K pPlus) := ⟨⟨_, _, o_plus, g_plus, F_plus.kp, b_plus⟩⟩
  have o_minus : FnOk pwL w K mg base CX0 2 (He.ga K "minus") fd_minus ["one", "other"] (Pur T K pMinus) := ok_minus F_minus c_fraction
  have c_minus : Cal pwL w K mg base "minus" ["one", "other"] 2 (Pur T K pMinus) := ⟨⟨_, _, o_minus, g_minus, F_minus.kp, b_minus⟩⟩
  have o_times : FnOk pwL w K mg base CX0 2 (He.ga K "times") fd_times ["one", "other"] (Pur T K pTimes) := ok_times F_times c_fraction
  have c_times : Cal pwL w K mg base "times" ["one", "other"] 2 (Pur T K pTimes) := ⟨⟨_, _, o_times, g_times, F_times.kp, b_times⟩⟩
  have o_over : FnOk pwL w K mg base CX0 2 (He.ga K "over") fd_over ["one", "other"] (Pur T K pOver) := ok_over F_over c_fraction
  have c_over : Cal pwL w K mg base "over" ["one", "other"] 2 (Pur T K pOver) := ⟨⟨_, _, o_over, g_over, F_over.kp, b_over⟩⟩
  have o_half : FnOk pwL w K mg base CX0 2 (He.ga K "half") fd_half ["one"] (Pur T K pHalf) := ok_half F_half c_fraction
  have c_half : Cal pwL w K mg base "half" ["one"] 2 (Pur T K pHalf) := ⟨⟨_, _, o_half, g_half, F_half.kp, b_half⟩⟩
  have o_sign_of : FnOk pwL w K mg base CX0 1 (He.ga K "sign_of") fd_sign_of ["one"] (Pur T K pSign) := ok_sign_of F_sign_of
  have c_sign_of : Cal pwL w K mg base "sign_of" ["one"] 1 (Pur T K pSign) := ⟨⟨_, _, o_sign_of, g_sign_of, F_sign_of.kp, b_sign_of⟩⟩
  have o_total_of : FnOk pwL w K mg base CX0 3 (He.ga K "total_of") fd_total_of ["some"] (spTotal T K) := ok_total_of F_total_of m c_plus
  have c_total_of : Cal pwL w K mg base "total_of" ["some"] 3 (spTotal T K) := ⟨⟨_, _, o_total_of, g_total_of, F_total_of.kp, b_total_of⟩⟩
  have o_pairs_of : FnOk pwL w K mg base CX0 2 (He.ga K "pairs_of") fd_pairs_of ["network", "point"] (Pur T K pNbrs) := ok_pairs_of F_pairs_of hc TB eT.symm m
  have c_pairs_of : Cal pwL w K mg base "pairs_of" ["network", "point"] 2 (Pur T K pNbrs) := ⟨⟨_, _, o_pairs_of, g_pairs_of, F_pairs_of.kp, b_pairs_of⟩⟩
  have o_pull_of : FnOk pwL w K mg base CX0 4 (He.ga K "pull_of") fd_pull_of ["network", "point"] (Pur T K pPull) := ok_pull_of F_pull_of m c_total_of c_pairs_of
  have c_pull_of : Cal pwL w K mg base "pull_of" ["network", "point"] 4 (Pur T K pPull) := ⟨⟨_, _, o_pull_of, g_pull_of, F_pull_of.kp, b_pull_of⟩⟩
  have o_network_energy : FnOk pwL w K mg base CX0 3 (He.ga K "network_energy") fd_network_energy ["network", "worths"] (spEnergy T K) := ok_network_energy F_network_energy m c_minus c_plus c_times c_half
  have c_network_energy : Cal pwL w K mg base "network_energy" ["network", "worths"] 3 (spEnergy T K) := ⟨⟨_, _, o_network_energy, g_network_energy, F_network_energy.kp, b_network_energy⟩⟩
  have ck_network_energy : CalK pwL w K mg base "network_energy" ["network", "worths"] 3 (spEnergy T K) ["network", "worths"] gRow := ⟨⟨_, _, gRow, o_network_energy, g_network_energy, F_network_energy.kp, fun_kb F_network_energy (g := @gRow) row_rel fun _ _ _ _ _ _ us ws hl => match us, ws, hl with | [], [_, _], _ => rfl⟩⟩
  have o_stream_of : FnOk pwL w K mg base CX0 3 (He.ga K "stream_of") fd_stream_of ["network", "worths"] (spStream T K) := ok_stream_of F_stream_of m c_minus c_times
  have c_stream_of : Cal pwL w K mg base "stream_of" ["network", "worths"] 3 (spStream T K) := ⟨⟨_, _, o_stream_of, g_stream_of, F_stream_of.kp, b_stream_of⟩⟩
  have ck_stream_of : CalK pwL w K mg base "stream_of" ["network", "worths"] 3 (spStream T K) ["network", "worths"] gRow := ⟨⟨_, _, gRow, o_stream_of, g_stream_of, F_stream_of.kp, fun_kb F_stream_of (g := @gRow) row_rel fun _ _ _ _ _ _ us ws hl => match us, ws, hl with | [], [_, _], _ => rfl⟩⟩
  have o_is_strict : FnOk pwL w K mg base CX0 2 (He.ga K "is_strict") fd_is_strict ["network"] (Pur T K pStrict) := ok_is_strict F_is_strict m c_sign_of
  have c_is_strict : Cal pwL w K mg base "is_strict" ["network"] 2 (Pur T K pStrict) := ⟨⟨_, _, o_is_strict, g_is_strict, F_is_strict.kp, b_is_strict⟩⟩
  have ck_is_strict : CalK pwL w K mg base "is_strict" ["network"] 2 (Pur T K pStrict) ["network"] gRow := ⟨⟨_, _, gRow, o_is_strict, g_is_strict, F_is_strict.kp, fun_kb F_is_strict (g := @gRow) row_rel fun _ _ _ _ _ _ us ws hl => match us, ws, hl with | [], [_], _ => rfl⟩⟩
  have o_tied_more : FnOk pwL w K mg base CX0 3 (He.ga K "tied_more") fd_tied_more ["network", "low", "high", "more"] (Pur T K pMore) := ok_tied_more F_tied_more m c_plus
  have c_tied_more : Cal pwL w K mg base "tied_more" ["network", "low", "high", "more"] 3 (Pur T K pMore) := ⟨⟨_, _, o_tied_more, g_tied_more, F_tied_more.kp, b_tied_more⟩⟩
  have ck_tied_more : CalK pwL w K mg base "tied_more" ["network", "low", "high", "more"] 3 (Pur T K pMore) ["network", "low", "high", "more"] gRow := ⟨⟨_, _, gRow, o_tied_more, g_tied_more, F_tied_more.kp, fun_kb F_tied_more (g := @gRow) row_rel fun _ _ _ _ _ _ us ws hl => match us, ws, hl with | [], [_, _, _, _], _ => rfl⟩⟩
  have o_dropped : FnOk pwL w K mg base CX0 5 (He.ga K "dropped") fd_dropped ["network", "point"] (Pur T K pDrop) := ok_dropped F_dropped m c_pairs_of c_pull_of c_sign_of c_tied_more c_over c_times
  have c_dropped : Cal pwL w K mg base "dropped" ["network", "point"] 5 (Pur T K pDrop) := ⟨⟨_, _, o_dropped, g_dropped, F_dropped.kp, b_dropped⟩⟩
  have o_means_of : FnOk pwL w K mg base CX0 6 (He.ga K "means_of") fd_means_of ["network", "order"] (spMeans T K) := ok_means_of F_means_of m c_pairs_of c_pull_of c_dropped c_over
  have c_means_of : Cal pwL w K mg base "means_of" ["network", "order"] 6 (spMeans T K) := ⟨⟨_, _, o_means_of, g_means_of, F_means_of.kp, b_means_of⟩⟩
  have o_settled_by : FnOk pwL w K mg base CX0 7 (He.ga K "settled_by") fd_settled_by ["network", "told", "order"] (spSettled T K) := ok_settled_by F_settled_by m c_means_of c_total_of c_times
  have c_settled_by : Cal pwL w K mg base "settled_by" ["network", "told", "order"] 7 (spSettled T K) := ⟨⟨_, _, o_settled_by, g_settled_by, F_settled_by.kp, b_settled_by⟩⟩
  have o_settled_worths : FnOk pwL w K mg base CX0 8 (He.ga K "settled_worths") fd_settled_worths ["network", "told"] (spWorths T K) := ok_settled_worths F_settled_worths m c_settled_by
  have c_settled_worths : Cal pwL w K mg base "settled_worths" ["network", "told"] 8 (spWorths T K) := ⟨⟨_, _, o_settled_worths, g_settled_worths, F_settled_worths.kp, b_settled_worths⟩⟩
  have o_sources_of : FnOk pwL w K mg base CX0 3 (He.ga K "sources_of") fd_sources_of ["network", "stream"] (spSources T K) := ok_sources_of F_sources_of m c_plus c_minus
  have c_sources_of : Cal pwL w K mg base "sources_of" ["network", "stream"] 3 (spSources T K) := ⟨⟨_, _, o_sources_of, g_sources_of, F_sources_of.kp, b_sources_of⟩⟩
  have ck_sources_of : CalK pwL w K mg base "sources_of" ["network", "stream"] 3 (spSources T K) ["network", "stream"] gRow := ⟨⟨_, _, gRow, o_sources_of, g_sources_of, F_sources_of.kp, fun_kb F_sources_of (g := @gRow) row_rel fun _ _ _ _ _ _ us ws hl => match us, ws, hl with | [], [_, _], _ => rfl⟩⟩
  have o_is_integer : FnOk pwL w K mg base CX0 1 (He.ga K "is_integer") fd_is_integer ["value"] (Pur T K pIsInt) := ok_is_integer F_is_integer m
  have c_is_integer : Cal pwL w K mg base "is_integer" ["value"] 1 (Pur T K pIsInt) := ⟨⟨_, _, o_is_integer, g_is_integer, F_is_integer.kp, b_is_integer⟩⟩
  have o_is_tuple_of : FnOk pwL w K mg base CX0 1 (He.ga K "is_tuple_of") fd_is_tuple_of ["value", "size"] (Pur T K pTupOf) := ok_is_tuple_of F_is_tuple_of m
  have c_is_tuple_of : Cal pwL w K mg base "is_tuple_of" ["value", "size"] 1 (Pur T K pTupOf) := ⟨⟨_, _, o_is_tuple_of, g_is_tuple_of, F_is_tuple_of.kp, b_is_tuple_of⟩⟩
  have o_need_fraction : FnOk pwL w K mg base (L2.CX pwL w) 2 (He.ga K "need_fraction") fd_need_fraction ["value"] (spNeed T K (He.ga K "InvalidFraction")) := ok_need_fraction F_need_fraction m kx_IF c_is_tuple_of c_is_integer
  have cx_need_fraction : CalX pwL w K mg base "need_fraction" ["value"] 2 (spNeed T K (He.ga K "InvalidFraction")) := ⟨⟨_, _, o_need_fraction, g_need_fraction, F_need_fraction.kp, b_need_fraction⟩⟩
  have o_is_fraction : FnOk pwL w K mg base CX0 3 (He.ga K "is_fraction") fd_is_fraction ["value"] (Pur T K pIsFrac) := ok_is_fraction F_is_fraction m kx_IF te_IF cx_need_fraction
  have c_is_fraction : Cal pwL w K mg base "is_fraction" ["value"] 3 (Pur T K pIsFrac) := ⟨⟨_, _, o_is_fraction, g_is_fraction, F_is_fraction.kp, b_is_fraction⟩⟩
  have o_is_stream : FnOk pwL w K mg base CX0 4 (He.ga K "is_stream") fd_is_stream ["network", "told", "value"] (spIsStream T K) := ok_is_stream F_is_stream m c_is_fraction c_sources_of
  have c_is_stream : Cal pwL w K mg base "is_stream" ["network", "told", "value"] 4 (spIsStream T K) := ⟨⟨_, _, o_is_stream, g_is_stream, F_is_stream.kp, b_is_stream⟩⟩
  have ck_is_stream : CalK pwL w K mg base "is_stream" ["network", "told", "value"] 4 (spIsStream T K) ["network", "told", "value"] gRow := ⟨⟨_, _, gRow, o_is_stream, g_is_stream, F_is_stream.kp, fun_kb F_is_stream (g := @gRow) row_rel fun _ _ _ _ _ _ us ws hl => match us, ws, hl with | [], [_, _, _], _ => rfl⟩⟩
  have o_stream_floor : FnOk pwL w K mg base CX0 4 (He.ga K "stream_floor") fd_stream_floor ["network", "told", "stream"] (spFloor T K) := ok_stream_floor F_stream_floor m c_is_strict c_sources_of c_plus c_times c_over c_minus c_half c_total_of
  have c_stream_floor : Cal pwL w K mg base "stream_floor" ["network", "told", "stream"] 4 (spFloor T K) := ⟨⟨_, _, o_stream_floor, g_stream_floor, F_stream_floor.kp, b_stream_floor⟩⟩
  have o_stream_floorX : FnOk pwL w K mg base (L2.CX pwL w) 3 (He.ga K "stream_floor") fd_stream_floor ["network", "told", "stream"] (spFloorX T K (He.ga K "Refused")) := ok_stream_floorX F_stream_floor m kx_RF c_is_strict
  have ckx_stream_floor : CalXK pwL w K mg base "stream_floor" ["network", "told", "stream"] 3 (spFloorX T K (He.ga K "Refused")) ["told", "stream", "network"] gTsn := ⟨⟨_, _, gTsn, o_stream_floorX, g_stream_floor, F_stream_floor.kp, fun_kb F_stream_floor (g := @gTsn) tsn_rel fun _ _ _ _ _ _ us ws hl => match us, ws, hl with | [], [_, _, _], _ => rfl⟩⟩
  have o_law_frac : FnOk pwL w K mg base CX0 1 (He.ga K "_law_frac") fd_law_frac ["_law_top", "_law_bottom"] (Pur T K pFraction) := ok_law_frac F_law_frac m
  have c_law_frac : Cal pwL w K mg base "_law_frac" ["_law_top", "_law_bottom"] 1 (Pur T K pFraction) := ⟨⟨_, _, o_law_frac, g_law_frac, F_law_frac.kp, b_law_frac⟩⟩
  have o_law_plus : FnOk pwL w K mg base CX0 2 (He.ga K "_law_plus") fd_law_plus ["_law_one", "_law_other"] (Pur T K pPlus) := ok_law_plus F_law_plus c_law_frac
  have c_law_plus : Cal pwL w K mg base "_law_plus" ["_law_one", "_law_other"] 2 (Pur T K pPlus) := ⟨⟨_, _, o_law_plus, g_law_plus, F_law_plus.kp, b_law_plus⟩⟩
  have o_law_less : FnOk pwL w K mg base CX0 2 (He.ga K "_law_less") fd_law_less ["_law_one", "_law_other"] (Pur T K pMinus) := ok_law_less F_law_less c_law_frac
  have c_law_less : Cal pwL w K mg base "_law_less" ["_law_one", "_law_other"] 2 (Pur T K pMinus) := ⟨⟨_, _, o_law_less, g_law_less, F_law_less.kp, b_law_less⟩⟩
  have o_law_times : FnOk pwL w K mg base CX0 2 (He.ga K "_law_times") fd_law_times ["_law_one", "_law_other"] (Pur T K pTimes) := ok_law_times F_law_times c_law_frac
  have c_law_times : Cal pwL w K mg base "_law_times" ["_law_one", "_law_other"] 2 (Pur T K pTimes) := ⟨⟨_, _, o_law_times, g_law_times, F_law_times.kp, b_law_times⟩⟩
  have o_law_over : FnOk pwL w K mg base CX0 2 (He.ga K "_law_over") fd_law_over ["_law_one", "_law_other"] (Pur T K pOver) := ok_law_over F_law_over c_law_frac
  have c_law_over : Cal pwL w K mg base "_law_over" ["_law_one", "_law_other"] 2 (Pur T K pOver) := ⟨⟨_, _, o_law_over, g_law_over, F_law_over.kp, b_law_over⟩⟩
  have o_law_is_less : FnOk pwL w K mg base CX0 1 (He.ga K "_law_is_less") fd_law_is_less ["_law_one", "_law_other"] (Pur T K pLess) := ok_law_is_less F_law_is_less
  have c_law_is_less : Cal pwL w K mg base "_law_is_less" ["_law_one", "_law_other"] 1 (Pur T K pLess) := ⟨⟨_, _, o_law_is_less, g_law_is_less, F_law_is_less.kp, b_law_is_less⟩⟩
  have o_law_any : FnOk pwL w K mg base CX0 1 (He.ga K "_law_any") fd_law_any ["_law_deal_here", "_law_bound"] (spAny T K) := ok_law_any F_law_any m
  have c_law_any : Cal pwL w K mg base "_law_any" ["_law_deal_here", "_law_bound"] 1 (spAny T K) := ⟨⟨_, _, o_law_any, g_law_any, F_law_any.kp, b_law_any⟩⟩
  have o_law_of : FnOk pwL w K mg base CX0 2 (He.ga K "_law_of") fd_law_of ["_law_deal_here", "_law_some_here"] (spOf T K) := ok_law_of F_law_of m c_law_any
  have c_law_of : Cal pwL w K mg base "_law_of" ["_law_deal_here", "_law_some_here"] 2 (spOf T K) := ⟨⟨_, _, o_law_of, g_law_of, F_law_of.kp, b_law_of⟩⟩
  have o_law_some : FnOk pwL w K mg base CX0 3 (He.ga K "_law_some") fd_law_some ["_law_deal_here", "_law_size"] (spSome T K) := ok_law_some F_law_some m c_law_any c_law_of c_law_frac
  have c_law_some : Cal pwL w K mg base "_law_some" ["_law_deal_here", "_law_size"] 3 (spSome T K) := ⟨⟨_, _, o_law_some, g_law_some, F_law_some.kp, b_law_some⟩⟩
  have o_law_deal : FnOk pwL w K mg base CX0 1 (He.ga K "_law_deal") fd_law_deal ["_law_script", "_law_base"] (spDeal T K) := ok_law_deal F_law_deal m
  have c_law_deal : Cal pwL w K mg base "_law_deal" ["_law_script", "_law_base"] 1 (spDeal T K) := ⟨⟨_, _, o_law_deal, g_law_deal, F_law_deal.kp, b_law_deal⟩⟩
  have o_law_net : FnOk pwL w K mg base CX0 4 (He.ga K "_law_net") fd_law_net ["_law_deal_here", "_law_many", "_law_is_firm"] (spNet T K) := ok_law_net F_law_net m c_law_any c_law_of c_law_some
  have c_law_net : Cal pwL w K mg base "_law_net" ["_law_deal_here", "_law_many", "_law_is_firm"] 4 (spNet T K) := ⟨⟨_, _, o_law_net, g_law_net, F_law_net.kp, b_law_net⟩⟩
  have o_law_strict : FnOk pwL w K mg base CX0 5 (He.ga K "_law_strict") fd_law_strict ["_law_deal_here", "_law_many"] (spStrict T K) := ok_law_strict F_law_strict m c_law_any c_law_net
  have c_law_strict : Cal pwL w K mg base "_law_strict" ["_law_deal_here", "_law_many"] 5 (spStrict T K) := ⟨⟨_, _, o_law_strict, g_law_strict, F_law_strict.kp, b_law_strict⟩⟩
  have o_law_sources : FnOk pwL w K mg base CX0 3 (He.ga K "_law_sources") fd_law_sources ["_law_network", "_law_stream"] (spLSrc T K) := ok_law_sources F_law_sources m c_law_plus c_law_less
  have c_law_sources : Cal pwL w K mg base "_law_sources" ["_law_network", "_law_stream"] 3 (spLSrc T K) := ⟨⟨_, _, o_law_sources, g_law_sources, F_law_sources.kp, b_law_sources⟩⟩
  have o_law_floor : FnOk pwL w K mg base CX0 4 (He.ga K "_law_floor") fd_law_floor ["_law_network", "_law_told", "_law_stream"] (spFloor T K) := ok_law_floor F_law_floor m c_law_sources c_law_plus c_law_less c_law_times c_law_over
  have c_law_floor : Cal pwL w K mg base "_law_floor" ["_law_network", "_law_told", "_law_stream"] 4 (spFloor T K) := ⟨⟨_, _, o_law_floor, g_law_floor, F_law_floor.kp, b_law_floor⟩⟩
  have o_law_is_stream : FnOk pwL w K mg base CX0 4 (He.ga K "_law_is_stream") fd_law_is_stream ["_law_network", "_law_told", "_law_value"] (spLIs T K) := ok_law_is_stream F_law_is_stream m c_law_frac c_law_sources
  have c_law_is_stream : Cal pwL w K mg base "_law_is_stream" ["_law_network", "_law_told", "_law_value"] 4 (spLIs T K) := ⟨⟨_, _, o_law_is_stream, g_law_is_stream, F_law_is_stream.kp, b_law_is_stream⟩⟩
  have o_law_is_below : FnOk pwL w K mg base CX0 4 (He.ga K "_law_is_below") fd_law_is_below ["_law_deal_here", "_law_network", "_law_told", "_law_least", "_law_floor_here"] (spBelow T K) := ok_law_is_below F_law_is_below m c_law_some c_law_is_less c_network_energy
  have c_law_is_below : Cal pwL w K mg base "_law_is_below" ["_law_deal_here", "_law_network", "_law_told", "_law_least", "_law_floor_here"] 4 (spBelow T K) := ⟨⟨_, _, o_law_is_below, g_law_is_below, F_law_is_below.kp, b_law_is_below⟩⟩
  have o_law_is_more : FnOk pwL w K mg base CX0 9 (He.ga K "_law_is_more") fd_law_is_more ["_law_deal_here", "_law_network", "_law_told", "_law_least"] (spIsMore T K) := ok_law_is_more F_law_is_more m c_law_any c_law_frac c_law_is_less c_network_energy c_settled_worths ck_tied_more
  have c_law_is_more : Cal pwL w K mg base "_law_is_more" ["_law_deal_here", "_law_network", "_law_told", "_law_least"] 9 (spIsMore T K) := ⟨⟨_, _, o_law_is_more, g_law_is_more, F_law_is_more.kp, b_law_is_more⟩⟩
  have o_law_refused : FnOk pwL w K mg base CX0 4 (He.ga K "_law_refused") fd_law_refused ["_law_network", "_law_told", "_law_stream"] (spRef T K) := ok_law_refused F_law_refused m kx_RF te_RF xf_RF hno_RF ckx_stream_floor
  have c_law_refused : Cal pwL w K mg base "_law_refused" ["_law_network", "_law_told", "_law_stream"] 4 (spRef T K) := ⟨⟨_, _, o_law_refused, g_law_refused, F_law_refused.kp, b_law_refused⟩⟩
  have o_law_round : FnOk pwL w K mg base CX0 4 (He.ga K "_law_round") fd_law_round ["_law_deal_here", "_law_network", "_law_stream"] (spRound T K) := ok_law_round F_law_round m c_law_of c_law_some c_law_plus
  have c_law_round : Cal pwL w K mg base "_law_round" ["_law_deal_here", "_law_network", "_law_stream"] 4 (spRound T K) := ⟨⟨_, _, o_law_round, g_law_round, F_law_round.kp, b_law_round⟩⟩
  have o_law_bent : FnOk pwL w K mg base CX0 4 (He.ga K "_law_bent") fd_law_bent ["_law_deal_here", "_law_stream"] (spBent T K) := ok_law_bent F_law_bent m c_law_any c_law_of c_law_some c_law_plus
  have c_law_bent : Cal pwL w K mg base "_law_bent" ["_law_deal_here", "_law_stream"] 4 (spBent T K) := ⟨⟨_, _, o_law_bent, g_law_bent, F_law_bent.kp, b_law_bent⟩⟩
  have e := hfa.symm.trans g_law
  cases e
  obtain ⟨oc, od, kV, doc, pm, an, cdv, ct, osl, rfl, lk, hcd⟩ := F_law.ex
  have hr : Room (9 + 1) callerA := ⟨rfl, by decide, by decide⟩
  obtain ⟨t, ht, q⟩ := law_body (P := pwL) (w := w) (K := K) (mg := mg) (base := base) (T := T) (f := He.ga K "law") (fd := PySem.W.fnOf "law" "law" (defArgs s_law) (defBody s_law) (defScope s_law) .none kV doc pm an cdv ct) m c_law_deal c_law_any c_law_some c_law_strict c_settled_worths ck_network_energy ck_stream_of c_law_times c_law_less ck_is_strict c_is_strict c_stream_floor c_law_is_more c_law_round c_law_bent c_law_is_stream ck_is_stream c_law_sources ck_sources_of c_law_floor c_law_is_below c_law_refused cdv [] s H [.ref a] (fun v _ => v = .bl true) (fun _ _ _ => False) (hr.deeper _) ⟨hT, a, ns, rfl, hS, fun _ => rfl⟩
  exact run_atC (us := [.ref a]) (vs := [.ref a]) lk hcd sc_law hr rfl e0 (.of_eq rfl) (.cons (show RelV (.ref a) (.ref a) from rfl) .nil) ht.nox q
end Lf
end

section
set_option maxRecDepth 100000
open PySem PySem.W PyProof.Rows in
set_option maxRecDepth 100000 in
set_option maxHeartbeats 0 in
theorem PySem.Challenge.cw_leastfield_k55_whole_floors_by_streams_holds : PySem.Challenge.rw_leastfield_k55_whole_floors_by_streams.Holds := by
  w_on; o_law; o_head Lf.hkL; (case hw => w_witness2)
  refine Lf.walk_end (l := PySem.Challenge.rw_leastfield_k55_whole_floors_by_streams) (n := 63) rfl (by decide) (by rfl) ?_
  intro w mg fa h Y G hmg
  obtain ⟨K, c⟩ := Y
  exact ⟨K, _, _, c.kin, c.empty, c.out, PySem.W.codeHd_of_K c.kin c.hd, Lf.all_run G hmg c⟩
end
