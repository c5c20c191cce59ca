import PyProof.Rows.All
import Wide.All
import OpenK.AllK
import Wide.FinOn
import HandS.ForMost
import HandS.Wide
import HandS.IsInst
import HandS.Conv
import HandS.Flow
import HandS.Style
import HandS.Walk
import HandS.Evl
import PySem.Challenge.RW_onebrick_k12_one_form_for_each_lattice
set_option Elab.async false
set_option linter.all false
namespace Mine
abbrev Row := List Int
/-- the number at a place, 0 beyond the end -/
def en (r : Row) (j : Nat) : Int := r.getD j 0
theorem en_get {r : Row} {j : Nat} {x : Int} (h : r[j]? = some x) : en r j = x := by simp [en, List.getD, h]
theorem en_lt {r : Row} {j : Nat} (h : j < r.length) : r[j]? = some (en r j) := by simp [en, List.getD, h]
theorem en_ge {r : Row} {j : Nat} (h : r.length ≤ j) : en r j = 0 := by simp [en, List.getD, List.getElem?_eq_none h]
theorem en_ext {r s : Row} (hl : r.length = s.length) (h : ∀ j, j < r.length → en r j = en s j) : r = s := by
  apply List.ext_getElem? ; intro j
  by_cases hj : j < r.length
  · rw [en_lt hj, en_lt (hl ▸ hj), h j hj]
  · rw [List.getElem?_eq_none (by omega), List.getElem?_eq_none (by omega)]
theorem en_map {r : Row} {f : Int → Int} (h0 : f 0 = 0) (j : Nat) : en (r.map f) j = f (en r j) := by
  simp only [en, List.getD, List.getElem?_map]
  cases r[j]? <;> simp [h0]
theorem en_zip {r s : Row} {f : Int → Int → Int} (h0 : f 0 0 = 0) (hl : r.length = s.length) (j : Nat) : en (List.zipWith f r s) j = f (en r j) (en s j) := by
  simp only [en, List.getD, List.getElem?_zipWith]
  by_cases hj : j < r.length
  · rw [List.getElem?_eq_getElem hj, List.getElem?_eq_getElem (hl ▸ hj)]; simp
  · rw [List.getElem?_eq_none (show r.length ≤ j by omega), List.getElem?_eq_none (show s.length ≤ j by omega)]; simp [h0]
theorem en_zero (n j : Nat) : en (List.replicate n 0) j = 0 := by
  simp only [en, List.getD]
  by_cases h : j < n
  · simp [h]
  · simp [h]
theorem en_set {r : Row} {k j : Nat} {x : Int} (hk : k < r.length) : en (r.set k x) j = if j = k then x else en r j := by
  simp only [en, List.getD, List.getElem?_set]
  by_cases h : k = j
  · subst h; simp [hk]
  · have h' : ¬ j = k := fun e => h e.symm
    simp [h, h']

/-! ### lattices: all sums of rows, modulo M (M = 0: exactly) -/
def InL (M : Int) : List Row → (Nat → Int) → Prop
  | [], v => ∀ j, M ∣ v j
  | r :: R, v => ∃ a : Int, InL M R fun j => v j - a * en r j
theorem InL.congr {M : Int} : ∀ {R : List Row} {v w : Nat → Int}, (∀ j, M ∣ v j - w j) → InL M R v → InL M R w
  | [], v, w, h, hv => fun j => by
    have e : w j = v j - (v j - w j) := by omega
    rw [e]; exact Int.dvd_sub (hv j) (h j)
  | r :: R, v, w, h, ⟨a, ha⟩ => ⟨a, InL.congr (fun j => by
      have e : (v j - a * en r j) - (w j - a * en r j) = v j - w j := by omega
      rw [e]; exact h j) ha⟩
theorem InL.eq {M : Int} {R : List Row} {v w : Nat → Int} (h : InL M R v) (e : ∀ j, v j = w j) : InL M R w :=
  h.congr fun j => by rw [e j, Int.sub_self]; exact Int.dvd_zero M
theorem InL.zero {M : Int} : ∀ {R : List Row}, InL M R fun _ => 0
  | [] => fun _ => Int.dvd_zero M
  | r :: R => ⟨0, (InL.zero (R := R)).eq fun j => by simp⟩
theorem InL.add {M : Int} : ∀ {R : List Row} {v w : Nat → Int}, InL M R v → InL M R w → InL M R fun j => v j + w j
  | [], _, _, hv, hw => fun j => Int.dvd_add (hv j) (hw j)
  | r :: R, v, w, ⟨a, ha⟩, ⟨b, hb⟩ => ⟨a + b, (InL.add ha hb).eq fun j => by
      show v j - a * en r j + (w j - b * en r j) = v j + w j - (a + b) * en r j
      rw [Int.add_mul]; omega⟩
theorem InL.smul {M : Int} (k : Int) : ∀ {R : List Row} {v : Nat → Int}, InL M R v → InL M R fun j => k * v j
  | [], _, hv => fun j => Int.dvd_mul_of_dvd_right (hv j)
  | r :: R, v, ⟨a, ha⟩ => ⟨k * a, (InL.smul k ha).eq fun j => by rw [Int.mul_sub, Int.mul_assoc]⟩
theorem InL.sub {M : Int} {R : List Row} {v w : Nat → Int} (hv : InL M R v) (hw : InL M R w) : InL M R fun j => v j - w j :=
  (hv.add (hw.smul (-1))).eq fun j => by omega
theorem InL.cons {M : Int} {r : Row} {R : List Row} {v : Nat → Int} (h : InL M R v) : InL M (r :: R) v := ⟨0, h.eq fun j => by simp⟩
theorem InL.mem {M : Int} : ∀ {R : List Row} {r : Row}, r ∈ R → InL M R (en r)
  | r :: R, s, h => by
    rcases List.mem_cons.mp h with e | h
    · subst e
      exact ⟨1, (InL.zero (R := R)).eq fun j => by omega⟩
    · exact (InL.mem h).cons
theorem InL.trans {M : Int} {R' : List Row} : ∀ {R : List Row} {v : Nat → Int}, (∀ r ∈ R, InL M R' (en r)) → InL M R v → InL M R' v
  | [], v, _, hv => (InL.zero (R := R')).congr fun j => by
    have e : (0 : Int) - v j = -(v j) := by omega
    rw [e]; exact Int.dvd_neg.mpr (hv j)
  | r :: R, v, h, ⟨a, ha⟩ => ((InL.trans (fun s hs => h s (List.mem_cons_of_mem _ hs)) ha).add ((h r (List.mem_cons_self ..)).smul a)).eq fun j => by omega
theorem InL.mono {M : Int} {R R' : List Row} {v : Nat → Int} (h : ∀ r ∈ R, r ∈ R') (hv : InL M R v) : InL M R' v := hv.trans fun r hr => InL.mem (h r hr)
/-- where all rows have 0, all sums have 0 (modulo M) -/
theorem InL.col {M : Int} {j : Nat} : ∀ {R : List Row} {v : Nat → Int}, (∀ r ∈ R, M ∣ en r j) → InL M R v → M ∣ v j
  | [], _, _, hv => hv j
  | r :: R, v, h, ⟨a, ha⟩ => by
    have h1 := InL.col (fun s hs => h s (List.mem_cons_of_mem _ hs)) ha
    have h2 : M ∣ a * en r j := Int.dvd_mul_of_dvd_right (h r (List.mem_cons_self ..))
    have e : v j = (v j - a * en r j) + a * en r j := by omega
    rw [e]; exact Int.dvd_add h1 h2
/-- one lattice -/
def SameL (M : Int) (R R' : List Row) : Prop := (∀ r ∈ R, InL M R' (en r)) ∧ ∀ r ∈ R', InL M R (en r)
theorem SameL.refl {M : Int} {R : List Row} : SameL M R R := ⟨fun _ h => InL.mem h, fun _ h => InL.mem h⟩
theorem SameL.symm {M : Int} {R R' : List Row} (h : SameL M R R') : SameL M R' R := ⟨h.2, h.1⟩
theorem SameL.trans {M : Int} {R R' R'' : List Row} (h : SameL M R R') (h' : SameL M R' R'') : SameL M R R'' := ⟨fun r hr => (h.1 r hr).trans h'.1, fun r hr => (h'.2 r hr).trans h.2⟩
theorem SameL.into {M : Int} {R R' : List Row} {v : Nat → Int} (h : SameL M R R') (hv : InL M R v) : InL M R' v := hv.trans h.1
theorem SameL.of_mem {M : Int} {R R' : List Row} (h : ∀ r, r ∈ R ↔ r ∈ R') : SameL M R R' := ⟨fun r hr => InL.mem ((h r).mp hr), fun r hr => InL.mem ((h r).mpr hr)⟩
theorem SameL.append {M : Int} {A A' B B' : List Row} (h : SameL M A A') (h' : SameL M B B') : SameL M (A ++ B) (A' ++ B') :=
  ⟨fun r hr => (List.mem_append.mp hr).elim (fun z => (h.1 r z).mono fun s hs => List.mem_append_left _ hs) fun z => (h'.1 r z).mono fun s hs => List.mem_append_right _ hs,
   fun r hr => (List.mem_append.mp hr).elim (fun z => (h.2 r z).mono fun s hs => List.mem_append_left _ hs) fun z => (h'.2 r z).mono fun s hs => List.mem_append_right _ hs⟩
/-- rows told otherwise by multiples of M -/
theorem SameL.mods {M : Int} {R : List Row} {f : Row → Row} (h : ∀ r ∈ R, ∀ j, M ∣ en (f r) j - en r j) : SameL M R (R.map f) := by
  refine ⟨fun r hr => ?_, fun r hr => ?_⟩
  · exact (InL.mem (List.mem_map.mpr ⟨r, hr, rfl⟩)).congr (h r hr)
  · obtain ⟨s, hs, rfl⟩ := List.mem_map.mp hr
    exact (InL.mem hs).congr fun j => by
      have e : en s j - en (f s) j = -(en (f s) j - en s j) := by omega
      rw [e]; exact Int.dvd_neg.mpr (h s hs j)

/-! ### echelons -/
/-- pivots rise from lo on, below w; each row begins at its pivot, with a positive number (modulo M: 1) -/
def Ech (M : Int) (w : Nat) (lo : Nat) : List (Nat × Row) → Prop
  | [] => True
  | (p, r) :: L => lo ≤ p ∧ p < w ∧ (∀ j, j < p → en r j = 0) ∧ 0 < en r p ∧ (M ≠ 0 → en r p = 1) ∧ Ech M w (p + 1) L
theorem Ech.all {M : Int} {w : Nat} : ∀ {lo : Nat} {L : List (Nat × Row)}, Ech M w lo L → ∀ x ∈ L, lo ≤ x.1 ∧ x.1 < w ∧ (∀ j, j < x.1 → en x.2 j = 0) ∧ 0 < en x.2 x.1 ∧ (M ≠ 0 → en x.2 x.1 = 1)
  | lo, (p, r) :: L, h, x, hx => by
    obtain ⟨h1, h2, h3, h4, h5, h6⟩ := h
    rcases List.mem_cons.mp hx with e | hx
    · subst e; exact ⟨h1, h2, h3, h4, h5⟩
    · obtain ⟨g1, g2⟩ := h6.all x hx
      exact ⟨by omega, g2⟩
/-- rows with early pivots give nothing to what begins late -/
theorem tri {M : Int} {w c : Nat} {B : List Row} (hB : ∀ r ∈ B, ∀ j, j < c → en r j = 0) : ∀ {lo : Nat} {L : List (Nat × Row)} {v : Nat → Int}, Ech M w lo L → (∀ x ∈ L, x.1 < c) → (∀ j, j < c → M ∣ v j) →
    InL M (L.map (·.2) ++ B) v → InL M B v
  | _, [], _, _, _, _, hv => hv
  | lo, (p, r) :: L, v, hE, hp, hc, ⟨a, ha⟩ => by
    obtain ⟨_, _, h3, h4, h5, h6⟩ := hE
    have hpc : p < c := hp _ (List.mem_cons_self ..)
    have h7 : M ∣ v p - a * en r p := ha.col fun s hs => by
      rcases List.mem_append.mp hs with hs | hs
      · obtain ⟨x, hx, rfl⟩ := List.mem_map.mp hs
        obtain ⟨g1, _, g3, _⟩ := h6.all x hx
        rw [g3 p (by omega)]; exact Int.dvd_zero M
      · rw [hB s hs p hpc]; exact Int.dvd_zero M
    have h8 : M ∣ a * en r p := by
      have e : a * en r p = v p - (v p - a * en r p) := by omega
      rw [e]; exact Int.dvd_sub (hc p hpc) h7
    have h9 : M ∣ a := by
      by_cases hM : M = 0
      · subst hM
        have e : a * en r p = 0 := Int.zero_dvd.mp h8
        rcases Int.mul_eq_zero.mp e with z | z
        · rw [z]; exact Int.dvd_zero _
        · omega
      · rw [h5 hM, Int.mul_one] at h8; exact h8
    have h10 : InL M (L.map (·.2) ++ B) v := ha.congr fun j => by
      have e : v j - a * en r j - v j = -(a * en r j) := by omega
      rw [e]; exact Int.dvd_neg.mpr (Int.dvd_mul_of_dvd_left h9)
    exact tri hB h6 (fun x hx => hp x (List.mem_cons_of_mem _ hx)) hc h10
/-- the pivots below c | from c on -/
def lows (c : Nat) (D : List (Nat × Row)) : List (Nat × Row) := D.filter fun x => decide (x.1 < c)
def highs (c : Nat) (D : List (Nat × Row)) : List (Nat × Row) := D.filter fun x => decide (c ≤ x.1)
theorem Ech.highs_all {M : Int} {w lo : Nat} {L : List (Nat × Row)} (h : Ech M w lo L) {c : Nat} (hc : c ≤ lo) : highs c L = L ∧ lows c L = [] := by
  refine ⟨List.filter_eq_self.mpr fun x hx => ?_, List.filter_eq_nil_iff.mpr fun x hx => ?_⟩
  · have := (h.all x hx).1
    exact decide_eq_true (by omega)
  · have := (h.all x hx).1
    simp; omega
theorem Ech.split {M : Int} {w : Nat} (c : Nat) : ∀ {lo : Nat} {L : List (Nat × Row)}, Ech M w lo L → L = lows c L ++ highs c L ∧ Ech M w lo (lows c L) ∧ Ech M w (max lo c) (highs c L)
  | lo, [], _ => ⟨rfl, True.intro, True.intro⟩
  | lo, (p, r) :: L, h => by
    obtain ⟨h1, h2, h3, h4, h5, h6⟩ := id h
    by_cases hp : p < c
    · obtain ⟨g1, g2, g3⟩ := Ech.split c h6
      have e1 : lows c ((p, r) :: L) = (p, r) :: lows c L := List.filter_cons_of_pos (by simpa using hp)
      have e2 : highs c ((p, r) :: L) = highs c L := List.filter_cons_of_neg (by simp; omega)
      rw [e1, e2]
      refine ⟨by rw [List.cons_append, ← g1], ⟨h1, h2, h3, h4, h5, g2⟩, ?_⟩
      have e3 : max lo c = max (p + 1) c := by omega
      rw [e3]; exact g3
    · have e1 : lows c ((p, r) :: L) = [] := List.filter_eq_nil_iff.mpr fun x hx => by
        rcases List.mem_cons.mp hx with e | hx
        · subst e; simpa using hp
        · have := (h6.all x hx).1
          simp; omega
      have e2 : highs c ((p, r) :: L) = (p, r) :: L := List.filter_eq_self.mpr fun x hx => by
        rcases List.mem_cons.mp hx with e | hx
        · subst e; simp; omega
        · have := (h6.all x hx).1
          simp; omega
      rw [e1, e2]
      exact ⟨rfl, True.intro, by omega, h2, h3, h4, h5, h6⟩
end Mine
set_option Elab.async false
set_option linter.all false
namespace Mine
/-! ### rows less multiples; inverses -/
def lessT (r o : Row) (t M : Int) : Row := if t = 0 then r else if M = 0 then List.zipWith (fun a b => a - t * b) r o else List.zipWith (fun a b => (a - t * b) % M) r o
def Rng (M : Int) (r : Row) : Prop := M ≠ 0 → ∀ j, 0 ≤ en r j ∧ en r j < M
def Md (M : Int) : Prop := M = 0 ∨ M = 2 ∨ M = 3 ∨ M = 5
theorem Md.nonneg {M : Int} (h : Md M) : 0 ≤ M := by rcases h with h | h | h | h <;> omega
theorem Md.pos {M : Int} (h : Md M) (h0 : M ≠ 0) : 2 ≤ M ∧ M ≤ 5 := by rcases h with h | h | h | h <;> omega
theorem mod_dvd (x M : Int) : M ∣ x % M - x := ⟨-(x / M), by have := Int.emod_add_mul_ediv x M; rw [Int.mul_neg]; omega⟩
theorem lessT_len {r o : Row} {t M : Int} (h : r.length = o.length) : (lessT r o t M).length = r.length := by
  unfold lessT
  split
  · rfl
  · split <;> simp [List.length_zipWith, h]
theorem lessT_0 {r o : Row} {t : Int} (h : r.length = o.length) (j : Nat) : en (lessT r o t 0) j = en r j - t * en o j := by
  unfold lessT
  split
  · rename_i e; rw [e]; simp
  · rw [if_pos rfl, en_zip (by simp) h]
theorem lessT_dvd {r o : Row} {t M : Int} (h : r.length = o.length) (j : Nat) : M ∣ en (lessT r o t M) j - (en r j - t * en o j) := by
  unfold lessT
  split
  · rename_i e; rw [e]; simp
  · split
    · rw [en_zip (by simp) h, Int.sub_self]; exact Int.dvd_zero M
    · rw [en_zip (by simp) h]; exact mod_dvd _ M
theorem lessT_M {r o : Row} {t M : Int} (h : r.length = o.length) (hM : M ≠ 0) (hr : Rng M r) (j : Nat) : en (lessT r o t M) j = (en r j - t * en o j) % M := by
  unfold lessT
  split
  · rename_i e
    rw [e, Int.zero_mul, Int.sub_zero]
    obtain ⟨h1, h2⟩ := hr hM j
    exact (Int.emod_eq_of_lt h1 h2).symm
  · rw [en_zip (by simp) h]
theorem lessT_rng {r o : Row} {t M : Int} (h : r.length = o.length) (hm : Md M) (hr : Rng M r) : Rng M (lessT r o t M) := fun hM j => by
  rw [lessT_M h hM hr]
  have := hm.pos hM
  exact ⟨Int.emod_nonneg _ hM, Int.emod_lt_of_pos _ (by omega)⟩
def invGo : Nat → Int → Int → Int → Int → Int → Int
  | 0, _, _, _, b, p => b % p
  | k + 1, h, l, a, b, p => if 1 < l then invGo k l (h - h / l * l) b (a - h / l * b) p else b % p
def inv (n p : Int) : Int := invGo p.toNat p (n % p) 0 1 p
theorem inv_ok {n M : Int} (h : Md M) (hM : M ≠ 0) (h1 : 0 < n) (h2 : n < M) : (n * inv n M) % M = 1 ∧ 0 ≤ inv n M ∧ inv n M < M := by
  rcases h with h | h | h | h
  · exact absurd h hM
  · subst h
    have : n = 1 := by omega
    subst this; decide
  · subst h
    have : n = 1 ∨ n = 2 := by omega
    rcases this with e | e <;> subst e <;> decide
  · subst h
    have : n = 1 ∨ n = 2 ∨ n = 3 ∨ n = 4 := by omega
    rcases this with e | e | e | e <;> subst e <;> decide
def quot (n p M : Int) : Int := if M = 0 then n.fdiv p else (n * inv p M) % M
theorem fdiv_facts (n v : Int) (hv : v ≠ 0) : (0 < v → 0 ≤ n - n.fdiv v * v ∧ n - n.fdiv v * v < v) ∧ (v < 0 → v < n - n.fdiv v * v ∧ n - n.fdiv v * v ≤ 0) := by
  have key : ∀ a b : Int, 0 < b → 0 ≤ a - a / b * b ∧ a - a / b * b < b := fun a b hb => by
    have e : a - a / b * b = a % b := by have := Int.emod_add_mul_ediv a b; rw [Int.mul_comm b] at this; omega
    rw [e]; exact ⟨Int.emod_nonneg _ (by omega), Int.emod_lt_of_pos _ hb⟩
  refine ⟨fun h => ?_, fun h => ?_⟩
  · rw [Int.fdiv_eq_ediv_of_nonneg n (by omega)]
    exact key n v h
  · have e : n.fdiv v = (-n) / (-v) := by
      rw [← Int.fdiv_eq_ediv_of_nonneg (-n) (by omega), Int.neg_fdiv_neg]
    obtain ⟨h1, h2⟩ := key (-n) (-v) (by omega)
    rw [e]
    have e2 : (-n) / (-v) * (-v) = -((-n) / (-v) * v) := Int.mul_neg _ _
    omega
/-- what is left at the pivot's place -/
theorem short_at {r v : Row} {M : Int} {at' w : Nat} (hl : r.length = v.length) (hm : Md M) (hr : Rng M r) (hv : Rng M v) (h0 : en v at' ≠ 0) :
    (M ≠ 0 → en (lessT r v (quot (en r at') (en v at') M) M) at' = 0) ∧ (M = 0 → en (lessT r v (quot (en r at') (en v at') M) M) at' = en r at' - (en r at').fdiv (en v at') * en v at') := by
  refine ⟨fun hM => ?_, fun hM => ?_⟩
  · rw [lessT_M hl hM hr]
    unfold quot; rw [if_neg hM]
    obtain ⟨g1, g2⟩ := hv hM at'
    obtain ⟨i1, _⟩ := inv_ok hm hM (show 0 < en v at' by omega) g2
    have e1 : ((en r at' * inv (en v at') M) % M * en v at') % M = (en r at') % M := by
      rw [Int.mul_emod, Int.emod_emod_of_dvd _ (Int.dvd_refl M), ← Int.mul_emod]
      have e2 : en r at' * inv (en v at') M * en v at' = en r at' * (en v at' * inv (en v at') M) := by
        rw [Int.mul_assoc, Int.mul_comm (inv _ _)]
      rw [e2, Int.mul_emod, i1, Int.mul_one, Int.emod_emod_of_dvd _ (Int.dvd_refl M)]
    rw [Int.sub_emod, e1, Int.sub_self]; rfl
  · subst hM
    rw [lessT_0 hl]
    unfold quot; rw [if_pos rfl]
end Mine
set_option Elab.async false
set_option linter.all false
namespace Mine
/-! ### one pivot -/
def Bnd (m : Nat) (R : List Row) : Prop := ∀ r ∈ R, ∀ j, (en r j).natAbs ≤ m
theorem Bnd.mono {m m' : Nat} {R : List Row} (h : Bnd m R) (l : m ≤ m') : Bnd m' R := fun r hr j => Nat.le_trans (h r hr j) l
theorem Bnd.sub {m : Nat} {R R' : List Row} (h : Bnd m R) (l : ∀ r ∈ R', r ∈ R) : Bnd m R' := fun r hr j => h r (l r hr) j
def shortOf (v : Row) (a : Nat) (M : Int) (r : Row) : Row := lessT r v (quot (en r a) (en v a) M) M
def meas (a : Nat) (busy : List Row) : Nat := (busy.map fun r => (en r a).natAbs).sum
def Sz (B a : Nat) (zeros busy : List Row) : Prop :=
  Bnd B (zeros ++ busy) ∨ ∃ m R : Nat, Bnd m (zeros ++ busy) ∧ m ≤ 6 * B ^ 4 ∧
    (2 ≤ busy.length → ((∀ x ∈ busy, 0 < en x a) ∨ ∀ x ∈ busy, en x a < 0) ∧ (∀ x ∈ busy, (en x a).natAbs ≤ R) ∧ ∃ x ∈ busy, m * R * R * (en x a).natAbs ≤ 3 * B ^ 4)
structure PI (M : Int) (w a B : Nat) (R0 zeros busy : List Row) : Prop where
  same : SameL M R0 (zeros ++ busy)
  len : ∀ r ∈ zeros ++ busy, r.length = w
  z0 : ∀ r ∈ zeros, en r a = 0
  b0 : ∀ r ∈ busy, en r a ≠ 0
  rng : ∀ r ∈ zeros ++ busy, Rng M r
  sz : M = 0 → Sz B a zeros busy
theorem mem_erase {α : Type} {l : List α} {k : Nat} {v x : α} (h : l[k]? = some v) (hx : x ∈ l) : x = v ∨ x ∈ l.eraseIdx k := by
  obtain ⟨hk, e⟩ := List.getElem?_eq_some_iff.mp h
  obtain ⟨i, hi⟩ := List.getElem?_of_mem hx
  by_cases hik : i = k
  · subst hik; rw [h] at hi; exact .inl (Option.some.inj hi).symm
  · refine .inr ?_
    by_cases hlt : i < k
    · exact List.mem_of_getElem? (i := i) (by rw [List.getElem?_eraseIdx, if_pos hlt]; exact hi)
    · refine List.mem_of_getElem? (i := i - 1) ?_
      rw [List.getElem?_eraseIdx, if_neg (by omega), show i - 1 + 1 = i by omega]; exact hi
theorem sum_erase : ∀ {l : List Nat} {k v : Nat}, l[k]? = some v → l.sum = v + (l.eraseIdx k).sum
  | x :: l, 0, v, h => by
    have e : x = v := Option.some.inj h
    subst e; simp
  | x :: l, k + 1, v, h => by
    have ih := sum_erase (l := l) (k := k) (v := v) h
    simp only [List.eraseIdx_cons_succ, List.sum_cons]; omega
theorem map_erase {α β : Type} (f : α → β) : ∀ (l : List α) (k : Nat), (l.map f).eraseIdx k = (l.eraseIdx k).map f
  | [], k => by simp
  | x :: l, 0 => rfl
  | x :: l, k + 1 => by simp only [List.map_cons, List.eraseIdx_cons_succ, map_erase f l k]
theorem sum_filter_le {α : Type} (f : α → Nat) (p : α → Bool) : ∀ l : List α, ((l.filter p).map f).sum ≤ (l.map f).sum
  | [] => by simp
  | x :: l => by
    have ih := sum_filter_le f p l
    by_cases h : p x = true
    · rw [List.filter_cons_of_pos h]; simp only [List.map_cons, List.sum_cons]; omega
    · rw [List.filter_cons_of_neg h]; simp only [List.map_cons, List.sum_cons]; omega
theorem sum_map_lt {α : Type} (f g : α → Nat) : ∀ l : List α, (∀ x ∈ l, f x < g x) → (l.map f).sum + l.length ≤ (l.map g).sum
  | [], _ => by simp
  | x :: l, h => by
    have ih := sum_map_lt f g l fun y hy => h y (List.mem_cons_of_mem _ hy)
    have := h x (List.mem_cons_self ..)
    simp only [List.map_cons, List.sum_cons, List.length_cons]; omega
section
variable {M : Int} {w a B k : Nat} {R0 zeros busy : List Row} {v : Row}
/-- the short rows -/
theorem short_facts (hm : Md M) (P : PI M w a B R0 zeros busy) (hv : v ∈ busy) (hmin : ∀ x ∈ busy, (en v a).natAbs ≤ (en x a).natAbs) {r : Row} (hr : r ∈ busy) :
    (shortOf v a M r).length = w ∧ Rng M (shortOf v a M r) ∧ (en (shortOf v a M r) a).natAbs < (en v a).natAbs ∧ (∃ q : Int, ∀ j, M ∣ en (shortOf v a M r) j - (en r j - q * en v j)) := by
  have lv := P.len v (List.mem_append_right _ hv)
  have lr := P.len r (List.mem_append_right _ hr)
  have hl : r.length = v.length := by rw [lr, lv]
  have rr := P.rng r (List.mem_append_right _ hr)
  have rv := P.rng v (List.mem_append_right _ hv)
  have hne := P.b0 v hv
  refine ⟨(lessT_len hl).trans lr, lessT_rng hl hm rr, ?_, _, fun j => lessT_dvd hl j⟩
  obtain ⟨s1, s2⟩ := short_at (at' := a) (w := w) hl hm rr rv hne
  unfold shortOf
  by_cases hM : M = 0
  · rw [s2 hM]
    obtain ⟨f1, f2⟩ := fdiv_facts (en r a) (en v a) hne
    rcases Int.lt_or_gt_of_ne hne with h | h
    · have := f2 h; omega
    · have := f1 h; omega
  · rw [s1 hM]; omega
/-- what a short row's numbers are, modulus 0 -/
theorem short_size (P : PI M w a B R0 zeros busy) (hM : M = 0) (hv : v ∈ busy) {r : Row} (hr : r ∈ busy) : ∃ q : Int, (∀ j, en (shortOf v a M r) j = en r j - q * en v j) ∧ en (shortOf v a M r) a = en r a - q * en v a ∧
    (q * en v a).natAbs ≤ (en r a).natAbs + (en v a).natAbs ∧ ((0 < en r a ∧ 0 < en v a ∨ en r a < 0 ∧ en v a < 0) → (en v a).natAbs ≤ (en r a).natAbs → (q * en v a).natAbs ≤ (en r a).natAbs ∧ 2 * (en (shortOf v a M r) a).natAbs < (en r a).natAbs) ∧
    ((0 < en v a → 0 ≤ en (shortOf v a M r) a) ∧ (en v a < 0 → en (shortOf v a M r) a ≤ 0)) := by
  subst hM
  have lv := P.len v (List.mem_append_right _ hv)
  have lr := P.len r (List.mem_append_right _ hr)
  have hl : r.length = v.length := by rw [lr, lv]
  have hne := P.b0 v hv
  have e : ∀ j, en (shortOf v a 0 r) j = en r j - (en r a).fdiv (en v a) * en v j := fun j => by
    unfold shortOf quot; rw [if_pos rfl]; exact lessT_0 hl j
  refine ⟨(en r a).fdiv (en v a), e, e a, ?_, ?_, ?_⟩
  all_goals obtain ⟨f1, f2⟩ := fdiv_facts (en r a) (en v a) hne
  all_goals try rw [e a]
  · rcases Int.lt_or_gt_of_ne hne with h | h
    · have := f2 h; omega
    · have := f1 h; omega
  · intro hs hle
    generalize hq : (en r a).fdiv (en v a) = q at *
    rcases hs with ⟨h1, h2⟩ | ⟨h1, h2⟩
    · obtain ⟨g1, g2⟩ := f1 h2
      have hq1 : 1 ≤ q := by
        rcases Int.lt_or_le q 1 with z | z
        · have : q * en v a ≤ 0 := Int.mul_nonpos_of_nonpos_of_nonneg (by omega) (by omega)
          omega
        · exact z
      have hq2 : en v a ≤ q * en v a := by
        have := Int.mul_le_mul_of_nonneg_right hq1 (show 0 ≤ en v a by omega)
        omega
      omega
    · obtain ⟨g1, g2⟩ := f2 h2
      have hq1 : 1 ≤ q := by
        rcases Int.lt_or_le q 1 with z | z
        · have : 0 ≤ q * en v a := Int.mul_nonneg_of_nonpos_of_nonpos (by omega) (by omega)
          omega
        · exact z
      have hq2 : q * en v a ≤ en v a := by
        have := Int.mul_le_mul_of_nonpos_right hq1 (show en v a ≤ 0 by omega)
        omega
      omega
  · refine ⟨fun h => ?_, fun h => ?_⟩
    · exact (f1 h).1
    · exact (f2 h).2
def zerosOf (zeros : List Row) (busy : List Row) (k : Nat) (v : Row) (a : Nat) (M : Int) : List Row := zeros ++ ((busy.eraseIdx k).map (shortOf v a M)).filter fun s => decide (en s a = 0)
def behindOf (busy : List Row) (k : Nat) (v : Row) (a : Nat) (M : Int) : List Row := v :: ((busy.eraseIdx k).map (shortOf v a M)).filter fun s => decide (en s a ≠ 0)
theorem mem_step (hk : busy[k]? = some v) {s : Row} : s ∈ zerosOf zeros busy k v a M ++ behindOf busy k v a M ↔ s ∈ zeros ∨ s = v ∨ ∃ r ∈ busy.eraseIdx k, s = shortOf v a M r := by
  unfold zerosOf behindOf
  simp only [List.mem_append, List.mem_cons, List.mem_filter, List.mem_map, decide_eq_true_eq]
  constructor
  · rintro ((h | ⟨⟨r, hr, rfl⟩, _⟩) | h | ⟨⟨r, hr, rfl⟩, _⟩)
    · exact .inl h
    · exact .inr (.inr ⟨r, hr, rfl⟩)
    · exact .inr (.inl h)
    · exact .inr (.inr ⟨r, hr, rfl⟩)
  · rintro (h | h | ⟨r, hr, rfl⟩)
    · exact .inl (.inl h)
    · exact .inr (.inl h)
    · by_cases z : en (shortOf v a M r) a = 0
      · exact .inl (.inr ⟨⟨r, hr, rfl⟩, z⟩)
      · exact .inr (.inr ⟨⟨r, hr, rfl⟩, z⟩)
theorem PI.step (hm : Md M) (hB : 1 ≤ B) (P : PI M w a B R0 zeros busy) (h2 : 2 ≤ busy.length) (hk : busy[k]? = some v) (hmin : ∀ x ∈ busy, (en v a).natAbs ≤ (en x a).natAbs) :
    PI M w a B R0 (zerosOf zeros busy k v a M) (behindOf busy k v a M) ∧ meas a (behindOf busy k v a M) < meas a busy := by
  have hv : v ∈ busy := List.mem_of_getElem? hk
  have hsub : ∀ r ∈ busy.eraseIdx k, r ∈ busy := fun r hr => List.mem_of_mem_eraseIdx hr
  have hne := P.b0 v hv
  refine ⟨⟨?_, ?_, ?_, ?_, ?_, ?_⟩, ?_⟩
  · -- one lattice
    refine P.same.trans ⟨fun r hr => ?_, fun s hs => ?_⟩
    · have inV : InL M (zerosOf zeros busy k v a M ++ behindOf busy k v a M) (en v) := InL.mem ((mem_step hk).mpr (.inr (.inl rfl)))
      rcases List.mem_append.mp hr with z | hb
      · exact InL.mem ((mem_step hk).mpr (.inl z))
      · rcases mem_erase hk hb with e | he
        · rw [e]; exact inV
        · obtain ⟨_, _, _, q, hq⟩ := short_facts hm P hv hmin hb
          have inS : InL M (zerosOf zeros busy k v a M ++ behindOf busy k v a M) (en (shortOf v a M r)) := InL.mem ((mem_step hk).mpr (.inr (.inr ⟨r, he, rfl⟩)))
          exact (inS.add (inV.smul q)).congr fun j => by
            have e : en (shortOf v a M r) j + q * en v j - en r j = en (shortOf v a M r) j - (en r j - q * en v j) := by omega
            rw [e]; exact hq j
    · rcases (mem_step hk).mp hs with h | h | ⟨r, hr, rfl⟩
      · exact InL.mem (List.mem_append_left _ h)
      · rw [h]; exact InL.mem (List.mem_append_right _ hv)
      · have hb := hsub r hr
        obtain ⟨_, _, _, q, hq⟩ := short_facts hm P hv hmin hb
        have inR : InL M (zeros ++ busy) (en r) := InL.mem (List.mem_append_right _ hb)
        have inV : InL M (zeros ++ busy) (en v) := InL.mem (List.mem_append_right _ hv)
        exact (inR.sub (inV.smul q)).congr fun j => by
          have e : en r j - q * en v j - en (shortOf v a M r) j = -(en (shortOf v a M r) j - (en r j - q * en v j)) := by omega
          rw [e]; exact Int.dvd_neg.mpr (hq j)
  · intro s hs
    rcases (mem_step hk).mp hs with h | h | ⟨r, hr, rfl⟩
    · exact P.len s (List.mem_append_left _ h)
    · rw [h]; exact P.len v (List.mem_append_right _ hv)
    · exact (short_facts hm P hv hmin (hsub r hr)).1
  · intro s hs
    rcases List.mem_append.mp hs with h | h
    · exact P.z0 s h
    · exact of_decide_eq_true (List.mem_filter.mp h).2
  · intro s hs
    rcases List.mem_cons.mp hs with h | h
    · rw [h]; exact hne
    · exact of_decide_eq_true (List.mem_filter.mp h).2
  · intro s hs
    rcases (mem_step hk).mp hs with h | h | ⟨r, hr, rfl⟩
    · exact P.rng s (List.mem_append_left _ h)
    · rw [h]; exact P.rng v (List.mem_append_right _ hv)
    · exact (short_facts hm P hv hmin (hsub r hr)).2.1
  · intro hM
    have hp : 1 ≤ (en v a).natAbs := by omega
    have small : ∀ x ∈ behindOf busy k v a M, (en x a).natAbs ≤ (en v a).natAbs := fun x hx => by
      rcases List.mem_cons.mp hx with h | h
      · rw [h]; exact Nat.le_refl _
      · obtain ⟨r, hr, rfl⟩ := List.mem_map.mp (List.mem_filter.mp h).1
        exact Nat.le_of_lt (short_facts hm P hv hmin (hsub r hr)).2.2.1
    have sgn : (∀ x ∈ behindOf busy k v a M, 0 < en x a) ∨ ∀ x ∈ behindOf busy k v a M, en x a < 0 := by
      rcases Int.lt_or_gt_of_ne hne with h | h
      · refine .inr fun x hx => ?_
        rcases List.mem_cons.mp hx with e | hx
        · rw [e]; exact h
        · have hx2 := of_decide_eq_true (List.mem_filter.mp hx).2
          obtain ⟨r, hr, rfl⟩ := List.mem_map.mp (List.mem_filter.mp hx).1
          obtain ⟨q, _, _, _, _, g⟩ := short_size P hM hv (hsub r hr)
          have := g.2 h; omega
      · refine .inl fun x hx => ?_
        rcases List.mem_cons.mp hx with e | hx
        · rw [e]; exact h
        · have hx2 := of_decide_eq_true (List.mem_filter.mp hx).2
          obtain ⟨r, hr, rfl⟩ := List.mem_map.mp (List.mem_filter.mp hx).1
          obtain ⟨q, _, _, _, _, g⟩ := short_size P hM hv (hsub r hr)
          have := g.1 h; omega
    have ex : 2 ≤ (behindOf busy k v a M).length → ∃ r ∈ busy.eraseIdx k, shortOf v a M r ∈ behindOf busy k v a M := fun hl => by
      unfold behindOf at hl ⊢
      rw [List.length_cons] at hl
      obtain ⟨x, hx⟩ := List.exists_mem_of_length_pos (show 0 < (((busy.eraseIdx k).map (shortOf v a M)).filter fun s => decide (en s a ≠ 0)).length by omega)
      obtain ⟨r, hr, rfl⟩ := List.mem_map.mp (List.mem_filter.mp hx).1
      exact ⟨r, hr, List.mem_cons_of_mem _ hx⟩
    have b4 : B ^ 4 = B * B * (B * B) := by rw [show (4 : Nat) = 2 + 2 from rfl, Nat.pow_add, Nat.pow_two]
    have hBB : 1 ≤ B * B := Nat.mul_pos hB hB
    have hB4 : B * B ≤ B ^ 4 := by rw [b4]; exact Nat.le_mul_of_pos_right _ hBB
    have hBl : B ≤ B * B := Nat.le_mul_of_pos_right _ hB
    rcases P.sz hM with hb | ⟨m, R, hb, hm6, hrest⟩
    · -- the first turn
      refine .inr ⟨3 * (B * B) / (en v a).natAbs, (en v a).natAbs, fun s hs j => ?_, ?_, fun hl => ⟨sgn, small, ?_⟩⟩
      · have hpB : (en v a).natAbs ≤ B := hb v (List.mem_append_right _ hv) a
        have base : ∀ y : Nat, y ≤ B → y ≤ 3 * (B * B) / (en v a).natAbs := fun y hy => (Nat.le_div_iff_mul_le hp).mpr (by
          have := Nat.mul_le_mul hy hpB; omega)
        rcases (mem_step hk).mp hs with h | h | ⟨r, hr, rfl⟩
        · exact base _ (hb s (List.mem_append_left _ h) j)
        · rw [h]; exact base _ (hb v (List.mem_append_right _ hv) j)
        · obtain ⟨q, e, _, hq, _⟩ := short_size P hM hv (hsub r hr)
          refine (Nat.le_div_iff_mul_le hp).mpr ?_
          have h1 := hb r (List.mem_append_right _ (hsub r hr)) j
          have h1a := hb r (List.mem_append_right _ (hsub r hr)) a
          have h3 := hb v (List.mem_append_right _ hv) j
          rw [e j]
          have h4 : (en r j - q * en v j).natAbs ≤ (en r j).natAbs + q.natAbs * (en v j).natAbs := by
            have := Int.natAbs_sub_le (en r j) (q * en v j)
            rwa [Int.natAbs_mul] at this
          rw [Int.natAbs_mul] at hq
          have h5 := Nat.mul_le_mul_right (en v a).natAbs h4
          have h6 : ((en r j).natAbs + q.natAbs * (en v j).natAbs) * (en v a).natAbs = (en r j).natAbs * (en v a).natAbs + (q.natAbs * (en v a).natAbs) * (en v j).natAbs := by
            rw [Nat.add_mul, Nat.mul_right_comm]
          have h7 : (en r j).natAbs * (en v a).natAbs ≤ B * B := Nat.mul_le_mul h1 hpB
          have h8 : (q.natAbs * (en v a).natAbs) * (en v j).natAbs ≤ (B + B) * B := Nat.mul_le_mul (by omega) h3
          rw [Nat.add_mul] at h8
          omega
      · have := Nat.div_le_self (3 * (B * B)) (en v a).natAbs
        omega
      · obtain ⟨r, hr, hx⟩ := ex hl
        refine ⟨_, hx, ?_⟩
        have h1 : 3 * (B * B) / (en v a).natAbs * (en v a).natAbs ≤ 3 * (B * B) := Nat.div_mul_le_self _ _
        have h3 : (en (shortOf v a M r) a).natAbs ≤ (en v a).natAbs := small _ hx
        have h4 : (en v a).natAbs ≤ B := hb v (List.mem_append_right _ hv) a
        have h5 : (en v a).natAbs * (en (shortOf v a M r) a).natAbs ≤ B * B := Nat.mul_le_mul h4 (Nat.le_trans h3 h4)
        have h6 := Nat.mul_le_mul h1 h5
        rw [Nat.mul_assoc (3 * (B * B) / (en v a).natAbs * (en v a).natAbs), b4]
        rw [Nat.mul_assoc 3] at h6
        exact h6
    · -- the later turns
      obtain ⟨sg, hR, x0, hx0, hx⟩ := hrest h2
      have hpR : (en v a).natAbs ≤ R := hR v hv
      have hp0 := hmin x0 hx0
      have same : ∀ r ∈ busy, (0 < en r a ∧ 0 < en v a ∨ en r a < 0 ∧ en v a < 0) := fun r hr => by
        rcases sg with sg | sg
        · exact .inl ⟨sg r hr, sg v hv⟩
        · exact .inr ⟨sg r hr, sg v hv⟩
      refine .inr ⟨2 * m * R / (en v a).natAbs, (en v a).natAbs, fun s hs j => ?_, ?_, fun hl => ⟨sgn, small, ?_⟩⟩
      · have base : ∀ y : Nat, y ≤ m → y ≤ 2 * m * R / (en v a).natAbs := fun y hy => (Nat.le_div_iff_mul_le hp).mpr (by
          have := Nat.mul_le_mul hy hpR
          rw [Nat.mul_assoc]; omega)
        rcases (mem_step hk).mp hs with h | h | ⟨r, hr, rfl⟩
        · exact base _ (hb s (List.mem_append_left _ h) j)
        · rw [h]; exact base _ (hb v (List.mem_append_right _ hv) j)
        · obtain ⟨q, e, _, _, hq, _⟩ := short_size P hM hv (hsub r hr)
          obtain ⟨hq, _⟩ := hq (same r (hsub r hr)) (hmin r (hsub r hr))
          refine (Nat.le_div_iff_mul_le hp).mpr ?_
          have h1 := hb r (List.mem_append_right _ (hsub r hr)) j
          have h1a := hR r (hsub r hr)
          have h3 := hb v (List.mem_append_right _ hv) j
          rw [e j]
          have h4 : (en r j - q * en v j).natAbs ≤ (en r j).natAbs + q.natAbs * (en v j).natAbs := by
            have := Int.natAbs_sub_le (en r j) (q * en v j)
            rwa [Int.natAbs_mul] at this
          rw [Int.natAbs_mul] at hq
          have h5 := Nat.mul_le_mul_right (en v a).natAbs h4
          have h6 : ((en r j).natAbs + q.natAbs * (en v j).natAbs) * (en v a).natAbs = (en r j).natAbs * (en v a).natAbs + (q.natAbs * (en v a).natAbs) * (en v j).natAbs := by
            rw [Nat.add_mul, Nat.mul_right_comm]
          have h7 : (en r j).natAbs * (en v a).natAbs ≤ m * R := Nat.mul_le_mul h1 hpR
          have h8 : (q.natAbs * (en v a).natAbs) * (en v j).natAbs ≤ R * m := Nat.mul_le_mul (by omega) h3
          rw [Nat.mul_comm R m] at h8
          rw [Nat.mul_assoc]
          omega
      · have g1 := Nat.div_le_self (2 * m * R) (en v a).natAbs
        have hR1 : 1 ≤ R := Nat.le_trans hp hpR
        have hx1 : 1 ≤ (en x0 a).natAbs := Nat.le_trans hp hp0
        have g2 : m * R ≤ m * R * R * (en x0 a).natAbs := by
          rw [Nat.mul_assoc (m * R)]
          exact Nat.le_mul_of_pos_right _ (Nat.mul_pos hR1 hx1)
        rw [Nat.mul_assoc] at g1
        rw [Nat.mul_assoc]
        omega
      · obtain ⟨r, hr, hx'⟩ := ex hl
        refine ⟨_, hx', ?_⟩
        obtain ⟨q, _, _, _, hq, _⟩ := short_size P hM hv (hsub r hr)
        obtain ⟨_, hq⟩ := hq (same r (hsub r hr)) (hmin r (hsub r hr))
        have hrR := hR r (hsub r hr)
        have h1 : 2 * m * R / (en v a).natAbs * (en v a).natAbs ≤ 2 * m * R := Nat.div_mul_le_self _ _
        have h5 : 2 * ((en v a).natAbs * (en (shortOf v a M r) a).natAbs) ≤ (en v a).natAbs * R := by
          rw [Nat.mul_left_comm]; exact Nat.mul_le_mul_left _ (by omega)
        have h6 : 2 * m * R / (en v a).natAbs * (en v a).natAbs * ((en v a).natAbs * (en (shortOf v a M r) a).natAbs) ≤ 2 * m * R * ((en v a).natAbs * (en (shortOf v a M r) a).natAbs) := Nat.mul_le_mul_right _ h1
        have h7 : 2 * m * R * ((en v a).natAbs * (en (shortOf v a M r) a).natAbs) = m * R * (2 * ((en v a).natAbs * (en (shortOf v a M r) a).natAbs)) := by
          rw [Nat.mul_assoc 2, Nat.mul_assoc 2, Nat.mul_left_comm]
        have h8 : m * R * (2 * ((en v a).natAbs * (en (shortOf v a M r) a).natAbs)) ≤ m * R * ((en v a).natAbs * R) := Nat.mul_le_mul_left _ h5
        have h9 : m * R * ((en v a).natAbs * R) ≤ m * R * ((en x0 a).natAbs * R) := Nat.mul_le_mul_left _ (Nat.mul_le_mul_right _ hp0)
        have h10 : m * R * ((en x0 a).natAbs * R) = m * R * R * (en x0 a).natAbs := by rw [Nat.mul_comm (en x0 a).natAbs, Nat.mul_assoc (m * R)]
        rw [Nat.mul_assoc (2 * m * R / (en v a).natAbs * (en v a).natAbs)]
        omega
  · -- the measure
    unfold meas behindOf
    have e1 : (busy.map fun r => (en r a).natAbs).sum = (en v a).natAbs + ((busy.eraseIdx k).map fun r => (en r a).natAbs).sum := by
      rw [← map_erase]; exact sum_erase (by rw [List.getElem?_map, hk]; rfl)
    have hlen : (busy.eraseIdx k).length = busy.length - 1 := by
      rw [List.length_eraseIdx, if_pos (List.getElem?_eq_some_iff.mp hk).1]
    have g1 := sum_filter_le (fun r => (en r a).natAbs) (fun s => decide (en s a ≠ 0)) ((busy.eraseIdx k).map (shortOf v a M))
    have g2 := sum_map_lt (fun r => (en (shortOf v a M r) a).natAbs) (fun r => (en r a).natAbs) (busy.eraseIdx k) fun r hr =>
      Nat.lt_of_lt_of_le (short_facts hm P hv hmin (hsub r hr)).2.2.1 (hmin r (hsub r hr))
    rw [List.map_map] at g1
    have e2 : ((fun r => (en r a).natAbs) ∘ shortOf v a M) = fun r => (en (shortOf v a M r) a).natAbs := rfl
    rw [e2] at g1
    rw [e1, List.map_cons, List.sum_cons]
    omega
end
end Mine
set_option Elab.async false
set_option linter.all false
namespace Mine
/-! ### the pivot that is handed back -/
def normP (v : Row) (a : Nat) (M : Int) : Row := if M ≠ 0 then v.map (fun x => x * inv (en v a) M % M) else if en v a < 0 then v.map (fun x => 0 - x) else v
structure PPost (M : Int) (w a B : Nat) (R0 zs : List Row) (pv : Option Row) : Prop where
  same : SameL M R0 (zs ++ pv.toList)
  len : ∀ r ∈ zs ++ pv.toList, r.length = w
  z0 : ∀ r ∈ zs, en r a = 0
  pos : ∀ v, pv = some v → 0 < en v a ∧ (M ≠ 0 → en v a = 1)
  rng : ∀ r ∈ zs ++ pv.toList, Rng M r
  bnd : M = 0 → Bnd (6 * B ^ 4) (zs ++ pv.toList)
theorem Bnd6 {B : Nat} (hB : 1 ≤ B) : B ≤ 6 * B ^ 4 := by
  have b4 : B ^ 4 = B * (B * B * B) := by rw [show (4 : Nat) = 1 + 3 from rfl, Nat.pow_add, Nat.pow_one, show (3 : Nat) = 2 + 1 from rfl, Nat.pow_add, Nat.pow_two, Nat.pow_one]
  have : B ≤ B ^ 4 := by rw [b4]; exact Nat.le_mul_of_pos_right _ (Nat.mul_pos (Nat.mul_pos hB hB) hB)
  omega
theorem Sz.bnd {B a : Nat} {zeros busy : List Row} (hB : 1 ≤ B) (h : Sz B a zeros busy) : Bnd (6 * B ^ 4) (zeros ++ busy) := by
  rcases h with h | ⟨m, R, h, hm, _⟩
  · exact h.mono (Bnd6 hB)
  · exact h.mono hm
theorem PI.none {M : Int} {w a B : Nat} {R0 zeros : List Row} (hB : 1 ≤ B) (P : PI M w a B R0 zeros []) : PPost M w a B R0 zeros none :=
  ⟨P.same, P.len, P.z0, fun _ h => (nomatch h), P.rng, fun h => (P.sz h).bnd hB⟩
theorem PI.one {M : Int} {w a B : Nat} {R0 zeros : List Row} {v : Row} (hm : Md M) (hB : 1 ≤ B) (P : PI M w a B R0 zeros [v]) : PPost M w a B R0 zeros (some (normP v a M)) := by
  have hne := P.b0 v (List.mem_singleton.mpr rfl)
  have hin : v ∈ zeros ++ [v] := List.mem_append_right _ (List.mem_singleton.mpr rfl)
  have rv := P.rng v hin
  have lv := P.len v hin
  -- what the pivot's numbers are
  have key : (normP v a M).length = w ∧ Rng M (normP v a M) ∧ (0 < en (normP v a M) a ∧ (M ≠ 0 → en (normP v a M) a = 1)) ∧ (∃ q, ∀ j, M ∣ en (normP v a M) j - q * en v j) ∧ (∃ q, ∀ j, M ∣ en v j - q * en (normP v a M) j) ∧ (M = 0 → ∀ j, (en (normP v a M) j).natAbs = (en v j).natAbs) := by
    unfold normP
    by_cases hM : M = 0
    · rw [if_neg (by simpa using hM)]
      subst hM
      by_cases hn : en v a < 0
      · rw [if_pos hn]
        have e : ∀ j, en (v.map fun x => 0 - x) j = 0 - en v j := fun j => en_map (f := fun x => 0 - x) (by simp) j
        refine ⟨by rw [List.length_map]; exact lv, fun h => absurd rfl h, ⟨by rw [e a]; omega, fun h => absurd rfl h⟩, ⟨-1, fun j => ?_⟩, ⟨-1, fun j => ?_⟩, fun _ j => ?_⟩
        · rw [e j, show 0 - en v j - -1 * en v j = 0 by omega]; exact Int.dvd_zero _
        · rw [e j, show en v j - -1 * (0 - en v j) = 0 by omega]; exact Int.dvd_zero _
        · rw [e j]; omega
      · rw [if_neg hn]
        refine ⟨lv, fun h => absurd rfl h, ⟨by omega, fun h => absurd rfl h⟩, ⟨1, fun j => ?_⟩, ⟨1, fun j => ?_⟩, fun _ j => rfl⟩
        all_goals (rw [Int.one_mul, Int.sub_self]; exact Int.dvd_zero _)
    · rw [if_pos hM]
      obtain ⟨g1, g2⟩ := rv hM a
      obtain ⟨i1, i2, i3⟩ := inv_ok hm hM (show 0 < en v a by omega) g2
      have hM2 := hm.pos hM
      have e : ∀ j, en (v.map fun x => x * inv (en v a) M % M) j = en v j * inv (en v a) M % M := fun j => en_map (f := fun x => x * inv (en v a) M % M) (by simp) j
      refine ⟨by rw [List.length_map]; exact lv, fun _ j => ?_, ⟨by rw [e a, i1]; omega, fun _ => by rw [e a]; exact i1⟩, ⟨inv (en v a) M, fun j => ?_⟩, ⟨en v a, fun j => ?_⟩, fun h => absurd h hM⟩
      · rw [e j]; exact ⟨Int.emod_nonneg _ hM, Int.emod_lt_of_pos _ (by omega)⟩
      · rw [e j, Int.mul_comm (inv _ _)]; exact mod_dvd _ M
      · rw [e j]
        -- v j - v_a * ((v j * i) % M)
        have h1 : M ∣ en v a * (en v j * inv (en v a) M % M) - en v a * (en v j * inv (en v a) M) := by
          rw [← Int.mul_sub]; exact Int.dvd_mul_of_dvd_right (mod_dvd _ M)
        have h2 : M ∣ en v a * inv (en v a) M * en v j - en v j := by
          have h3 : M ∣ en v a * inv (en v a) M - 1 := by
            have := mod_dvd (en v a * inv (en v a) M) M
            rw [i1] at this
            have e2 : en v a * inv (en v a) M - 1 = -(1 - en v a * inv (en v a) M) := by omega
            rw [e2]; exact Int.dvd_neg.mpr this
          have e3 : en v a * inv (en v a) M * en v j - en v j = (en v a * inv (en v a) M - 1) * en v j := by rw [Int.sub_mul, Int.one_mul]
          rw [e3]; exact Int.dvd_mul_of_dvd_left h3
        have e4 : en v a * (en v j * inv (en v a) M) = en v a * inv (en v a) M * en v j := by rw [Int.mul_comm (en v j), Int.mul_assoc]
        rw [e4] at h1
        have e5 : en v j - en v a * (en v j * inv (en v a) M % M) = -((en v a * (en v j * inv (en v a) M % M) - en v a * inv (en v a) M * en v j) + (en v a * inv (en v a) M * en v j - en v j)) := by omega
        rw [e5]; exact Int.dvd_neg.mpr (Int.dvd_add h1 h2)
  obtain ⟨k1, k2, k3, ⟨q1, k4⟩, ⟨q2, k5⟩, k6⟩ := key
  have one : SameL M [v] [normP v a M] := by
    refine ⟨fun r hr => ?_, fun r hr => ?_⟩
    · rw [List.mem_singleton.mp hr]
      exact ((InL.mem (List.mem_singleton.mpr rfl)).smul q2).congr fun j => by
        have e : q2 * en (normP v a M) j - en v j = -(en v j - q2 * en (normP v a M) j) := by omega
        rw [e]; exact Int.dvd_neg.mpr (k5 j)
    · rw [List.mem_singleton.mp hr]
      exact ((InL.mem (List.mem_singleton.mpr rfl)).smul q1).congr fun j => by
        have e : q1 * en v j - en (normP v a M) j = -(en (normP v a M) j - q1 * en v j) := by omega
        rw [e]; exact Int.dvd_neg.mpr (k4 j)
  refine ⟨P.same.trans (SameL.append SameL.refl one), fun r hr => ?_, P.z0, fun x hx => ?_, fun r hr => ?_, fun hM => ?_⟩
  · rcases List.mem_append.mp hr with h | h
    · exact P.len r (List.mem_append_left _ h)
    · rw [List.mem_singleton.mp h]; exact k1
  · rw [← Option.some.inj hx]; exact k3
  · rcases List.mem_append.mp hr with h | h
    · exact P.rng r (List.mem_append_left _ h)
    · rw [List.mem_singleton.mp h]; exact k2
  · have hb := (P.sz hM).bnd hB
    intro r hr j
    rcases List.mem_append.mp hr with h | h
    · exact hb r (List.mem_append_left _ h) j
    · rw [List.mem_singleton.mp h, k6 hM j]; exact hb v hin j
theorem PI.start {M : Int} {w a B : Nat} {rows : List Row} (hl : ∀ r ∈ rows, r.length = w) (hr : ∀ r ∈ rows, Rng M r) (hb : M = 0 → Bnd B rows) :
    PI M w a B rows (rows.filter fun r => decide (en r a = 0)) (rows.filter fun r => decide (en r a ≠ 0)) := by
  have hm : ∀ r, r ∈ rows ↔ r ∈ (rows.filter fun r => decide (en r a = 0)) ++ (rows.filter fun r => decide (en r a ≠ 0)) := fun r => by
    simp only [List.mem_append, List.mem_filter, decide_eq_true_eq]
    constructor
    · intro h
      by_cases z : en r a = 0
      · exact .inl ⟨h, z⟩
      · exact .inr ⟨h, z⟩
    · rintro (h | h) <;> exact h.1
  exact ⟨SameL.of_mem hm, fun r h => hl r ((hm r).mpr h), fun r h => of_decide_eq_true (List.mem_filter.mp h).2, fun r h => of_decide_eq_true (List.mem_filter.mp h).2, fun r h => hr r ((hm r).mpr h), fun z => .inl ((hb z).sub fun r h => (hm r).mpr h)⟩

/-! ### the reduced form -/
structure Herm (M : Int) (w : Nat) (D : List (Nat × Row)) : Prop where
  ech : Ech M w 0 D
  len : ∀ x ∈ D, x.2.length = w
  red : D.Pairwise fun x y => 0 ≤ en x.2 y.1 ∧ en x.2 y.1 < en y.2 y.1
  rng : ∀ x ∈ D, Rng M x.2
theorem lows_succ {M : Int} {w : Nat} {D : List (Nat × Row)} (h : Ech M w 0 D) (c : Nat) :
    (∃ d, (c, d) ∈ D ∧ lows (c + 1) D = lows c D ++ [(c, d)] ∧ highs c D = (c, d) :: highs (c + 1) D) ∨ ((∀ x ∈ highs c D, c < x.1) ∧ lows (c + 1) D = lows c D) := by
  obtain ⟨h1, _, h3⟩ := h.split c
  have e1 : lows (c + 1) (lows c D) = lows c D := List.filter_eq_self.mpr fun x hx => by
    have := of_decide_eq_true (List.mem_filter.mp hx).2
    exact decide_eq_true (by omega)
  have e2 : lows (c + 1) D = lows c D ++ lows (c + 1) (highs c D) := by
    conv => lhs; rw [h1]
    unfold lows
    rw [List.filter_append]
    congr 1
  have e3 : highs (c + 1) D = highs (c + 1) (highs c D) := by
    unfold highs
    rw [List.filter_filter]
    congr 1; funext x
    by_cases z : c + 1 ≤ x.1
    · simp [z]; omega
    · simp [z]
  cases hh : highs c D with
  | nil => exact .inr ⟨fun x hx => absurd hx (by simp), by rw [e2, hh]; simp [lows]⟩
  | cons y L =>
    obtain ⟨p, d⟩ := y
    rw [hh] at h3
    obtain ⟨g1, g2, g3, g4, g5, g6⟩ := h3
    by_cases hp : p = c
    · subst hp
      obtain ⟨f1, f2⟩ := g6.highs_all (c := p + 1) (Nat.le_refl _)
      refine .inl ⟨d, ?_, ?_, ?_⟩
      · have : (p, d) ∈ highs p D := by rw [hh]; exact List.mem_cons_self ..
        exact (List.mem_filter.mp this).1
      · rw [e2, hh]
        have : lows (p + 1) ((p, d) :: L) = (p, d) :: lows (p + 1) L := List.filter_cons_of_pos (by simp)
        rw [this, f2]
      · rw [e3, hh]
        have : highs (p + 1) ((p, d) :: L) = highs (p + 1) L := List.filter_cons_of_neg (by simp)
        rw [this, f1]
    · refine .inr ⟨fun x hx => ?_, ?_⟩
      · rcases List.mem_cons.mp hx with e | hx
        · subst e; show c < p; omega
        · have := (g6.all x hx).1; omega
      · rw [e2, hh]
        have : lows (c + 1) ((p, d) :: L) = [] := List.filter_eq_nil_iff.mpr fun x hx => by
          rcases List.mem_cons.mp hx with e | hx
          · subst e; simp; omega
          · have := (g6.all x hx).1; simp; omega
        rw [this, List.append_nil]
/-- what lies in the lattice and begins at c or later | its number at c -/
theorem Herm.at {M : Int} {w : Nat} {D : List (Nat × Row)} (h : Ech M w 0 D) {c : Nat} {v : Nat → Int} (hv : InL M (D.map (·.2)) v) (hz : ∀ j, j < c → M ∣ v j) : InL M ((highs c D).map (·.2)) v := by
  obtain ⟨h1, h2, h3⟩ := h.split c
  rw [h1, List.map_append] at hv
  refine tri (c := c) (fun r hr j hj => ?_) h2 (fun x hx => of_decide_eq_true (List.mem_filter.mp hx).2) hz hv
  obtain ⟨x, hx, rfl⟩ := List.mem_map.mp hr
  obtain ⟨g1, _, g3, _⟩ := h3.all x hx
  exact g3 j (by omega)
theorem Herm.at_no {M : Int} {w : Nat} {D : List (Nat × Row)} (h : Ech M w 0 D) {c : Nat} {v : Nat → Int} (hv : InL M (D.map (·.2)) v) (hz : ∀ j, j < c → M ∣ v j) (hc : ∀ x ∈ highs c D, c < x.1) : M ∣ v c := by
  refine (Herm.at h hv hz).col fun r hr => ?_
  obtain ⟨x, hx, rfl⟩ := List.mem_map.mp hr
  obtain ⟨_, _, g3, _⟩ := (h.split c).2.2.all x hx
  rw [g3 c (hc x hx)]; exact Int.dvd_zero M
theorem Herm.at_yes {M : Int} {w : Nat} {D : List (Nat × Row)} (h : Ech M w 0 D) {c : Nat} {d : Row} {v : Nat → Int} (hv : InL M (D.map (·.2)) v) (hz : ∀ j, j < c → M ∣ v j) (hc : highs c D = (c, d) :: highs (c + 1) D) : ∃ a : Int, M ∣ v c - a * en d c := by
  have h1 := Herm.at h hv hz
  rw [hc] at h1
  obtain ⟨a, ha⟩ := h1
  refine ⟨a, ha.col fun r hr => ?_⟩
  obtain ⟨x, hx, rfl⟩ := List.mem_map.mp hr
  have hx2 := of_decide_eq_true (List.mem_filter.mp hx).2
  obtain ⟨_, _, g3, _⟩ := h.all x (List.mem_filter.mp hx).1
  rw [g3 c (by omega)]; exact Int.dvd_zero M
end Mine
set_option Elab.async false
set_option linter.all false
namespace Mine
/-! ### the columns one by one -/
structure TI (M : Int) (w : Nat) (D : List (Nat × Row)) (c b t : Nat) (told left : List Row) : Prop where
  cnt : told.length = (lows c D).length
  agree : ∀ (i : Nat) (r : Row) (d : Nat × Row), told[i]? = some r → (lows c D)[i]? = some d → ∀ j, j < c → en r j = en d.2 j
  z : ∀ r ∈ left, ∀ j, j < c → en r j = 0
  lenT : ∀ r ∈ told, r.length = w
  lenL : ∀ r ∈ left, r.length = w
  same : SameL M (D.map (·.2)) (told ++ left)
  rngT : ∀ r ∈ told, Rng M r
  rngL : ∀ r ∈ left, Rng M r
  bl : M = 0 → Bnd b left
  bt : M = 0 → Bnd t told
def toldOf (told : List Row) (pv : Option Row) (c : Nat) (M : Int) : List Row := match pv with
  | none => told
  | some v => (told.map fun r => lessT r v (en r c / en v c) M) ++ [v]
theorem TI.start {M : Int} {w : Nat} {D : List (Nat × Row)} {b : Nat} {left : List Row} (h : SameL M (D.map (·.2)) left) (hl : ∀ r ∈ left, r.length = w) (hr : ∀ r ∈ left, Rng M r) (hb : M = 0 → Bnd b left) : TI M w D 0 b 0 [] left := by
  have e : lows 0 D = [] := List.filter_eq_nil_iff.mpr fun x _ => by simp
  refine ⟨by rw [e]; rfl, fun i r d h => by simp at h, fun r _ j hj => absurd hj (Nat.not_lt_zero _), fun r h => absurd h (by simp), hl, h, fun r h => absurd h (by simp), hr, hb, fun _ r h => absurd h (by simp)⟩
theorem range_eq {M x y : Int} (h : M ∣ x - y) (hx : 0 ≤ x ∧ x < M) (hy : 0 ≤ y ∧ y < M) : x = y := by
  obtain ⟨k, hk⟩ := h
  have h1 : k = 0 := by
    rcases Int.lt_trichotomy k 0 with z | z | z
    · have : M * k ≤ M * (-1) := Int.mul_le_mul_of_nonneg_left (by omega) (by omega)
      omega
    · exact z
    · have : M * 1 ≤ M * k := Int.mul_le_mul_of_nonneg_left (by omega) (by omega)
      omega
  rw [h1, Int.mul_zero] at hk; omega
section
variable {M : Int} {w c b t : Nat} {D : List (Nat × Row)} {told left zs : List Row} {pv : Option Row}
/-- two lattice vectors that agree ahead of c differ at c by a multiple of the pivot there -/
theorem TI.ech (hm : Md M) (H : Herm M w D) (T : TI M w D c b t told left) : ∃ L : List (Nat × Row), Ech M w 0 L ∧ (∀ x ∈ L, x.1 < c) ∧ L.map (·.2) = told := by
  have gen : ∀ (P : List (Nat × Row)) (lo : Nat) (S : List Row), Ech M w lo P → (∀ x ∈ P, x.1 < c) → S.length = P.length → (∀ (i : Nat) (r : Row) (d : Nat × Row), S[i]? = some r → P[i]? = some d → ∀ j, j < c → en r j = en d.2 j) →
      ∃ L : List (Nat × Row), Ech M w lo L ∧ (∀ x ∈ L, x.1 < c) ∧ L.map (·.2) = S := by
    intro P
    induction P with
    | nil =>
      intro lo S _ _ hl _
      cases S with
      | nil => exact ⟨[], True.intro, fun x hx => absurd hx (by simp), rfl⟩
      | cons a S => simp at hl
    | cons y P ih =>
      intro lo S hE hc hl ha
      obtain ⟨p, d⟩ := y
      obtain ⟨h1, h2, h3, h4, h5, h6⟩ := hE
      have hpc : p < c := hc (p, d) (List.mem_cons_self ..)
      cases S with
      | nil => simp at hl
      | cons r S =>
        have ag : ∀ j, j < c → en r j = en d j := ha 0 r (p, d) rfl rfl
        obtain ⟨L, g1, g2, g3⟩ := ih (p + 1) S h6 (fun x hx => hc x (List.mem_cons_of_mem _ hx)) (by simpa using hl) (fun i r' d' hr hd => ha (i + 1) r' d' (by simpa using hr) (by simpa using hd))
        refine ⟨(p, r) :: L, ⟨h1, h2, fun j hj => ?_, ?_, fun hM => ?_, g1⟩, fun x hx => ?_, by rw [List.map_cons, g3]⟩
        · rw [ag j (by omega)]; exact h3 j hj
        · rw [ag p hpc]; exact h4
        · rw [ag p hpc]; exact h5 hM
        · rcases List.mem_cons.mp hx with e | hx
          · subst e; exact hpc
          · exact g2 x hx
  obtain ⟨_, h2, _⟩ := H.ech.split c
  exact gen (lows c D) 0 told h2 (fun x hx => of_decide_eq_true (List.mem_filter.mp hx).2) T.cnt T.agree
theorem TI.step (hm : Md M) (hb1 : 1 ≤ b) (H : Herm M w D) (T : TI M w D c b t told left) (P : PPost M w c b left zs pv) (hc : c < w) : TI M w D (c + 1) (6 * b ^ 4) (t + t * (6 * b ^ 4) + 6 * b ^ 4) (toldOf told pv c M) zs := by
  -- all new rows lie in the lattice
  have inD : ∀ r ∈ zs ++ pv.toList, InL M (D.map (·.2)) (en r) := fun r hr => by
    refine (P.same.2 r hr).trans fun s hs => ?_
    exact T.same.2 s (List.mem_append_right _ hs)
  -- and begin at c
  have beg : ∀ r ∈ zs ++ pv.toList, ∀ j, j < c → en r j = 0 := fun r hr j hj => by
    have hd : M ∣ en r j := (P.same.2 r hr).col fun s hs => by rw [T.z s hs j hj]; exact Int.dvd_zero M
    by_cases hM : M = 0
    · rw [hM] at hd; exact Int.zero_dvd.mp hd
    · have h1 := P.rng r hr hM j
      exact range_eq (y := 0) (by rw [Int.sub_zero]; exact hd) h1 ⟨Int.le_refl 0, by have := hm.pos hM; omega⟩
  have zNew : ∀ r ∈ zs, ∀ j, j < c + 1 → en r j = 0 := fun r hr j hj => by
    by_cases e : j = c
    · subst e; exact P.z0 r hr
    · exact beg r (List.mem_append_left _ hr) j (by omega)
  have hbz : M = 0 → Bnd (6 * b ^ 4) zs := fun hM => (P.bnd hM).sub fun r hr => List.mem_append_left _ hr
  have hlt : ∀ i d, (lows c D)[i]? = some d → d ∈ D ∧ d.1 < c := fun i d hd => by
    have := List.mem_filter.mp (List.mem_of_getElem? hd)
    exact ⟨this.1, of_decide_eq_true this.2⟩
  have ind : ∀ d ∈ D, InL M (D.map (·.2)) (en d.2) := fun d hd => InL.mem (List.mem_map.mpr ⟨d, hd, rfl⟩)
  -- old row against the due one: their difference
  have diff : ∀ (r' : Row) (d : Nat × Row), d ∈ D → InL M (D.map (·.2)) (en r') → (∀ j, j < c → en r' j = en d.2 j) → InL M (D.map (·.2)) (fun j => en r' j - en d.2 j) ∧ ∀ j, j < c → M ∣ en r' j - en d.2 j := fun r' d hd hr ha =>
    ⟨hr.sub (ind d hd), fun j hj => by rw [ha j hj, Int.sub_self]; exact Int.dvd_zero M⟩
  rcases lows_succ H.ech c with ⟨d0, hd0, hlo, hhi⟩ | ⟨hno, hlo⟩
  · -- c is a pivot
    have e0 := H.ech.all (c, d0) hd0
    obtain ⟨_, _, ez, ep, e1⟩ : 0 ≤ c ∧ c < w ∧ (∀ j, j < c → en d0 j = 0) ∧ 0 < en d0 c ∧ (M ≠ 0 → en d0 c = 1) := e0
    have hLT : InL M left (en d0) := by
      obtain ⟨L, g1, g2, g3⟩ := T.ech hm H
      refine tri (c := c) (L := L) (fun r hr j hj => T.z r hr j hj) g1 g2 (fun j hj => by rw [ez j hj]; exact Int.dvd_zero M) ?_
      rw [g3]
      exact T.same.1 d0 (List.mem_map.mpr ⟨(c, d0), hd0, rfl⟩)
    have hz := P.same.into hLT
    -- there is a pivot
    cases hpv : pv with
    | none =>
      exfalso
      rw [hpv] at hz
      have hd : M ∣ en d0 c := hz.col fun r hr => by
        rw [show zs ++ (none : Option Row).toList = zs from List.append_nil _] at hr
        rw [P.z0 r hr]; exact Int.dvd_zero M
      by_cases hM : M = 0
      · rw [hM] at hd; have := Int.zero_dvd.mp hd; omega
      · rw [e1 hM] at hd
        have := hm.pos hM
        have := Int.le_of_dvd (by omega) hd
        omega
    | some v =>
      subst hpv
      obtain ⟨vp, v1⟩ := P.pos v rfl
      have hvin : v ∈ zs ++ (some v).toList := List.mem_append_right _ (List.mem_singleton.mpr rfl)
      -- its number is the due one
      have hvc : en v c = en d0 c := by
        by_cases hM : M = 0
        · subst hM
          obtain ⟨a, ha⟩ := Herm.at_yes H.ech (inD v hvin) (fun j hj => by rw [beg v hvin j hj]; exact Int.dvd_zero _) hhi
          have ha' : en v c = a * en d0 c := by have := Int.zero_dvd.mp ha; omega
          have : ∃ m : Int, (0 : Int) ∣ en d0 c - m * en v c := by
            have hz' : InL 0 (v :: zs) (en d0) := hz.mono fun r hr => by
              rcases List.mem_append.mp hr with h | h
              · exact List.mem_cons_of_mem _ h
              · rw [List.mem_singleton.mp h]; exact List.mem_cons_self ..
            obtain ⟨m, hm'⟩ := hz'
            exact ⟨m, hm'.col fun r hr => by rw [P.z0 r hr]; exact Int.dvd_zero _⟩
          obtain ⟨m, hm'⟩ := this
          have hm' : en d0 c = m * en v c := by have := Int.zero_dvd.mp hm'; omega
          have ha0 : 0 < a := by
            rcases Int.lt_or_le 0 a with z | z
            · exact z
            · have : a * en d0 c ≤ 0 := Int.mul_nonpos_of_nonpos_of_nonneg z (by omega)
              omega
          have hm0 : 0 < m := by
            rcases Int.lt_or_le 0 m with z | z
            · exact z
            · have : m * en v c ≤ 0 := Int.mul_nonpos_of_nonpos_of_nonneg z (by omega)
              omega
          have h1 : en d0 c ≤ a * en d0 c := by
            have := Int.mul_le_mul_of_nonneg_right (show 1 ≤ a by omega) (show 0 ≤ en d0 c by omega)
            omega
          have h2 : en v c ≤ m * en v c := by
            have := Int.mul_le_mul_of_nonneg_right (show 1 ≤ m by omega) (show 0 ≤ en v c by omega)
            omega
          omega
        · rw [v1 hM, e1 hM]
      have lv : v.length = w := P.len v hvin
      have rv := P.rng v hvin
      -- the told rows, each less a multiple of the pivot
      have hnew : ∀ r ∈ told, (lessT r v (en r c / en v c) M).length = w ∧ Rng M (lessT r v (en r c / en v c) M) ∧ (∀ j, M ∣ en (lessT r v (en r c / en v c) M) j - (en r j - en r c / en v c * en v j)) := fun r hr => by
        have hl : r.length = v.length := by rw [T.lenT r hr, lv]
        exact ⟨(lessT_len hl).trans (T.lenT r hr), lessT_rng hl hm (T.rngT r hr), fun j => lessT_dvd hl j⟩
      have sameT : SameL M (told ++ [v]) ((told.map fun r => lessT r v (en r c / en v c) M) ++ [v]) := by
        refine ⟨fun r hr => ?_, fun r hr => ?_⟩
        · rcases List.mem_append.mp hr with h | h
          · have i1 : InL M ((told.map fun r => lessT r v (en r c / en v c) M) ++ [v]) (en (lessT r v (en r c / en v c) M)) := InL.mem (List.mem_append_left _ (List.mem_map.mpr ⟨r, h, rfl⟩))
            have i2 : InL M ((told.map fun r => lessT r v (en r c / en v c) M) ++ [v]) (en v) := InL.mem (List.mem_append_right _ (List.mem_singleton.mpr rfl))
            exact (i1.add (i2.smul (en r c / en v c))).congr fun j => by
              have e : en (lessT r v (en r c / en v c) M) j + en r c / en v c * en v j - en r j = en (lessT r v (en r c / en v c) M) j - (en r j - en r c / en v c * en v j) := by omega
              rw [e]; exact (hnew r h).2.2 j
          · exact InL.mem (List.mem_append_right _ h)
        · rcases List.mem_append.mp hr with h | h
          · obtain ⟨s, hs, rfl⟩ := List.mem_map.mp h
            have i1 : InL M (told ++ [v]) (en s) := InL.mem (List.mem_append_left _ hs)
            have i2 : InL M (told ++ [v]) (en v) := InL.mem (List.mem_append_right _ (List.mem_singleton.mpr rfl))
            exact (i1.sub (i2.smul (en s c / en v c))).congr fun j => by
              have e : en s j - en s c / en v c * en v j - en (lessT s v (en s c / en v c) M) j = -(en (lessT s v (en s c / en v c) M) j - (en s j - en s c / en v c * en v j)) := by omega
              rw [e]; exact Int.dvd_neg.mpr ((hnew s hs).2.2 j)
          · exact InL.mem (List.mem_append_right _ h)
      have sameN : SameL M (D.map (·.2)) (toldOf told (some v) c M ++ zs) := by
        refine T.same.trans ?_
        have s1 : SameL M (told ++ left) (told ++ (zs ++ [v])) := SameL.append SameL.refl P.same
        have s2 : SameL M (told ++ (zs ++ [v])) ((told ++ [v]) ++ zs) := SameL.of_mem fun r => by
          simp only [List.mem_append, List.mem_singleton]
          constructor
          · rintro (h | h | h)
            · exact .inl (.inl h)
            · exact .inr h
            · exact .inl (.inr h)
          · rintro ((h | h) | h)
            · exact .inl h
            · exact .inr (.inr h)
            · exact .inr (.inl h)
        exact s1.trans (s2.trans (SameL.append sameT SameL.refl))
      have inN : ∀ r ∈ toldOf told (some v) c M, InL M (D.map (·.2)) (en r) := fun r hr => sameN.2 r (List.mem_append_left _ hr)
      have cnt : (toldOf told (some v) c M).length = (lows (c + 1) D).length := by
        rw [hlo, List.length_append, ← T.cnt]
        show ((told.map _) ++ [v]).length = _
        rw [List.length_append, List.length_map]; rfl
      refine ⟨cnt, ?_, zNew, ?_, fun r hr => P.len r (List.mem_append_left _ hr), sameN, ?_, fun r hr => P.rng r (List.mem_append_left _ hr), hbz, ?_⟩
      · -- agreement
        intro i r d hr hd j hj
        have hrin : r ∈ toldOf told (some v) c M := List.mem_of_getElem? hr
        rw [hlo] at hd
        by_cases hi : i < told.length
        · have hd' : (lows c D)[i]? = some d := by
            rw [List.getElem?_append_left (by rw [← T.cnt]; exact hi)] at hd; exact hd
          have hr' : (told.map fun r => lessT r v (en r c / en v c) M)[i]? = some r := by
            have hr2 : ((told.map fun r => lessT r v (en r c / en v c) M) ++ [v])[i]? = some r := hr
            rw [List.getElem?_append_left (by rw [List.length_map]; exact hi)] at hr2; exact hr2
          rw [List.getElem?_map] at hr'
          obtain ⟨s, hs, rfl⟩ := Option.map_eq_some_iff.mp hr'
          have hsin := List.mem_of_getElem? hs
          obtain ⟨hdin, hdc⟩ := hlt i d hd'
          have ag := T.agree i s d hs hd'
          have hl : s.length = v.length := by rw [T.lenT s hsin, lv]
          have rd := H.rng d hdin
          have early : ∀ j, j < c → en (lessT s v (en s c / en v c) M) j = en d.2 j := fun j hj => by
            rw [← ag j hj]
            have hv0 := beg v hvin j hj
            by_cases hM : M = 0
            · subst hM; rw [lessT_0 hl, hv0]; simp
            · rw [lessT_M hl hM (T.rngT s hsin), hv0, Int.mul_zero, Int.sub_zero]
              have := T.rngT s hsin hM j
              exact Int.emod_eq_of_lt this.1 this.2
          by_cases hjc : j = c
          · subst hjc
            -- at the pivot
            have hpair : 0 ≤ en d.2 j ∧ en d.2 j < en d0 j := by
              have hsplit := H.red
              obtain ⟨h1, _, _⟩ := H.ech.split j
              rw [h1, List.pairwise_append] at hsplit
              exact hsplit.2.2 d (List.mem_of_getElem? hd') (j, d0) (by rw [hhi]; exact List.mem_cons_self ..)
            obtain ⟨dd1, dd2⟩ := diff _ d hdin (inN _ hrin) early
            obtain ⟨a, ha⟩ := Herm.at_yes H.ech dd1 dd2 hhi
            by_cases hM : M = 0
            · subst hM
              have hval : en (lessT s v (en s j / en v j) 0) j = en s j % en v j := by
                rw [lessT_0 hl]
                have := Int.emod_add_mul_ediv (en s j) (en v j)
                rw [Int.mul_comm (en v j)] at this; omega
              have h1 := Int.emod_nonneg (en s j) (show en v j ≠ 0 by omega)
              have h2 := Int.emod_lt_of_pos (en s j) vp
              have hdv : en d0 j ∣ en (lessT s v (en s j / en v j) 0) j - en d.2 j := ⟨a, by have := Int.zero_dvd.mp ha; rw [Int.mul_comm]; omega⟩
              rw [hval] at hdv ⊢
              rw [hvc] at h2 hdv ⊢
              exact range_eq hdv ⟨by rw [hvc] at h1; exact h1, h2⟩ hpair
            · have hM2 := hm.pos hM
              rw [e1 hM] at hpair
              have h0 : en d.2 j = 0 := by omega
              rw [h0, lessT_M hl hM (T.rngT s hsin), v1 hM, Int.ediv_one, Int.mul_one, Int.sub_self]; rfl
          · exact early j (by omega)
        · -- the new row
          have hie : i = told.length := by
            have h1 := (List.getElem?_eq_some_iff.mp hr).1
            rw [cnt, hlo, List.length_append, ← T.cnt] at h1
            have h2 : [(c, d0)].length = 1 := rfl
            omega
          subst hie
          have hr2 : ((told.map fun r => lessT r v (en r c / en v c) M) ++ [v])[told.length]? = some r := hr
          rw [List.getElem?_append_right (by rw [List.length_map]; exact Nat.le_refl _), List.length_map, Nat.sub_self] at hr2
          have er : v = r := Option.some.inj hr2
          rw [List.getElem?_append_right (by rw [← T.cnt]; exact Nat.le_refl _), ← T.cnt, Nat.sub_self] at hd
          have ed : (c, d0) = d := Option.some.inj hd
          subst er ed
          by_cases hjc : j = c
          · subst hjc; exact hvc
          · show en v j = en d0 j
            rw [beg v hvin j (by omega), ez j (by omega)]
      · intro r hr
        rcases List.mem_append.mp (show r ∈ (told.map fun r => lessT r v (en r c / en v c) M) ++ [v] from hr) with h | h
        · obtain ⟨s, hs, rfl⟩ := List.mem_map.mp h
          exact (hnew s hs).1
        · rw [List.mem_singleton.mp h]; exact lv
      · intro r hr
        rcases List.mem_append.mp (show r ∈ (told.map fun r => lessT r v (en r c / en v c) M) ++ [v] from hr) with h | h
        · obtain ⟨s, hs, rfl⟩ := List.mem_map.mp h
          exact (hnew s hs).2.1
        · rw [List.mem_singleton.mp h]; exact rv
      · intro hM r hr j
        have hbv := P.bnd hM v hvin
        rcases List.mem_append.mp (show r ∈ (told.map fun r => lessT r v (en r c / en v c) M) ++ [v] from hr) with h | h
        · obtain ⟨s, hs, rfl⟩ := List.mem_map.mp h
          have hl : s.length = v.length := by rw [T.lenT s hs, lv]
          subst hM
          rw [lessT_0 hl]
          have h1 := T.bt rfl s hs j
          have h2 : (en s c / en v c).natAbs ≤ t := by
            refine Nat.le_trans ?_ (T.bt rfl s hs c)
            exact Int.natAbs_ediv_le_natAbs _ _
          have h3 := hbv j
          have h4 := Int.natAbs_sub_le (en s j) (en s c / en v c * en v j)
          rw [Int.natAbs_mul] at h4
          have h5 := Nat.mul_le_mul h2 h3
          omega
        · rw [List.mem_singleton.mp h]
          have := hbv j
          omega
  · -- c is no pivot
    cases hpv : pv with
    | some v =>
      exfalso
      subst hpv
      obtain ⟨vp, v1⟩ := P.pos v rfl
      have hvin : v ∈ zs ++ (some v).toList := List.mem_append_right _ (List.mem_singleton.mpr rfl)
      have hd := Herm.at_no H.ech (inD v hvin) (fun j hj => by rw [beg v hvin j hj]; exact Int.dvd_zero _) hno
      by_cases hM : M = 0
      · rw [hM] at hd; have := Int.zero_dvd.mp hd; omega
      · rw [v1 hM] at hd
        have := hm.pos hM
        have := Int.le_of_dvd (by omega) hd
        omega
    | none =>
      subst hpv
      refine ⟨by rw [hlo]; exact T.cnt, ?_, zNew, T.lenT, fun r hr => P.len r (List.mem_append_left _ hr), ?_, T.rngT, fun r hr => P.rng r (List.mem_append_left _ hr), hbz, fun hM => (T.bt hM).mono (by omega)⟩
      · intro i r d hr hd j hj
        rw [hlo] at hd
        have ag := T.agree i r d hr hd
        by_cases hjc : j = c
        · subst hjc
          obtain ⟨hdin, _⟩ := hlt i d hd
          have hrin : r ∈ told := List.mem_of_getElem? hr
          obtain ⟨dd1, dd2⟩ := diff r d hdin (T.same.2 r (List.mem_append_left _ hrin)) ag
          have h1 := Herm.at_no H.ech dd1 dd2 hno
          by_cases hM : M = 0
          · rw [hM] at h1; have := Int.zero_dvd.mp h1; omega
          · exact range_eq h1 (T.rngT r hrin hM j) (H.rng d hdin hM j)
        · exact ag j (by omega)
      · refine T.same.trans (SameL.append SameL.refl ?_)
        have := P.same
        rw [show zs ++ (none : Option Row).toList = zs from List.append_nil _] at this
        exact this
/-- the end: the told rows are the reduced ones -/
theorem TI.end (H : Herm M w D) (T : TI M w D w b t told left) : told = D.map (·.2) := by
  have e : lows w D = D := List.filter_eq_self.mpr fun x hx => decide_eq_true (H.ech.all x hx).2.1
  have hc := T.cnt
  rw [e] at hc
  apply List.ext_getElem?
  intro i
  rw [List.getElem?_map]
  by_cases hi : i < told.length
  · have h1 := List.getElem?_eq_getElem hi
    have h2 := List.getElem?_eq_getElem (show i < D.length by omega)
    rw [h1, h2]
    refine congrArg some (en_ext ?_ fun j hj => ?_)
    · rw [T.lenT _ (List.mem_of_getElem? h1), H.len _ (List.mem_of_getElem? h2)]
    · have hl := T.lenT _ (List.mem_of_getElem? h1)
      exact T.agree i _ _ h1 (by rw [e]; exact h2) j (by omega)
  · rw [List.getElem?_eq_none (by omega), List.getElem?_eq_none (show D.length ≤ i by omega)]; rfl
end
end Mine
set_option Elab.async false
set_option linter.all false
set_option maxRecDepth 100000
set_option maxHeartbeats 4000000
namespace Mine
open PySem PySem.Spec PyProof.Rows L2 Evl
/-! ### the text by places -/
def top (i : Nat) : Stmt := PySem.Challenge.pw_onebrick_k12_one_form_for_each_lattice.main.body.getD i (.Pass ⟨0, 0, 0, 0⟩)
abbrev s_inverse_of : Stmt := top 1
abbrev N_inverse_of : List Str := ["number", "prime", "high", "low", "above", "below", "times"]
theorem sc_inverse_of : FnScope N_inverse_of ["number", "prime"] (defScope s_inverse_of) := ⟨rfl, rfl, rfl, by decide +kernel, rfl, by decide +kernel, by decide +kernel⟩
abbrev s_plain_row : Stmt := top 2
abbrev N_plain_row : List Str := ["row", "modulus", "number"]
theorem sc_plain_row : FnScope N_plain_row ["row", "modulus"] (defScope s_plain_row) := ⟨rfl, rfl, rfl, by decide +kernel, rfl, by decide +kernel, by decide +kernel⟩
abbrev s_less_times : Stmt := top 3
abbrev N_less_times : List Str := ["row", "other", "times", "modulus", "one", "two"]
theorem sc_less_times : FnScope N_less_times ["row", "other", "times", "modulus"] (defScope s_less_times) := ⟨rfl, rfl, rfl, by decide +kernel, rfl, by decide +kernel, by decide +kernel⟩
abbrev s_first_place : Stmt := top 4
abbrev N_first_place : List Str := ["row", "at", "number"]
theorem sc_first_place : FnScope N_first_place ["row"] (defScope s_first_place) := ⟨rfl, rfl, rfl, by decide +kernel, rfl, by decide +kernel, by decide +kernel⟩
abbrev s_is_zero : Stmt := top 5
abbrev N_is_zero : List Str := ["row"]
theorem sc_is_zero : FnScope N_is_zero ["row"] (defScope s_is_zero) := ⟨rfl, rfl, rfl, by decide +kernel, rfl, by decide +kernel, by decide +kernel⟩
abbrev s_least_row : Stmt := top 7
abbrev N_least_row : List Str := ["rows", "at", "found", "k", "row"]
theorem sc_least_row : FnScope N_least_row ["rows", "at"] (defScope s_least_row) := ⟨rfl, rfl, rfl, by decide +kernel, rfl, by decide +kernel, by decide +kernel⟩
abbrev s_quotient : Stmt := top 8
abbrev N_quotient : List Str := ["number", "pivot", "modulus"]
theorem sc_quotient : FnScope N_quotient ["number", "pivot", "modulus"] (defScope s_quotient) := ⟨rfl, rfl, rfl, by decide +kernel, rfl, by decide +kernel, by decide +kernel⟩
abbrev s_one_pivot : Stmt := top 9
abbrev N_one_pivot : List Str := ["rows", "at", "modulus", "row", "zeros", "busy", "k", "pivot", "behind", "j", "short", "turned", "number"]
theorem sc_one_pivot : FnScope N_one_pivot ["rows", "at", "modulus"] (defScope s_one_pivot) := ⟨rfl, rfl, rfl, by decide +kernel, rfl, by decide +kernel, by decide +kernel⟩
abbrev s_split_rows : Stmt := top 10
abbrev N_split_rows : List Str := ["rows", "width", "modulus", "left", "told", "at", "pivot", "row"]
theorem sc_split_rows : FnScope N_split_rows ["rows", "width", "modulus"] (defScope s_split_rows) := ⟨rfl, rfl, rfl, by decide +kernel, rfl, by decide +kernel, by decide +kernel⟩
abbrev s_hermite_rows : Stmt := top 11
abbrev N_hermite_rows : List Str := ["rows", "width", "modulus", "told", "rest"]
theorem sc_hermite_rows : FnScope N_hermite_rows ["rows", "width", "modulus"] (defScope s_hermite_rows) := ⟨rfl, rfl, rfl, by decide +kernel, rfl, by decide +kernel, by decide +kernel⟩
abbrev s_rest_of_row : Stmt := top 12
abbrev N_rest_of_row : List Str := ["told", "row", "modulus", "left", "one", "at"]
theorem sc_rest_of_row : FnScope N_rest_of_row ["told", "row", "modulus"] (defScope s_rest_of_row) := ⟨rfl, rfl, rfl, by decide +kernel, rfl, by decide +kernel, by decide +kernel⟩
abbrev s_in_lattice : Stmt := top 13
abbrev N_in_lattice : List Str := ["hermite", "row", "modulus"]
theorem sc_in_lattice : FnScope N_in_lattice ["hermite", "row", "modulus"] (defScope s_in_lattice) := ⟨rfl, rfl, rfl, by decide +kernel, rfl, by decide +kernel, by decide +kernel⟩
abbrev s_law_source : Stmt := top 15
abbrev N_law_source : List Str := ["script", "at", "great", "state", "k", "cell"]
theorem sc_law_source : FnScope N_law_source ["script", "at"] (defScope s_law_source) := ⟨rfl, rfl, rfl, by decide +kernel, rfl, by decide +kernel, by decide +kernel⟩
abbrev s_law_pick : Stmt := top 16
abbrev N_law_pick : List Str := ["s", "many", "told"]
theorem sc_law_pick : FnScope N_law_pick ["s", "many"] (defScope s_law_pick) := ⟨rfl, rfl, rfl, by decide +kernel, rfl, by decide +kernel, by decide +kernel⟩
abbrev s_law_within : Stmt := top 17
abbrev N_law_within : List Str := ["s", "low", "high"]
theorem sc_law_within : FnScope N_law_within ["s", "low", "high"] (defScope s_law_within) := ⟨rfl, rfl, rfl, by decide +kernel, rfl, by decide +kernel, by decide +kernel⟩
abbrev s_law_one : Stmt := top 18
abbrev N_law_one : List Str := ["s", "things"]
theorem sc_law_one : FnScope N_law_one ["s", "things"] (defScope s_law_one) := ⟨rfl, rfl, rfl, by decide +kernel, rfl, by decide +kernel, by decide +kernel⟩
abbrev s_law_shuffled : Stmt := top 19
abbrev N_law_shuffled : List Str := ["s", "things", "left", "told", "k"]
theorem sc_law_shuffled : FnScope N_law_shuffled ["s", "things"] (defScope s_law_shuffled) := ⟨rfl, rfl, rfl, by decide +kernel, rfl, by decide +kernel, by decide +kernel⟩
abbrev s_law_some : Stmt := top 20
abbrev N_law_some : List Str := ["s", "things", "many"]
theorem sc_law_some : FnScope N_law_some ["s", "things", "many"] (defScope s_law_some) := ⟨rfl, rfl, rfl, by decide +kernel, rfl, by decide +kernel, by decide +kernel⟩
abbrev s_law_modulus : Stmt := top 21
abbrev N_law_modulus : List Str := ["s"]
theorem sc_law_modulus : FnScope N_law_modulus ["s"] (defScope s_law_modulus) := ⟨rfl, rfl, rfl, by decide +kernel, rfl, by decide +kernel, by decide +kernel⟩
abbrev s_law_less : Stmt := top 22
abbrev N_law_less : List Str := ["row", "other", "k", "M", "a", "b"]
theorem sc_law_less : FnScope N_law_less ["row", "other", "k", "M"] (defScope s_law_less) := ⟨rfl, rfl, rfl, by decide +kernel, rfl, by decide +kernel, by decide +kernel⟩
abbrev s_law_first : Stmt := top 23
abbrev N_law_first : List Str := ["row", "at"]
theorem sc_law_first : FnScope N_law_first ["row"] (defScope s_law_first) := ⟨rfl, rfl, rfl, by decide +kernel, rfl, by decide +kernel, by decide +kernel⟩
abbrev s_law_reduce : Stmt := top 24
abbrev N_law_reduce : List Str := ["H", "row", "M", "rest", "told", "at", "k"]
theorem sc_law_reduce : FnScope N_law_reduce ["H", "row", "M"] (defScope s_law_reduce) := ⟨rfl, rfl, rfl, by decide +kernel, rfl, by decide +kernel, by decide +kernel⟩
abbrev s_law_inside : Stmt := top 25
abbrev N_law_inside : List Str := ["H", "row", "M"]
theorem sc_law_inside : FnScope N_law_inside ["H", "row", "M"] (defScope s_law_inside) := ⟨rfl, rfl, rfl, by decide +kernel, rfl, by decide +kernel, by decide +kernel⟩
abbrev s_law_same : Stmt := top 26
abbrev N_law_same : List Str := ["a", "b", "at"]
theorem sc_law_same : FnScope N_law_same ["a", "b"] (defScope s_law_same) := ⟨rfl, rfl, rfl, by decide +kernel, rfl, by decide +kernel, by decide +kernel⟩
abbrev s_law_c_box : Stmt := top 27
abbrev N_law_c_box : List Str := ["width", "most", "out", "k", "longer", "row", "number"]
theorem sc_law_c_box : FnScope N_law_c_box ["width", "most"] (defScope s_law_c_box) := ⟨rfl, rfl, rfl, by decide +kernel, rfl, by decide +kernel, by decide +kernel⟩
abbrev s_law_c_number : Stmt := top 28
abbrev N_law_c_number : List Str := ["s", "M", "far"]
theorem sc_law_c_number : FnScope N_law_c_number ["s", "M"] (defScope s_law_c_number) := ⟨rfl, rfl, rfl, by decide +kernel, rfl, by decide +kernel, by decide +kernel⟩
abbrev s_law_c_reduced : Stmt := top 29
abbrev N_law_c_reduced : List Str := ["s", "width", "M", "rows", "at", "pivots", "k", "place", "row", "j", "i"]
theorem sc_law_c_reduced : FnScope N_law_c_reduced ["s", "width", "M"] (defScope s_law_c_reduced) := ⟨rfl, rfl, rfl, by decide +kernel, rfl, by decide +kernel, by decide +kernel⟩
abbrev s_law_c_plain : Stmt := top 30
abbrev N_law_c_plain : List Str := ["row", "M", "number"]
theorem sc_law_c_plain : FnScope N_law_c_plain ["row", "M"] (defScope s_law_c_plain) := ⟨rfl, rfl, rfl, by decide +kernel, rfl, by decide +kernel, by decide +kernel⟩
abbrev s_law_c_add : Stmt := top 31
abbrev N_law_c_add : List Str := ["one", "other", "k", "M", "at"]
theorem sc_law_c_add : FnScope N_law_c_add ["one", "other", "k", "M"] (defScope s_law_c_add) := ⟨rfl, rfl, rfl, by decide +kernel, rfl, by decide +kernel, by decide +kernel⟩
abbrev s_law_c_sum : Stmt := top 32
abbrev N_law_c_sum : List Str := ["rows", "numbers", "width", "M", "k", "total"]
theorem sc_law_c_sum : FnScope N_law_c_sum ["rows", "numbers", "width", "M"] (defScope s_law_c_sum) := ⟨rfl, rfl, rfl, by decide +kernel, rfl, by decide +kernel, by decide +kernel⟩
abbrev s_law_c_mixed : Stmt := top 33
abbrev N_law_c_mixed : List Str := ["s", "rows", "width", "M", "out", "k", "two", "turned", "row", "j", "number"]
theorem sc_law_c_mixed : FnScope N_law_c_mixed ["s", "rows", "width", "M"] (defScope s_law_c_mixed) := ⟨rfl, rfl, rfl, by decide +kernel, rfl, by decide +kernel, by decide +kernel⟩
abbrev s_law_c_copy : Stmt := top 34
abbrev N_law_c_copy : List Str := ["rows", "row"]
theorem sc_law_c_copy : FnScope N_law_c_copy ["rows"] (defScope s_law_c_copy) := ⟨rfl, rfl, rfl, by decide +kernel, rfl, by decide +kernel, by decide +kernel⟩
abbrev s_law : Stmt := top 35
abbrev N_law : List Str := ["script", "s", "turn", "M", "width", "due", "again", "rows", "kept", "told", "k", "row", "asked", "inside", "at", "handed", "one", "j"]
theorem sc_law : FnScope N_law ["script"] (defScope s_law) := ⟨rfl, rfl, rfl, by decide +kernel, rfl, by decide +kernel, by decide +kernel⟩
/-- a def of the top as a callee -/
structure Fn (K : PySem.W.Frag) (mg : Str → Option Value) (x : Str) (st : Stmt) (ps : List Str) (f : Addr) (fd : FuncData) : Prop where
  F : L2.Fun K x x st f fd
  g : mg x = some (.ref f)
  b : Binds K fd ps []
structure Lib (K : PySem.W.Frag) (mg : Str → Option Value) : Prop where
  abs : mg "abs" = none
  all : mg "all" = none
  any : mg "any" = none
  bool : mg "bool" = none
  dict : mg "dict" = none
  enumerate : mg "enumerate" = none
  int : mg "int" = none
  isinstance : mg "isinstance" = none
  len : mg "len" = none
  list : mg "list" = none
  min : mg "min" = none
  range : mg "range" = none
  str : mg "str" = none
  tuple : mg "tuple" = none
  zip : mg "zip" = none
  inverse_of : ∃ f fd, Fn K mg "inverse_of" s_inverse_of ["number", "prime"] f fd
  plain_row : ∃ f fd, Fn K mg "plain_row" s_plain_row ["row", "modulus"] f fd
  less_times : ∃ f fd, Fn K mg "less_times" s_less_times ["row", "other", "times", "modulus"] f fd
  first_place : ∃ f fd, Fn K mg "first_place" s_first_place ["row"] f fd
  is_zero : ∃ f fd, Fn K mg "is_zero" s_is_zero ["row"] f fd
  least_row : ∃ f fd, Fn K mg "least_row" s_least_row ["rows", "at"] f fd
  quotient : ∃ f fd, Fn K mg "quotient" s_quotient ["number", "pivot", "modulus"] f fd
  one_pivot : ∃ f fd, Fn K mg "one_pivot" s_one_pivot ["rows", "at", "modulus"] f fd
  split_rows : ∃ f fd, Fn K mg "split_rows" s_split_rows ["rows", "width", "modulus"] f fd
  hermite_rows : ∃ f fd, Fn K mg "hermite_rows" s_hermite_rows ["rows", "width", "modulus"] f fd
  rest_of_row : ∃ f fd, Fn K mg "rest_of_row" s_rest_of_row ["told", "row", "modulus"] f fd
  in_lattice : ∃ f fd, Fn K mg "in_lattice" s_in_lattice ["hermite", "row", "modulus"] f fd
  law_source : ∃ f fd, Fn K mg "_law_source" s_law_source ["script", "at"] f fd
  law_pick : ∃ f fd, Fn K mg "_law_pick" s_law_pick ["s", "many"] f fd
  law_within : ∃ f fd, Fn K mg "_law_within" s_law_within ["s", "low", "high"] f fd
  law_one : ∃ f fd, Fn K mg "_law_one" s_law_one ["s", "things"] f fd
  law_shuffled : ∃ f fd, Fn K mg "_law_shuffled" s_law_shuffled ["s", "things"] f fd
  law_some : ∃ f fd, Fn K mg "_law_some" s_law_some ["s", "things", "many"] f fd
  law_modulus : ∃ f fd, Fn K mg "_law_modulus" s_law_modulus ["s"] f fd
  law_less : ∃ f fd, Fn K mg "_law_less" s_law_less ["row", "other", "k", "M"] f fd
  law_first : ∃ f fd, Fn K mg "_law_first" s_law_first ["row"] f fd
  law_reduce : ∃ f fd, Fn K mg "_law_reduce" s_law_reduce ["H", "row", "M"] f fd
  law_inside : ∃ f fd, Fn K mg "_law_inside" s_law_inside ["H", "row", "M"] f fd
  law_same : ∃ f fd, Fn K mg "_law_same" s_law_same ["a", "b"] f fd
  law_c_box : ∃ f fd, Fn K mg "_law_c_box" s_law_c_box ["width", "most"] f fd
  law_c_number : ∃ f fd, Fn K mg "_law_c_number" s_law_c_number ["s", "M"] f fd
  law_c_reduced : ∃ f fd, Fn K mg "_law_c_reduced" s_law_c_reduced ["s", "width", "M"] f fd
  law_c_plain : ∃ f fd, Fn K mg "_law_c_plain" s_law_c_plain ["row", "M"] f fd
  law_c_add : ∃ f fd, Fn K mg "_law_c_add" s_law_c_add ["one", "other", "k", "M"] f fd
  law_c_sum : ∃ f fd, Fn K mg "_law_c_sum" s_law_c_sum ["rows", "numbers", "width", "M"] f fd
  law_c_mixed : ∃ f fd, Fn K mg "_law_c_mixed" s_law_c_mixed ["s", "rows", "width", "M"] f fd
  law_c_copy : ∃ f fd, Fn K mg "_law_c_copy" s_law_c_copy ["rows"] f fd
  law : ∃ f fd, Fn K mg "law" s_law ["script"] f fd

/-! ### further rules -/
section
variable {X : Cx}
/-- // by any divisor but 0, below 2 ^ 9000 in size -/
def CDivZ (_ j : Int) : Prop := j ≠ 0 ∧ j.natAbs.log2 < 9000
theorem op_fdivZ : OpR X (binaryOp .FloorDiv) (rI CDivZ fun i j => .int (i.fdiv j)) := opI fun _ _ _ _ _ _ _ hc q => floordiv_int hc.1 q (.inl (PyProof.noPylong_of_log2 hc.2))
/-- any(xs) of whole numbers -/
def rAnyI (K : PySem.W.Frag) : List V → Hp → VK → Prop := fun vs H Q => ∃ (a : Addr) (ns : List Int), vs = [V.ref a] ∧ SqL K H a (ns.map V.int) ∧ Q (.bl (ns.any fun i => i != 0)) H
theorem truth_ints {prog : Program} {w : World} {A : Around} {ns : List Int} {its : List Value} (e : Vals (ns.map V.int) its) :
    PySem.TruthOf prog w A (fun i v => its.toArray[i]? = some v) (fun i => (ns.map fun k => k != 0).getD i false) := fun i v s Q E hv hq => by
  have hv' : its[i]? = some v := by simpa using hv
  have hlen := e.length
  have hi : i < ns.length := by
    have := (List.getElem?_eq_some_iff.mp hv').1
    rw [List.length_map] at hlen; omega
  obtain ⟨u, hu, r⟩ := e.get (i := i) (x := .int ns[i]) (by rw [List.getElem?_map, List.getElem?_eq_getElem hi]; rfl)
  rw [hv'] at hu
  cases hu
  obtain ⟨t, rfl⟩ := r
  have hg : (ns.map fun k => k != 0).getD i false = (ns[i] != 0) := by rw [List.getD_eq_getElem?_getD, List.getElem?_map, List.getElem?_eq_getElem hi]; rfl
  have hq' : Q ((ns.map fun k => k != 0).getD i false) s := hq
  rw [hg] at hq'
  exact PyProof.Rows.truthy_int hq'
theorem cr_anyI (hc : X.calm = true := by rfl) : CallR X (.builtin "any") (rAnyI X.K) := by
  intro pins s σ H vs us Q I r h
  obtain ⟨a, ns, rfl, hs, q⟩ := h
  obtain ⟨its, rv, hl, _⟩ := I.list hs
  rw [Vals.ref1 r]
  refine PySem.call_any_walk (iter_any hl.isList fun s₂ e2 st hne => ?_)
  subst e2
  refine ⟨_, _, _, _, _, _, _, rfl, PySem.Walks.list (A := X.A.in1) (I.ok.hd hc) _ a hne its.toArray, st, truth_ints rv, fun h' tk hk => ?_⟩
  refine ⟨.bl _, H, I.kept fun b o eo => hk b o (fun hmem => ?_) (Heap.get?_push_of_some _ eo), ?_, q⟩
  · rcases List.mem_cons.mp hmem with e1 | hmem
    · exact absurd (e1 ▸ Heap.lt_size eo) (Nat.lt_irrefl _)
    · cases hmem
  · show Value.bool _ = Value.bool _
    have h1 := any_range (ns.map fun k => k != 0)
    have h2 : (ns.map fun k => k != 0).length = its.length := by
      have := rv.length
      rw [List.length_map] at this ⊢; exact this
    rw [h2, List.any_map] at h1
    rw [List.size_toArray, h1]; rfl
/-- the rules that read the written part, with K told (for comprehensions' blocks) -/
theorem ix_listK {K : PySem.W.Frag} (h : X.K = K := by rfl) : IxR X (rIxL K) := h ▸ ix_list
theorem ix_tupK {K : PySem.W.Frag} (h : X.K = K := by rfl) : IxR X (rIxT K) := h ▸ ix_tup
theorem ix_seqK {K : PySem.W.Frag} (h : X.K = K := by rfl) : IxR X (rIx K) := h ▸ ix_seq
theorem sl_listK {K : PySem.W.Frag} (h : X.K = K := by rfl) : SlR X (rSlL K) := h ▸ sl_list
theorem call_len_seqK {K : PySem.W.Frag} (h : X.K = K := by rfl) : CallR X (.builtin "len") (rLenS K) := h ▸ call_len_seq
theorem call_list_ofK {K : PySem.W.Frag} (h : X.K = K := by rfl) : CallR X (.type "list") (rListS K) := h ▸ call_list_of
theorem pi_listK {K : PySem.W.Frag} {tg l : Expr} {tl : TE} (hl : PE X l tl) (h : X.K = K := by rfl) : L2.PI X tg l (iList K tl) := h ▸ pi_list hl
def tTruK (K : PySem.W.Frag) (ta : TE) : TT := fun σ H Q => ta σ H fun x H' => ∃ k, TruV K x H' k ∧ Q k H'
theorem pt_truthK {K : PySem.W.Frag} {a : Expr} {ta : TE} (ha : PE X a ta) (he : ∀ whole, isTrue a X.env whole = (do let v ← whole; standAt a.pos; holding [v] (truthy v)) := by intro _; rfl) (h : X.K = K := by rfl) : PT X a (tTruK K ta) := h ▸ pt_truth ha he
end
end Mine
set_option Elab.async false
set_option linter.all false
set_option maxRecDepth 100000
set_option maxHeartbeats 4000000
namespace Mine
open PySem PySem.Spec PyProof.Rows L2 Evl
/-! ### rows in the heap -/
def iL (r : Row) : List V := r.map V.int
theorem iL_len (r : Row) : (iL r).length = r.length := List.length_map ..
theorem iL_get {r : Row} {i : Nat} {x : V} (h : (iL r)[i]? = some x) : ∃ k, x = .int k ∧ r[i]? = some k := by
  unfold iL at h; rw [List.getElem?_map] at h
  obtain ⟨k, h1, h2⟩ := Option.map_eq_some_iff.mp h
  exact ⟨k, h2.symm, h1⟩
theorem iL_at {r : Row} {i : Nat} {k : Int} (h : r[i]? = some k) : (iL r)[i]? = some (.int k) := by
  unfold iL; rw [List.getElem?_map, h]; rfl
theorem iL_en {r : Row} {i : Nat} (h : i < r.length) : atI (iL r) (i : Int) = some (.int (en r i)) := atI_nat (iL_at (en_lt h))
abbrev AR := Addr × Row
def adr (ps : List AR) : List V := ps.map fun x => V.ref x.1
def rws (ps : List AR) : List Row := ps.map (·.2)
def Rws (H : Hp) (ps : List AR) : Prop := ∀ x ∈ ps, H x.1 = some (.lst (iL x.2))
theorem adr_len (ps : List AR) : (adr ps).length = ps.length := List.length_map ..
theorem rws_len (ps : List AR) : (rws ps).length = ps.length := List.length_map ..
theorem adr_get {ps : List AR} {i : Nat} {x : V} (h : (adr ps)[i]? = some x) : ∃ q, ps[i]? = some q ∧ x = .ref q.1 := by
  unfold adr at h; rw [List.getElem?_map] at h
  obtain ⟨k, h1, h2⟩ := Option.map_eq_some_iff.mp h
  exact ⟨k, h1, h2.symm⟩
theorem adr_at {ps : List AR} {i : Nat} {q : AR} (h : ps[i]? = some q) : (adr ps)[i]? = some (.ref q.1) := by
  unfold adr; rw [List.getElem?_map, h]; rfl
theorem Rws.ex {H H' : Hp} {ps : List AR} (e : Ex H H') (h : Rws H ps) : Rws H' ps := fun x hx => e _ _ (h x hx)
theorem Rws.nil {H : Hp} : Rws H [] := fun x hx => absurd hx (by simp)
theorem Rws.append {H : Hp} {ps qs : List AR} (h : Rws H ps) (h' : Rws H qs) : Rws H (ps ++ qs) := fun x hx => (List.mem_append.mp hx).elim (h x) (h' x)
theorem Rws.sub {H : Hp} {ps qs : List AR} (h : Rws H ps) (s : ∀ x ∈ qs, x ∈ ps) : Rws H qs := fun x hx => h x (s x hx)
theorem Rws.seq {K : PySem.W.Frag} {H : Hp} {ps : List AR} (h : Rws H ps) {x : AR} (hx : x ∈ ps) : SqL K H x.1 (iL x.2) := SqL.of (h x hx)
theorem same_ex {H H' : Hp} : Same H H' = Ex H H' := rfl
/-! ### tests, values -/
section
variable {K : PySem.W.Frag} {σ : L2.St} {H H' : Hp} {ta tb te tx tl : TE} {t u : TT} {x y z v : V} {r : R2}
theorem yes_turn {σ2 : L2.St} {H2 : Hp} {P : V → Hp → Prop} {N : Hp → Prop} (h : te σ2 H2 P) : tYes σ2 H2 (fun b H3 => if b = true then te σ2 H3 P else N H3) := (iteT h : if true = true then te σ2 H2 P else N H2)
theorem et_yes : EvT tYes σ H true := fun H1 _ _ q => q H1 (Ex.refl H1)
theorem rv_mulW {i j : Int} (h : CMulW i j) : RV (rI CMulW fun i j => .int (i * j)) (.int i) (.int j) H (.int (i * j)) := rv_I (g := fun i j => .int (i * j)) h
theorem ev_add {i j : Int} (ha : Ev ta σ H (.int i)) (hb : Ev tb σ H (.int j)) : Ev (tOp (rI0 fun i j => .int (i + j)) ta tb) σ H (.int (i + j)) := ev_op ha hb (rv_I0 (g := fun i j => .int (i + j)))
theorem ev_sub {i j : Int} (ha : Ev ta σ H (.int i)) (hb : Ev tb σ H (.int j)) : Ev (tOp (rI0 fun i j => .int (i - j)) ta tb) σ H (.int (i - j)) := ev_op ha hb (rv_I0 (g := fun i j => .int (i - j)))
theorem ev_mul {i j : Int} (ha : Ev ta σ H (.int i)) (hb : Ev tb σ H (.int j)) (h : CMul i j) : Ev (tOp (rI CMul fun i j => .int (i * j)) ta tb) σ H (.int (i * j)) := ev_op ha hb (rv_I (g := fun i j => .int (i * j)) h)
theorem ev_mulW {i j : Int} (ha : Ev ta σ H (.int i)) (hb : Ev tb σ H (.int j)) (h : CMulW i j) : Ev (tOp (rI CMulW fun i j => .int (i * j)) ta tb) σ H (.int (i * j)) := ev_op ha hb (rv_I (g := fun i j => .int (i * j)) h)
theorem ev_mod {i j : Int} (ha : Ev ta σ H (.int i)) (hb : Ev tb σ H (.int j)) (h : 0 < j) : Ev (tOp (rI (fun _ j => 0 < j) fun i j => .int (i % j)) ta tb) σ H (.int (i % j)) := ev_op ha hb (rv_I (g := fun i j => .int (i % j)) h)
theorem ev_fdiv {i j : Int} (ha : Ev ta σ H (.int i)) (hb : Ev tb σ H (.int j)) (h : CDivZ i j) : Ev (tOp (rI CDivZ fun i j => .int (i.fdiv j)) ta tb) σ H (.int (i.fdiv j)) := ev_op ha hb (rv_I (g := fun i j => .int (i.fdiv j)) h)
theorem ev_lt {i j : Int} (ha : Ev ta σ H (.int i)) (hb : Ev tb σ H (.int j)) : Ev (tOp (rI0 fun i j => .bl (decide (i < j))) ta tb) σ H (.bl (decide (i < j))) := ev_op ha hb (rv_I0 (g := fun i j => .bl (decide (i < j))))
theorem ev_gt {i j : Int} (ha : Ev ta σ H (.int i)) (hb : Ev tb σ H (.int j)) : Ev (tOp (rI0 fun i j => .bl (decide (j < i))) ta tb) σ H (.bl (decide (j < i))) := ev_op ha hb (rv_I0 (g := fun i j => .bl (decide (j < i))))
theorem ev_ge {i j : Int} (ha : Ev ta σ H (.int i)) (hb : Ev tb σ H (.int j)) : Ev (tOp (rI0 fun i j => .bl (decide (j ≤ i))) ta tb) σ H (.bl (decide (j ≤ i))) := ev_op ha hb (rv_I0 (g := fun i j => .bl (decide (j ≤ i))))
theorem ev_eqI {i j : Int} (ha : Ev ta σ H (.int i)) (hb : Ev tb σ H (.int j)) : Ev (tOp rEq ta tb) σ H (.bl (decide (i = j))) := ev_is (ev_op ha hb (rv_eq rfl)) (by
  by_cases e : i = j
  · subst e; simp
  · have : ¬ V.int i = V.int j := fun h => e (V.int.inj h)
    simp [e])
theorem ev_neI {i j : Int} (ha : Ev ta σ H (.int i)) (hb : Ev tb σ H (.int j)) : Ev (tOp rNe ta tb) σ H (.bl (decide (i ≠ j))) := ev_is (ev_op ha hb (rv_ne rfl)) (by
  by_cases e : i = j
  · subst e; simp
  · have : ¬ V.int i = V.int j := fun h => e (V.int.inj h)
    simp [e])
theorem ev_ix {p : Addr} {xs : List V} {i : Int} (ha : Ev ta σ H (.ref p)) (hb : Ev tb σ H (.int i)) (h : SqL K H p xs) (hx : atI xs i = some v) : Ev (tOp (rIxL K) ta tb) σ H v := ev_op ha hb (rv_ixL h hx)
theorem ev_abs {i : Int} (ha : Ev ta σ H (.int i)) : Ev (tCB (fun xs H Q => ∃ i, xs = [.int i] ∧ Q (.int (if i < 0 then -i else i)) H) (tCons ta tNil)) σ H (.int (if i < 0 then -i else i)) :=
  ev_cb (ea_cons ha ea_nil) fun H1 _ _ q => ⟨i, rfl, q H1 (Ex.refl H1)⟩
theorem ev_int {i : Int} (ha : Ev ta σ H (.int i)) : Ev (tCB (fun xs H Q => (∃ i, xs = [.int i] ∧ Q (.int i) H) ∨ ∃ k, xs = [.bl k] ∧ Q (.int (if k then 1 else 0)) H) (tCons ta tNil)) σ H (.int i) :=
  ev_cb (ea_cons ha ea_nil) fun H1 _ _ q => .inl ⟨i, rfl, q H1 (Ex.refl H1)⟩
theorem et_truI {i : Int} (ha : Ev ta σ H (.int i)) : EvT (fun σ H Q => ta σ H fun x H' => ∃ k, TruV K x H' k ∧ Q k H') σ H (decide (i ≠ 0)) := fun H1 e _ q => ha H1 e _ fun H2 e2 => ⟨decide (i ≠ 0), (by
  show decide (i ≠ 0) = (i != 0)
  by_cases h : i = 0 <;> simp [h]), q H2 e2⟩
/-! ### comprehensions -/
theorem given_all (n : Nat) (v : Nat → V) (zs : List V) (hl : zs.length = n) (h : ∀ i z, zs[i]? = some z → v i = z) : given n (fun _ => true) v = zs := by
  unfold given
  rw [List.filter_eq_self.mpr fun _ _ => rfl]
  apply List.ext_getElem?
  intro i
  rw [List.getElem?_map]
  by_cases hi : i < n
  · have h1 := List.getElem?_eq_getElem (show i < zs.length by omega)
    rw [List.getElem?_range hi, h1]
    exact congrArg some (h i _ h1)
  · rw [List.getElem?_eq_none (by simp; omega), List.getElem?_eq_none (by omega)]; rfl
theorem getD_at {zs : List V} {i : Nat} {z : V} (h : zs[i]? = some z) : zs.getD i .non = z := by simp [List.getD, h]
theorem at_getD {zs : List V} {i : Nat} (h : i < zs.length) : zs[i]? = some (zs.getD i .non) := by simp [List.getD, h]
/-- [e for x in xs] -/
theorem el_lcS {a : Addr} {xs zs : List V} {j : Nat} {vs : List Nat} (h : Ev tl σ H (.ref a)) (hx : SqL K H a xs) (hz : xs.length ≤ 40000) (hl : zs.length = xs.length) (hw : ∀ x, wipe ((wipe σ vs).set j (some x)) vs = wipe σ vs)
    (he : ∀ (i : Nat) (x z : V) H1, Ex H H1 → xs[i]? = some x → zs[i]? = some z → Ev te ((wipe σ vs).set j (some x)) H1 z) : EvL (tLc (iList K tl) (gName j) tYes te vs) σ H zs := by
  rw [← given_all xs.length (fun i => zs.getD i .non) zs hl fun i z h => getD_at h]
  refine el_lcL (fun _ => true) (fun i => zs.getD i .non) h hx hz hw (fun i x H1 e hi => et_yes) fun i x H1 e hi _ => he i x _ H1 e hi (at_getD ?_)
  rw [hl]; exact (List.getElem?_eq_some_iff.mp hi).1
/-- [e for k in ns], iL to iL -/
theorem el_lcI {a : Addr} {r : Row} {j : Nat} {vs : List Nat} (g : Int → Int) (h : Ev tl σ H (.ref a)) (hx : SqL K H a (iL r)) (hz : r.length ≤ 40000) (hw : ∀ x, wipe ((wipe σ vs).set j (some x)) vs = wipe σ vs)
    (he : ∀ (k : Int) H1, Ex H H1 → k ∈ r → Ev te ((wipe σ vs).set j (some (.int k))) H1 (.int (g k))) : EvL (tLc (iList K tl) (gName j) tYes te vs) σ H (iL (r.map g)) := by
  refine el_lcS h hx (by rw [iL_len]; exact hz) (by rw [iL_len, iL_len, List.length_map]) hw fun i x z H1 e hi hz => ?_
  obtain ⟨k, rfl, hk⟩ := iL_get hi
  obtain ⟨m, rfl, hm⟩ := iL_get hz
  rw [List.getElem?_map, hk] at hm
  rw [← Option.some.inj hm]
  exact he k H1 e (List.mem_of_getElem? hk)
/-- [e for a, b in zip(xs, ys)], iL to iL -/
theorem el_lcZ {ta : TA} {a b : Addr} {r o : Row} {j1 j2 : Nat} {vs : List Nat} (g : Int → Int → Int) (h : EvA ta σ H [.ref a, .ref b]) (hx : SqL K H a (iL r)) (hy : SqL K H b (iL o)) (hz : r.length ≤ 40000) (hw : ∀ x y, wipe (((wipe σ vs).set j1 (some x)).set j2 (some y)) vs = wipe σ vs)
    (he : ∀ (k m : Int) H1, Ex H H1 → k ∈ r → m ∈ o → Ev te (((wipe σ vs).set j1 (some (.int k))).set j2 (some (.int m))) H1 (.int (g k m))) :
    EvL (tLc (iZip K ta) (gTup K 2 (gCons (gName j1) (gCons (gName j2) gNil))) tYes te vs) σ H (iL (List.zipWith g r o)) := fun H0 e Q q =>
  h H0 e _ fun H1 e1 => ⟨a, b, iL r, iL o, rfl, ex_l (e.trans e1) hx, ex_l (e.trans e1) hy, fun Dl hD => by
    have hn : min (iL r).length (iL o).length = min r.length o.length := by rw [iL_len, iL_len]
    refine lc_it (walk_zip (K := K) (a := a) (b := b) (xs := iL r) (ys := iL o) (n := min r.length o.length) hn.symm) (fun i H' => Ex H1 H' ∧ H' Dl = some (.lst (iL ((List.zipWith g r o).take i)))) ⟨Ex.new hD, upd_same⟩
      (fun i H' _ p => ⟨ex_l ((e.trans e1).trans p.1) hx, ex_l ((e.trans e1).trans p.1) hy⟩) (fun i x H' H'' hi p y => ?_) (fun H' p => ?_)
    · obtain ⟨T, x1, x2, rfl, nT, rfl, f1, f2⟩ := y
      obtain ⟨k, rfl, hk⟩ := iL_get f1
      obtain ⟨m, rfl, hm⟩ := iL_get f2
      refine ⟨T, [.int k, .int m], rfl, SqT.of upd_same, rfl, _, _, rfl, _, _, rfl, rfl, hw _ _, ?_⟩
      have eT : Ex H' (upd H' T (.tup [.int k, .int m])) := Ex.new nT
      refine yes_turn ?_
      refine he k m H1 (e.trans e1) (List.mem_of_getElem? hk) (List.mem_of_getElem? hm) _ (p.1.trans eT) _ fun H4 e4 => ?_
      have h4 : H4 Dl = some (.lst (iL ((List.zipWith g r o).take i))) := e4 _ _ (eT _ _ p.2)
      refine ⟨_, h4, sz_lt ?_, Ex.mut ((p.1.trans eT).trans e4) hD, ?_⟩
      · rw [iL_len, List.length_take]; omega
      · rw [upd_same]
        have ez : (List.zipWith g r o)[i]? = some (g k m) := by rw [List.getElem?_zipWith, hk, hm]
        rw [List.take_add_one, ez]
        unfold iL
        rw [List.map_append]; rfl
    · have ei : (List.zipWith g r o).take (min r.length o.length) = List.zipWith g r o := List.take_of_length_le (by rw [List.length_zipWith]; exact Nat.le_refl _)
      obtain ⟨p1, p2⟩ := p
      rw [ei] at p2
      exact q Dl H' (fresh_back e1 hD) (e1.trans p1) p2⟩
end
end Mine
set_option Elab.async false
set_option linter.all false
set_option maxRecDepth 100000
set_option maxHeartbeats 4000000
namespace Mine
open PySem PySem.Spec PyProof.Rows L2 Evl
section
variable {K : PySem.W.Frag} {σ : L2.St} {H H' : Hp} {ta tb te tx tl : TE} {t u : TT} {x y z v w1 : V} {D : Ends} {tu tw tz : TS}
/-! ### statements -/
theorem q_par {i j : Nat} {ta : TA} (h : EvA ta σ H [v, w1]) (k : ∀ H1, Ex H H1 → tz D ((σ.set i (some v)).set j (some w1)) H1) : tSeq (tPar i j ta) tz D σ H :=
  h H (Ex.refl H) _ fun H1 e => ⟨v, w1, rfl, k H1 e⟩
theorem s_par {i j : Nat} {ta : TA} (h : EvA ta σ H [v, w1]) (k : ∀ H1, Ex H H1 → D.nx ((σ.set i (some v)).set j (some w1)) H1) : tPar i j ta D σ H :=
  h H (Ex.refl H) _ fun H1 e => ⟨v, w1, rfl, k H1 e⟩
theorem s_forE {ta : TA} {a : Addr} {xs : List V} {j1 j2 : Nat} (h : EvA ta σ H [.ref a]) (hx : SqL K H a xs) (Pv : Nat → L2.St → Hp → Prop) (h0 : ∀ H1, Ex H H1 → Pv 0 σ H1) (hl : ∀ i σ' H', i ≤ xs.length → Pv i σ' H' → SqL K H' a xs)
    (hs : ∀ i x σ' H' H'', xs[i]? = some x → Pv i σ' H' → Ex H' H'' → tu { D with nx := Pv (i + 1), ct := Pv (i + 1), bk := D.nx } ((σ'.set j1 (some (.int (i : Nat)))).set j2 (some x)) H'') (hd : ∀ σ' H', Pv xs.length σ' H' → D.nx σ' H') :
    tFor (iEnum K ta) (gTup K 2 (gCons (gName j1) (gCons (gName j2) gNil))) tu D σ H :=
  h H (Ex.refl H) _ fun H1 e => ⟨a, xs, rfl, ex_l e hx, for_it walk_enum Pv (h0 H1 e) hl (fun i x σ' H' H'' hi p y => by
    obtain ⟨T, x1, x2, rfl, nT, rfl, f1, f2⟩ := y
    cases f1
    exact ⟨T, _, rfl, SqT.of upd_same, rfl, _, _, rfl, _, _, rfl, rfl, hs i x2 σ' H' _ f2 p (Ex.new nT)⟩) hd⟩
theorem q_forE {ta : TA} {a : Addr} {xs : List V} {j1 j2 : Nat} (h : EvA ta σ H [.ref a]) (hx : SqL K H a xs) (Pv : Nat → L2.St → Hp → Prop) (h0 : ∀ H1, Ex H H1 → Pv 0 σ H1) (hl : ∀ i σ' H', i ≤ xs.length → Pv i σ' H' → SqL K H' a xs)
    (hs : ∀ i x σ' H' H'', xs[i]? = some x → Pv i σ' H' → Ex H' H'' → tu { D with nx := Pv (i + 1), ct := Pv (i + 1), bk := tz D } ((σ'.set j1 (some (.int (i : Nat)))).set j2 (some x)) H'') (hd : ∀ σ' H', Pv xs.length σ' H' → tz D σ' H') :
    tSeq (tFor (iEnum K ta) (gTup K 2 (gCons (gName j1) (gCons (gName j2) gNil))) tu) tz D σ H := s_forE (D := { D with nx := tz D }) h hx Pv h0 hl hs hd
end
section
variable {P : Program} {w : World} {K : PySem.W.Frag} {mg : Str → Option Value} {base : Heap} {H : Hp}
/-! ### plain_row -/
def plainRow (r : Row) (M : Int) : Row := if M = 0 then r else r.map fun x => x % M
def spPlain (K : PySem.W.Frag) : Sp := fun vs H Q _ => ∃ (p : Addr) (r : Row) (M : Int), vs = [.ref p, .int M] ∧ SqL K H p (iL r) ∧ r.length ≤ 1000 ∧ 0 ≤ M ∧ RetL (iL (plainRow r M)) H Q
theorem ok_plain_row (L : Lib K mg) {f : Addr} {fd : FuncData} (F : L2.Fun K "plain_row" "plain_row" s_plain_row f fd) : FnOk P w K mg base CX0 1 f fd ["row", "modulus"] (spPlain K) := by
  refine F.ok sc_plain_row (fun vs H Q E h => ?_) (fun cdv A outer s H vs Q E hr h => ?_)
  · obtain ⟨p, r, M, rfl, _⟩ := h; rfl
  · obtain ⟨p, r, M, rfl, hp, hl, hM, k⟩ := h
    refine ⟨_, (pss_cons (ps_if (pt_cmpR op_eq (pv 1) pe_int (nomark _))
      (pss_one (ps_ret (pe_callTy call_list_of (by rfl) L.list (by decide +kernel) (pa_cons (pv 0) pa_nil))))
      pss_nil)
    (pss_one (ps_ret (pe_lc (own := [("number", 2)]) (g := gName 2) (tt := tYes) rfl sc_plain_row.nd (pi_list (pv 0)) (blkOk_by (own := [("number", 2)]) (N := N_plain_row) (sc := defScope s_plain_row) (by decide +kernel)) (fun _ _ _ _ _ => (pg_name (i := 2) sc_plain_row.nd rfl (Or.inl rfl))) (fun _ _ _ _ _ => pts_nil) (fun _ _ _ _ _ => (pe_op op_mod (pv 2) (pv 1))))))), ?_⟩
    refine q_when (et_test (ev_eqI (ev_var rfl) ev_c)) (fun hb H1 e1 => s_retL (el_list (ev_var rfl) (ex_l e1 hp)) fun p2 H2 n2 e2 h2 => ?_) (fun hb H1 e1 => s_retL (el_lcI (fun x => x % M) (ev_var rfl) (ex_l e1 hp) (by omega) (fun _ => rfl) fun x H2 e2 hx => ev_mod (ev_var rfl) (ev_var rfl) ?_) fun p2 H2 n2 e2 h2 => ?_)
    · refine k.go e1 n2 e2 ?_
      unfold plainRow; rw [if_pos (of_decide_eq_true hb)]; exact h2
    · have := of_decide_eq_false hb; omega
    · refine k.go e1 n2 e2 ?_
      unfold plainRow; rw [if_neg (of_decide_eq_false hb)]; exact h2
/-! ### less_times -/
def spLess (K : PySem.W.Frag) : Sp := fun vs H Q _ => ∃ (p q : Addr) (r o : Row) (t M : Int), vs = [.ref p, .ref q, .int t, .int M] ∧ SqL K H p (iL r) ∧ SqL K H q (iL o) ∧ r.length ≤ 1000 ∧ 0 ≤ M ∧ (M = 0 ∨ M ≠ 0) ∧ (∀ b ∈ o, CMulW t b) ∧ RetL (iL (lessT r o t M)) H Q
theorem ok_less_times (L : Lib K mg) {f : Addr} {fd : FuncData} (F : L2.Fun K "less_times" "less_times" s_less_times f fd) : FnOk P w K mg base CX0 1 f fd ["row", "other", "times", "modulus"] (spLess K) := by
  refine F.ok sc_less_times (fun vs H Q E h => ?_) (fun cdv A outer s H vs Q E hr h => ?_)
  · obtain ⟨p, q, r, o, t, M, rfl, _⟩ := h; rfl
  · obtain ⟨p, q, r, o, t, M, rfl, hp, hq, hl, hM, _, hc, k⟩ := h
    refine ⟨_, (pss_cons (ps_if (pt_cmpR op_eq (pv 2) pe_int (nomark _))
      (pss_one (ps_ret (pe_callTy call_list_of (by rfl) L.list (by decide +kernel) (pa_cons (pv 0) pa_nil))))
      pss_nil)
    (pss_cons (ps_if (pt_cmpR op_eq (pv 3) pe_int (nomark _))
      (pss_one (ps_ret (pe_lc (own := [("one", 4), ("two", 5)]) (g := gTup _ 2 (gCons (gName 4) (gCons (gName 5) gNil))) (tt := tYes) rfl sc_less_times.nd (pi_zip (by rfl) L.zip (pa_cons (pv 0) (pa_cons (pv 1) pa_nil))) (blkOk_by (own := [("one", 4), ("two", 5)]) (N := N_less_times) (sc := defScope s_less_times) (by decide +kernel)) (fun _ _ _ _ _ => (pg_tup rfl (pgs_cons (pg_name (i := 4) sc_less_times.nd rfl (Or.inl rfl)) (pgs_cons (pg_name (i := 5) sc_less_times.nd rfl (Or.inl rfl)) pgs_nil)))) (fun _ _ _ _ _ => pts_nil) (fun _ _ _ _ _ => (pe_op op_sub (pv 4) (pe_op op_mulW (pv 2) (pv 5)))))))
      pss_nil)
    (pss_one (ps_ret (pe_lc (own := [("one", 4), ("two", 5)]) (g := gTup _ 2 (gCons (gName 4) (gCons (gName 5) gNil))) (tt := tYes) rfl sc_less_times.nd (pi_zip (by rfl) L.zip (pa_cons (pv 0) (pa_cons (pv 1) pa_nil))) (blkOk_by (own := [("one", 4), ("two", 5)]) (N := N_less_times) (sc := defScope s_less_times) (by decide +kernel)) (fun _ _ _ _ _ => (pg_tup rfl (pgs_cons (pg_name (i := 4) sc_less_times.nd rfl (Or.inl rfl)) (pgs_cons (pg_name (i := 5) sc_less_times.nd rfl (Or.inl rfl)) pgs_nil)))) (fun _ _ _ _ _ => pts_nil) (fun _ _ _ _ _ => (pe_op op_mod (pe_op op_sub (pv 4) (pe_op op_mulW (pv 2) (pv 5))) (pv 3)))))))), ?_⟩
    refine q_when (et_test (ev_eqI (ev_var rfl) ev_c)) (fun hb H1 e1 => s_retL (el_list (ev_var rfl) (ex_l e1 hp)) fun p2 H2 n2 e2 h2 => ?_) (fun hb H1 e1 => ?_)
    · refine k.go e1 n2 e2 ?_
      unfold lessT; rw [if_pos (of_decide_eq_true hb)]; exact h2
    · refine q_when (et_test (ev_eqI (ev_var rfl) ev_c)) (fun hb2 H2 e2 => s_retL (el_lcZ (fun a b => a - t * b) (ea_cons (ev_var rfl) (ea_cons (ev_var rfl) ea_nil)) (ex_l (e1.trans e2) hp) (ex_l (e1.trans e2) hq) (by omega) (fun _ _ => rfl) fun a b H3 e3 ha hb3 => ev_sub (ev_var rfl) (ev_mulW (ev_var rfl) (ev_var rfl) (hc b hb3))) fun p3 H3 n3 e3 h3 => ?_)
        (fun hb2 H2 e2 => s_retL (el_lcZ (fun a b => (a - t * b) % M) (ea_cons (ev_var rfl) (ea_cons (ev_var rfl) ea_nil)) (ex_l (e1.trans e2) hp) (ex_l (e1.trans e2) hq) (by omega) (fun _ _ => rfl) fun a b H3 e3 ha hb3 => ev_mod (ev_sub (ev_var rfl) (ev_mulW (ev_var rfl) (ev_var rfl) (hc b hb3))) (ev_var rfl) ?_) fun p3 H3 n3 e3 h3 => ?_)
      · refine k.go (e1.trans e2) n3 e3 ?_
        unfold lessT; rw [if_neg (of_decide_eq_false hb), if_pos (of_decide_eq_true hb2)]; exact h3
      · have := of_decide_eq_false hb2; omega
      · refine k.go (e1.trans e2) n3 e3 ?_
        unfold lessT; rw [if_neg (of_decide_eq_false hb), if_neg (of_decide_eq_false hb2)]; exact h3
/-! ### first_place, is_zero -/
def firstP (r : Row) : Nat := r.findIdx fun x => decide (x ≠ 0)
theorem firstP_at {r : Row} {i : Nat} {k : Int} (h : r[i]? = some k) (hk : k ≠ 0) (h0 : ∀ j, j < i → en r j = 0) : firstP r = i := by
  obtain ⟨hi, e⟩ := List.getElem?_eq_some_iff.mp h
  unfold firstP
  rw [List.findIdx_eq hi]
  refine ⟨by rw [e]; simpa using hk, fun j hj => ?_⟩
  have h1 := h0 j hj
  have hjl : j < r.length := by omega
  have h2 := en_lt hjl
  rw [List.getElem?_eq_getElem hjl, h1] at h2
  rw [Option.some.inj h2]; simp
theorem firstP_end {r : Row} (h0 : ∀ j, j < r.length → en r j = 0) : firstP r = r.length := by
  unfold firstP
  rw [List.findIdx_eq_length]
  intro x hx
  obtain ⟨j, hj⟩ := List.getElem?_of_mem hx
  have h1 := h0 j (List.getElem?_eq_some_iff.mp hj).1
  rw [en_get hj] at h1
  simp [h1]
def spFirst (K : PySem.W.Frag) : Sp := fun vs H Q _ => ∃ (p : Addr) (r : Row), vs = [.ref p] ∧ SqL K H p (iL r) ∧ r.length ≤ 1000 ∧ RetV (.int (firstP r : Nat)) H Q
theorem ok_first_place (L : Lib K mg) {f : Addr} {fd : FuncData} (F : L2.Fun K "first_place" "first_place" s_first_place f fd) : FnOk P w K mg base CX0 1 f fd ["row"] (spFirst K) := by
  refine F.ok sc_first_place (fun vs H Q E h => ?_) (fun cdv A outer s H vs Q E hr h => ?_)
  · obtain ⟨p, r, rfl, _⟩ := h; rfl
  · obtain ⟨p, r, rfl, hp, hl, k⟩ := h
    refine ⟨_, (pss_cons (ps_for PassesOwn.never rfl (pi_enum (by rfl) L.enumerate (pa_cons (pv 0) pa_nil)) (pg_tup rfl (pgs_cons (pg_name (i := 1) sc_first_place.nd rfl (Or.inl rfl)) (pgs_cons (pg_name (i := 2) sc_first_place.nd rfl (Or.inl rfl)) pgs_nil)))
      (pss_one (ps_if (pt_cmpR op_ne (pv 2) pe_int (nomark _))
      (pss_one (ps_ret (pv 1)))
      pss_nil)))
    (pss_one (ps_ret (pe_callB call_len_seq (by rfl) L.len (by decide +kernel) (pa_cons (pv 0) pa_nil))))), ?_⟩
    refine q_forE (ea_cons (ev_var rfl) ea_nil) hp (fun i σ' H' => ∃ v1 v2, σ' = [some (.ref p), v1, v2] ∧ Ex H H' ∧ ∀ j, j < i → en r j = 0) (fun H1 e => ⟨none, none, rfl, e, fun j hj => absurd hj (Nat.not_lt_zero _)⟩) (fun i σ' H' _ ⟨_, _, _, e, _⟩ => ex_l e hp) ?_ ?_
    · rintro i x σ' H' H'' hi ⟨v1, v2, rfl, e, h0⟩ e2
      obtain ⟨m, rfl, hm⟩ := iL_get hi
      refine s_when (et_test (ev_neI (ev_var rfl) ev_c)) (fun hb H1 e1 => s_ret (ev_var rfl) fun H2 e3 => ?_) (fun hb H1 e1 => ⟨_, _, rfl, (e.trans e2).trans e1, fun j hj => ?_⟩)
      · have h1 := firstP_at hm (of_decide_eq_true hb) h0
        have := k.go (((e.trans e2).trans e1).trans e3)
        rw [h1] at this; exact this
      · by_cases hji : j = i
        · subst hji
          rw [en_get hm]
          have := of_decide_eq_false hb
          omega
        · exact h0 j (by omega)
    · rintro σ' H' ⟨v1, v2, rfl, e, h0⟩
      rw [iL_len] at h0
      refine s_ret (ev_len (ev_var rfl) (ex_l e hp)) fun H2 e3 => ?_
      have := k.go (e.trans e3)
      rw [firstP_end h0] at this
      rw [iL_len]; exact this
theorem firstP_spv {p : Addr} {r : Row} (hp : SqL K H p (iL r)) (hl : r.length ≤ 1000) : SpV (spFirst K) [.ref p] H (.int (firstP r : Nat)) := fun H1 e Q q _ => ⟨p, r, rfl, ex_l e hp, hl, fun H2 e2 => q H2 e2⟩
def isZ (r : Row) : Bool := decide (firstP r = r.length)
def spIsZ (K : PySem.W.Frag) : Sp := fun vs H Q _ => ∃ (p : Addr) (r : Row), vs = [.ref p] ∧ SqL K H p (iL r) ∧ r.length ≤ 1000 ∧ RetV (.bl (isZ r)) H Q
theorem ok_is_zero (L : Lib K mg) {f : Addr} {fd : FuncData} (F : L2.Fun K "is_zero" "is_zero" s_is_zero f fd) : FnOk P w K mg base CX0 2 f fd ["row"] (spIsZ K) := by
  obtain ⟨f_first_place, fd_first_place, F_first_place⟩ := L.first_place
  have G_first_place : FnOk P w K mg base CX0 1 f_first_place fd_first_place _ (spFirst K) := ok_first_place L F_first_place.F
  refine F.ok sc_is_zero (fun vs H Q E h => ?_) (fun cdv A outer s H vs Q E hr h => ?_)
  · obtain ⟨p, r, rfl, _⟩ := h; rfl
  · obtain ⟨p, r, rfl, hp, hl, k⟩ := h
    refine ⟨_, (pss_one (ps_ret (pe_cmpR op_eq (pe_call G_first_place (hr.mono (by decide)) (by rfl) F_first_place.g F_first_place.F.kp F_first_place.b .nil pass0 (pa_cons (pv 0) pa_nil)) (pe_callB call_len_seq (by rfl) L.len (by decide +kernel) (pa_cons (pv 0) pa_nil)) (nomark _)))), ?_⟩
    refine s_ret (ev_eqI (ev_call (ea_cons (ev_var rfl) ea_nil) (firstP_spv hp hl)) (ev_len (ev_var rfl) hp)) fun H1 e => ?_
    have := k.go e
    unfold isZ at this
    rw [iL_len]
    have e2 : decide ((firstP r : Int) = (r.length : Int)) = decide (firstP r = r.length) := by
      by_cases z : firstP r = r.length
      · simp [z]
      · have : ¬ (firstP r : Int) = (r.length : Int) := by omega
        simp [z, this]
    rw [e2]; exact this
end
end Mine
set_option Elab.async false
set_option linter.all false
set_option maxRecDepth 100000
set_option maxHeartbeats 4000000
namespace Mine
open PySem PySem.Spec PyProof.Rows L2 Evl
theorem cdivz {j : Int} {b : Nat} (i : Int) (h : j ≠ 0) (hb : j.natAbs < 2 ^ b) (h0 : 0 < b) (h9 : b ≤ 9000) : CDivZ i j := ⟨h, Nat.lt_of_lt_of_le (PySem.Flt.log2_lt_of h0 hb) h9⟩
theorem cdivz_small {j : Int} (i : Int) (h : j ≠ 0) (hb : j.natAbs < 1073741824) : CDivZ i j := cdivz (b := 30) i h hb (by decide) (by decide)
theorem CMulW_small {i j : Int} (h1 : i.natAbs < 1073741824) (h2 : j.natAbs < 1073741824) : CMulW i j := wide_mul (a := 30) (b := 30) h1 h2 (by decide) (by decide) (by decide)
theorem cmul_l {i j : Int} (h1 : -1000 ≤ i) (h2 : i ≤ 1000) : CMul i j := .inl ⟨by omega, by omega⟩
section
variable {K : PySem.W.Frag} {σ : L2.St} {H H' : Hp} {ta tb te tx tl : TE} {t u : TT} {x y z v w1 : V} {D : Ends} {tu tw tz : TS}
theorem q_call {sp : Sp} {dvs vs : List V} {E : XK} {ta : TA} {g : TG} (h : EvA ta σ H vs) (k : ∀ H1, Ex H H1 → sp (vs ++ dvs) H1 (fun x H2 => g x σ H2 (tz D)) E) : tSeq (tAsg (tCall sp dvs E ta) g) tz D σ H := h H (Ex.refl H) _ k
theorem s_call {sp : Sp} {dvs vs : List V} {E : XK} {ta : TA} {g : TG} (h : EvA ta σ H vs) (k : ∀ H1, Ex H H1 → sp (vs ++ dvs) H1 (fun x H2 => g x σ H2 D.nx) E) : tAsg (tCall sp dvs E ta) g D σ H := h H (Ex.refl H) _ k
/-- a, b = x, y through a tuple -/
theorem q_tup2 {i j : Nat} {ta : TA} (h : EvA ta σ H [v, w1]) (k : ∀ H1, Ex H H1 → tz D ((σ.set i (some v)).set j (some w1)) H1) : tSeq (tAsg (tTup ta) (gTup K 2 (gCons (gName i) (gCons (gName j) gNil)))) tz D σ H :=
  h H (Ex.refl H) _ fun H1 e => ⟨by show 2 ≤ sizeLine; decide, fun p hp => ⟨p, _, rfl, SqT.of upd_same, rfl, v, _, rfl, w1, _, rfl, rfl, k _ (e.trans (Ex.new hp))⟩⟩
/-- [row for row in rows if ..] -/
theorem given_filter {α : Type} (xs : List α) (d : α) (p : α → Bool) (g : α → V) : given xs.length (fun i => p (xs.getD i d)) (fun i => g (xs.getD i d)) = (xs.filter p).map g := by
  unfold given
  have e : (List.range xs.length).map (fun i => xs.getD i d) = xs := by
    apply List.ext_getElem?
    intro i
    rw [List.getElem?_map]
    by_cases hi : i < xs.length
    · rw [List.getElem?_range hi]; simp [List.getD, hi]
    · rw [List.getElem?_eq_none (by simp; omega), List.getElem?_eq_none (by omega)]; rfl
  conv => rhs; rw [← e]
  rw [List.filter_map, List.map_map]
  rfl
theorem el_lcF {a : Addr} {ps : List AR} {j : Nat} {vs : List Nat} (pr : AR → Bool) (h : Ev tl σ H (.ref a)) (hx : SqL K H a (adr ps)) (hz : ps.length ≤ 40000) (hw : ∀ x, wipe ((wipe σ vs).set j (some x)) vs = wipe σ vs)
    (ht : ∀ (x : AR) H1, Ex H H1 → x ∈ ps → EvT t ((wipe σ vs).set j (some (.ref x.1))) H1 (pr x)) (he : ∀ (x : AR) H1, Ex H H1 → x ∈ ps → Ev te ((wipe σ vs).set j (some (.ref x.1))) H1 (.ref x.1)) : EvL (tLc (iList K tl) (gName j) t te vs) σ H (adr (ps.filter pr)) := by
  unfold adr
  rw [← given_filter ps (0, []) pr fun x => V.ref x.1, ← adr_len ps]
  have hget : ∀ (i : Nat) (x : V), (adr ps)[i]? = some x → ps.getD i (0, []) ∈ ps ∧ x = .ref (ps.getD i (0, [])).1 := fun i x hi => by
    obtain ⟨q, hq, rfl⟩ := adr_get hi
    have : ps.getD i (0, []) = q := by simp [List.getD, hq]
    rw [this]; exact ⟨List.mem_of_getElem? hq, rfl⟩
  refine el_lcL (fun i => pr (ps.getD i (0, []))) (fun i => .ref (ps.getD i (0, [])).1) h hx (by rw [adr_len]; exact hz) hw (fun i x H1 e hi => ?_) fun i x H1 e hi _ => ?_
  · obtain ⟨h1, rfl⟩ := hget i x hi
    exact ht _ H1 e h1
  · obtain ⟨h1, rfl⟩ := hget i x hi
    exact he _ H1 e h1
end
/-! ### data compared as a whole -/
def dI (r : Row) : PyData := .list (r.map PyData.int)
def dR (rs : List Row) : PyData := .list (rs.map dI)
theorem dpI_all {K : PySem.W.Frag} {H : Hp} : ∀ r : Row, DpAll K H (iL r) (r.map PyData.int)
  | [] => .nil
  | x :: r => .cons (.int x) (dpI_all r)
theorem dpI {K : PySem.W.Frag} {H : Hp} {a : Addr} {r : Row} (h : SqL K H a (iL r)) : Dp K H (.ref a) (dI r) := .lst h (dpI_all r)
theorem dpR_all {K : PySem.W.Frag} {H : Hp} : ∀ ps : List AR, Rws H ps → DpAll K H (adr ps) ((rws ps).map dI)
  | [], _ => .nil
  | x :: ps, h => .cons (dpI (SqL.of (h x (List.mem_cons_self ..)))) (dpR_all ps fun y hy => h y (List.mem_cons_of_mem _ hy))
theorem dpR {K : PySem.W.Frag} {H : Hp} {a : Addr} {ps : List AR} (h : SqL K H a (adr ps)) (hr : Rws H ps) : Dp K H (.ref a) (dR (rws ps)) := .lst h (dpR_all ps hr)
theorem can_all : ∀ r : Row, PyData.canLayAll0 (r.map PyData.int) = true
  | [] => rfl
  | x :: r => by simp only [List.map_cons, PyData.canLayAll0, PyData.canLay0, can_all r]; rfl
theorem can_allR : ∀ rs : List Row, PyData.canLayAll0 (rs.map dI) = true
  | [] => rfl
  | r :: rs => by simp only [List.map_cons, PyData.canLayAll0, dI, PyData.canLay0, can_all, can_allR rs]; rfl
theorem dep_all : ∀ r : Row, PyData.depthAll (r.map PyData.int) = 0
  | [] => by simp only [List.map_nil, PyData.depthAll]
  | x :: r => by simp only [List.map_cons, PyData.depthAll, PyData.depth, dep_all r]; rfl
theorem dep_allR : ∀ rs : List Row, PyData.depthAll (rs.map dI) ≤ 1
  | [] => by simp only [List.map_nil, PyData.depthAll]; omega
  | r :: rs => by
    have := dep_allR rs
    simp only [List.map_cons, PyData.depthAll, dI, PyData.depth, dep_all] at this ⊢
    omega
theorem shI (r : Row) : SeqAt.shaped (dI r) = true := by
  unfold SeqAt.shaped dI
  rw [show PyData.canLay0 (.list (r.map PyData.int)) = true by simp only [PyData.canLay0, can_all]]
  simp only [PyData.depth, dep_all]; decide
theorem shR (rs : List Row) : SeqAt.shaped (dR rs) = true := by
  unfold SeqAt.shaped dR
  rw [show PyData.canLay0 (.list (rs.map dI)) = true by simp only [PyData.canLay0, can_allR]]
  have := dep_allR rs
  simp only [PyData.depth, Bool.true_and]
  exact decide_eq_true (by omega)
section
variable {P : Program} {w : World} {K : PySem.W.Frag} {mg : Str → Option Value} {base : Heap} {H : Hp}
/-! ### least_row -/
def spLeast (K : PySem.W.Frag) : Sp := fun vs H Q _ => ∃ (p : Addr) (ps : List AR) (a wd : Nat), vs = [.ref p, .int (a : Nat)] ∧ SqL K H p (adr ps) ∧ Rws H ps ∧ 0 < ps.length ∧ ps.length ≤ 1000 ∧ (∀ x ∈ ps, x.2.length = wd) ∧ a < wd ∧
  ∀ (k : Nat) (q : AR), ps[k]? = some q → (∀ x ∈ ps, (en q.2 a).natAbs ≤ (en x.2 a).natAbs) → RetV (.int (k : Nat)) H Q
theorem ok_least_row (L : Lib K mg) {f : Addr} {fd : FuncData} (F : L2.Fun K "least_row" "least_row" s_least_row f fd) : FnOk P w K mg base CX0 1 f fd ["rows", "at"] (spLeast K) := by
  refine F.ok sc_least_row (fun vs H Q E h => ?_) (fun cdv A outer s H vs Q E hr h => ?_)
  · obtain ⟨p, ps, a, wd, rfl, _⟩ := h; rfl
  · obtain ⟨p, ps, a, wd, rfl, hp, hR, h0, hl, hw, ha, k⟩ := h
    refine ⟨_, (pss_cons (ps_set (i := 2) sc_least_row.nd rfl (Or.inl rfl) pe_int)
    (pss_cons (ps_for PassesOwn.never rfl (pi_enum (by rfl) L.enumerate (pa_cons (pv 0) pa_nil)) (pg_tup rfl (pgs_cons (pg_name (i := 3) sc_least_row.nd rfl (Or.inl rfl)) (pgs_cons (pg_name (i := 4) sc_least_row.nd rfl (Or.inl rfl)) pgs_nil)))
      (pss_one (ps_if (pt_cmpR op_lt (pe_callB call_abs (by rfl) L.abs (by decide +kernel) (pa_cons (pe_ix ix_list (pv 4) (pv 1) (fun _ _ => rfl)) pa_nil)) (pe_callB call_abs (by rfl) L.abs (by decide +kernel) (pa_cons (pe_ix ix_list (pe_ix ix_list (pv 0) (pv 2) (fun _ _ => rfl)) (pv 1) (fun _ _ => rfl)) pa_nil)) (nomark _))
      (pss_one (ps_set (i := 2) sc_least_row.nd rfl (Or.inl rfl) (pv 3)))
      pss_nil)))
    (pss_one (ps_ret (pv 2))))), ?_⟩
    refine q_asg ev_c fun H0 e0 => ?_
    refine q_forE (ea_cons (ev_var rfl) ea_nil) (ex_l e0 hp) (fun i σ' H' => ∃ (fo : Nat) (q : AR) (v3 v4 : Option V), σ' = [some (.ref p), some (.int (a : Nat)), some (.int (fo : Nat)), v3, v4] ∧ Ex H H' ∧ ps[fo]? = some q ∧ ∀ (j : Nat) (x : AR), j < i → ps[j]? = some x → (en q.2 a).natAbs ≤ (en x.2 a).natAbs)
      (fun H1 e => ⟨0, ps[0], none, none, rfl, e0.trans e, List.getElem?_eq_getElem h0, fun j x hj => absurd hj (Nat.not_lt_zero _)⟩) (fun i σ' H' _ ⟨_, _, _, _, _, e, _⟩ => ex_l e hp) ?_ ?_
    · rintro i x σ' H' H'' hi ⟨fo, q, v3, v4, rfl, e, hq, hmin⟩ e2
      obtain ⟨y, hy, rfl⟩ := adr_get hi
      have hyin := List.mem_of_getElem? hy
      have hqin := List.mem_of_getElem? hq
      have E := e.trans e2
      have t1 : Ev _ ((([some (.ref p), some (.int (a : Nat)), some (.int (fo : Nat)), v3, v4] : L2.St).set 3 (some (.int (i : Nat)))).set 4 (some (.ref y.1))) H'' (.int (en y.2 a)) := ev_ix (K := K) (ev_var (i := 4) rfl) (ev_var (i := 1) rfl) (ex_l E (hR.seq hyin)) (iL_en (by rw [hw _ hyin]; exact ha))
      have t2 : Ev _ ((([some (.ref p), some (.int (a : Nat)), some (.int (fo : Nat)), v3, v4] : L2.St).set 3 (some (.int (i : Nat)))).set 4 (some (.ref y.1))) H'' (.int (en q.2 a)) := ev_ix (K := K) (ev_ix (K := K) (ev_var (i := 0) rfl) (ev_var (i := 2) rfl) (ex_l E hp) (atI_nat (adr_at hq))) (ev_var (i := 1) rfl) (ex_l E (hR.seq hqin)) (iL_en (by rw [hw _ hqin]; exact ha))
      refine s_when (et_test (ev_lt (ev_abs t1) (ev_abs t2))) (fun hb H1 e1 => s_asg (ev_var rfl) fun H2 e3 => ?_) (fun hb H1 e1 => ?_)
      · have hlt := of_decide_eq_true hb
        refine ⟨i, y, _, _, rfl, (E.trans e1).trans e3, hy, fun j x hj hx => ?_⟩
        have : (en y.2 a).natAbs ≤ (en q.2 a).natAbs := by
          revert hlt; split <;> split <;> omega
        by_cases hji : j = i
        · subst hji; rw [hy] at hx; rw [Option.some.inj hx]; exact Nat.le_refl _
        · exact Nat.le_trans this (hmin j x (by omega) hx)
      · have hlt := of_decide_eq_false hb
        refine ⟨fo, q, _, _, rfl, E.trans e1, hq, fun j x hj hx => ?_⟩
        by_cases hji : j = i
        · subst hji; rw [hy] at hx; rw [← Option.some.inj hx]
          revert hlt; split <;> split <;> omega
        · exact hmin j x (by omega) hx
    · rintro σ' H' ⟨fo, q, v3, v4, rfl, e, hq, hmin⟩
      rw [adr_len] at hmin
      refine s_ret (ev_var rfl) fun H2 e3 => ?_
      exact (k fo q hq fun x hx => by
        obtain ⟨j, hj⟩ := List.getElem?_of_mem hx
        exact hmin j x (List.getElem?_eq_some_iff.mp hj).1 hj).go (e.trans e3)
/-! ### inverse_of, quotient -/
def spInv (K : PySem.W.Frag) : Sp := fun vs H Q _ => ∃ n p : Int, vs = [.int n, .int p] ∧ 0 < p ∧ p ≤ 5 ∧ RetV (.int (inv n p)) H Q
theorem ok_inverse_of (L : Lib K mg) {f : Addr} {fd : FuncData} (F : L2.Fun K "inverse_of" "inverse_of" s_inverse_of f fd) : FnOk P w K mg base CX0 1 f fd ["number", "prime"] (spInv K) := by
  refine F.ok sc_inverse_of (fun vs H Q E h => ?_) (fun cdv A outer s H vs Q E hr h => ?_)
  · obtain ⟨n, p, rfl, _⟩ := h; rfl
  · obtain ⟨n, p, rfl, hp, hp5, k⟩ := h
    refine ⟨_, (pss_cons (ps_par (i := 2) (j := 3) rfl sc_inverse_of.nd rfl rfl (by decide) rfl rfl (pa_cons (pv 1) (pa_cons (pe_op op_mod (pv 0) (pv 1)) pa_nil)) (by rfl))
    (pss_cons (ps_asg (pe_tup (pa_cons pe_int (pa_cons pe_int pa_nil))) (pg_tup rfl (pgs_cons (pg_name (i := 4) sc_inverse_of.nd rfl (Or.inl rfl)) (pgs_cons (pg_name (i := 5) sc_inverse_of.nd rfl (Or.inl rfl)) pgs_nil))))
    (pss_cons (ps_while PassesOwn.never (pt_cmpR op_gt (pv 3) pe_int (nomark _))
      (pss_cons (ps_set (i := 6) sc_inverse_of.nd rfl (Or.inl rfl) (pe_op op_fdivZ (pv 2) (pv 3)))
    (pss_cons (ps_par (i := 2) (j := 3) rfl sc_inverse_of.nd rfl rfl (by decide) rfl rfl (pa_cons (pv 3) (pa_cons (pe_op op_sub (pv 2) (pe_op op_mul (pv 6) (pv 3))) pa_nil)) (by rfl))
    (pss_one (ps_par (i := 4) (j := 5) rfl sc_inverse_of.nd rfl rfl (by decide) rfl rfl (pa_cons (pv 5) (pa_cons (pe_op op_sub (pv 4) (pe_op op_mul (pv 6) (pv 5))) pa_nil)) (by rfl))))))
    (pss_one (ps_ret (pe_op op_mod (pv 5) (pv 1))))))), ?_⟩
    have hlow := Int.emod_nonneg n (show p ≠ 0 by omega)
    have hlow2 := Int.emod_lt_of_pos n hp
    refine q_par (ea_cons (ev_var rfl) (ea_cons (ev_mod (ev_var rfl) (ev_var rfl) hp) ea_nil)) fun H1 e1 => ?_
    refine q_tup2 (ea_cons ev_c (ea_cons ev_c ea_nil)) fun H2 e2 => ?_
    refine q_while (fun m σ' H' => ∃ (hi lo ab be : Int) (v6 : Option V), σ' = [some (.int n), some (.int p), some (.int hi), some (.int lo), some (.int ab), some (.int be), v6] ∧ Ex H H' ∧ 0 ≤ hi ∧ hi ≤ 5 ∧ 0 ≤ lo ∧ lo ≤ 5 ∧ m = lo.toNat ∧ ∃ fu, m ≤ fu ∧ invGo fu hi lo ab be p = inv n p)
      (n % p).toNat ⟨p, n % p, 0, 1, none, rfl, e1.trans e2, by omega, by omega, hlow, by omega, rfl, p.toNat, by omega, rfl⟩ ?_
    · rintro m σ' H' ⟨hi, lo, ab, be, v6, rfl, e, h1, h2, h3, h4, rfl, fu, hfu, hg⟩
      refine ⟨decide (1 < lo), et_test (ev_gt (ev_var rfl) ev_c), fun hb H3 e3 => ?_, fun hb H3 e3 => ?_⟩
      · have hb := of_decide_eq_true hb
        refine ⟨fun σ2 H2 => ∃ m', m' < lo.toNat ∧ ∃ (hi lo ab be : Int) (v6 : Option V), σ2 = [some (.int n), some (.int p), some (.int hi), some (.int lo), some (.int ab), some (.int be), v6] ∧ Ex H H2 ∧ 0 ≤ hi ∧ hi ≤ 5 ∧ 0 ≤ lo ∧ lo ≤ 5 ∧ m' = lo.toNat ∧ ∃ fu, m' ≤ fu ∧ invGo fu hi lo ab be p = inv n p, fun _ _ z => z, ?_⟩
        have hf : hi.fdiv lo = hi / lo := Int.fdiv_eq_ediv_of_nonneg hi (by omega)
        have hq0 : 0 ≤ hi / lo := Int.ediv_nonneg h1 (by omega)
        have hq1 : hi / lo ≤ 5 := Int.le_trans (Int.ediv_le_self lo h1) h2
        have hr1 := Int.emod_nonneg hi (show lo ≠ 0 by omega)
        have hr2 := Int.emod_lt_of_pos hi (show 0 < lo by omega)
        have hr3 := Int.emod_add_mul_ediv hi lo
        rw [Int.mul_comm lo] at hr3
        refine q_asg (ev_is (ev_fdiv (ev_var rfl) (ev_var rfl) (cdivz_small _ (by omega) (by omega))) (congrArg V.int hf)) fun H4 e4 => ?_
        refine q_par (ea_cons (ev_var rfl) (ea_cons (ev_sub (ev_var rfl) (ev_mul (ev_var rfl) (ev_var rfl) (cmul_l (by omega) (by omega)))) ea_nil)) fun H5 e5 => ?_
        refine s_par (ea_cons (ev_var rfl) (ea_cons (ev_sub (ev_var rfl) (ev_mul (ev_var rfl) (ev_var rfl) (cmul_l (by omega) (by omega)))) ea_nil)) fun H6 e6 => ?_
        refine ⟨(hi - hi / lo * lo).toNat, by omega, lo, hi - hi / lo * lo, be, ab - hi / lo * be, _, rfl, (((e.trans e3).trans e4).trans e5).trans e6, h3, h4, by omega, by omega, rfl, fu - 1, by omega, ?_⟩
        obtain ⟨g, rfl⟩ : ∃ g, fu = g + 1 := ⟨fu - 1, by omega⟩
        rw [← hg]
        show invGo g _ _ _ _ _ = invGo (g + 1) _ _ _ _ _
        conv => rhs; unfold invGo
        rw [if_pos hb]
      · have hb := of_decide_eq_false hb
        refine s_ret (ev_mod (ev_var rfl) (ev_var rfl) hp) fun H4 e4 => ?_
        have := k.go ((e.trans e3).trans e4)
        rw [← hg] at this
        have e9 : invGo fu hi lo ab be p = be % p := by
          cases fu with
          | zero => rfl
          | succ g => unfold invGo; rw [if_neg hb]
        rw [e9] at this
        exact this
def spQuot (K : PySem.W.Frag) : Sp := fun vs H Q _ => ∃ n p M : Int, vs = [.int n, .int p, .int M] ∧ Md M ∧ (M = 0 → CDivZ n p) ∧ (M ≠ 0 → 0 ≤ n ∧ n < M ∧ 0 < p ∧ p < M) ∧ RetV (.int (quot n p M)) H Q
theorem ok_quotient (L : Lib K mg) {f : Addr} {fd : FuncData} (F : L2.Fun K "quotient" "quotient" s_quotient f fd) : FnOk P w K mg base CX0 2 f fd ["number", "pivot", "modulus"] (spQuot K) := by
  obtain ⟨f_inverse_of, fd_inverse_of, F_inverse_of⟩ := L.inverse_of
  have G_inverse_of : FnOk P w K mg base CX0 1 f_inverse_of fd_inverse_of _ (spInv K) := ok_inverse_of L F_inverse_of.F
  refine F.ok sc_quotient (fun vs H Q E h => ?_) (fun cdv A outer s H vs Q E hr h => ?_)
  · obtain ⟨n, p, M, rfl, _⟩ := h; rfl
  · obtain ⟨n, p, M, rfl, hm, h0, h1, k⟩ := h
    refine ⟨_, (pss_cons (ps_if (pt_cmpR op_eq (pv 2) pe_int (nomark _))
      (pss_one (ps_ret (pe_op op_fdivZ (pv 0) (pv 1))))
      pss_nil)
    (pss_one (ps_ret (pe_op op_mod (pe_op op_mulW (pv 0) (pe_call G_inverse_of (hr.mono (by decide)) (by rfl) F_inverse_of.g F_inverse_of.F.kp F_inverse_of.b .nil pass0 (pa_cons (pv 1) (pa_cons (pv 2) pa_nil)))) (pv 2))))), ?_⟩
    refine q_when (et_test (ev_eqI (ev_var rfl) ev_c)) (fun hb H1 e1 => ?_) (fun hb H1 e1 => ?_)
    · have hM := of_decide_eq_true hb
      refine s_ret (ev_fdiv (ev_var rfl) (ev_var rfl) (h0 hM)) fun H2 e2 => ?_
      have := k.go (e1.trans e2)
      unfold quot at this; rw [if_pos hM] at this; exact this
    · have hM := of_decide_eq_false hb
      obtain ⟨a1, a2, a3, a4⟩ := h1 hM
      have hM2 := hm.pos hM
      refine s_ret (ev_mod (ev_mulW (ev_var rfl) (ev_call (z := .int (inv p M)) (ea_cons (ev_var rfl) (ea_cons (ev_var rfl) ea_nil)) (fun H3 e3 Q q _ => ⟨p, M, rfl, by omega, by omega, fun H4 e4 => q H4 e4⟩)) (CMulW_small ?_ ?_)) (ev_var rfl) (by omega)) fun H2 e2 => ?_
      · omega
      · obtain ⟨_, i2, i3⟩ := inv_ok hm hM a3 a4
        omega
      · have := k.go (e1.trans e2)
        unfold quot at this; rw [if_neg hM] at this; exact this
end
end Mine
set_option Elab.async false
set_option linter.all false
set_option maxRecDepth 100000
set_option maxHeartbeats 4000000
namespace Mine
open PySem PySem.Spec PyProof.Rows L2 Evl
theorem iL_ne_adr {r : Row} {ps : List AR} (h : 0 < r.length) : iL r ≠ adr ps := by
  intro e
  cases r with
  | nil => simp at h
  | cons x r =>
    cases ps with
    | nil => simp [iL, adr] at e
    | cons y ps => simp [iL, adr] at e
theorem Rws.ne {H : Hp} {ps qs : List AR} {p : Addr} (h : Rws H ps) (hl : ∀ x ∈ ps, 0 < x.2.length) (hp : H p = some (.lst (adr qs))) : ∀ x ∈ ps, x.1 ≠ p := fun x hx e => by
  have h1 := h x hx
  rw [e, hp] at h1
  injection h1 with h1
  injection h1 with h1
  exact iL_ne_adr (hl x hx) h1.symm
theorem Rws.upd {H : Hp} {ps : List AR} {p : Addr} {o : HO} (h : Rws H ps) (hn : ∀ x ∈ ps, x.1 ≠ p) : Rws (upd H p o) ps := fun x hx => by
  rw [upd_ne (hn x hx)]; exact h x hx
theorem erase_take {α : Type} {l : List α} {i k : Nat} {x : α} (h : l[i]? = some x) : (l.take (i + 1)).eraseIdx k = if i = k then (l.take i).eraseIdx k else (l.take i).eraseIdx k ++ [x] := by
  obtain ⟨hi, e⟩ := List.getElem?_eq_some_iff.mp h
  have hlen : (l.take i).length = i := by rw [List.length_take]; omega
  rw [List.take_add_one, h]
  show (l.take i ++ [x]).eraseIdx k = _
  by_cases hk : k < i
  · rw [if_neg (by omega), List.eraseIdx_append_of_lt_length (by omega)]
  · rw [List.eraseIdx_append_of_length_le (by omega), hlen]
    by_cases he : i = k
    · rw [if_pos he, he, Nat.sub_self, List.eraseIdx_of_length_le (List.length_take_le k l)]
      simp
    · rw [if_neg he, List.eraseIdx_of_length_le (Nat.le_trans (List.length_take_le i l) (by omega))]
      obtain ⟨m, hm⟩ : ∃ m, k - i = m + 1 := ⟨k - i - 1, by omega⟩
      rw [hm]; rfl
theorem filter_len {α : Type} (p : α → Bool) : ∀ l : List α, l.length = (l.filter p).length + (l.filter fun x => !p x).length
  | [] => rfl
  | x :: l => by
    have := filter_len p l
    by_cases h : p x = true
    · rw [List.filter_cons_of_pos h, List.filter_cons_of_neg (by simp [h])]; simp only [List.length_cons]; omega
    · rw [List.filter_cons_of_neg h, List.filter_cons_of_pos (by simp [h])]; simp only [List.length_cons]; omega
theorem natAbs_fdiv {n p : Int} (hp : p ≠ 0) : (n.fdiv p).natAbs ≤ n.natAbs := by
  obtain ⟨f1, f2⟩ := fdiv_facts n p hp
  generalize n.fdiv p = q at *
  have h1 : (q * p).natAbs ≤ n.natAbs + p.natAbs - 1 := by
    rcases Int.lt_or_gt_of_ne hp with h | h
    · have := f2 h; omega
    · have := f1 h; omega
  rw [Int.natAbs_mul] at h1
  have hp1 : 1 ≤ p.natAbs := by omega
  rcases Nat.lt_or_ge n.natAbs q.natAbs with z | z
  · exfalso
    have h2 : (n.natAbs + 1) * p.natAbs ≤ q.natAbs * p.natAbs := Nat.mul_le_mul_right _ z
    have h3 : n.natAbs ≤ n.natAbs * p.natAbs := Nat.le_mul_of_pos_right _ hp1
    rw [Nat.add_mul] at h2
    omega
  · exact z
section
variable {K : PySem.W.Frag} {σ : L2.St} {H H' : Hp} {ta tb te tx tl : TE} {t u : TT} {x y z v w1 : V} {D : Ends} {tu tw tz : TS}
/-- return (a, [..]) -/
theorem s_retPL {xs : List V} (ha : Ev ta σ H x) (h : EvL te σ H xs) (k : ∀ p q H1, H p = none → H q = none → Ex H H1 → H1 q = some (.lst xs) → H1 p = some (.tup [x, .ref q]) → D.rt (.ref p) H1) : tRet (tTup (tCons ta (tCons te tNil))) D σ H :=
  ha H (Ex.refl H) _ fun H1 e1 => h H1 e1 _ fun q H2 hq e2 h2 => ⟨by show 2 ≤ sizeLine; decide, fun p hp => k p q _ (fresh_back (e1.trans e2) hp) (fresh_back e1 hq) ((e1.trans e2).trans (Ex.new hp)) (by rw [upd_ne (ne_of_none h2 hp)]; exact h2) upd_same⟩
theorem less_spl {p q : Addr} {r o : Row} {t M : Int} (hp : SqL K H p (iL r)) (hq : SqL K H q (iL o)) (hl : r.length ≤ 1000) (hM : 0 ≤ M) (hc : ∀ b ∈ o, CMulW t b) : SpL (spLess K) [.ref p, .ref q, .int t, .int M] H (iL (lessT r o t M)) :=
  fun H1 e Q k _ => ⟨p, q, r, o, t, M, rfl, ex_l e hp, ex_l e hq, hl, hM, Classical.em _, hc, k⟩
theorem quot_spv {n p M : Int} (hm : Md M) (h0 : M = 0 → CDivZ n p) (h1 : M ≠ 0 → 0 ≤ n ∧ n < M ∧ 0 < p ∧ p < M) : SpV (spQuot K) [.int n, .int p, .int M] H (.int (quot n p M)) :=
  fun H1 e Q k _ => ⟨n, p, M, rfl, hm, h0, h1, k⟩
end
/-! ### one_pivot -/
/-- the while's word -/
structure PWh (H0 : Hp) (p z : Addr) (ps : List AR) (M : Int) (wd a B : Nat) (b : Addr) (zs bs : List AR) (H' : Hp) : Prop where
  ex : Ex H0 H'
  hz : H' z = some (.lst (adr zs))
  hb : H' b = some (.lst (adr bs))
  ne : b ≠ z
  rz : Rws H' zs
  rb : Rws H' bs
  pi : PI M wd a B (rws ps) (rws zs) (rws bs)
  al : ∀ x ∈ zs ++ bs, x.1 ∈ ps.map (·.1) ∨ H0 x.1 = none
  ct : zs.length + bs.length ≤ ps.length
theorem PWh.exx {H0 : Hp} {p z : Addr} {ps : List AR} {M : Int} {wd a B : Nat} {b : Addr} {zs bs : List AR} {H' H'' : Hp} (W : PWh H0 p z ps M wd a B b zs bs H') (e : Ex H' H'') : PWh H0 p z ps M wd a B b zs bs H'' :=
  ⟨W.ex.trans e, e _ _ W.hz, e _ _ W.hb, W.ne, W.rz.ex e, W.rb.ex e, W.pi, W.al, W.ct⟩
theorem mem_rws {ps : List AR} {x : AR} (h : x ∈ ps) : x.2 ∈ rws ps := List.mem_map.mpr ⟨x, h, rfl⟩
theorem rws_app (ps qs : List AR) : rws (ps ++ qs) = rws ps ++ rws qs := List.map_append ..
theorem adr_app (ps qs : List AR) : adr (ps ++ qs) = adr ps ++ adr qs := List.map_append ..
theorem rws_at {ps : List AR} {i : Nat} {x : AR} (h : ps[i]? = some x) : (rws ps)[i]? = some x.2 := by unfold rws; rw [List.getElem?_map, h]; rfl
/-- the inner loop's word -/
structure PIn (H0 : Hp) (z bh b : Addr) (ps zs bs : List AR) (M : Int) (a k : Nat) (q : AR) (i : Nat) (zs' bhs : List AR) (H' : Hp) : Prop where
  ex : Ex H0 H'
  hz : H' z = some (.lst (adr zs'))
  hh : H' bh = some (.lst (adr bhs))
  hb : H' b = some (.lst (adr bs))
  rz : Rws H' zs'
  rh : Rws H' bhs
  rb : Rws H' bs
  ez : rws zs' = rws zs ++ ((((rws bs).take i).eraseIdx k).map (shortOf q.2 a M)).filter fun s => decide (en s a = 0)
  eh : rws bhs = q.2 :: ((((rws bs).take i).eraseIdx k).map (shortOf q.2 a M)).filter fun s => decide (en s a ≠ 0)
  al : ∀ x ∈ zs' ++ bhs, x.1 ∈ ps.map (·.1) ∨ H0 x.1 = none
  ct : zs'.length + bhs.length ≤ zs.length + 1 + i
theorem PIn.exx {H0 : Hp} {z bh b : Addr} {ps zs bs : List AR} {M : Int} {a k : Nat} {q : AR} {i : Nat} {zs' bhs : List AR} {H' H'' : Hp} (W : PIn H0 z bh b ps zs bs M a k q i zs' bhs H') (e : Ex H' H'') : PIn H0 z bh b ps zs bs M a k q i zs' bhs H'' :=
  ⟨W.ex.trans e, e _ _ W.hz, e _ _ W.hh, e _ _ W.hb, W.rz.ex e, W.rh.ex e, W.rb.ex e, W.ez, W.eh, W.al, W.ct⟩
def PivV (H0 H' : Hp) (ps : List AR) (v : V) (pv : Option Row) : Prop := (v = .non ∧ pv = none) ∨ ∃ (b : Addr) (r : Row), v = .ref b ∧ pv = some r ∧ H' b = some (.lst (iL r)) ∧ (b ∈ ps.map (·.1) ∨ H0 b = none)
def spPivot (K : PySem.W.Frag) : Sp := fun vs H Q _ => ∃ (p : Addr) (ps : List AR) (a wd B : Nat) (M : Int), vs = [.ref p, .int (a : Nat), .int M] ∧ SqL K H p (adr ps) ∧ Rws H ps ∧ Md M ∧ a < wd ∧ wd ≤ 1000 ∧ 1 ≤ B ∧ 6 * B ^ 4 < 2 ^ 8999 ∧ ps.length ≤ 1000 ∧
  (∀ r ∈ rws ps, r.length = wd) ∧ (∀ r ∈ rws ps, Rng M r) ∧ (M = 0 → Bnd B (rws ps)) ∧
  ∀ (t z : Addr) (zs : List AR) (v : V) (pv : Option Row) (H' : Hp), Ex H H' → H' t = some (.tup [.ref z, v]) → H' z = some (.lst (adr zs)) → H z = none → Rws H' zs → PivV H H' ps v pv → PPost M wd a B (rws ps) (rws zs) pv → (∀ x ∈ zs, x.1 ∈ ps.map (·.1) ∨ H x.1 = none) → zs.length ≤ ps.length → Q (.ref t) H'
section
variable {P : Program} {w : World} {K : PySem.W.Frag} {mg : Str → Option Value} {base : Heap} {H : Hp}
theorem ok_one_pivot (L : Lib K mg) {f : Addr} {fd : FuncData} (F : L2.Fun K "one_pivot" "one_pivot" s_one_pivot f fd) : FnOk P w K mg base CX0 3 f fd ["rows", "at", "modulus"] (spPivot K) := by
  obtain ⟨f_inverse_of, fd_inverse_of, F_inverse_of⟩ := L.inverse_of
  obtain ⟨f_least_row, fd_least_row, F_least_row⟩ := L.least_row
  obtain ⟨f_less_times, fd_less_times, F_less_times⟩ := L.less_times
  obtain ⟨f_quotient, fd_quotient, F_quotient⟩ := L.quotient
  have G_inverse_of : FnOk P w K mg base CX0 1 f_inverse_of fd_inverse_of _ (spInv K) := ok_inverse_of L F_inverse_of.F
  have G_least_row : FnOk P w K mg base CX0 1 f_least_row fd_least_row _ (spLeast K) := ok_least_row L F_least_row.F
  have G_less_times : FnOk P w K mg base CX0 1 f_less_times fd_less_times _ (spLess K) := ok_less_times L F_less_times.F
  have G_quotient : FnOk P w K mg base CX0 2 f_quotient fd_quotient _ (spQuot K) := ok_quotient L F_quotient.F
  refine F.ok sc_one_pivot (fun vs H Q E h => ?_) (fun cdv A outer s H vs Q E hr h => ?_)
  · obtain ⟨p, ps, a, wd, B, M, rfl, _⟩ := h; rfl
  · obtain ⟨p, ps, a, wd, B, M, rfl, hp, hR, hm, ha, hwd, hB, hBig, hl, hlen, hrng, hbnd, fin⟩ := h
    refine ⟨_, (pss_cons (ps_setLc (i := 4) (own := [("row", 3)]) (g := gName 3) (tt := _) rfl sc_one_pivot.nd rfl rfl (sw_true rfl rfl rfl (by decide +kernel)) (pi_list (pv 0)) (blkOk_by (own := [("row", 3)]) (N := N_one_pivot) (sc := defScope s_one_pivot) (by decide +kernel)) (fun _ _ _ _ _ => (pg_name (i := 3) sc_one_pivot.nd rfl (Or.inl rfl))) (fun _ _ _ _ _ => pts_one (pt_cmpR op_eq (pe_ix (ix_listK (K := K)) (pv 3) (pv 1) (fun _ _ => rfl)) pe_int (nomark _))) (fun _ _ _ _ _ => (pv 3)))
    (pss_cons (ps_setLc (i := 5) (own := [("row", 3)]) (g := gName 3) (tt := _) rfl sc_one_pivot.nd rfl rfl (sw_true rfl rfl rfl (by decide +kernel)) (pi_list (pv 0)) (blkOk_by (own := [("row", 3)]) (N := N_one_pivot) (sc := defScope s_one_pivot) (by decide +kernel)) (fun _ _ _ _ _ => (pg_name (i := 3) sc_one_pivot.nd rfl (Or.inl rfl))) (fun _ _ _ _ _ => pts_one (pt_cmpR op_ne (pe_ix (ix_listK (K := K)) (pv 3) (pv 1) (fun _ _ => rfl)) pe_int (nomark _))) (fun _ _ _ _ _ => (pv 3)))
    (pss_cons (ps_while PassesOwn.never (pt_cmpR op_gt (pe_callB call_len_seq (by rfl) L.len (by decide +kernel) (pa_cons (pv 5) pa_nil)) pe_int (nomark _))
      (pss_cons (ps_set (i := 6) sc_one_pivot.nd rfl (Or.inl rfl) (pe_call G_least_row (hr.mono (by decide)) (by rfl) F_least_row.g F_least_row.F.kp F_least_row.b .nil pass0 (pa_cons (pv 5) (pa_cons (pv 1) pa_nil))))
    (pss_cons (ps_set (i := 7) sc_one_pivot.nd rfl (Or.inl rfl) (pe_ix ix_list (pv 5) (pv 6) (fun _ _ => rfl)))
    (pss_cons (ps_set (i := 8) sc_one_pivot.nd rfl (Or.inl rfl) (pe_lst (pa_cons (pv 7) pa_nil)))
    (pss_cons (ps_for PassesOwn.never rfl (pi_enum (by rfl) L.enumerate (pa_cons (pv 5) pa_nil)) (pg_tup rfl (pgs_cons (pg_name (i := 9) sc_one_pivot.nd rfl (Or.inl rfl)) (pgs_cons (pg_name (i := 3) sc_one_pivot.nd rfl (Or.inl rfl)) pgs_nil)))
      (pss_one (ps_if (pt_cmpR op_ne (pv 9) (pv 6) (nomark _))
      (pss_cons (ps_set (i := 10) sc_one_pivot.nd rfl (Or.inl rfl) (pe_call G_less_times (hr.mono (by decide)) (by rfl) F_less_times.g F_less_times.F.kp F_less_times.b .nil pass0 (pa_cons (pv 3) (pa_cons (pv 7) (pa_cons (pe_call G_quotient (hr.mono (by decide)) (by rfl) F_quotient.g F_quotient.F.kp F_quotient.b .nil pass0 (pa_cons (pe_ix ix_list (pv 3) (pv 1) (fun _ _ => rfl)) (pa_cons (pe_ix ix_list (pv 7) (pv 1) (fun _ _ => rfl)) (pa_cons (pv 2) pa_nil)))) (pa_cons (pv 2) pa_nil))))))
    (pss_one (ps_if (pt_cmpR op_eq (pe_ix ix_list (pv 10) (pv 1) (fun _ _ => rfl)) pe_int (nomark _))
      (pss_one (ps_expr (pe_bm PySem.F.plainAttrs_list PySem.F.slot_list_append PySem.F.type_list_append mt_append (pv 4) (pa_cons (pv 10) pa_nil))))
      (pss_one (ps_expr (pe_bm PySem.F.plainAttrs_list PySem.F.slot_list_append PySem.F.type_list_append mt_append (pv 8) (pa_cons (pv 10) pa_nil)))))))
      pss_nil)))
    (pss_one (ps_set (i := 5) sc_one_pivot.nd rfl (Or.inl rfl) (pv 8))))))))
    (pss_cons (ps_if (pt_cmpR (op_eqD hr.units) (pv 5) (pe_lst pa_nil) (nomark _))
      (pss_one (ps_ret (pe_tup (pa_cons (pv 4) (pa_cons pe_non pa_nil)))))
      pss_nil)
    (pss_cons (ps_set (i := 7) sc_one_pivot.nd rfl (Or.inl rfl) (pe_ix ix_list (pv 5) pe_int (fun _ _ => rfl)))
    (pss_cons (ps_if (pt_cmpR op_ne (pv 2) pe_int (nomark _))
      (pss_cons (ps_set (i := 11) sc_one_pivot.nd rfl (Or.inr rfl) (pe_call G_inverse_of (hr.mono (by decide)) (by rfl) F_inverse_of.g F_inverse_of.F.kp F_inverse_of.b .nil pass0 (pa_cons (pe_ix ix_list (pv 7) (pv 1) (fun _ _ => rfl)) (pa_cons (pv 2) pa_nil))))
    (pss_one (ps_ret (pe_tup (pa_cons (pv 4) (pa_cons (pe_lc (own := [("number", 12)]) (g := gName 12) (tt := tYes) rfl sc_one_pivot.nd (pi_list (pv 7)) (blkOk_by (own := [("number", 12)]) (N := N_one_pivot) (sc := defScope s_one_pivot) (by decide +kernel)) (fun _ _ _ _ _ => (pg_name (i := 12) sc_one_pivot.nd rfl (Or.inl rfl))) (fun _ _ _ _ _ => pts_nil) (fun _ _ _ _ _ => (pe_op op_mod (pe_op op_mulW (pv 12) (pv 11)) (pv 2)))) pa_nil))))))
      pss_nil)
    (pss_cons (ps_if (pt_cmpR op_lt (pe_ix ix_list (pv 7) (pv 1) (fun _ _ => rfl)) pe_int (nomark _))
      (pss_one (ps_ret (pe_tup (pa_cons (pv 4) (pa_cons (pe_lc (own := [("number", 12)]) (g := gName 12) (tt := tYes) rfl sc_one_pivot.nd (pi_list (pv 7)) (blkOk_by (own := [("number", 12)]) (N := N_one_pivot) (sc := defScope s_one_pivot) (by decide +kernel)) (fun _ _ _ _ _ => (pg_name (i := 12) sc_one_pivot.nd rfl (Or.inl rfl))) (fun _ _ _ _ _ => pts_nil) (fun _ _ _ _ _ => (pe_op op_sub pe_int (pv 12)))) pa_nil)))))
      pss_nil)
    (pss_one (ps_ret (pe_tup (pa_cons (pv 4) (pa_cons (pv 7) pa_nil)))))))))))), ?_⟩
    have lenp : ∀ x ∈ ps, a < x.2.length := fun x hx => by rw [hlen x.2 (mem_rws hx)]; exact ha
    refine q_asgL (el_lcF (fun x => decide (en x.2 a = 0)) (ev_var rfl) hp (by omega) (fun _ => rfl) (fun x H1 e1 hx => et_test (ev_eqI (ev_ix (ev_var rfl) (ev_var rfl) (ex_l e1 (hR.seq hx)) (iL_en (lenp x hx))) ev_c)) (fun x H1 e1 hx => ev_var rfl)) fun z H1 nz e1 hz => ?_
    refine q_asgL (el_lcF (fun x => decide (en x.2 a ≠ 0)) (ev_var rfl) (ex_l e1 hp) (by omega) (fun _ => rfl) (fun x H2 e2 hx => et_test (ev_neI (ev_ix (ev_var rfl) (ev_var rfl) (ex_l (e1.trans e2) (hR.seq hx)) (iL_en (lenp x hx))) ev_c)) (fun x H1 e1 hx => ev_var rfl)) fun b H2 nb e2 hb => ?_
    have fz : ∀ pr : AR → Bool, ∀ x ∈ ps.filter pr, x ∈ ps := fun pr x hx => (List.mem_filter.mp hx).1
    have start : PWh H p z ps M wd a B b (ps.filter fun x => decide (en x.2 a = 0)) (ps.filter fun x => decide (en x.2 a ≠ 0)) H2 := by
      have r2 : ∀ pr : Row → Bool, rws (ps.filter fun x => pr x.2) = (rws ps).filter pr := fun pr => by unfold rws; rw [List.filter_map]; rfl
      refine ⟨e1.trans e2, e2 _ _ hz, hb, (ne_of_none hz nb).symm, (hR.ex (e1.trans e2)).sub (fz _), (hR.ex (e1.trans e2)).sub (fz _), ?_, fun x hx => .inl ?_, ?_⟩
      · rw [r2 fun r => decide (en r a = 0), r2 fun r => decide (en r a ≠ 0)]
        exact PI.start hlen hrng hbnd
      · have : x ∈ ps := (List.mem_append.mp hx).elim (fz _ x) (fz _ x)
        exact List.mem_map.mpr ⟨x, this, rfl⟩
      · have := filter_len (fun x => decide (en x.2 a = 0)) ps
        have e : (fun x : AR => !decide (en x.2 a = 0)) = fun x => decide (en x.2 a ≠ 0) := by funext x; simp
        rw [e] at this; omega
    refine q_while (fun m σ' H' => ∃ (b : Addr) (zs bs : List AR) (v3 v6 v7 v8 v9 v10 v11 v12 : Option V), σ' = [some (.ref p), some (.int (a : Nat)), some (.int M), v3, some (.ref z), some (.ref b), v6, v7, v8, v9, v10, v11, v12] ∧ PWh H p z ps M wd a B b zs bs H' ∧ m = meas a (rws bs))
      _ ⟨b, _, _, none, none, none, none, none, none, none, none, rfl, start, rfl⟩ ?_
    rintro m σ' H3 ⟨b, zs, bs, v3, v6, v7, v8, v9, v10, v11, v12, rfl, W, rfl⟩
    have lenz : ∀ x ∈ zs, x.2.length = wd := fun x hx => W.pi.len x.2 (List.mem_append_left _ (mem_rws hx))
    have lenb : ∀ x ∈ bs, x.2.length = wd := fun x hx => W.pi.len x.2 (List.mem_append_right _ (mem_rws hx))
    have ct := W.ct
    have mbnd : M = 0 → Bnd (6 * B ^ 4) (rws zs ++ rws bs) := fun hM => (W.pi.sz hM).bnd hB
    refine ⟨decide ((1 : Int) < ((adr bs).length : Nat)), et_test (ev_gt (ev_len (ev_var rfl) (sq_of W.hb)) ev_c), fun hb2 H4 e4 => ?_, fun hb2 H4 e4 => ?_⟩
    · -- one turn
      have h2 : 2 ≤ bs.length := by
        have := of_decide_eq_true hb2
        rw [adr_len] at this; omega
      have W4 := W.exx e4
      refine ⟨fun σ2 H2 => ∃ m', m' < meas a (rws bs) ∧ ∃ (b : Addr) (zs bs : List AR) (v3 v6 v7 v8 v9 v10 v11 v12 : Option V), σ2 = [some (.ref p), some (.int (a : Nat)), some (.int M), v3, some (.ref z), some (.ref b), v6, v7, v8, v9, v10, v11, v12] ∧ PWh H p z ps M wd a B b zs bs H2 ∧ m' = meas a (rws bs), fun _ _ q => q, ?_⟩
      refine q_call (ea_cons (ev_var rfl) (ea_cons (ev_var rfl) ea_nil)) fun H5 e5 => ⟨b, bs, a, wd, rfl, sq_of (e5 _ _ W4.hb), W4.rb.ex e5, by omega, by omega, lenb, ha, fun k q hq hmin H6 e6 => ?_⟩
      have W6 := W4.exx (e5.trans e6)
      have hqin := List.mem_of_getElem? hq
      have hqr : q.2 ∈ rws bs := mem_rws hqin
      have hne := W.pi.b0 q.2 hqr
      refine q_asg (ev_ix (ev_var rfl) (ev_var rfl) (sq_of W6.hb) (atI_nat (adr_at hq))) fun H7 e7 => ?_
      refine q_asgL (el_lst (ea_cons (ev_var rfl) ea_nil) (by simp)) fun bh H8 nbh e8 hbh => ?_
      have W8 := W6.exx (e7.trans e8)
      have nbh7 : H7 bh = none := nbh
      have nbhH : H bh = none := fresh_back (W6.ex.trans e7) nbh
      have bhz : bh ≠ z := (ne_of_none (e7 _ _ W6.hz) nbh).symm
      have bhb : bh ≠ b := (ne_of_none (e7 _ _ W6.hb) nbh).symm
      have nzH : H z = none := nz
      have in0 : PIn H z bh b ps zs bs M a k q 0 zs [q] H8 := by
        refine ⟨W8.ex, W8.hz, hbh, W8.hb, W8.rz, fun x hx => ?_, W8.rb, by simp, by simp [rws], fun x hx => ?_, by simp⟩
        · rw [List.mem_singleton.mp hx]; exact W8.rb q hqin
        · rcases List.mem_append.mp hx with h | h
          · exact W8.al x (List.mem_append_left _ h)
          · rw [List.mem_singleton.mp h]; exact W8.al q (List.mem_append_right _ hqin)
      refine q_forE (ea_cons (ev_var rfl) ea_nil) (sq_of W8.hb) (fun i σ' H' => ∃ (zs' bhs : List AR) (v3 v9 v10 v11 v12 : Option V), σ' = [some (.ref p), some (.int (a : Nat)), some (.int M), v3, some (.ref z), some (.ref b), some (.int (k : Nat)), some (.ref q.1), some (.ref bh), v9, v10, v11, v12] ∧ PIn H z bh b ps zs bs M a k q i zs' bhs H')
        (fun H9 e9 => ⟨zs, [q], _, _, _, _, _, rfl, in0.exx e9⟩) (fun i σ' H' _ ⟨_, _, _, _, _, _, _, _, I⟩ => sq_of I.hb) ?_ ?_
      · rintro i x σ' H' H'' hi ⟨zs', bhs, v3, v9, v10, v11, v12, rfl, I⟩ e9
        obtain ⟨y, hy, rfl⟩ := adr_get hi
        have hyin := List.mem_of_getElem? hy
        have hyr : y.2 ∈ rws bs := mem_rws hyin
        have I9 := I.exx e9
        have hin : i < bs.length := (List.getElem?_eq_some_iff.mp hy).1
        have et := erase_take (k := k) (rws_at hy)
        have cti := I.ct
        have kne : (decide ((i : Int) ≠ (k : Int)) = true) ↔ ¬ i = k := by
          constructor
          · intro h e; subst e; simp at h
          · intro h; exact decide_eq_true (by omega)
        refine s_when (et_test (ev_neI (ev_var rfl) (ev_var rfl))) (fun hb3 H10 e10 => ?_) (fun hb3 H10 e10 => ?_)
        · have hik : ¬ i = k := kne.mp hb3
          rw [if_neg hik] at et
          have I10 := I9.exx e10
          have exA := I10.ex
          -- the sizes
          have dz : M = 0 → CDivZ (en y.2 a) (en q.2 a) := fun hM => cdivz (b := 8999) _ hne (Nat.lt_of_le_of_lt (mbnd hM q.2 (List.mem_append_right _ hqr) a) hBig) (by decide) (by decide)
          have dM : M ≠ 0 → 0 ≤ en y.2 a ∧ en y.2 a < M ∧ 0 < en q.2 a ∧ en q.2 a < M := fun hM => by
            have h1 := W.pi.rng y.2 (List.mem_append_right _ hyr) hM a
            have h2 := W.pi.rng q.2 (List.mem_append_right _ hqr) hM a
            omega
          have mulOk : ∀ c ∈ q.2, CMulW (quot (en y.2 a) (en q.2 a) M) c := fun c hc => by
            obtain ⟨j, hj⟩ := List.getElem?_of_mem hc
            have ec := en_get hj
            by_cases hM : M = 0
            · have hq1 : (quot (en y.2 a) (en q.2 a) M).natAbs < 2 ^ 8999 := by
                unfold quot; rw [if_pos hM]
                exact Nat.lt_of_le_of_lt (Nat.le_trans (natAbs_fdiv hne) (mbnd hM y.2 (List.mem_append_right _ hyr) a)) hBig
              have hc1 : c.natAbs < 2 ^ 8999 := by
                rw [← ec]; exact Nat.lt_of_le_of_lt (mbnd hM q.2 (List.mem_append_right _ hqr) j) hBig
              exact wide_mul hq1 hc1 (by decide) (by decide) (by decide)
            · have hM2 := hm.pos hM
              have h2 := W.pi.rng q.2 (List.mem_append_right _ hqr) hM j
              have h3 : 0 ≤ quot (en y.2 a) (en q.2 a) M ∧ quot (en y.2 a) (en q.2 a) M < M := by
                unfold quot; rw [if_neg hM]
                exact ⟨Int.emod_nonneg _ hM, Int.emod_lt_of_pos _ (by omega)⟩
              rw [← ec]
              exact CMulW_small (by omega) (by omega)
          have ly : y.2.length = wd := lenb y hyin
          have lq : q.2.length = wd := lenb q hqin
          refine q_asgL (el_call (ea_cons (ev_var rfl) (ea_cons (ev_var rfl) (ea_cons (ev_call (z := .int (quot (en y.2 a) (en q.2 a) M)) (ea_cons (ev_ix (ev_var rfl) (ev_var rfl) (I10.rb.seq hyin) (iL_en (by rw [ly]; exact ha))) (ea_cons (ev_ix (ev_var rfl) (ev_var rfl) (I10.rb.seq hqin) (iL_en (by rw [lq]; exact ha))) (ea_cons (ev_var rfl) ea_nil))) (quot_spv hm dz dM)) (ea_cons (ev_var rfl) ea_nil)))) (less_spl (I10.rb.seq hyin) (I10.rb.seq hqin) (by rw [ly]; exact hwd) hm.nonneg mulOk)) fun sh H11 nsh e11 hsh => ?_
          have esh : lessT y.2 q.2 (quot (en y.2 a) (en q.2 a) M) M = shortOf q.2 a M y.2 := rfl
          rw [esh] at hsh
          have I11 := I10.exx e11
          have lsh : (shortOf q.2 a M y.2).length = wd := (lessT_len (by rw [ly, lq])).trans ly
          have nshH : H sh = none := fresh_back I10.ex nsh
          have lenz' : ∀ x ∈ zs', 0 < x.2.length := fun x hx => by
            have h1 : x.2 ∈ rws zs' := mem_rws hx
            rw [I.ez] at h1
            rcases List.mem_append.mp h1 with h | h
            · rw [W.pi.len x.2 (List.mem_append_left _ h)]; omega
            · obtain ⟨r, hr, e⟩ := List.mem_map.mp (List.mem_filter.mp h).1
              have hrb : r ∈ rws bs := List.mem_of_mem_take (List.mem_of_mem_eraseIdx hr)
              rw [← e, show (shortOf q.2 a M r).length = r.length from lessT_len (by rw [lq]; exact W.pi.len r (List.mem_append_right _ hrb)), W.pi.len r (List.mem_append_right _ hrb)]; omega
          have lenh' : ∀ x ∈ bhs, 0 < x.2.length := fun x hx => by
            have h1 : x.2 ∈ rws bhs := mem_rws hx
            rw [I.eh] at h1
            rcases List.mem_cons.mp h1 with h | h
            · rw [h, lq]; omega
            · obtain ⟨r, hr, e⟩ := List.mem_map.mp (List.mem_filter.mp h).1
              have hrb : r ∈ rws bs := List.mem_of_mem_take (List.mem_of_mem_eraseIdx hr)
              rw [← e, show (shortOf q.2 a M r).length = r.length from lessT_len (by rw [lq]; exact W.pi.len r (List.mem_append_right _ hrb)), W.pi.len r (List.mem_append_right _ hrb)]; omega
          have lenb' : ∀ x ∈ bs, 0 < x.2.length := fun x hx => by rw [lenb x hx]; omega
          refine s_if (et_test (ev_eqI (ev_ix (ev_var rfl) (ev_var rfl) (sq_of hsh) (iL_en (by rw [lsh]; exact ha))) ev_c)) (fun hb4 H12 e12 => ?_) (fun hb4 H12 e12 => ?_)
          · have h0 := of_decide_eq_true hb4
            refine s_app (I11.exx e12).hz (ev_var rfl) (ev_var rfl) (by rw [adr_len]; omega) fun H13 e13 => ?_
            have J := I11.exx (e12.trans e13)
            have hsh13 := (e12.trans e13) _ _ hsh
            have shz : sh ≠ z := by
              intro e; rw [e] at hsh13; rw [J.hz] at hsh13
              injection hsh13 with h1; injection h1 with h1
              exact iL_ne_adr (by rw [lsh]; omega) h1.symm
            refine ⟨zs' ++ [(sh, shortOf q.2 a M y.2)], bhs, _, _, _, _, _, rfl, ?_⟩
            refine ⟨Ex.mut J.ex nzH, by rw [upd_same, adr_app]; rfl, by rw [upd_ne bhz]; exact J.hh, by rw [upd_ne W.ne]; exact J.hb, ?_, J.rh.upd (J.rh.ne lenh' J.hz), J.rb.upd (J.rb.ne lenb' J.hz), ?_, ?_, fun x hx => ?_, ?_⟩
            · refine Rws.append (J.rz.upd (J.rz.ne lenz' J.hz)) fun x hx => ?_
              rw [List.mem_singleton.mp hx, upd_ne shz]; exact hsh13
            · rw [rws_app, J.ez, et, List.map_append, List.filter_append, ← List.append_assoc]
              congr 1
              show [shortOf q.2 a M y.2] = List.filter _ [shortOf q.2 a M y.2]
              rw [List.filter_cons_of_pos (by simpa using h0)]; rfl
            · rw [J.eh, et, List.map_append, List.filter_append]
              congr 1
              show _ = _ ++ List.filter _ [shortOf q.2 a M y.2]
              rw [List.filter_cons_of_neg (by simpa using h0)]; simp
            · rcases List.mem_append.mp hx with h | h
              · rcases List.mem_append.mp h with h | h
                · exact J.al x (List.mem_append_left _ h)
                · rw [List.mem_singleton.mp h]; exact .inr nshH
              · exact J.al x (List.mem_append_right _ h)
            · rw [List.length_append, List.length_singleton]; omega
          · have h0 := of_decide_eq_false hb4
            refine s_app (I11.exx e12).hh (ev_var rfl) (ev_var rfl) (by rw [adr_len]; omega) fun H13 e13 => ?_
            have J := I11.exx (e12.trans e13)
            have hsh13 := (e12.trans e13) _ _ hsh
            have shz : sh ≠ bh := by
              intro e; rw [e] at hsh13; rw [J.hh] at hsh13
              injection hsh13 with h1; injection h1 with h1
              exact iL_ne_adr (by rw [lsh]; omega) h1.symm
            refine ⟨zs', bhs ++ [(sh, shortOf q.2 a M y.2)], _, _, _, _, _, rfl, ?_⟩
            refine ⟨Ex.mut J.ex nbhH, by rw [upd_ne bhz.symm]; exact J.hz, by rw [upd_same, adr_app]; rfl, by rw [upd_ne bhb.symm]; exact J.hb, J.rz.upd (J.rz.ne lenz' J.hh), ?_, J.rb.upd (J.rb.ne lenb' J.hh), ?_, ?_, fun x hx => ?_, ?_⟩
            · refine Rws.append (J.rh.upd (J.rh.ne lenh' J.hh)) fun x hx => ?_
              rw [List.mem_singleton.mp hx, upd_ne shz]; exact hsh13
            · rw [J.ez, et, List.map_append, List.filter_append]
              congr 1
              show _ = _ ++ List.filter _ [shortOf q.2 a M y.2]
              rw [List.filter_cons_of_neg (by simpa using h0)]; simp
            · rw [rws_app, J.eh, et, List.map_append, List.filter_append]
              show q.2 :: (_ ++ [shortOf q.2 a M y.2]) = q.2 :: (_ ++ List.filter _ [shortOf q.2 a M y.2])
              rw [List.filter_cons_of_pos (by simpa using h0)]; rfl
            · rcases List.mem_append.mp hx with h | h
              · exact J.al x (List.mem_append_left _ h)
              · rcases List.mem_append.mp h with h | h
                · exact J.al x (List.mem_append_right _ h)
                · rw [List.mem_singleton.mp h]; exact .inr nshH
            · rw [List.length_append, List.length_singleton]; omega
        · have hik : i = k := by
            rcases Decidable.em (i = k) with h | h
            · exact h
            · rw [kne.mpr h] at hb3; cases hb3
          rw [if_pos hik] at et
          have J := I9.exx e10
          exact ⟨zs', bhs, _, _, _, _, _, rfl, J.ex, J.hz, J.hh, J.hb, J.rz, J.rh, J.rb, by rw [et]; exact J.ez, by rw [et]; exact J.eh, J.al, by omega⟩
      · rintro σ' H' ⟨zs', bhs, v3, v9, v10, v11, v12, rfl, I⟩
        rw [adr_len] at I
        have et : (rws bs).take bs.length = rws bs := List.take_of_length_le (by rw [rws_len]; exact Nat.le_refl _)
        have ez := I.ez
        have eh := I.eh
        rw [et] at ez eh
        have hminR : ∀ r ∈ rws bs, (en q.2 a).natAbs ≤ (en r a).natAbs := fun r hr => by
          obtain ⟨x, hx, rfl⟩ := List.mem_map.mp hr
          exact hmin x hx
        obtain ⟨S1, S2⟩ := W.pi.step hm hB (by rw [rws_len]; exact h2) (rws_at hq) hminR
        have ez' : rws zs' = zerosOf (rws zs) (rws bs) k q.2 a M := ez
        have eh' : rws bhs = behindOf (rws bs) k q.2 a M := eh
        rw [← ez', ← eh'] at S1
        rw [← eh'] at S2
        refine s_asg (ev_var rfl) fun H9 e9 => ?_
        refine ⟨meas a (rws bhs), S2, bh, zs', bhs, _, _, _, _, _, _, _, _, rfl, ?_, rfl⟩
        have J := I.exx e9
        refine ⟨J.ex, J.hz, J.hh, bhz, J.rz, J.rh, S1, J.al, ?_⟩
        have l1 := congrArg List.length ez
        have l2 := congrArg List.length eh
        rw [rws_len, List.length_append, rws_len] at l1
        rw [rws_len, List.length_cons] at l2
        have l3 := filter_len (fun s => decide (en s a = 0)) (((rws bs).eraseIdx k).map (shortOf q.2 a M))
        have e3 : (fun s : Row => !decide (en s a = 0)) = fun s => decide (en s a ≠ 0) := by funext s; simp
        rw [e3, List.length_map, List.length_eraseIdx, if_pos (by rw [rws_len]; exact (List.getElem?_eq_some_iff.mp hq).1), rws_len] at l3
        omega
    · -- behind the while
      have h1 : bs.length ≤ 1 := by
        have := of_decide_eq_false hb2
        rw [adr_len] at this; omega
      have W4 := W.exx e4
      have nzH : H z = none := nz
      refine q_when (b := decide (bs = [])) (et_test (ev_opL (xs := adr []) (ev_var rfl) (el_lst ea_nil (by decide)) fun p5 H5 h5 e5 => ?_)) (fun hb3 H5 e5 => ?_) (fun hb3 H5 e5 => ?_)
      · intro H6 e6 Q6 q6
        refine ⟨dR (rws bs), dR (rws []), dpR (sq_of ((e5.trans e6) _ _ W4.hb)) (W4.rb.ex (e5.trans e6)), dpR (sq_of (e6 _ _ h5)) Rws.nil, shR _, shR _, ?_⟩
        have ee : PyData.eqv (dR (rws bs)) (dR (rws [])) = decide (bs = []) := by
          cases bs with
          | nil => simp [dR, rws, PyData.eqv, PyData.eqvAll]
          | cons x xs => simp [dR, rws, PyData.eqv, PyData.eqvAll]
        rw [ee]; exact q6 H6 (Ex.refl H6)
      · have hbs := of_decide_eq_true hb3
        subst hbs
        refine s_retU (eu_tup (ea_cons (ev_var rfl) (ea_cons ev_c ea_nil)) (by simp)) fun t H6 nt e6 ht => ?_
        have W6 := W4.exx (e5.trans e6)
        exact fin t z zs .non none H6 W6.ex ht W6.hz nzH W6.rz (.inl ⟨rfl, rfl⟩) (W6.pi.none hB) (fun x hx => W6.al x (List.mem_append_left _ hx)) (by simp at ct; exact ct)
      · obtain ⟨q, rfl⟩ : ∃ q, bs = [q] := by
          have := of_decide_eq_false hb3
          match bs, h1, this with
          | [], _, h => exact absurd rfl h
          | [q], _, _ => exact ⟨q, rfl⟩
          | _ :: _ :: _, h, _ => simp at h
        have W5 := W4.exx e5
        have lq : q.2.length = wd := lenb q (List.mem_singleton.mpr rfl)
        have hqin : q ∈ [q] := List.mem_singleton.mpr rfl
        have post := W5.pi.one hm hB
        have hne := W.pi.b0 q.2 (List.mem_singleton.mpr rfl)
        have hqr : q.2 ∈ rws zs ++ rws [q] := List.mem_append_right _ (List.mem_singleton.mpr rfl)
        have alz : ∀ x ∈ zs, x.1 ∈ ps.map (·.1) ∨ H x.1 = none := fun x hx => W5.al x (List.mem_append_left _ hx)
        have ctz : zs.length ≤ ps.length := by omega
        refine q_asg (ev_ix (ev_var rfl) ev_c (sq_of W5.hb) (atI_nat (j := 0) rfl)) fun H6 e6 => ?_
        have W6 := W5.exx e6
        have evAt : ∀ {σ : L2.St} {H' : Hp}, Ex H6 H' → σ[7]? = some (some (.ref q.1)) → σ[1]? = some (some (.int (a : Nat))) → Ev (tOp (rIxL K) (tVar 7) (tVar 1)) σ H' (.int (en q.2 a)) := fun e h1 h2 => ev_ix (ev_var h1) (ev_var h2) (ex_l e (W6.rb.seq hqin)) (iL_en (by rw [lq]; exact ha))
        refine q_when (et_test (ev_neI (ev_var rfl) ev_c)) (fun hb4 H7 e7 => ?_) (fun hb4 H7 e7 => ?_)
        · have hM := of_decide_eq_true hb4
          have hM2 := hm.pos hM
          have hq2 := W.pi.rng q.2 hqr hM a
          obtain ⟨i1, i2, i3⟩ := inv_ok hm hM (show 0 < en q.2 a by omega) hq2.2
          refine q_asg (ev_call (z := .int (inv (en q.2 a) M)) (ea_cons (evAt e7 rfl rfl) (ea_cons (ev_var rfl) ea_nil)) (fun H8 e8 Q8 q8 _ => ⟨_, M, rfl, by omega, by omega, fun H9 e9 => q8 H9 e9⟩)) fun H8 e8 => ?_
          refine s_retPL (ev_var rfl) (el_lcI (fun x => x * inv (en q.2 a) M % M) (ev_var rfl) ((W6.exx (e7.trans e8)).rb.seq hqin) (by rw [lq]; omega) (fun _ => rfl) fun x H9 e9 hx => ev_mod (ev_mulW (ev_var rfl) (ev_var rfl) ?_) (ev_var rfl) (by omega)) fun t pq H9 nt npq e9 hpq ht => ?_
          · obtain ⟨j, hj⟩ := List.getElem?_of_mem hx
            have h2 := W.pi.rng q.2 hqr hM j
            rw [en_get hj] at h2
            exact CMulW_small (by omega) (by omega)
          · have W9 := W6.exx ((e7.trans e8).trans e9)
            refine fin t z zs _ _ H9 W9.ex ht W9.hz nzH W9.rz (.inr ⟨pq, _, rfl, rfl, ?_, .inr (fresh_back ((W6.exx (e7.trans e8))).ex npq)⟩) post alz ctz
            unfold normP; rw [if_pos hM]; exact hpq
        · have hM : M = 0 := by have := of_decide_eq_false hb4; omega
          refine q_when (et_test (ev_lt (evAt e7 rfl rfl) ev_c)) (fun hb5 H8 e8 => ?_) (fun hb5 H8 e8 => ?_)
          · have hn := of_decide_eq_true hb5
            refine s_retPL (ev_var rfl) (el_lcI (fun x => 0 - x) (ev_var rfl) ((W6.exx (e7.trans e8)).rb.seq hqin) (by rw [lq]; omega) (fun _ => rfl) fun x H9 e9 hx => ev_sub ev_c (ev_var rfl)) fun t pq H9 nt npq e9 hpq ht => ?_
            have W9 := W6.exx ((e7.trans e8).trans e9)
            refine fin t z zs _ _ H9 W9.ex ht W9.hz nzH W9.rz (.inr ⟨pq, _, rfl, rfl, ?_, .inr (fresh_back ((W6.exx (e7.trans e8))).ex npq)⟩) post alz ctz
            unfold normP; rw [if_neg (by simpa using hM), if_pos hn]; exact hpq
          · have hn := of_decide_eq_false hb5
            refine s_retU (eu_tup (ea_cons (ev_var rfl) (ea_cons (ev_var rfl) ea_nil)) (by simp)) fun t H9 nt e9 ht => ?_
            have W9 := W6.exx ((e7.trans e8).trans e9)
            refine fin t z zs _ _ H9 W9.ex ht W9.hz nzH W9.rz (.inr ⟨q.1, _, rfl, rfl, ?_, W9.al q (List.mem_append_right _ hqin)⟩) post alz ctz
            unfold normP; rw [if_neg (by simpa using hM), if_neg hn]; exact W9.rb q hqin
end
end Mine
set_option Elab.async false
set_option linter.all false
set_option maxRecDepth 100000
set_option maxHeartbeats 4000000
namespace Mine
open PySem PySem.Spec PyProof.Rows L2 Evl
/-- a new list of new rows -/
def EvR (te : TE) (σ : L2.St) (H : Hp) (rs : List Row) : Prop := ∀ H1, Ex H H1 → ∀ Q : VK, (∀ (p : Addr) (qs : List AR) (H2 : Hp), H1 p = none → Ex H1 H2 → H2 p = some (.lst (adr qs)) → Rws H2 qs → rws qs = rs → (∀ x ∈ qs, H1 x.1 = none) → (∀ x ∈ qs, x.1 ≠ p) → Q (.ref p) H2) → te σ H1 Q
section
variable {K : PySem.W.Frag} {σ : L2.St} {H H' : Hp} {ta tb te tx tl : TE} {t u : TT} {x y z v w1 : V} {D : Ends} {tu tw tz : TS}
theorem el_lcR {a : Addr} {ps : List AR} {j : Nat} {vs : List Nat} (g : Row → Row) (h : Ev tl σ H (.ref a)) (hx : SqL K H a (adr ps)) (hz : ps.length ≤ 40000) (hw : ∀ x, wipe ((wipe σ vs).set j (some x)) vs = wipe σ vs)
    (he : ∀ (x : AR) H1, Ex H H1 → x ∈ ps → EvL te ((wipe σ vs).set j (some (.ref x.1))) H1 (iL (g x.2))) : EvR (tLc (iList K tl) (gName j) tYes te vs) σ H ((rws ps).map g) := fun H0 e0 Q q => h H0 e0 _ fun H1 e1 => ⟨a, rfl, ⟨adr ps, ex_l (e0.trans e1) hx⟩, fun Dl hD =>
  lc_list (xs := adr ps) (fun i H' => ∃ qs : List AR, Ex H1 H' ∧ H' Dl = some (.lst (adr qs)) ∧ Rws H' qs ∧ rws qs = ((rws ps).take i).map g ∧ (∀ x ∈ qs, H1 x.1 = none) ∧ ∀ x ∈ qs, x.1 ≠ Dl) ⟨[], Ex.new hD, upd_same, Rws.nil, by simp [rws], fun x h => absurd h (by simp), fun x h => absurd h (by simp)⟩
    (fun i H' _ ⟨_, e, _⟩ => ex_l ((e0.trans e1).trans e) hx)
    (fun i x H' hi ⟨qs, e, hl, hr, hq, hn, hne⟩ => by
      obtain ⟨y, hy, rfl⟩ := adr_get hi
      refine ⟨hw _, yes_turn ?_⟩
      refine he y H1 (e0.trans e1) (List.mem_of_getElem? hy) _ e _ fun p H2 np e2 h2 => ?_
      have hl2 := e2 _ _ hl
      have pne : p ≠ Dl := (ne_of_none hl np).symm
      have cnt : qs.length ≤ i := by
        have := congrArg List.length hq
        rw [rws_len, List.length_map, List.length_take] at this; omega
      have hi2 := (List.getElem?_eq_some_iff.mp hy).1
      refine ⟨_, hl2, sz_lt (by rw [adr_len]; omega), qs ++ [(p, g y.2)], Ex.mut (e.trans e2) hD, by rw [upd_same, adr_app]; rfl, ?_, ?_, ?_, ?_⟩
      · refine Rws.append ((hr.ex e2).upd hne) fun z hz => ?_
        rw [List.mem_singleton.mp hz, upd_ne pne]; exact h2
      · rw [rws_app, hq, List.take_add_one, rws_at hy, List.map_append]; rfl
      · intro z hz
        rcases List.mem_append.mp hz with h | h
        · exact hn z h
        · rw [List.mem_singleton.mp h]; exact fresh_back e np
      · intro z hz
        rcases List.mem_append.mp hz with h | h
        · exact hne z h
        · rw [List.mem_singleton.mp h]; exact pne)
    (fun H' ⟨qs, e, hl, hr, hq, hn, hne⟩ => by
      rw [adr_len, List.take_of_length_le (by rw [rws_len]; exact Nat.le_refl _)] at hq
      exact q Dl qs H' (fresh_back e1 hD) (e1.trans e) hl hr hq (fun x hx => fresh_back e1 (hn x hx)) hne)⟩
theorem q_asgR {i : Nat} {rs : List Row} (h : EvR te σ H rs) (k : ∀ (p : Addr) (qs : List AR) (H2 : Hp), H p = none → Ex H H2 → H2 p = some (.lst (adr qs)) → Rws H2 qs → rws qs = rs → (∀ x ∈ qs, H x.1 = none) → (∀ x ∈ qs, x.1 ≠ p) → tz D (σ.set i (some (.ref p))) H2) : tSeq (tAsg te (gName i)) tz D σ H := h H (Ex.refl H) _ k
theorem s_asgR {i : Nat} {rs : List Row} (h : EvR te σ H rs) (k : ∀ (p : Addr) (qs : List AR) (H2 : Hp), H p = none → Ex H H2 → H2 p = some (.lst (adr qs)) → Rws H2 qs → rws qs = rs → (∀ x ∈ qs, H x.1 = none) → (∀ x ∈ qs, x.1 ≠ p) → D.nx (σ.set i (some (.ref p))) H2) : tAsg te (gName i) D σ H := h H (Ex.refl H) _ k
theorem s_retR {rs : List Row} (h : EvR te σ H rs) (k : ∀ (p : Addr) (qs : List AR) (H2 : Hp), H p = none → Ex H H2 → H2 p = some (.lst (adr qs)) → Rws H2 qs → rws qs = rs → (∀ x ∈ qs, H x.1 = none) → (∀ x ∈ qs, x.1 ≠ p) → D.rt (.ref p) H2) : tRet te D σ H := h H (Ex.refl H) _ k
theorem rv_notN {x : V} : RV (fun x y H Q => y = .non ∧ Q (.bl (!decide (x = .non))) H) x .non H (.bl (!decide (x = .non))) := fun H1 _ _ q => ⟨rfl, q H1 (Ex.refl H1)⟩
theorem rv_isN {x : V} : RV (fun x y H Q => y = .non ∧ Q (.bl (decide (x = .non))) H) x .non H (.bl (decide (x = .non))) := fun H1 _ _ q => ⟨rfl, q H1 (Ex.refl H1)⟩
theorem plain_spl {p : Addr} {r : Row} {M : Int} (hp : SqL K H p (iL r)) (hl : r.length ≤ 1000) (hM : 0 ≤ M) : SpL (spPlain K) [.ref p, .int M] H (iL (plainRow r M)) := fun H1 e Q k _ => ⟨p, r, M, rfl, ex_l e hp, hl, hM, k⟩
end
/-! ### the bounds of the columns -/
def bq : Nat → Nat
  | 0 => 2 ^ 33
  | i + 1 => 6 * bq i ^ 4
def tq : Nat → Nat
  | 0 => 0
  | i + 1 => tq i + tq i * (6 * bq i ^ 4) + 6 * bq i ^ 4
theorem bq_1 : ∀ i, 1 ≤ bq i
  | 0 => by unfold bq; decide
  | i + 1 => by
    have h := bq_1 i
    have : 0 < bq i ^ 4 := Nat.pow_pos h
    unfold bq; omega
theorem bq_lt {i : Nat} (h : i < 4) : 6 * bq i ^ 4 < 2 ^ 8999 := by
  match i, h with
  | 0, _ => decide +kernel
  | 1, _ => decide +kernel
  | 2, _ => decide +kernel
  | 3, _ => decide +kernel
theorem tq_lt {i : Nat} (h : i ≤ 4) : tq i < 2 ^ 12000 := by
  match i, h with
  | 0, _ => decide +kernel
  | 1, _ => decide +kernel
  | 2, _ => decide +kernel
  | 3, _ => decide +kernel
  | 4, _ => decide +kernel
theorem plainRow_len (r : Row) (M : Int) : (plainRow r M).length = r.length := by unfold plainRow; split <;> simp
theorem plainRow_rng {r : Row} {M : Int} (hm : Md M) : Rng M (plainRow r M) := fun hM j => by
  unfold plainRow; rw [if_neg hM, en_map (by simp)]
  have := hm.pos hM
  exact ⟨Int.emod_nonneg _ hM, Int.emod_lt_of_pos _ (by omega)⟩
theorem plainRow_dvd (r : Row) (M : Int) (j : Nat) : M ∣ en (plainRow r M) j - en r j := by
  unfold plainRow
  split
  · rw [Int.sub_self]; exact Int.dvd_zero M
  · rw [en_map (by simp)]; exact mod_dvd _ M
theorem plainRow_0 (r : Row) : plainRow r 0 = r := if_pos rfl
/-! ### split_rows, hermite_rows -/
def spSplit (K : PySem.W.Frag) : Sp := fun vs H Q _ => ∃ (p : Addr) (ps : List AR) (wd : Nat) (M : Int) (D : List (Nat × Row)), vs = [.ref p, .int (wd : Nat), .int M] ∧ SqL K H p (adr ps) ∧ Rws H ps ∧ Md M ∧ wd ≤ 4 ∧ ps.length ≤ 1000 ∧
  (∀ r ∈ rws ps, r.length = wd) ∧ (M = 0 → Bnd (2 ^ 33) (rws ps)) ∧ Herm M wd D ∧ SameL M (D.map (·.2)) (rws ps) ∧
  ∀ (t a l : Addr) (ts : List AR) (H' : Hp), Ex H H' → H' t = some (.tup [.ref a, .ref l]) → H' a = some (.lst (adr ts)) → H a = none → Rws H' ts → rws ts = D.map (·.2) → (∀ x ∈ ts, H x.1 = none) → (∀ x ∈ ts, x.1 ≠ a) → Q (.ref t) H'
section
variable {P : Program} {w : World} {K : PySem.W.Frag} {mg : Str → Option Value} {base : Heap} {H : Hp}
theorem ok_split_rows (L : Lib K mg) {f : Addr} {fd : FuncData} (F : L2.Fun K "split_rows" "split_rows" s_split_rows f fd) : FnOk P w K mg base CX0 4 f fd ["rows", "width", "modulus"] (spSplit K) := by
  obtain ⟨f_less_times, fd_less_times, F_less_times⟩ := L.less_times
  obtain ⟨f_one_pivot, fd_one_pivot, F_one_pivot⟩ := L.one_pivot
  obtain ⟨f_plain_row, fd_plain_row, F_plain_row⟩ := L.plain_row
  have G_less_times : FnOk P w K mg base CX0 1 f_less_times fd_less_times _ (spLess K) := ok_less_times L F_less_times.F
  have G_one_pivot : FnOk P w K mg base CX0 3 f_one_pivot fd_one_pivot _ (spPivot K) := ok_one_pivot L F_one_pivot.F
  have G_plain_row : FnOk P w K mg base CX0 1 f_plain_row fd_plain_row _ (spPlain K) := ok_plain_row L F_plain_row.F
  refine F.ok sc_split_rows (fun vs H Q E h => ?_) (fun cdv A outer s H vs Q E hr h => ?_)
  · obtain ⟨p, ps, wd, M, D, rfl, _⟩ := h; rfl
  · obtain ⟨p, ps, wd, M, D, rfl, hp, hR, hm, hwd, hl, hlen, hbnd, hH, hS, fin⟩ := h
    refine ⟨_, (pss_cons (ps_setLc (i := 3) (own := [("row", 7)]) (g := gName 7) (tt := tYes) rfl sc_split_rows.nd rfl rfl (sw_true rfl rfl rfl (by decide +kernel)) (pi_list (pv 0)) (blkOk_by (own := [("row", 7)]) (N := N_split_rows) (sc := defScope s_split_rows) (by decide +kernel)) (fun _ _ _ _ _ => (pg_name (i := 7) sc_split_rows.nd rfl (Or.inl rfl))) (fun _ _ _ _ _ => pts_nil) (fun _ _ _ _ _ => (pe_call G_plain_row (hr.mono (by decide)) (by rfl) F_plain_row.g F_plain_row.F.kp F_plain_row.b .nil pass0 (pa_cons (pv 7) (pa_cons (pv 2) pa_nil)))))
    (pss_cons (ps_set (i := 4) sc_split_rows.nd rfl (Or.inl rfl) (pe_lst pa_nil))
    (pss_cons (ps_for PassesOwn.never rfl (pi_range1 (by rfl) L.range (pa_cons (pv 1) pa_nil)) (pg_name (i := 5) sc_split_rows.nd rfl (Or.inr rfl))
      (pss_cons (ps_asg (pe_call G_one_pivot (hr.mono (by decide)) (by rfl) F_one_pivot.g F_one_pivot.F.kp F_one_pivot.b .nil pass0 (pa_cons (pv 3) (pa_cons (pv 5) (pa_cons (pv 2) pa_nil)))) (pg_tup rfl (pgs_cons (pg_name (i := 3) sc_split_rows.nd rfl (Or.inl rfl)) (pgs_cons (pg_name (i := 6) sc_split_rows.nd rfl (Or.inr rfl)) pgs_nil))))
    (pss_one (ps_if (pt_cmpR op_notN (pv 6) pe_non (nomark _))
      (pss_cons (ps_setLc (i := 4) (own := [("row", 7)]) (g := gName 7) (tt := tYes) rfl sc_split_rows.nd rfl rfl (sw_true rfl rfl rfl (by decide +kernel)) (pi_list (pv 4)) (blkOk_by (own := [("row", 7)]) (N := N_split_rows) (sc := defScope s_split_rows) (by decide +kernel)) (fun _ _ _ _ _ => (pg_name (i := 7) sc_split_rows.nd rfl (Or.inl rfl))) (fun _ _ _ _ _ => pts_nil) (fun _ _ _ _ _ => (pe_call G_less_times (hr.mono (by decide)) (by rfl) F_less_times.g F_less_times.F.kp F_less_times.b .nil pass0 (pa_cons (pv 7) (pa_cons (pv 6) (pa_cons (pe_op op_fdivZ (pe_ix (ix_listK (K := K)) (pv 7) (pv 5) (fun _ _ => rfl)) (pe_ix (ix_listK (K := K)) (pv 6) (pv 5) (fun _ _ => rfl))) (pa_cons (pv 2) pa_nil)))))))
    (pss_one (ps_expr (pe_bm PySem.F.plainAttrs_list PySem.F.slot_list_append PySem.F.type_list_append mt_append (pv 4) (pa_cons (pv 6) pa_nil)))))
      pss_nil))))
    (pss_one (ps_ret (pe_tup (pa_cons (pv 4) (pa_cons (pv 3) pa_nil)))))))), ?_⟩
    refine q_asgR (el_lcR (fun r => plainRow r M) (ev_var rfl) hp (by omega) (fun _ => rfl) fun x H1 e1 hx => el_call (ea_cons (ev_var rfl) (ea_cons (ev_var rfl) ea_nil)) (plain_spl (ex_l e1 (hR.seq hx)) (by rw [hlen _ (mem_rws hx)]; omega) hm.nonneg)) fun l ls H1 nl e1 hl1 hr1 eqls nls nel => ?_
    refine q_asgL (el_lst ea_nil (by simp)) fun t H2 nt e2 ht => ?_
    have len1 : ∀ r ∈ rws ls, r.length = wd := fun r hr => by
      rw [eqls] at hr
      obtain ⟨s, hs, rfl⟩ := List.mem_map.mp hr
      rw [plainRow_len]; exact hlen s hs
    have T0 : TI M wd D 0 (bq 0) (tq 0) (rws []) (rws ls) := by
      refine TI.start ?_ len1 (fun r hr => ?_) (fun hM => ?_)
      · rw [eqls]; exact hS.trans (SameL.mods fun r _ j => plainRow_dvd r M j)
      · rw [eqls] at hr
        obtain ⟨s, hs, rfl⟩ := List.mem_map.mp hr
        exact plainRow_rng hm
      · rw [eqls]
        intro r hr j
        obtain ⟨s, hs, rfl⟩ := List.mem_map.mp hr
        rw [hM, plainRow_0]; exact hbnd hM s hs j
    have lsl : ls.length = ps.length := by
      have := congrArg List.length eqls
      rw [rws_len, List.length_map, rws_len] at this; exact this
    refine q_forR1 (ea_cons (ev_var rfl) ea_nil) (by omega) (fun i σ' H' => ∃ (l t : Addr) (ls ts : List AR) (v5 v6 v7 : Option V), σ' = [some (.ref p), some (.int (wd : Nat)), some (.int M), some (.ref l), some (.ref t), v5, v6, v7] ∧ Ex H H' ∧ H' l = some (.lst (adr ls)) ∧ H' t = some (.lst (adr ts)) ∧ H t = none ∧ Rws H' ls ∧ Rws H' ts ∧
        TI M wd D i (bq i) (tq i) (rws ts) (rws ls) ∧ (∀ x ∈ ls ++ ts, H x.1 = none) ∧ (∀ x ∈ ts, x.1 ≠ t) ∧ ls.length ≤ 1000 ∧ ts.length ≤ i)
      (fun H3 e3 => ⟨l, t, ls, [], none, none, none, rfl, (e1.trans e2).trans e3, (e2.trans e3) _ _ hl1, e3 _ _ ht, fresh_back e1 nt, hr1.ex (e2.trans e3), Rws.nil, T0, fun x hx => by rw [List.append_nil] at hx; exact nls x hx, fun x hx => absurd hx (by simp), by omega, Nat.le_refl _⟩) ?_ ?_
    · rintro i σ' H3 hi ⟨l, t, ls, ts, v5, v6, v7, rfl, ex, hl3, ht3, ntH, rl, rt, T, nn, tne, ll, tl⟩
      have hi : i < wd := by omega
      refine q_call (ea_cons (ev_var rfl) (ea_cons (ev_var rfl) (ea_cons (ev_var rfl) ea_nil))) fun H4 e4 => ⟨l, ls, i, wd, bq i, M, rfl, sq_of (e4 _ _ hl3), rl.ex e4, hm, hi, by omega, bq_1 i, bq_lt (by omega), ll, T.lenL, T.rngL, T.bl, fun tt z zs v pv H5 e5 htt hz nz rz hv post alz ctz => ?_⟩
      refine ⟨tt, _, rfl, SqT.of htt, rfl, _, _, rfl, _, _, rfl, rfl, ?_⟩
      have TS := T.step hm (bq_1 i) hH post hi
      have ex5 := (ex.trans e4).trans e5
      have ht5 := (e4.trans e5) _ _ ht3
      have rt5 := rt.ex (e4.trans e5)
      have nzs : ∀ x ∈ zs, H x.1 = none := fun x hx => by
        rcases alz x hx with h | h
        · obtain ⟨y, hy, e⟩ := List.mem_map.mp h
          rw [← e]; exact nn y (List.mem_append_left _ hy)
        · exact fresh_back (ex.trans e4) h
      refine s_when (et_test (ev_op (ev_var rfl) ev_c rv_notN)) (fun hb H6 e6 => ?_) (fun hb H6 e6 => ?_)
      · rcases hv with ⟨rfl, _⟩ | ⟨b, r, rfl, rfl, hbr, alb⟩
        · simp at hb
        · obtain ⟨vp, v1⟩ := post.pos r rfl
          have rin : r ∈ rws zs ++ (some r).toList := List.mem_append_right _ (List.mem_singleton.mpr rfl)
          have rl' : r.length = wd := post.len r rin
          have dz : ∀ n : Int, CDivZ n (en r i) := fun n => by
            by_cases hM : M = 0
            · exact cdivz (b := 8999) _ (by omega) (Nat.lt_of_le_of_lt (post.bnd hM r rin i) (bq_lt (by omega))) (by decide) (by decide)
            · rw [v1 hM]; exact cdivz_small _ (by decide) (by decide)
          have lent : ∀ x ∈ ts, x.2.length = wd := fun x hx => T.lenT x.2 (mem_rws hx)
          refine q_asgR (el_lcR (fun s => lessT s r (en s i / en r i) M) (ev_var rfl) (sq_of (e6 _ _ ht5)) (by omega) (fun _ => rfl) fun x H7 e7 hx => ?_) fun t2 ts2 H7 nt2 e7 ht2 rt2 eqt2 nts2 tne2 => ?_
          · have hxr : x.2 ∈ rws ts := mem_rws hx
            have fe : (en x.2 i).fdiv (en r i) = en x.2 i / en r i := Int.fdiv_eq_ediv_of_nonneg _ (by omega)
            refine el_call (ea_cons (ev_var rfl) (ea_cons (ev_var rfl) (ea_cons (ev_is (ev_fdiv (ev_ix (ev_var rfl) (ev_var rfl) ((rt5.ex (e6.trans e7)).seq hx) (iL_en (by rw [lent x hx]; exact hi))) (ev_ix (ev_var rfl) (ev_var rfl) (sq_of ((e6.trans e7) _ _ hbr)) (iL_en (by rw [rl']; exact hi))) (dz _)) (congrArg V.int fe)) (ea_cons (ev_var rfl) ea_nil)))) (less_spl ((rt5.ex (e6.trans e7)).seq hx) (sq_of ((e6.trans e7) _ _ hbr)) (by rw [lent x hx]; omega) hm.nonneg fun c hc => ?_)
            obtain ⟨j, hj⟩ := List.getElem?_of_mem hc
            have ec := en_get hj
            rw [← ec]
            by_cases hM : M = 0
            · have h1 : (en x.2 i / en r i).natAbs < 2 ^ 12000 := Nat.lt_of_le_of_lt (Nat.le_trans (Int.natAbs_ediv_le_natAbs _ _) (T.bt hM x.2 hxr i)) (tq_lt (by omega))
              have h2 : (en r j).natAbs < 2 ^ 8999 := Nat.lt_of_le_of_lt (post.bnd hM r rin j) (bq_lt (by omega))
              exact wide_mul h1 h2 (by decide) (by decide) (by decide)
            · have hM2 := hm.pos hM
              have h1 := T.rngT x.2 hxr hM i
              have h2 := post.rng r rin hM j
              rw [v1 hM, Int.ediv_one]
              exact CMulW_small (by omega) (by omega)
          · refine s_app ht2 (ev_var rfl) (ev_var rfl) (by rw [adr_len]; have := congrArg List.length eqt2; rw [rws_len, List.length_map, rws_len] at this; omega) fun H8 e8 => ?_
            have ex8 := ((ex5.trans e6).trans e7).trans e8
            have nt2H : H t2 = none := fresh_back (ex5.trans e6) nt2
            have hb8 := (e6.trans (e7.trans e8)) _ _ hbr
            have bH : H b = none := by
              rcases alb with h | h
              · obtain ⟨y, hy, e⟩ := List.mem_map.mp h
                rw [← e]; exact nn y (List.mem_append_left _ hy)
              · exact fresh_back (ex.trans e4) h
            have bt2 : b ≠ t2 := ne_of_none (e6 _ _ hbr) nt2
            have zt2 : z ≠ t2 := ne_of_none (e6 _ _ hz) nt2
            have znt : ∀ x ∈ zs, x.1 ≠ t2 := fun x hx => ne_of_none (e6 _ _ (rz x hx)) nt2
            have ct2 : ts2.length = ts.length := by have := congrArg List.length eqt2; rw [rws_len, List.length_map, rws_len] at this; exact this
            refine ⟨z, t2, zs, ts2 ++ [(b, r)], _, _, _, rfl, Ex.mut ex8 nt2H, by rw [upd_ne zt2]; exact (e6.trans (e7.trans e8)) _ _ hz, by rw [upd_same, adr_app]; rfl, nt2H, ((rz.ex (e6.trans (e7.trans e8))).upd znt), Rws.append ((rt2.ex e8).upd tne2) (fun x hx => by rw [List.mem_singleton.mp hx, upd_ne bt2]; exact hb8), ?_, fun x hx => ?_, fun x hx => ?_, by omega, by rw [List.length_append, List.length_singleton]; omega⟩
            · have : rws (ts2 ++ [(b, r)]) = toldOf (rws ts) (some r) i M := by rw [rws_app, eqt2]; rfl
              rw [this]; exact TS
            · rcases List.mem_append.mp hx with h | h
              · exact nzs x h
              · rcases List.mem_append.mp h with h | h
                · exact fresh_back (ex5.trans e6) (nts2 x h)
                · rw [List.mem_singleton.mp h]; exact bH
            · rcases List.mem_append.mp hx with h | h
              · exact tne2 x h
              · rw [List.mem_singleton.mp h]; exact bt2
      · rcases hv with ⟨rfl, rfl⟩ | ⟨b, r, rfl, rfl, _⟩
        · exact ⟨z, t, zs, ts, _, _, _, rfl, ex5.trans e6, e6 _ _ hz, e6 _ _ ht5, ntH, rz.ex e6, rt5.ex e6, TS, fun x hx => (List.mem_append.mp hx).elim (nzs x) fun h => nn x (List.mem_append_right _ h), tne, by omega, by omega⟩
        · simp at hb
    · rintro σ' H3 ⟨l, t, ls, ts, v5, v6, v7, rfl, ex, hl3, ht3, ntH, rl, rt, T, nn, tne, ll, tl⟩
      have T' : TI M wd D wd (bq wd) (tq wd) (rws ts) (rws ls) := T
      refine s_retU (eu_tup (ea_cons (ev_var rfl) (ea_cons (ev_var rfl) ea_nil)) (by simp)) fun tt H4 ntt e4 htt => ?_
      exact fin tt t l ts H4 (ex.trans e4) htt (e4 _ _ ht3) ntH (rt.ex e4) (T'.end hH) (fun x hx => nn x (List.mem_append_right _ hx)) tne
def spHermite (K : PySem.W.Frag) : Sp := fun vs H Q _ => ∃ (p : Addr) (ps : List AR) (wd : Nat) (M : Int) (D : List (Nat × Row)), vs = [.ref p, .int (wd : Nat), .int M] ∧ SqL K H p (adr ps) ∧ Rws H ps ∧ Md M ∧ wd ≤ 4 ∧ ps.length ≤ 1000 ∧
  (∀ r ∈ rws ps, r.length = wd) ∧ (M = 0 → Bnd (2 ^ 33) (rws ps)) ∧ Herm M wd D ∧ SameL M (D.map (·.2)) (rws ps) ∧
  ∀ (a : Addr) (ts : List AR) (H' : Hp), Ex H H' → H' a = some (.lst (adr ts)) → H a = none → Rws H' ts → rws ts = D.map (·.2) → (∀ x ∈ ts, H x.1 = none) → (∀ x ∈ ts, x.1 ≠ a) → Q (.ref a) H'
theorem ok_hermite_rows (L : Lib K mg) {f : Addr} {fd : FuncData} (F : L2.Fun K "hermite_rows" "hermite_rows" s_hermite_rows f fd) : FnOk P w K mg base CX0 5 f fd ["rows", "width", "modulus"] (spHermite K) := by
  obtain ⟨f_split_rows, fd_split_rows, F_split_rows⟩ := L.split_rows
  have G_split_rows : FnOk P w K mg base CX0 4 f_split_rows fd_split_rows _ (spSplit K) := ok_split_rows L F_split_rows.F
  refine F.ok sc_hermite_rows (fun vs H Q E h => ?_) (fun cdv A outer s H vs Q E hr h => ?_)
  · obtain ⟨p, ps, wd, M, D, rfl, _⟩ := h; rfl
  · obtain ⟨p, ps, wd, M, D, rfl, hp, hR, hm, hwd, hl, hlen, hbnd, hH, hS, fin⟩ := h
    refine ⟨_, (pss_cons (ps_asg (pe_call G_split_rows (hr.mono (by decide)) (by rfl) F_split_rows.g F_split_rows.F.kp F_split_rows.b .nil pass0 (pa_cons (pv 0) (pa_cons (pv 1) (pa_cons (pv 2) pa_nil)))) (pg_tup rfl (pgs_cons (pg_name (i := 3) sc_hermite_rows.nd rfl (Or.inl rfl)) (pgs_cons (pg_name (i := 4) sc_hermite_rows.nd rfl (Or.inl rfl)) pgs_nil))))
    (pss_one (ps_ret (pv 3)))), ?_⟩
    refine q_call (ea_cons (ev_var rfl) (ea_cons (ev_var rfl) (ea_cons (ev_var rfl) ea_nil))) fun H1 e1 => ⟨p, ps, wd, M, D, rfl, ex_l e1 hp, hR.ex e1, hm, hwd, hl, hlen, hbnd, hH, hS, fun t a l ts H2 e2 ht ha na rt eq nts tne => ?_⟩
    refine ⟨t, _, rfl, SqT.of ht, rfl, _, _, rfl, _, _, rfl, rfl, ?_⟩
    refine s_ret (ev_var rfl) fun H3 e3 => ?_
    exact fin a ts H3 ((e1.trans e2).trans e3) (e3 _ _ ha) (fresh_back e1 na) (rt.ex e3) eq (fun x hx => fresh_back e1 (nts x hx)) tne
end
end Mine
set_option Elab.async false
set_option linter.all false
set_option maxRecDepth 100000
set_option maxHeartbeats 4000000
namespace Mine
open PySem PySem.Spec PyProof.Rows L2 Evl
section
variable {K : PySem.W.Frag} {σ : L2.St} {H H' : Hp} {ta tb te tx tl : TE} {t u : TT} {x y z v w1 : V} {D : Ends} {tu tw tz : TS}
/-- a call whose first argument is a new list -/
theorem el_callL1 {sp : Sp} {dvs vs xs out : List V} {E : XK} {ta : TA} (h : EvL te σ H xs) (ha : EvA ta σ H vs) (hs : ∀ p H1, Ex H H1 → H1 p = some (.lst xs) → SpL sp (.ref p :: (vs ++ dvs)) H1 out) : EvL (tCall sp dvs E (tCons te ta)) σ H out := fun H0 e0 Q q =>
  h H0 e0 _ fun p H1 np e1 h1 => ha H1 (e0.trans e1) _ fun H2 e2 => hs p H2 ((e0.trans e1).trans e2) (e2 _ _ h1) H2 (Ex.refl H2) Q (fun r H3 nr e3 h3 => q r H3 (fresh_back (e1.trans e2) nr) ((e1.trans e2).trans e3) h3) E
theorem ev_callL1 {sp : Sp} {dvs vs xs : List V} {E : XK} {ta : TA} (h : EvL te σ H xs) (ha : EvA ta σ H vs) (hs : ∀ p H1, Ex H H1 → H1 p = some (.lst xs) → SpV sp (.ref p :: (vs ++ dvs)) H1 z) : Ev (tCall sp dvs E (tCons te ta)) σ H z := fun H0 e0 Q q =>
  h H0 e0 _ fun p H1 np e1 h1 => ha H1 (e0.trans e1) _ fun H2 e2 => hs p H2 ((e0.trans e1).trans e2) (e2 _ _ h1) H2 (Ex.refl H2) Q (fun H3 e3 => q H3 ((e1.trans e2).trans e3)) E
theorem el_cat {p : Addr} {xs ys : List V} (ha : Ev ta σ H (.ref p)) (hx : H p = some (.lst xs)) (hb : EvL tb σ H ys) (hz : xs.length + ys.length ≤ 100000) : EvL (tOp rCat ta tb) σ H (xs ++ ys) := fun H0 e0 Q q =>
  ha H0 e0 _ fun H1 e1 => hb H1 (e0.trans e1) _ fun p2 H2 n2 e2 h2 => ⟨p, p2, xs, ys, rfl, rfl, ((e0.trans e1).trans e2) _ _ hx, h2, sz_of hz, fun r nr => q r _ (fresh_back (e1.trans e2) nr) ((e1.trans e2).trans (Ex.new nr)) upd_same⟩
theorem s_forR2Z {ta : TA} {j : Nat} {lo n : Int} (h : EvA ta σ H [.int lo, .int n]) (hn : -100000 ≤ lo ∧ lo ≤ 100000 ∧ -100000 ≤ n ∧ n ≤ 100000) (Pv : Nat → L2.St → Hp → Prop) (h0 : ∀ H1, Ex H H1 → Pv 0 σ H1)
    (hs : ∀ (i : Nat) σ' H', lo + (i : Int) < n → Pv i σ' H' → tu { D with nx := Pv (i + 1), ct := Pv (i + 1), bk := D.nx } (σ'.set j (some (.int (lo + (i : Int))))) H') (hd : ∀ σ' H', Pv (n - lo).toNat σ' H' → D.nx σ' H') : tFor (iRng2 ta) (gName j) tu D σ H :=
  h H (Ex.refl H) _ fun H1 e => ⟨lo, n, rfl, ⟨by omega, by omega, by omega, by omega⟩, for_range (lo := lo) (n := (n - lo).toNat) Pv (h0 H1 e) (fun i σ' H' hi p => hs i σ' H' (by omega) p) hd⟩
/-- [e for k in range(n)], ints -/
theorem el_lcRI {ta : TA} {j : Nat} {vs : List Nat} {n : Nat} (r : Row) (hr : r.length = n) (h : EvA ta σ H [.int (n : Nat)]) (hn : n ≤ 40000) (hw : ∀ x, wipe ((wipe σ vs).set j (some x)) vs = wipe σ vs)
    (he : ∀ (i : Nat) H1, Ex H H1 → i < n → Ev te ((wipe σ vs).set j (some (.int (i : Int)))) H1 (.int (en r i))) : EvL (tLc (iRng1 ta) (gName j) tYes te vs) σ H (iL r) := by
  have e : given ((n : Nat) : Int).toNat (fun _ => true) (fun i => V.int (en r i)) = iL r := given_all _ _ _ (by rw [iL_len, hr]; simp) fun i z hz => by
    obtain ⟨k, rfl, hk⟩ := iL_get hz
    rw [en_get hk]
  rw [← e]
  exact el_lcR1 (fun _ => true) (fun i => V.int (en r i)) h (by omega) hw (fun i H1 e hi => et_yes) fun i H1 e hi _ => he i H1 e (by omega)
theorem ev_ifB {b : Bool} {i j : V} (h : EvT t σ H b) (h1 : b = true → Ev ta σ H i) (h2 : b = false → Ev tb σ H j) : Ev (tIf t ta tb) σ H (if b = true then i else j) := ev_if h (fun e => by rw [if_pos e]; exact h1 e) (fun e => by rw [if_neg (by rw [e]; decide)]; exact h2 e)
end
section
variable {P : Program} {w : World} {K : PySem.W.Frag} {mg : Str → Option Value} {base : Heap} {H : Hp}
/-! ### _law_c_plain, _law_c_add, _law_c_sum, _law_c_copy -/
theorem ok_law_c_plain (L : Lib K mg) {f : Addr} {fd : FuncData} (F : L2.Fun K "_law_c_plain" "_law_c_plain" s_law_c_plain f fd) : FnOk P w K mg base CX0 1 f fd ["row", "M"] (spPlain K) := by
  refine F.ok sc_law_c_plain (fun vs H Q E h => ?_) (fun cdv A outer s H vs Q E hr h => ?_)
  · obtain ⟨p, r, M, rfl, _⟩ := h; rfl
  · obtain ⟨p, r, M, rfl, hp, hl, hM, k⟩ := h
    refine ⟨_, (pss_one (ps_ret (pe_lc (own := [("number", 2)]) (g := gName 2) (tt := tYes) rfl sc_law_c_plain.nd (pi_list (pv 0)) (blkOk_by (own := [("number", 2)]) (N := N_law_c_plain) (sc := defScope s_law_c_plain) (by decide +kernel)) (fun _ _ _ _ _ => (pg_name (i := 2) sc_law_c_plain.nd rfl (Or.inl rfl))) (fun _ _ _ _ _ => pts_nil) (fun _ _ _ _ _ => (pe_ifExp (pt_cmpR op_ne (pv 1) pe_int (nomark _)) (pe_op op_mod (pe_callTy call_int1 (by rfl) L.int (by decide +kernel) (pa_cons (pv 2) pa_nil)) (pv 1)) (pv 2)))))), ?_⟩
    refine s_retL (el_lcI (fun x => if M ≠ 0 then x % M else x) (ev_var rfl) hp (by omega) (fun _ => rfl) fun x H2 e2 hx => ev_is (ev_ifB (et_test (ev_neI (ev_var rfl) ev_c)) (fun hb => ev_mod (ev_int (ev_var rfl)) (ev_var rfl) (by have := of_decide_eq_true hb; omega)) (fun hb => ev_var rfl)) ?_) fun p2 H2 n2 e2 h2 => ?_
    · by_cases z : M = 0 <;> simp [z]
    · refine k p2 H2 n2 e2 ?_
      have e : plainRow r M = r.map fun x => if M ≠ 0 then x % M else x := by
        unfold plainRow
        by_cases z : M = 0
        · rw [if_pos z]; subst z; simp
        · rw [if_neg z]; simp [z]
      rw [e]; exact h2
def addT (r o : Row) (k M : Int) : Row := plainRow (List.zipWith (fun a b => a + k * b) r o) M
def spAdd (K : PySem.W.Frag) : Sp := fun vs H Q _ => ∃ (p q : Addr) (r o : Row) (k M : Int), vs = [.ref p, .ref q, .int k, .int M] ∧ SqL K H p (iL r) ∧ SqL K H q (iL o) ∧ r.length = o.length ∧ r.length ≤ 1000 ∧ 0 ≤ M ∧ (∀ j, CMulW k (en o j)) ∧ RetL (iL (addT r o k M)) H Q
theorem ok_law_c_add (L : Lib K mg) {f : Addr} {fd : FuncData} (F : L2.Fun K "_law_c_add" "_law_c_add" s_law_c_add f fd) : FnOk P w K mg base CX0 2 f fd ["one", "other", "k", "M"] (spAdd K) := by
  obtain ⟨f_law_c_plain, fd_law_c_plain, F_law_c_plain⟩ := L.law_c_plain
  have G_law_c_plain : FnOk P w K mg base CX0 1 f_law_c_plain fd_law_c_plain _ (spPlain K) := ok_law_c_plain L F_law_c_plain.F
  refine F.ok sc_law_c_add (fun vs H Q E h => ?_) (fun cdv A outer s H vs Q E hr h => ?_)
  · obtain ⟨p, q, r, o, k, M, rfl, _⟩ := h; rfl
  · obtain ⟨p, q, r, o, k, M, rfl, hp, hq, hl, hl2, hM, hc, fin⟩ := h
    refine ⟨_, (pss_one (ps_ret (pe_call G_law_c_plain (hr.mono (by decide)) (by rfl) F_law_c_plain.g F_law_c_plain.F.kp F_law_c_plain.b .nil pass0 (pa_cons (pe_lc (own := [("at", 4)]) (g := gName 4) (tt := tYes) rfl sc_law_c_add.nd (pi_range1 (by rfl) L.range (pa_cons (pe_callB call_len_seq (by rfl) L.len (by decide +kernel) (pa_cons (pv 0) pa_nil)) pa_nil)) (blkOk_by (own := [("at", 4)]) (N := N_law_c_add) (sc := defScope s_law_c_add) (by decide +kernel)) (fun _ _ _ _ _ => (pg_name (i := 4) sc_law_c_add.nd rfl (Or.inl rfl))) (fun _ _ _ _ _ => pts_nil) (fun _ _ _ _ _ => (pe_op op_add (pe_ix (ix_listK (K := K)) (pv 0) (pv 4) (fun _ _ => rfl)) (pe_op op_mulW (pv 2) (pe_ix (ix_listK (K := K)) (pv 1) (pv 4) (fun _ _ => rfl)))))) (pa_cons (pv 3) pa_nil))))), ?_⟩
    have hzl : (List.zipWith (fun a b => a + k * b) r o).length = r.length := by rw [List.length_zipWith]; omega
    refine s_retL (el_callL1 (xs := iL (List.zipWith (fun a b => a + k * b) r o)) (el_lcRI (n := r.length) _ hzl (ea_cons (ev_is (ev_len (ev_var rfl) hp) (by rw [iL_len])) ea_nil) (by omega) (fun _ => rfl) fun i H1 e1 hi => ?_) (ea_cons (ev_var rfl) ea_nil) fun p1 H1 e1 h1 => plain_spl (sq_of h1) (by omega) hM) fun p2 H2 n2 e2 h2 => fin p2 H2 n2 e2 h2
    rw [en_zip (by simp) hl]
    exact ev_add (ev_ix (ev_var rfl) (ev_var rfl) (ex_l e1 hp) (iL_en hi)) (ev_mulW (ev_var rfl) (ev_ix (ev_var rfl) (ev_var rfl) (ex_l e1 hq) (iL_en (by omega))) (hc i))
theorem add_spl {p q : Addr} {r o : Row} {k M : Int} (hp : SqL K H p (iL r)) (hq : SqL K H q (iL o)) (hl : r.length = o.length) (hl2 : r.length ≤ 1000) (hM : 0 ≤ M) (hc : ∀ j, CMulW k (en o j)) : SpL (spAdd K) [.ref p, .ref q, .int k, .int M] H (iL (addT r o k M)) :=
  fun H1 e Q q' _ => ⟨p, q, r, o, k, M, rfl, ex_l e hp, ex_l e hq, hl, hl2, hM, hc, q'⟩
theorem addT_len {r o : Row} {k M : Int} (h : r.length = o.length) : (addT r o k M).length = r.length := by unfold addT; rw [plainRow_len, List.length_zipWith]; omega
def sumT : List Row → List Int → Row → Int → Row
  | r :: rs, k :: ks, t, M => sumT rs ks (addT t r k M) M
  | _, _, t, _ => t
theorem sumT_take {rs : List Row} {ks : List Int} {t : Row} {M : Int} : ∀ {i : Nat} {r : Row} {k : Int}, rs[i]? = some r → ks[i]? = some k → sumT (rs.take (i + 1)) (ks.take (i + 1)) t M = addT (sumT (rs.take i) (ks.take i) t M) r k M := by
  intro i
  induction i generalizing rs ks t with
  | zero =>
    intro r k hr hk
    match rs, ks, hr, hk with
    | a :: rs, b :: ks, hr, hk =>
      have e1 : a = r := Option.some.inj hr
      have e2 : b = k := Option.some.inj hk
      subst e1 e2
      simp [sumT]
  | succ i ih =>
    intro r k hr hk
    match rs, ks, hr, hk with
    | a :: rs, b :: ks, hr, hk => exact ih (rs := rs) (ks := ks) (t := addT t a b M) hr hk
theorem sumT_len {w' : Nat} {M : Int} : ∀ {rs : List Row} {ks : List Int} {t : Row}, (∀ r ∈ rs, r.length = w') → t.length = w' → (sumT rs ks t M).length = w'
  | [], _, _, _, h => by unfold sumT; exact h
  | _ :: _, [], _, _, h => by unfold sumT; exact h
  | r :: rs, k :: ks, t, hr, h => by
    unfold sumT
    exact sumT_len (fun s hs => hr s (List.mem_cons_of_mem _ hs)) ((addT_len (by rw [h, hr r (List.mem_cons_self ..)])).trans h)
def spSum (K : PySem.W.Frag) : Sp := fun vs H Q _ => ∃ (p q : Addr) (ps : List AR) (ks : Row) (wd : Nat) (M : Int), vs = [.ref p, .ref q, .int (wd : Nat), .int M] ∧ SqL K H p (adr ps) ∧ Rws H ps ∧ SqL K H q (iL ks) ∧ ks.length = ps.length ∧ ps.length ≤ 1000 ∧ wd ≤ 1000 ∧ 0 ≤ M ∧ (∀ r ∈ rws ps, r.length = wd) ∧
  (∀ k ∈ ks, ∀ r ∈ rws ps, ∀ j, CMulW k (en r j)) ∧ RetL (iL (sumT (rws ps) ks (List.replicate wd 0) M)) H Q
theorem ok_law_c_sum (L : Lib K mg) {f : Addr} {fd : FuncData} (F : L2.Fun K "_law_c_sum" "_law_c_sum" s_law_c_sum f fd) : FnOk P w K mg base CX0 3 f fd ["rows", "numbers", "width", "M"] (spSum K) := by
  obtain ⟨f_law_c_add, fd_law_c_add, F_law_c_add⟩ := L.law_c_add
  have G_law_c_add : FnOk P w K mg base CX0 2 f_law_c_add fd_law_c_add _ (spAdd K) := ok_law_c_add L F_law_c_add.F
  refine F.ok sc_law_c_sum (fun vs H Q E h => ?_) (fun cdv A outer s H vs Q E hr h => ?_)
  · obtain ⟨p, q, ps, ks, wd, M, rfl, _⟩ := h; rfl
  · obtain ⟨p, q, ps, ks, wd, M, rfl, hp, hR, hq, hkl, hl, hwd, hM, hlen, hc, fin⟩ := h
    refine ⟨_, (pss_cons (ps_setLc (i := 5) (own := [("k", 4)]) (g := gName 4) (tt := tYes) rfl sc_law_c_sum.nd rfl rfl (sw_true rfl rfl rfl (by decide +kernel)) (pi_range1 (by rfl) L.range (pa_cons (pv 2) pa_nil)) (blkOk_by (own := [("k", 4)]) (N := N_law_c_sum) (sc := defScope s_law_c_sum) (by decide +kernel)) (fun _ _ _ _ _ => (pg_name (i := 4) sc_law_c_sum.nd rfl (Or.inl rfl))) (fun _ _ _ _ _ => pts_nil) (fun _ _ _ _ _ => pe_int))
    (pss_cons (ps_for PassesOwn.never rfl (pi_range1 (by rfl) L.range (pa_cons (pe_callB call_len_seq (by rfl) L.len (by decide +kernel) (pa_cons (pv 0) pa_nil)) pa_nil)) (pg_name (i := 4) sc_law_c_sum.nd rfl (Or.inl rfl))
      (pss_one (ps_set (i := 5) sc_law_c_sum.nd rfl (Or.inl rfl) (pe_call G_law_c_add (hr.mono (by decide)) (by rfl) F_law_c_add.g F_law_c_add.F.kp F_law_c_add.b .nil pass0 (pa_cons (pv 5) (pa_cons (pe_ix ix_list (pv 0) (pv 4) (fun _ _ => rfl)) (pa_cons (pe_ix ix_list (pv 1) (pv 4) (fun _ _ => rfl)) (pa_cons (pv 3) pa_nil))))))))
    (pss_one (ps_ret (pv 5))))), ?_⟩
    refine q_asgL (el_lcRI (n := wd) (List.replicate wd 0) (by simp) (ea_cons (ev_var rfl) ea_nil) (by omega) (fun _ => rfl) fun i H1 e1 hi => by rw [en_zero]; exact ev_c) fun t0 H1 nt0 e1 ht0 => ?_
    refine q_forR1 (n := ((adr ps).length : Nat)) (ea_cons (ev_len (ev_var rfl) (ex_l e1 hp)) ea_nil) (by rw [adr_len]; omega) (fun i σ' H' => ∃ (t : Addr) (v4 : Option V), σ' = [some (.ref p), some (.ref q), some (.int (wd : Nat)), some (.int M), v4, some (.ref t)] ∧ Ex H H' ∧ H t = none ∧ H' t = some (.lst (iL (sumT ((rws ps).take i) (ks.take i) (List.replicate wd 0) M))))
      (fun H2 e2 => ⟨t0, none, rfl, e1.trans e2, nt0, by simpa [sumT] using e2 _ _ ht0⟩) ?_ ?_
    · rintro i σ' H' hi ⟨t, v4, rfl, ex, nt, ht⟩
      rw [adr_len] at hi
      have hi : i < ps.length := by omega
      have hpi := List.getElem?_eq_getElem hi
      have hki : i < ks.length := by omega
      have hk := en_lt hki
      have hr := rws_at hpi
      have hin : ps[i] ∈ ps := List.getElem_mem hi
      have lt : (sumT ((rws ps).take i) (ks.take i) (List.replicate wd 0) M).length = wd := sumT_len (fun r hr => hlen r (List.mem_of_mem_take hr)) (by simp)
      refine s_asgL (el_call (ea_cons (ev_var rfl) (ea_cons (ev_ix (ev_var rfl) (ev_var rfl) (ex_l ex hp) (atI_nat (adr_at hpi))) (ea_cons (ev_ix (ev_var rfl) (ev_var rfl) (ex_l ex hq) (iL_en hki)) (ea_cons (ev_var rfl) ea_nil)))) (add_spl (sq_of ht) ((hR.ex ex).seq hin) (by rw [lt, hlen _ (mem_rws hin)]) (by omega) hM fun j => hc _ (List.mem_of_getElem? hk) _ (mem_rws hin) j)) fun t2 H2 nt2 e2 ht2 => ?_
      exact ⟨t2, _, rfl, ex.trans e2, fresh_back ex nt2, by rw [sumT_take hr hk]; exact ht2⟩
    · rintro σ' H' ⟨t, v4, rfl, ex, nt, ht⟩
      have hn : ((adr ps).length : Int).toNat = ps.length := by rw [adr_len]; simp
      rw [hn, List.take_of_length_le (by rw [rws_len]; exact Nat.le_refl _), List.take_of_length_le (by omega)] at ht
      exact s_ret (ev_var rfl) fun H2 e2 => fin t H2 nt (ex.trans e2) (e2 _ _ ht)
def RetR (rs : List Row) (H : Hp) (Q : VK) : Prop := ∀ (p : Addr) (qs : List AR) (H2 : Hp), H p = none → Ex H H2 → H2 p = some (.lst (adr qs)) → Rws H2 qs → rws qs = rs → (∀ x ∈ qs, H x.1 = none) → (∀ x ∈ qs, x.1 ≠ p) → Q (.ref p) H2
def spCopy (K : PySem.W.Frag) : Sp := fun vs H Q _ => ∃ (p : Addr) (ps : List AR), vs = [.ref p] ∧ SqL K H p (adr ps) ∧ Rws H ps ∧ ps.length ≤ 1000 ∧ RetR (rws ps) H Q
theorem ok_law_c_copy (L : Lib K mg) {f : Addr} {fd : FuncData} (F : L2.Fun K "_law_c_copy" "_law_c_copy" s_law_c_copy f fd) : FnOk P w K mg base CX0 1 f fd ["rows"] (spCopy K) := by
  refine F.ok sc_law_c_copy (fun vs H Q E h => ?_) (fun cdv A outer s H vs Q E hr h => ?_)
  · obtain ⟨p, ps, rfl, _⟩ := h; rfl
  · obtain ⟨p, ps, rfl, hp, hR, hl, fin⟩ := h
    refine ⟨_, (pss_one (ps_ret (pe_lc (own := [("row", 1)]) (g := gName 1) (tt := tYes) rfl sc_law_c_copy.nd (pi_list (pv 0)) (blkOk_by (own := [("row", 1)]) (N := N_law_c_copy) (sc := defScope s_law_c_copy) (by decide +kernel)) (fun _ _ _ _ _ => (pg_name (i := 1) sc_law_c_copy.nd rfl (Or.inl rfl))) (fun _ _ _ _ _ => pts_nil) (fun _ _ _ _ _ => (pe_callTy (call_list_ofK (K := K)) (by rfl) L.list (by decide +kernel) (pa_cons (pv 1) pa_nil)))))), ?_⟩
    refine s_retR (el_lcR (fun r => r) (ev_var rfl) hp (by omega) (fun _ => rfl) fun x H1 e1 hx => el_list (ev_var rfl) (ex_l e1 (hR.seq hx))) fun p2 qs H2 n2 e2 h2 r2 eq nq ne => ?_
    rw [List.map_id'] at eq
    exact fin p2 qs H2 n2 e2 h2 r2 eq nq ne
/-! ### what is left of a row: both ways -/
def stepR (M : Int) (l o : Row) : Row := lessT l o ((en l (firstP o)).fdiv (en o (firstP o))) M
def restOf (told : List Row) (row : Row) (M : Int) : Row := told.foldl (stepR M) (plainRow row M)
/-- a row that may be taken off -/
structure RO (M : Int) (wd : Nat) (o : Row) : Prop where
  len : o.length = wd
  fp : firstP o < wd
  nz : en o (firstP o) ≠ 0
  bnd : ∀ j, (en o j).natAbs ≤ 2 ^ 20
theorem rest_inv {M : Int} (hm : Md M) {wd : Nat} {row : Row} (hl : row.length = wd) (hb : ∀ j, (en row j).natAbs ≤ 2 ^ 40) : ∀ {n : Nat} {told : List Row}, told.length ≤ n → (∀ o ∈ told, RO M wd o) →
    (restOf told row M).length = wd ∧ Rng M (restOf told row M) ∧ ∀ j, (en (restOf told row M) j).natAbs ≤ 2 ^ (40 + 21 * told.length) := by
  intro n told hn h
  have gen : ∀ (told : List Row) (l : Row) (b : Nat), 4 ≤ b → l.length = wd → Rng M l → (∀ j, (en l j).natAbs ≤ 2 ^ b) → (∀ o ∈ told, RO M wd o) → (told.foldl (stepR M) l).length = wd ∧ Rng M (told.foldl (stepR M) l) ∧ ∀ j, (en (told.foldl (stepR M) l) j).natAbs ≤ 2 ^ (b + 21 * told.length) := by
    intro told
    induction told with
    | nil => intro l b _ h1 h2 h3 _; exact ⟨h1, h2, h3⟩
    | cons o told ih =>
      intro l b hb4 h1 h2 h3 h4
      have ho := h4 o (List.mem_cons_self ..)
      have hlo : l.length = o.length := by rw [h1, ho.len]
      have r1 := lessT_rng (t := (en l (firstP o)).fdiv (en o (firstP o))) hlo hm h2
      have := ih (stepR M l o) (b + 21) (by omega) ((lessT_len hlo).trans h1) r1 (fun j => ?_) (fun o' ho' => h4 o' (List.mem_cons_of_mem _ ho'))
      · rw [List.length_cons, show b + 21 * (told.length + 1) = b + 21 + 21 * told.length by omega]; exact this
      · by_cases hM : M = 0
        · subst hM
          unfold stepR
          rw [lessT_0 hlo]
          have q1 : ((en l (firstP o)).fdiv (en o (firstP o))).natAbs ≤ 2 ^ b := Nat.le_trans (natAbs_fdiv ho.nz) (h3 _)
          have q2 := Nat.mul_le_mul q1 (ho.bnd j)
          have q3 := Int.natAbs_sub_le (en l j) ((en l (firstP o)).fdiv (en o (firstP o)) * en o j)
          rw [Int.natAbs_mul] at q3
          have q4 := h3 j
          rw [← Nat.pow_add] at q2
          have q5 : 2 ^ b ≤ 2 ^ (b + 20) := Nat.pow_le_pow_right (by decide) (by omega)
          have q6 : 2 ^ (b + 21) = 2 ^ (b + 20) + 2 ^ (b + 20) := by rw [show b + 21 = (b + 20) + 1 by omega, Nat.pow_succ]; omega
          omega
        · have := hm.pos hM
          have h9 := r1 hM j
          have q5 : 2 ^ 4 ≤ 2 ^ (b + 21) := Nat.pow_le_pow_right (by decide) (by omega)
          unfold stepR
          omega
  refine gen told (plainRow row M) 40 (by decide) ((plainRow_len _ _).trans hl) (plainRow_rng hm) (fun j => ?_) h
  by_cases hM : M = 0
  · rw [hM, plainRow_0]; exact hb j
  · have := hm.pos hM
    have h9 := plainRow_rng (r := row) hm hM j
    have : (2 : Nat) ^ 4 ≤ 2 ^ 40 := by decide
    omega
theorem restOf_take {told : List Row} {row : Row} {M : Int} {i : Nat} {o : Row} (h : told[i]? = some o) : restOf (told.take (i + 1)) row M = stepR M (restOf (told.take i) row M) o := by
  unfold restOf
  rw [List.take_add_one, h, List.foldl_append]; rfl
/-- both ask the same of what they are handed -/
def RedPre (K : PySem.W.Frag) (H : Hp) (p q : Addr) (ps : List AR) (row : Row) (wd : Nat) (M : Int) : Prop :=
  SqL K H p (adr ps) ∧ Rws H ps ∧ SqL K H q (iL row) ∧ Md M ∧ row.length = wd ∧ wd ≤ 1000 ∧ ps.length ≤ 20 ∧ (∀ j, (en row j).natAbs ≤ 2 ^ 40) ∧ ∀ o ∈ rws ps, RO M wd o
theorem red_div {M : Int} {wd : Nat} {o : Row} (h : RO M wd o) (n : Int) : CDivZ n (en o (firstP o)) := cdivz (b := 21) _ h.nz (Nat.lt_of_le_of_lt (h.bnd _) (by decide)) (by decide) (by decide)
theorem red_mul {M : Int} (hm : Md M) {wd : Nat} {row : Row} {told : List Row} (hl : row.length = wd) (hb : ∀ j, (en row j).natAbs ≤ 2 ^ 40) (ht : told.length ≤ 20) (h : ∀ o ∈ told, RO M wd o) {o : Row} (ho : RO M wd o) {c : Int} (hc : c ∈ o) :
    CMulW ((en (restOf told row M) (firstP o)).fdiv (en o (firstP o))) c := by
  obtain ⟨_, _, h3⟩ := rest_inv hm hl hb ht h
  obtain ⟨j, hj⟩ := List.getElem?_of_mem hc
  have h4 := ho.bnd j
  rw [en_get hj] at h4
  have h5 : (2 : Nat) ^ (40 + 21 * told.length) < 2 ^ 1000 := Nat.pow_lt_pow_right (by decide) (by omega)
  exact wide_mul (a := 1000) (b := 21) (Nat.lt_of_le_of_lt (Nat.le_trans (natAbs_fdiv ho.nz) (h3 _)) h5) (Nat.lt_of_le_of_lt h4 (by decide)) (by decide) (by decide) (by decide)
def spRest (K : PySem.W.Frag) : Sp := fun vs H Q _ => ∃ (p q : Addr) (ps : List AR) (row : Row) (wd : Nat) (M : Int), vs = [.ref p, .ref q, .int M] ∧ RedPre K H p q ps row wd M ∧ RetL (iL (restOf (rws ps) row M)) H Q
theorem ok_rest_of_row (L : Lib K mg) {f : Addr} {fd : FuncData} (F : L2.Fun K "rest_of_row" "rest_of_row" s_rest_of_row f fd) : FnOk P w K mg base CX0 2 f fd ["told", "row", "modulus"] (spRest K) := by
  obtain ⟨f_first_place, fd_first_place, F_first_place⟩ := L.first_place
  obtain ⟨f_less_times, fd_less_times, F_less_times⟩ := L.less_times
  obtain ⟨f_plain_row, fd_plain_row, F_plain_row⟩ := L.plain_row
  have G_plain_row : FnOk P w K mg base CX0 1 f_plain_row fd_plain_row _ (spPlain K) := ok_plain_row L F_plain_row.F
  have G_first_place : FnOk P w K mg base CX0 1 f_first_place fd_first_place _ (spFirst K) := ok_first_place L F_first_place.F
  have G_less_times : FnOk P w K mg base CX0 1 f_less_times fd_less_times _ (spLess K) := ok_less_times L F_less_times.F
  refine F.ok sc_rest_of_row (fun vs H Q E h => ?_) (fun cdv A outer s H vs Q E hr h => ?_)
  · obtain ⟨p, q, ps, row, wd, M, rfl, _⟩ := h; rfl
  · obtain ⟨p, q, ps, row, wd, M, rfl, ⟨hp, hR, hq, hm, hl, hwd, hps, hb, hro⟩, fin⟩ := h
    refine ⟨_, (pss_cons (ps_set (i := 3) sc_rest_of_row.nd rfl (Or.inl rfl) (pe_call G_plain_row (hr.mono (by decide)) (by rfl) F_plain_row.g F_plain_row.F.kp F_plain_row.b .nil pass0 (pa_cons (pv 1) (pa_cons (pv 2) pa_nil))))
    (pss_cons (ps_for PassesOwn.never rfl (pi_list (pv 0)) (pg_name (i := 4) sc_rest_of_row.nd rfl (Or.inl rfl))
      (pss_cons (ps_set (i := 5) sc_rest_of_row.nd rfl (Or.inl rfl) (pe_call G_first_place (hr.mono (by decide)) (by rfl) F_first_place.g F_first_place.F.kp F_first_place.b .nil pass0 (pa_cons (pv 4) pa_nil)))
    (pss_one (ps_set (i := 3) sc_rest_of_row.nd rfl (Or.inl rfl) (pe_call G_less_times (hr.mono (by decide)) (by rfl) F_less_times.g F_less_times.F.kp F_less_times.b .nil pass0 (pa_cons (pv 3) (pa_cons (pv 4) (pa_cons (pe_op op_fdivZ (pe_ix ix_list (pv 3) (pv 5) (fun _ _ => rfl)) (pe_ix ix_list (pv 4) (pv 5) (fun _ _ => rfl))) (pa_cons (pv 2) pa_nil)))))))))
    (pss_one (ps_ret (pv 3))))), ?_⟩
    refine q_asgL (el_call (ea_cons (ev_var rfl) (ea_cons (ev_var rfl) ea_nil)) (plain_spl hq (by omega) hm.nonneg)) fun l H1 nl e1 hl1 => ?_
    refine q_forLn (ev_var rfl) (ex_l e1 hp) (fun i σ' H' => ∃ (l : Addr) (v4 v5 : Option V), σ' = [some (.ref p), some (.ref q), some (.int M), some (.ref l), v4, v5] ∧ Ex H H' ∧ H l = none ∧ H' l = some (.lst (iL (restOf ((rws ps).take i) row M))))
      (fun H2 e2 => ⟨l, none, none, rfl, e1.trans e2, nl, by simpa [restOf] using e2 _ _ hl1⟩) (fun i σ' H' _ ⟨_, _, _, _, e, _⟩ => ex_l e hp) ?_ ?_
    · rintro i x σ' H' hi ⟨l, v4, v5, rfl, ex, nl, hl3⟩
      obtain ⟨y, hy, rfl⟩ := adr_get hi
      have hyin := List.mem_of_getElem? hy
      have ho := hro y.2 (mem_rws hyin)
      have hro' : ∀ o ∈ (rws ps).take i, RO M wd o := fun o h => hro o (List.mem_of_mem_take h)
      have htl : ((rws ps).take i).length ≤ 20 := by rw [List.length_take, rws_len]; omega
      obtain ⟨i1, _, _⟩ := rest_inv hm hl hb htl hro'
      have hy2 : SqL K H' y.1 (iL y.2) := (hR.ex ex).seq hyin
      refine q_asg (ev_call (z := .int (firstP y.2 : Nat)) (ea_cons (ev_var rfl) ea_nil) (firstP_spv hy2 (by rw [ho.len]; exact hwd))) fun H2 e2 => ?_
      refine s_asgL (el_call (ea_cons (ev_var rfl) (ea_cons (ev_var rfl) (ea_cons (ev_fdiv (ev_ix (ev_var rfl) (ev_var rfl) (sq_of (e2 _ _ hl3)) (iL_en (by rw [i1]; exact ho.fp))) (ev_ix (ev_var rfl) (ev_var rfl) (ex_l e2 hy2) (iL_en (by rw [ho.len]; exact ho.fp))) (red_div ho _)) (ea_cons (ev_var rfl) ea_nil)))) (less_spl (sq_of (e2 _ _ hl3)) (ex_l e2 hy2) (by rw [i1]; exact hwd) hm.nonneg fun c hc => red_mul hm hl hb htl hro' ho hc)) fun l2 H3 nl2 e3 hl4 => ?_
      exact ⟨l2, _, _, rfl, (ex.trans e2).trans e3, fresh_back (ex.trans e2) nl2, by rw [restOf_take (rws_at hy)]; exact hl4⟩
    · rintro σ' H' ⟨l, v4, v5, rfl, ex, nl, hl3⟩
      rw [adr_len, List.take_of_length_le (by rw [rws_len]; exact Nat.le_refl _)] at hl3
      exact s_ret (ev_var rfl) fun H2 e2 => fin l H2 nl (ex.trans e2) (e2 _ _ hl3)
theorem rest_spl {p q : Addr} {ps : List AR} {row : Row} {wd : Nat} {M : Int} (h : RedPre K H p q ps row wd M) : SpL (spRest K) [.ref p, .ref q, .int M] H (iL (restOf (rws ps) row M)) := fun H1 e1 Q q' _ => by
  obtain ⟨h1, h2, h3, hrest⟩ := h
  exact ⟨p, q, ps, row, wd, M, rfl, ⟨ex_l e1 h1, h2.ex e1, ex_l e1 h3, hrest⟩, q'⟩
def spIn (K : PySem.W.Frag) : Sp := fun vs H Q _ => ∃ (p q : Addr) (ps : List AR) (row : Row) (wd : Nat) (M : Int), vs = [.ref p, .ref q, .int M] ∧ RedPre K H p q ps row wd M ∧ RetV (.bl (isZ (restOf (rws ps) row M))) H Q
theorem ok_in_lattice (L : Lib K mg) {f : Addr} {fd : FuncData} (F : L2.Fun K "in_lattice" "in_lattice" s_in_lattice f fd) : FnOk P w K mg base CX0 3 f fd ["hermite", "row", "modulus"] (spIn K) := by
  obtain ⟨f_is_zero, fd_is_zero, F_is_zero⟩ := L.is_zero
  obtain ⟨f_rest_of_row, fd_rest_of_row, F_rest_of_row⟩ := L.rest_of_row
  have G_is_zero : FnOk P w K mg base CX0 2 f_is_zero fd_is_zero _ (spIsZ K) := ok_is_zero L F_is_zero.F
  have G_rest_of_row : FnOk P w K mg base CX0 2 f_rest_of_row fd_rest_of_row _ (spRest K) := ok_rest_of_row L F_rest_of_row.F
  refine F.ok sc_in_lattice (fun vs H Q E h => ?_) (fun cdv A outer s H vs Q E hr h => ?_)
  · obtain ⟨p, q, ps, row, wd, M, rfl, _⟩ := h; rfl
  · obtain ⟨p, q, ps, row, wd, M, rfl, hpre, fin⟩ := h
    refine ⟨_, (pss_one (ps_ret (pe_call G_is_zero (hr.mono (by decide)) (by rfl) F_is_zero.g F_is_zero.F.kp F_is_zero.b .nil pass0 (pa_cons (pe_call G_rest_of_row (hr.mono (by decide)) (by rfl) F_rest_of_row.g F_rest_of_row.F.kp F_rest_of_row.b .nil pass0 (pa_cons (pv 0) (pa_cons (pv 1) (pa_cons (pv 2) pa_nil)))) pa_nil)))), ?_⟩
    obtain ⟨_, _, _, hm, hl, hwd, hps, hb, hro⟩ := id hpre
    obtain ⟨i1, _, _⟩ := rest_inv hm hl hb (show (rws ps).length ≤ 20 by rw [rws_len]; exact hps) hro
    refine s_ret (ev_callL1 (el_call (ea_cons (ev_var rfl) (ea_cons (ev_var rfl) (ea_cons (ev_var rfl) ea_nil))) (rest_spl hpre)) ea_nil fun l H1 e1 h1 => fun H2 e2 Q2 q2 _ => ⟨l, _, rfl, ex_l e2 (sq_of h1), by rw [i1]; exact hwd, q2⟩) fun H1 e1 => fin H1 e1
end
end Mine
set_option Elab.async false
set_option linter.all false
set_option maxRecDepth 100000
set_option maxHeartbeats 4000000
namespace Mine
open PySem PySem.Spec PyProof.Rows L2 Evl
/-! ### tracked data of any depth -/
mutual
inductive Dt (H : Hp) : V → PyData → Prop
  | non : Dt H .non .none
  | bl (b : Bool) : Dt H (.bl b) (.bool b)
  | int (i : Int) : Dt H (.int i) (.int i)
  | str (x : Str) : Dt H (.str x) (.str x)
  | lst {a : Addr} {xs : List V} {ds : List PyData} : H a = some (.lst xs) → DtAll H xs ds → Dt H (.ref a) (.list ds)
  | tup {a : Addr} {xs : List V} {ds : List PyData} : H a = some (.tup xs) → DtAll H xs ds → Dt H (.ref a) (.tuple ds)
inductive DtAll (H : Hp) : List V → List PyData → Prop
  | nil : DtAll H [] []
  | cons {v : V} {vs : List V} {d : PyData} {ds : List PyData} : Dt H v d → DtAll H vs ds → DtAll H (v :: vs) (d :: ds)
end
mutual
theorem Dt.ex {H H' : Hp} (e : Ex H H') : ∀ {v : V} {d : PyData}, Dt H v d → Dt H' v d
  | _, _, .non => .non
  | _, _, .bl b => .bl b
  | _, _, .int i => .int i
  | _, _, .str x => .str x
  | _, _, .lst h a => .lst (e _ _ h) (DtAll.ex e a)
  | _, _, .tup h a => .tup (e _ _ h) (DtAll.ex e a)
theorem DtAll.ex {H H' : Hp} (e : Ex H H') : ∀ {vs : List V} {ds : List PyData}, DtAll H vs ds → DtAll H' vs ds
  | _, _, .nil => .nil
  | _, _, .cons h t => .cons (Dt.ex e h) (DtAll.ex e t)
end
theorem DtAll.len {H : Hp} : ∀ {vs : List V} {ds : List PyData}, DtAll H vs ds → vs.length = ds.length
  | _, _, .nil => rfl
  | _, _, .cons _ t => by rw [List.length_cons, List.length_cons, DtAll.len t]
theorem DtAll.get {H : Hp} : ∀ {vs : List V} {ds : List PyData}, DtAll H vs ds → ∀ {i : Nat}, i < ds.length → ∃ v d, vs[i]? = some v ∧ ds[i]? = some d ∧ Dt H v d
  | _, _, .nil, i, h => by simp at h
  | _, _, .cons h t, 0, _ => ⟨_, _, rfl, rfl, h⟩
  | _, _, .cons h t, i + 1, hi => by
    obtain ⟨v, d, h1, h2, h3⟩ := DtAll.get t (i := i) (by simpa using hi)
    exact ⟨v, d, by simpa using h1, by simpa using h2, h3⟩
theorem dtI_all {H : Hp} : ∀ r : Row, DtAll H (iL r) (r.map PyData.int)
  | [] => .nil
  | x :: r => .cons (.int x) (dtI_all r)
theorem dtI {H : Hp} {a : Addr} {r : Row} (h : H a = some (.lst (iL r))) : Dt H (.ref a) (dI r) := .lst h (dtI_all r)
theorem dtR_all {H : Hp} : ∀ ps : List AR, Rws H ps → DtAll H (adr ps) ((rws ps).map dI)
  | [], _ => .nil
  | x :: ps, h => .cons (dtI (h x (List.mem_cons_self ..))) (dtR_all ps fun y hy => h y (List.mem_cons_of_mem _ hy))
theorem dtR {H : Hp} {a : Addr} {ps : List AR} (h : H a = some (.lst (adr ps))) (hr : Rws H ps) : Dt H (.ref a) (dR (rws ps)) := .lst h (dtR_all ps hr)
def tyN : PyData → String
  | .none => "NoneType"
  | .bool _ => "bool"
  | .int _ => "int"
  | .str _ => "str"
  | .list _ => "list"
  | .tuple _ => "tuple"
  | .dict _ => "dict"
theorem kb_NoneType_list : kitB "NoneType" "list" = some false := by decide +kernel
theorem kb_NoneType_tuple : kitB "NoneType" "tuple" = some false := by decide +kernel
theorem kb_NoneType_dict : kitB "NoneType" "dict" = some false := by decide +kernel
theorem kb_NoneType_bool : kitB "NoneType" "bool" = some false := by decide +kernel
theorem kb_NoneType_str : kitB "NoneType" "str" = some false := by decide +kernel
theorem kb_NoneType_int : kitB "NoneType" "int" = some false := by decide +kernel
theorem kb_bool_list : kitB "bool" "list" = some false := by decide +kernel
theorem kb_bool_tuple : kitB "bool" "tuple" = some false := by decide +kernel
theorem kb_bool_dict : kitB "bool" "dict" = some false := by decide +kernel
theorem kb_bool_bool : kitB "bool" "bool" = some true := by decide +kernel
theorem kb_bool_str : kitB "bool" "str" = some false := by decide +kernel
theorem kb_bool_int : kitB "bool" "int" = some true := by decide +kernel
theorem kb_int_list : kitB "int" "list" = some false := by decide +kernel
theorem kb_int_tuple : kitB "int" "tuple" = some false := by decide +kernel
theorem kb_int_dict : kitB "int" "dict" = some false := by decide +kernel
theorem kb_int_bool : kitB "int" "bool" = some false := by decide +kernel
theorem kb_int_str : kitB "int" "str" = some false := by decide +kernel
theorem kb_int_int : kitB "int" "int" = some true := by decide +kernel
theorem kb_str_list : kitB "str" "list" = some false := by decide +kernel
theorem kb_str_tuple : kitB "str" "tuple" = some false := by decide +kernel
theorem kb_str_dict : kitB "str" "dict" = some false := by decide +kernel
theorem kb_str_bool : kitB "str" "bool" = some false := by decide +kernel
theorem kb_str_str : kitB "str" "str" = some true := by decide +kernel
theorem kb_str_int : kitB "str" "int" = some false := by decide +kernel
theorem kb_list_list : kitB "list" "list" = some true := by decide +kernel
theorem kb_list_tuple : kitB "list" "tuple" = some false := by decide +kernel
theorem kb_list_dict : kitB "list" "dict" = some false := by decide +kernel
theorem kb_list_bool : kitB "list" "bool" = some false := by decide +kernel
theorem kb_list_str : kitB "list" "str" = some false := by decide +kernel
theorem kb_list_int : kitB "list" "int" = some false := by decide +kernel
theorem kb_tuple_list : kitB "tuple" "list" = some false := by decide +kernel
theorem kb_tuple_tuple : kitB "tuple" "tuple" = some true := by decide +kernel
theorem kb_tuple_dict : kitB "tuple" "dict" = some false := by decide +kernel
theorem kb_tuple_bool : kitB "tuple" "bool" = some false := by decide +kernel
theorem kb_tuple_str : kitB "tuple" "str" = some false := by decide +kernel
theorem kb_tuple_int : kitB "tuple" "int" = some false := by decide +kernel
theorem kb_dict_list : kitB "dict" "list" = some false := by decide +kernel
theorem kb_dict_tuple : kitB "dict" "tuple" = some false := by decide +kernel
theorem kb_dict_dict : kitB "dict" "dict" = some true := by decide +kernel
theorem kb_dict_bool : kitB "dict" "bool" = some false := by decide +kernel
theorem kb_dict_str : kitB "dict" "str" = some false := by decide +kernel
theorem kb_dict_int : kitB "dict" "int" = some false := by decide +kernel
theorem Dt.ty {K : PySem.W.Frag} {H : Hp} {v : V} {d : PyData} (h : Dt H v d) : TyX K H v (.type (tyN d)) := by
  cases h with
  | non => exact .base .non
  | bl b => exact .base (.bl b)
  | int i => exact .base (.int i)
  | str x => exact .base (.str x)
  | lst h _ => exact .base (.lst h)
  | tup h _ => exact .base (.tup h)
section
variable {K : PySem.W.Frag} {σ : L2.St} {H H' : Hp} {ta tb te tx tl : TE} {t u : TT} {x y z v w1 : V} {D : Ends} {tu tw tz : TS}
theorem ev_isi {d : PyData} {n : String} {b : Bool} (hx : Ev ta σ H x) (hd : Dt H x d) (hk : kitB (tyN d) n = some b) : Ev (tCB (rIsi K) (tCons ta (tCons (tC (.ty n)) tNil))) σ H (.bl b) :=
  ev_cb (ea_cons hx (ea_cons ev_c ea_nil)) fun H1 e Q q => ⟨x, .ty n, _, _, b, rfl, .ty n, (hd.ex e).ty, kit_ty hk, q H1 (Ex.refl H1)⟩
theorem ev_isiT {d : PyData} {n m : String} {b c : Bool} (hx : Ev ta σ H x) (hd : Dt H x d) (hk : kitB (tyN d) n = some b) (hk2 : kitB (tyN d) m = some c) : Ev (tCB (rIsiT K) (tCons ta (tCons (tTup (tCons (tC (.ty n)) (tCons (tC (.ty m)) tNil))) tNil))) σ H (.bl (b || c)) := fun H0 e0 Q q =>
  hx H0 e0 _ fun H1 e1 => ⟨by show 2 ≤ sizeLine; decide, fun p np => ⟨x, p, _, _, [.type n, .type m], b || c, rfl, upd_same, .cons (.ty n) (.cons (.ty m) .nil), (hd.ex ((e0.trans e1).trans (Ex.new np))).ty, kitAny_cons (kit_ty hk) (fun hb => by
    rw [hb, Bool.false_or]
    exact kitAny_cons (kit_ty hk2) (fun hc => by rw [hc]; exact kitAny_nil) (fun hc => hc)) (fun hb => by rw [hb]; rfl), q _ (e1.trans (Ex.new np))⟩⟩
theorem et_is' {a b : V} (h : Ev te σ H a) (e : a = b) : Ev te σ H b := ev_is h e
theorem rv_ixS2 {p : Addr} {xs : List V} {i : Int} {b : Bool} (h : ∀ H1, Ex H H1 → SqL K H1 p xs ∨ SqT K H1 p xs) (ha : atI xs i = some v) : RV (rIx K) (.ref p) (.int i) H v := fun H1 e _ q => by
  rcases h H1 e with h | h
  · exact .inl ⟨p, xs, i, v, rfl, rfl, h, ha, q H1 (Ex.refl H1)⟩
  · exact .inr (.inl ⟨p, xs, i, v, rfl, rfl, h, ha, q H1 (Ex.refl H1)⟩)
theorem ev_len2 {p : Addr} {xs : List V} (ha : Ev ta σ H (.ref p)) (h : ∀ H1, Ex H H1 → SqL K H1 p xs ∨ SqT K H1 p xs) : Ev (tCB (rLenS K) (tCons ta tNil)) σ H (.int (xs.length : Int)) := fun H1 e Q q =>
  ha H1 e _ fun H2 e2 => ⟨p, xs, rfl, h _ (e.trans e2), q H2 e2⟩
theorem ev_neB {i j : Bool} (ha : Ev ta σ H (.bl i)) (hb : Ev tb σ H (.bl j)) : Ev (tOp rNe ta tb) σ H (.bl (!decide (i = j))) := ev_is (ev_op ha hb (rv_ne rfl)) (by
  by_cases e : i = j
  · subst e; simp
  · have : ¬ V.bl i = V.bl j := fun h => e (V.bl.inj h)
    simp [e])
theorem ev_eqS (hs : scal x x = true) (ha : Ev ta σ H x) (hb : Ev tb σ H x) : Ev (tOp rEq ta tb) σ H (.bl true) := ev_is (ev_op ha hb (rv_eq hs)) (by simp)
theorem ev_cbL {r : List V → Hp → VK → Prop} {xs : List V} (h : EvL te σ H xs) (hr : ∀ p H1, Ex H H1 → H1 p = some (.lst xs) → RC r [.ref p] H1 z) : Ev (tCB r (tCons te tNil)) σ H z := fun H0 e0 Q q =>
  h H0 e0 _ fun p H1 np e1 hp => hr p H1 (e0.trans e1) hp H1 (Ex.refl H1) Q fun H2 e2 => q H2 (e1.trans e2)
theorem el_allT {ta : TA} {n : Nat} {j : Nat} {vs : List Nat} (h : EvA ta σ H [.int (n : Nat)]) (hn : n ≤ 40000) (hw : ∀ x, wipe ((wipe σ vs).set j (some x)) vs = wipe σ vs)
    (he : ∀ (i : Nat) H1, Ex H H1 → i < n → Ev te ((wipe σ vs).set j (some (.int (i : Int)))) H1 (.bl true)) : Ev (tCB (rAll K) (tCons (tLc (iRng1 ta) (gName j) tYes te vs) tNil)) σ H (.bl true) := by
  have e : given ((n : Nat) : Int).toNat (fun _ => true) (fun i => V.bl true) = (List.replicate n true).map V.bl := given_all _ _ _ (by simp) fun i z hz => by
    rw [List.getElem?_map] at hz
    obtain ⟨b, hb, rfl⟩ := Option.map_eq_some_iff.mp hz
    have := List.mem_of_getElem? hb
    rw [List.eq_of_mem_replicate this]
  have h1 : EvL (tLc (iRng1 ta) (gName j) tYes te vs) σ H ((List.replicate n true).map V.bl) := by
    rw [← e]
    exact el_lcR1 (fun _ => true) (fun i => V.bl true) h (by omega) hw (fun i H1 e hi => et_yes) fun i H1 e hi _ => he i H1 e (by omega)
  have h2 : (List.replicate n true).all id = true := by simp
  exact ev_cbL h1 fun p H1 e1 hp H2 e2 Q q => ⟨p, List.replicate n true, rfl, ex_l e2 (sq_of hp), by rw [h2]; exact q H2 (Ex.refl H2)⟩
end
section
variable {P : Program} {w : World} {K : PySem.W.Frag} {mg : Str → Option Value} {base : Heap} {H : Hp}
/-! ### _law_same of equal data -/
mutual
def cnt : PyData → Nat
  | .list xs => cntAll xs
  | .tuple xs => cntAll xs
  | _ => 0
def cntAll : List PyData → Nat
  | [] => 0
  | x :: xs => cnt x + 1 + cntAll xs
end
theorem cnt_le {d : PyData} : ∀ {ds : List PyData}, d ∈ ds → cnt d ≤ cntAll ds
  | e :: ds, h => by
    rcases List.mem_cons.mp h with z | z
    · subst z; simp only [cntAll]; omega
    · have := cnt_le z
      simp only [cntAll]; omega
theorem len_cnt : ∀ ds : List PyData, ds.length ≤ cntAll ds
  | [] => Nat.zero_le _
  | d :: ds => by
    have := len_cnt ds
    simp only [cntAll, List.length_cons]; omega
theorem depth_le {d : PyData} : ∀ {ds : List PyData}, d ∈ ds → d.depth ≤ PyData.depthAll ds
  | e :: ds, h => by
    rcases List.mem_cons.mp h with z | z
    · subst z; simp only [PyData.depthAll]; omega
    · have := depth_le z
      simp only [PyData.depthAll]; omega
def spSame (n : Nat) : Sp := fun vs H Q _ => ∃ (x y : V) (d : PyData), vs = [x, y] ∧ Dt H x d ∧ Dt H y d ∧ d.depth ≤ n ∧ cnt d ≤ 40000 ∧ RetV (.bl true) H Q
theorem same_step {f : Addr} {fd : FuncData} (L : Lib K mg) (F_law_same : Fn K mg "_law_same" s_law_same ["a", "b"] f fd) {n lv : Nat} {sp : Sp} (G_law_same : FnOk P w K mg base CX0 lv f fd ["a", "b"] sp)
    (rec : ∀ (x y : V) (d : PyData) (H : Hp), Dt H x d → Dt H y d → d.depth < n → cnt d ≤ 40000 → SpV sp [x, y] H (.bl true)) : FnOk P w K mg base CX0 (lv + 1) f fd ["a", "b"] (spSame n) := by
  refine F_law_same.F.ok sc_law_same (fun vs H Q E h => ?_) (fun cdv A outer s H vs Q E hr h => ?_)
  · obtain ⟨x, y, d, rfl, _⟩ := h; rfl
  · obtain ⟨x, y, d, rfl, hx, hy, hdep, hcnt, fin⟩ := h
    refine ⟨_, (pss_cons (ps_if (pt_val (pe_callB call_isiT (by rfl) L.isinstance (by decide +kernel) (pa_cons (pv 1) (pa_cons (pe_tup (pa_cons (pe_bltn (v := .ty "list") (by rfl) L.list (by decide +kernel) rfl) (pa_cons (pe_bltn (v := .ty "tuple") (by rfl) L.tuple (by decide +kernel) rfl) pa_nil))) pa_nil))))
      (pss_cons (ps_if (PW.pt (pw_or (pt_not (pt_val (pe_callB call_isiT (by rfl) L.isinstance (by decide +kernel) (pa_cons (pv 0) (pa_cons (pe_tup (pa_cons (pe_bltn (v := .ty "list") (by rfl) L.list (by decide +kernel) rfl) (pa_cons (pe_bltn (v := .ty "tuple") (by rfl) L.tuple (by decide +kernel) rfl) pa_nil))) pa_nil))))) (pw_or (pt_cmpR op_ne (pe_callB call_isi (by rfl) L.isinstance (by decide +kernel) (pa_cons (pv 0) (pa_cons (pe_bltn (v := .ty "list") (by rfl) L.list (by decide +kernel) rfl) pa_nil))) (pe_callB call_isi (by rfl) L.isinstance (by decide +kernel) (pa_cons (pv 1) (pa_cons (pe_bltn (v := .ty "list") (by rfl) L.list (by decide +kernel) rfl) pa_nil))) (nomark _)) (pw_or1 (pt_cmpR op_ne (pe_callB call_len_seq (by rfl) L.len (by decide +kernel) (pa_cons (pv 0) pa_nil)) (pe_callB call_len_seq (by rfl) L.len (by decide +kernel) (pa_cons (pv 1) pa_nil)) (nomark _))))))
      (pss_one (ps_ret pe_bl))
      pss_nil)
    (pss_one (ps_ret (pe_callB (cr_all rfl) (by rfl) L.all (by decide +kernel) (pa_cons (pe_lc (own := [("at", 2)]) (g := gName 2) (tt := tYes) rfl sc_law_same.nd (pi_range1 (by rfl) L.range (pa_cons (pe_callB call_len_seq (by rfl) L.len (by decide +kernel) (pa_cons (pv 1) pa_nil)) pa_nil)) (blkOk_by (own := [("at", 2)]) (N := N_law_same) (sc := defScope s_law_same) (by decide +kernel)) (fun _ _ _ _ _ => (pg_name (i := 2) sc_law_same.nd rfl (Or.inl rfl))) (fun _ _ _ _ _ => pts_nil) (fun _ _ _ _ _ => (pe_call G_law_same hr (by rfl) F_law_same.g F_law_same.F.kp F_law_same.b .nil pass0 (pa_cons (pe_ix (ix_seqK (K := K)) (pv 0) (pv 2) (fun _ _ => rfl)) (pa_cons (pe_ix (ix_seqK (K := K)) (pv 1) (pv 2) (fun _ _ => rfl)) pa_nil))))) pa_nil)))))
      pss_nil)
    (pss_cons (ps_if (pt_val (pe_callB call_isi (by rfl) L.isinstance (by decide +kernel) (pa_cons (pv 1) (pa_cons (pe_bltn (v := .ty "dict") (by rfl) L.dict (by decide +kernel) rfl) pa_nil))))
      (pss_one ps_never)
      pss_nil)
    (pss_cons (ps_if (pt_cmpR op_isN (pv 1) pe_non (nomark _))
      (pss_one (ps_ret (pe_cmpR op_isN (pv 0) pe_non (nomark _))))
      pss_nil)
    (pss_cons (ps_if (pt_val (pe_callB call_isi (by rfl) L.isinstance (by decide +kernel) (pa_cons (pv 1) (pa_cons (pe_bltn (v := .ty "bool") (by rfl) L.bool (by decide +kernel) rfl) pa_nil))))
      (pss_one (ps_ret (pe_and (pe_callB call_isi (by rfl) L.isinstance (by decide +kernel) (pa_cons (pv 0) (pa_cons (pe_bltn (v := .ty "bool") (by rfl) L.bool (by decide +kernel) rfl) pa_nil))) (pe_one (pe_cmpR op_eq (pv 0) (pv 1) (nomark _))))))
      pss_nil)
    (pss_cons (ps_if (pt_val (pe_callB call_isi (by rfl) L.isinstance (by decide +kernel) (pa_cons (pv 1) (pa_cons (pe_bltn (v := .ty "str") (by rfl) L.str (by decide +kernel) rfl) pa_nil))))
      (pss_one (ps_ret (pe_and (pe_callB call_isi (by rfl) L.isinstance (by decide +kernel) (pa_cons (pv 0) (pa_cons (pe_bltn (v := .ty "str") (by rfl) L.str (by decide +kernel) rfl) pa_nil))) (pe_one (pe_cmpR op_eq (pv 0) (pv 1) (nomark _))))))
      pss_nil)
    (pss_one (ps_ret (pe_and (pe_callB call_isi (by rfl) L.isinstance (by decide +kernel) (pa_cons (pv 0) (pa_cons (pe_bltn (v := .ty "int") (by rfl) L.int (by decide +kernel) rfl) pa_nil))) (pe_and (pe_not (pe_callB call_isi (by rfl) L.isinstance (by decide +kernel) (pa_cons (pv 0) (pa_cons (pe_bltn (v := .ty "bool") (by rfl) L.bool (by decide +kernel) rfl) pa_nil)))) (pe_one (pe_cmpR op_eq (pv 0) (pv 1) (nomark _)))))))))))), ?_⟩
    have seq : ∀ {xs ys : List V} {ds : List PyData} {a b : Addr} {H1 : Hp}, Ex H H1 → DtAll H xs ds → DtAll H ys ds → (∀ H2, Ex H1 H2 → SqL K H2 a xs ∨ SqT K H2 a xs) → (∀ H2, Ex H1 H2 → SqL K H2 b ys ∨ SqT K H2 b ys) → x = .ref a → y = .ref b → (PyData.depthAll ds < n) → cntAll ds ≤ 40000 →
        Ev (tCB (rAll K) (tCons (tLc (iRng1 (tCons (tCB (rLenS K) (tCons (tVar 1) tNil)) tNil)) (gName 2) tYes (tCall sp [] (fun _ _ _ => False) (tCons (tOp (rIx K) (tVar 0) (tVar 2)) (tCons (tOp (rIx K) (tVar 1) (tVar 2)) tNil))) [2]) tNil)) (start N_law_same [x, y]) H1 (.bl true) := by
      intro xs ys ds a b H1 e1 hxs hys sx sy ex ey hd hc
      subst ex ey
      have lx := hxs.len
      have ly := hys.len
      have ll := len_cnt ds
      refine el_allT (n := ys.length) (ea_cons (ev_len2 (ev_var rfl) sy) ea_nil) (by omega) (fun _ => rfl) fun i H2 e2 hi => ?_
      obtain ⟨v1, d1, g1, g2, g3⟩ := hxs.get (i := i) (by omega)
      obtain ⟨v2, d2, k1, k2, k3⟩ := hys.get (i := i) (by omega)
      rw [g2] at k2
      cases k2
      have dm := List.mem_of_getElem? g2
      exact ev_call (vs := [v1, v2]) (dvs := []) (ea_cons (ev_op (ev_var rfl) (ev_var rfl) (rv_ixS2 (b := true) (fun H3 e3 => sx H3 (e2.trans e3)) (atI_nat g1))) (ea_cons (ev_op (ev_var rfl) (ev_var rfl) (rv_ixS2 (b := true) (fun H3 e3 => sy H3 (e2.trans e3)) (atI_nat k1))) ea_nil))
        (rec v1 v2 d1 H2 (g3.ex (e1.trans e2)) (k3.ex (e1.trans e2)) (Nat.lt_of_le_of_lt (depth_le dm) hd) (Nat.le_trans (cnt_le dm) hc))
    cases hx with
    | non =>
      refine q_when (b := false) (et_B (ev_isiT (b := false) (c := false) (ev_var rfl) hy kb_NoneType_list kb_NoneType_tuple)) (fun h => nomatch h) fun _ H1 e1 => ?_
      refine q_when (b := false) (et_B (ev_isi (ev_var rfl) (hy.ex e1) kb_NoneType_dict)) (fun h => nomatch h) fun _ H2 e2 => ?_
      cases hy
      refine q_when (b := true) (et_test (et_is' (ev_op (ev_var rfl) ev_c rv_isN) (by simp))) (fun _ H3 e3 => s_ret (ev_is (ev_op (ev_var rfl) ev_c rv_isN) (by simp)) fun H4 e4 => fin H4 (((e1.trans e2).trans e3).trans e4)) (fun h => nomatch h)
    | bl b =>
      refine q_when (b := false) (et_B (ev_isiT (b := false) (c := false) (ev_var rfl) hy kb_bool_list kb_bool_tuple)) (fun h => nomatch h) fun _ H1 e1 => ?_
      refine q_when (b := false) (et_B (ev_isi (ev_var rfl) (hy.ex e1) kb_bool_dict)) (fun h => nomatch h) fun _ H2 e2 => ?_
      cases hy
      refine q_when (b := false) (et_test (et_is' (ev_op (ev_var rfl) ev_c rv_isN) (by simp))) (fun h => nomatch h) fun _ H3 e3 => ?_
      refine q_when (b := true) (et_B (ev_isi (ev_var rfl) (.bl b) kb_bool_bool)) (fun _ H4 e4 => s_ret (ev_is (ev_andV (a := true) (b := true) (ev_isi (ev_var rfl) (.bl b) kb_bool_bool) fun _ => ev_eqS rfl (ev_var rfl) (ev_var rfl)) (by rfl)) fun H5 e5 => fin H5 ((((e1.trans e2).trans e3).trans e4).trans e5)) (fun h => nomatch h)
    | int i =>
      refine q_when (b := false) (et_B (ev_isiT (b := false) (c := false) (ev_var rfl) hy kb_int_list kb_int_tuple)) (fun h => nomatch h) fun _ H1 e1 => ?_
      refine q_when (b := false) (et_B (ev_isi (ev_var rfl) (hy.ex e1) kb_int_dict)) (fun h => nomatch h) fun _ H2 e2 => ?_
      cases hy
      refine q_when (b := false) (et_test (et_is' (ev_op (ev_var rfl) ev_c rv_isN) (by simp))) (fun h => nomatch h) fun _ H3 e3 => ?_
      refine q_when (b := false) (et_B (ev_isi (ev_var rfl) (.int i) kb_int_bool)) (fun h => nomatch h) fun _ H4 e4 => ?_
      refine q_when (b := false) (et_B (ev_isi (ev_var rfl) (.int i) kb_int_str)) (fun h => nomatch h) fun _ H5 e5 => ?_
      exact s_ret (ev_is (ev_andV (ev_isi (ev_var rfl) (.int i) (b := true) kb_int_int) fun _ => ev_andV (ev_notV (ev_isi (ev_var rfl) (.int i) (b := false) kb_int_bool)) fun _ => ev_eqS rfl (ev_var rfl) (ev_var rfl)) (by rfl)) fun H6 e6 => fin H6 (((((e1.trans e2).trans e3).trans e4).trans e5).trans e6)
    | str z =>
      refine q_when (b := false) (et_B (ev_isiT (b := false) (c := false) (ev_var rfl) hy kb_str_list kb_str_tuple)) (fun h => nomatch h) fun _ H1 e1 => ?_
      refine q_when (b := false) (et_B (ev_isi (ev_var rfl) (hy.ex e1) kb_str_dict)) (fun h => nomatch h) fun _ H2 e2 => ?_
      cases hy
      refine q_when (b := false) (et_test (et_is' (ev_op (ev_var rfl) ev_c rv_isN) (by simp))) (fun h => nomatch h) fun _ H3 e3 => ?_
      refine q_when (b := false) (et_B (ev_isi (ev_var rfl) (.str z) kb_str_bool)) (fun h => nomatch h) fun _ H4 e4 => ?_
      refine q_when (b := true) (et_B (ev_isi (ev_var rfl) (.str z) kb_str_str)) (fun _ H5 e5 => s_ret (ev_is (ev_andV (a := true) (b := true) (ev_isi (ev_var rfl) (.str z) kb_str_str) fun _ => ev_eqS rfl (ev_var rfl) (ev_var rfl)) (by rfl)) fun H6 e6 => fin H6 (((((e1.trans e2).trans e3).trans e4).trans e5).trans e6)) (fun h => nomatch h)
    | @lst a xs ds ha hxs =>
      have hx' : Dt H (.ref a) (.list ds) := .lst ha hxs
      have hy' := hy
      cases hy with
      | @lst b ys _ hb hys =>
        have hdep' : PyData.depthAll ds + 1 ≤ n := by simpa only [PyData.depth] using hdep
        have hcnt' : cntAll ds ≤ 40000 := by simpa only [cnt] using hcnt
        refine q_when (b := true) (et_B (ev_isiT (b := true) (c := false) (ev_var rfl) hy' kb_list_list kb_list_tuple)) (fun _ H1 e1 => ?_) (fun h => nomatch h)
        refine q_when (b := false) (et_is (et_or (a := false) (et_is (et_not (et_B (ev_isiT (b := true) (c := false) (ev_var rfl) (hx'.ex e1) kb_list_list kb_list_tuple))) rfl) fun _ => et_or (a := false) (et_test (ev_is (ev_neB (ev_isi (b := true) (ev_var rfl) (hx'.ex e1) kb_list_list) (ev_isi (b := true) (ev_var rfl) (hy'.ex e1) kb_list_list)) (by simp)))
          fun _ => et_test (b := false) (ev_is (ev_neI (ev_len2 (ev_var rfl) fun H2 e2 => .inl (sq_of (e2 _ _ (e1 _ _ ha)))) (ev_len2 (ev_var rfl) fun H2 e2 => .inl (sq_of (e2 _ _ (e1 _ _ hb))))) (by rw [hxs.len, hys.len]; simp))) rfl) (fun h => nomatch h) fun _ H2 e2 => ?_
        exact s_ret (seq (e1.trans e2) hxs hys (fun H3 e3 => .inl (sq_of (((e1.trans e2).trans e3) _ _ ha))) (fun H3 e3 => .inl (sq_of (((e1.trans e2).trans e3) _ _ hb))) rfl rfl (by omega) hcnt') fun H3 e3 => fin H3 ((e1.trans e2).trans e3)
    | @tup a xs ds ha hxs =>
      have hx' : Dt H (.ref a) (.tuple ds) := .tup ha hxs
      have hy' := hy
      cases hy with
      | @tup b ys _ hb hys =>
        have hdep' : PyData.depthAll ds + 1 ≤ n := by simpa only [PyData.depth] using hdep
        have hcnt' : cntAll ds ≤ 40000 := by simpa only [cnt] using hcnt
        refine q_when (b := true) (et_B (ev_isiT (b := false) (c := true) (ev_var rfl) hy' kb_tuple_list kb_tuple_tuple)) (fun _ H1 e1 => ?_) (fun h => nomatch h)
        refine q_when (b := false) (et_is (et_or (a := false) (et_is (et_not (et_B (ev_isiT (b := false) (c := true) (ev_var rfl) (hx'.ex e1) kb_tuple_list kb_tuple_tuple))) rfl) fun _ => et_or (a := false) (et_test (ev_is (ev_neB (ev_isi (b := false) (ev_var rfl) (hx'.ex e1) kb_tuple_list) (ev_isi (b := false) (ev_var rfl) (hy'.ex e1) kb_tuple_list)) (by simp)))
          fun _ => et_test (b := false) (ev_is (ev_neI (ev_len2 (ev_var rfl) fun H2 e2 => .inr (st_of (e2 _ _ (e1 _ _ ha)))) (ev_len2 (ev_var rfl) fun H2 e2 => .inr (st_of (e2 _ _ (e1 _ _ hb))))) (by rw [hxs.len, hys.len]; simp))) rfl) (fun h => nomatch h) fun _ H2 e2 => ?_
        exact s_ret (seq (e1.trans e2) hxs hys (fun H3 e3 => .inr (st_of (((e1.trans e2).trans e3) _ _ ha))) (fun H3 e3 => .inr (st_of (((e1.trans e2).trans e3) _ _ hb))) rfl rfl (by omega) hcnt') fun H3 e3 => fin H3 ((e1.trans e2).trans e3)
theorem ok_law_same {f : Addr} {fd : FuncData} (L : Lib K mg) (F : Fn K mg "_law_same" s_law_same ["a", "b"] f fd) : ∀ n, FnOk P w K mg base CX0 (n + 2) f fd ["a", "b"] (spSame n)
  | 0 => same_step L F (sp := fun _ _ _ _ => False) (F.F.ok sc_law_same (fun _ _ _ _ h => h.elim) (fun _ _ _ _ _ _ _ _ _ h => h.elim)) fun _ _ _ _ _ _ h => absurd h (Nat.not_lt_zero _)
  | n + 1 => same_step L F (ok_law_same L F n) fun x y d H hx hy hd hc H1 e Q q _ => ⟨x, y, d, rfl, hx.ex e, hy.ex e, by omega, hc, q⟩
theorem same_spv {n : Nat} {x y : V} {d : PyData} (hx : Dt H x d) (hy : Dt H y d) (hd : d.depth ≤ n) (hc : cnt d ≤ 40000) : SpV (spSame n) [x, y] H (.bl true) := fun H1 e Q q _ => ⟨x, y, d, rfl, hx.ex e, hy.ex e, hd, hc, q⟩
end
end Mine
set_option Elab.async false
set_option linter.all false
set_option maxRecDepth 100000
set_option maxHeartbeats 4000000
namespace Mine
open PySem PySem.Spec PyProof.Rows L2 Evl
section
variable {K : PySem.W.Frag} {σ : L2.St} {H H' : Hp} {ta tb te tx tl : TE} {t u : TT} {x y z v w1 : V} {D : Ends} {tu tw tz : TS}
theorem et_truK {i : Int} (ha : Ev ta σ H (.int i)) : EvT (tTruK K ta) σ H (decide (i ≠ 0)) := et_truI (K := K) ha
end
section
variable {P : Program} {w : World} {K : PySem.W.Frag} {mg : Str → Option Value} {base : Heap} {H : Hp}
/-! ### _law_less, _law_first, _law_reduce, _law_inside -/
def spLawLess (K : PySem.W.Frag) : Sp := fun vs H Q _ => ∃ (p q : Addr) (r o : Row) (t M : Int), vs = [.ref p, .ref q, .int t, .int M] ∧ H p = some (.lst (iL r)) ∧ SqL K H q (iL o) ∧ r.length ≤ 1000 ∧ 0 ≤ M ∧ (∀ b ∈ o, CMulW t b) ∧
  ∀ (a : Addr) (H2 : Hp), Ex H H2 → H2 a = some (.lst (iL (lessT r o t M))) → (a = p ∨ H a = none) → Q (.ref a) H2
theorem ok_law_less (L : Lib K mg) {f : Addr} {fd : FuncData} (F : L2.Fun K "_law_less" "_law_less" s_law_less f fd) : FnOk P w K mg base CX0 1 f fd ["row", "other", "k", "M"] (spLawLess K) := by
  refine F.ok sc_law_less (fun vs H Q E h => ?_) (fun cdv A outer s H vs Q E hr h => ?_)
  · obtain ⟨p, q, r, o, t, M, rfl, _⟩ := h; rfl
  · obtain ⟨p, q, r, o, t, M, rfl, hp, hq, hl, hM, hc, k⟩ := h
    refine ⟨_, (pss_cons (ps_if (pt_cmpR op_eq (pv 2) pe_int (nomark _))
      (pss_one (ps_ret (pv 0)))
      pss_nil)
    (pss_cons (ps_if (pt_truth (pv 3) (by intro _; rfl))
      (pss_one (ps_ret (pe_lc (own := [("a", 4), ("b", 5)]) (g := gTup _ 2 (gCons (gName 4) (gCons (gName 5) gNil))) (tt := tYes) rfl sc_law_less.nd (pi_zip (by rfl) L.zip (pa_cons (pv 0) (pa_cons (pv 1) pa_nil))) (blkOk_by (own := [("a", 4), ("b", 5)]) (N := N_law_less) (sc := defScope s_law_less) (by decide +kernel)) (fun _ _ _ _ _ => (pg_tup rfl (pgs_cons (pg_name (i := 4) sc_law_less.nd rfl (Or.inl rfl)) (pgs_cons (pg_name (i := 5) sc_law_less.nd rfl (Or.inl rfl)) pgs_nil)))) (fun _ _ _ _ _ => pts_nil) (fun _ _ _ _ _ => (pe_op op_mod (pe_callTy call_int1 (by rfl) L.int (by decide +kernel) (pa_cons (pe_op op_sub (pv 4) (pe_op op_mulW (pv 2) (pv 5))) pa_nil)) (pv 3))))))
      pss_nil)
    (pss_one (ps_ret (pe_lc (own := [("a", 4), ("b", 5)]) (g := gTup _ 2 (gCons (gName 4) (gCons (gName 5) gNil))) (tt := tYes) rfl sc_law_less.nd (pi_zip (by rfl) L.zip (pa_cons (pv 0) (pa_cons (pv 1) pa_nil))) (blkOk_by (own := [("a", 4), ("b", 5)]) (N := N_law_less) (sc := defScope s_law_less) (by decide +kernel)) (fun _ _ _ _ _ => (pg_tup rfl (pgs_cons (pg_name (i := 4) sc_law_less.nd rfl (Or.inl rfl)) (pgs_cons (pg_name (i := 5) sc_law_less.nd rfl (Or.inl rfl)) pgs_nil)))) (fun _ _ _ _ _ => pts_nil) (fun _ _ _ _ _ => (pe_op op_sub (pv 4) (pe_op op_mulW (pv 2) (pv 5))))))))), ?_⟩
    refine q_when (et_test (ev_eqI (ev_var rfl) ev_c)) (fun hb H1 e1 => s_ret (ev_var rfl) fun H2 e2 => ?_) (fun hb H1 e1 => ?_)
    · refine k p H2 (e1.trans e2) ?_ (.inl rfl)
      unfold lessT; rw [if_pos (of_decide_eq_true hb)]; exact (e1.trans e2) _ _ hp
    · refine q_when (et_truI (K := K) (ev_var rfl)) (fun hb2 H2 e2 => s_retL (el_lcZ (fun a b => (a - t * b) % M) (ea_cons (ev_var rfl) (ea_cons (ev_var rfl) ea_nil)) (sq_of ((e1.trans e2) _ _ hp)) (ex_l (e1.trans e2) hq) (by omega) (fun _ _ => rfl) fun a b H3 e3 ha hb3 => ev_mod (ev_int (ev_sub (ev_var rfl) (ev_mulW (ev_var rfl) (ev_var rfl) (hc b hb3)))) (ev_var rfl) ?_) fun p3 H3 n3 e3 h3 => ?_)
        (fun hb2 H2 e2 => s_retL (el_lcZ (fun a b => a - t * b) (ea_cons (ev_var rfl) (ea_cons (ev_var rfl) ea_nil)) (sq_of ((e1.trans e2) _ _ hp)) (ex_l (e1.trans e2) hq) (by omega) (fun _ _ => rfl) fun a b H3 e3 ha hb3 => ev_sub (ev_var rfl) (ev_mulW (ev_var rfl) (ev_var rfl) (hc b hb3))) fun p3 H3 n3 e3 h3 => ?_)
      · have := of_decide_eq_true hb2; omega
      · refine k p3 H3 ((e1.trans e2).trans e3) ?_ (.inr (fresh_back (e1.trans e2) n3))
        unfold lessT; rw [if_neg (of_decide_eq_false hb), if_neg (of_decide_eq_true hb2)]; exact h3
      · refine k p3 H3 ((e1.trans e2).trans e3) ?_ (.inr (fresh_back (e1.trans e2) n3))
        have hM0 : M = 0 := by have := of_decide_eq_false hb2; omega
        unfold lessT; rw [if_neg (of_decide_eq_false hb), if_pos hM0]; exact h3
theorem ok_law_first (L : Lib K mg) {f : Addr} {fd : FuncData} (F : L2.Fun K "_law_first" "_law_first" s_law_first f fd) : FnOk P w K mg base CX0 1 f fd ["row"] (spFirst K) := by
  refine F.ok sc_law_first (fun vs H Q E h => ?_) (fun cdv A outer s H vs Q E hr h => ?_)
  · obtain ⟨p, r, rfl, _⟩ := h; rfl
  · obtain ⟨p, r, rfl, hp, hl, k⟩ := h
    refine ⟨_, (pss_cons (ps_for PassesOwn.never rfl (pi_range1 (by rfl) L.range (pa_cons (pe_callB call_len_seq (by rfl) L.len (by decide +kernel) (pa_cons (pv 0) pa_nil)) pa_nil)) (pg_name (i := 1) sc_law_first.nd rfl (Or.inl rfl))
      (pss_one (ps_if (pt_truth (pe_ix ix_list (pv 0) (pv 1) (fun _ _ => rfl)) (by intro _; rfl))
      (pss_one (ps_ret (pv 1)))
      pss_nil)))
    (pss_one (ps_ret (pe_callB call_len_seq (by rfl) L.len (by decide +kernel) (pa_cons (pv 0) pa_nil))))), ?_⟩
    refine q_forR1 (n := (r.length : Nat)) (ea_cons (ev_is (ev_len (ev_var rfl) hp) (by rw [iL_len])) ea_nil) (by omega) (fun i σ' H' => ∃ v1, σ' = [some (.ref p), v1] ∧ Ex H H' ∧ ∀ j, j < i → en r j = 0) (fun H1 e => ⟨none, rfl, e, fun j hj => absurd hj (Nat.not_lt_zero _)⟩) ?_ ?_
    · rintro i σ' H' hi ⟨v1, rfl, e, h0⟩
      have hi : i < r.length := by omega
      refine s_when (et_truI (K := K) (ev_ix (ev_var rfl) (ev_var rfl) (ex_l e hp) (iL_en hi))) (fun hb H1 e1 => s_ret (ev_var rfl) fun H2 e3 => ?_) (fun hb H1 e1 => ⟨_, rfl, e.trans e1, fun j hj => ?_⟩)
      · have h1 := firstP_at (en_lt hi) (of_decide_eq_true hb) h0
        have := k.go ((e.trans e1).trans e3)
        rw [h1] at this; exact this
      · by_cases hji : j = i
        · subst hji
          have := of_decide_eq_false hb
          omega
        · exact h0 j (by omega)
    · rintro σ' H' ⟨v1, rfl, e, h0⟩
      have h0 : ∀ j, j < r.length → en r j = 0 := fun j hj => h0 j (by omega)
      refine s_ret (ev_len (ev_var rfl) (ex_l e hp)) fun H2 e3 => ?_
      have := k.go (e.trans e3)
      rw [firstP_end h0] at this
      rw [iL_len]; exact this
theorem ok_law_reduce (L : Lib K mg) {f : Addr} {fd : FuncData} (F : L2.Fun K "_law_reduce" "_law_reduce" s_law_reduce f fd) : FnOk P w K mg base CX0 2 f fd ["H", "row", "M"] (spRest K) := by
  obtain ⟨f_law_first, fd_law_first, F_law_first⟩ := L.law_first
  obtain ⟨f_law_less, fd_law_less, F_law_less⟩ := L.law_less
  have G_law_first : FnOk P w K mg base CX0 1 f_law_first fd_law_first _ (spFirst K) := ok_law_first L F_law_first.F
  have G_law_less : FnOk P w K mg base CX0 1 f_law_less fd_law_less _ (spLawLess K) := ok_law_less L F_law_less.F
  refine F.ok sc_law_reduce (fun vs H Q E h => ?_) (fun cdv A outer s H vs Q E hr h => ?_)
  · obtain ⟨p, q, ps, row, wd, M, rfl, _⟩ := h; rfl
  · obtain ⟨p, q, ps, row, wd, M, rfl, ⟨hp, hR, hq, hm, hl, hwd, hps, hb, hro⟩, fin⟩ := h
    refine ⟨_, (pss_cons (ps_setLc (i := 3) (own := [("k", 6)]) (g := gName 6) (tt := tYes) rfl sc_law_reduce.nd rfl rfl (sw_true rfl rfl rfl (by decide +kernel)) (pi_list (pv 1)) (blkOk_by (own := [("k", 6)]) (N := N_law_reduce) (sc := defScope s_law_reduce) (by decide +kernel)) (fun _ _ _ _ _ => (pg_name (i := 6) sc_law_reduce.nd rfl (Or.inl rfl))) (fun _ _ _ _ _ => pts_nil) (fun _ _ _ _ _ => (pe_ifExp (pt_truthK (K := K) (pv 2)) (pe_op op_mod (pe_callTy call_int1 (by rfl) L.int (by decide +kernel) (pa_cons (pv 6) pa_nil)) (pv 2)) (pv 6))))
    (pss_cons (ps_for PassesOwn.never rfl (pi_list (pv 0)) (pg_name (i := 4) sc_law_reduce.nd rfl (Or.inl rfl))
      (pss_cons (ps_set (i := 5) sc_law_reduce.nd rfl (Or.inl rfl) (pe_call G_law_first (hr.mono (by decide)) (by rfl) F_law_first.g F_law_first.F.kp F_law_first.b .nil pass0 (pa_cons (pv 4) pa_nil)))
    (pss_one (ps_set (i := 3) sc_law_reduce.nd rfl (Or.inl rfl) (pe_call G_law_less (hr.mono (by decide)) (by rfl) F_law_less.g F_law_less.F.kp F_law_less.b .nil pass0 (pa_cons (pv 3) (pa_cons (pv 4) (pa_cons (pe_op op_fdivZ (pe_ix ix_list (pv 3) (pv 5) (fun _ _ => rfl)) (pe_ix ix_list (pv 4) (pv 5) (fun _ _ => rfl))) (pa_cons (pv 2) pa_nil)))))))))
    (pss_one (ps_ret (pv 3))))), ?_⟩
    have hM0 := hm.nonneg
    refine q_asgL (el_lcI (fun x => if M ≠ 0 then x % M else x) (ev_var rfl) hq (by omega) (fun _ => rfl) fun x H2 e2 hx => ev_is (ev_ifB (et_truK (K := K) (ev_var rfl)) (fun hb => ev_mod (ev_int (ev_var rfl)) (ev_var rfl) (by have := of_decide_eq_true hb; omega)) (fun hb => ev_var rfl)) ?_) fun l H1 nl e1 hl1 => ?_
    · by_cases z : M = 0 <;> simp [z]
    have ep : plainRow row M = row.map fun x => if M ≠ 0 then x % M else x := by
      unfold plainRow
      by_cases z : M = 0
      · rw [if_pos z]; subst z; simp
      · rw [if_neg z]; simp [z]
    rw [← ep] at hl1
    refine q_forLn (ev_var rfl) (ex_l e1 hp) (fun i σ' H' => ∃ (l : Addr) (v4 v5 v6 : Option V), σ' = [some (.ref p), some (.ref q), some (.int M), some (.ref l), v4, v5, v6] ∧ Ex H H' ∧ H l = none ∧ H' l = some (.lst (iL (restOf ((rws ps).take i) row M))))
      (fun H2 e2 => ⟨l, none, none, none, rfl, e1.trans e2, nl, by simpa [restOf] using e2 _ _ hl1⟩) (fun i σ' H' _ ⟨_, _, _, _, _, e, _⟩ => ex_l e hp) ?_ ?_
    · rintro i x σ' H' hi ⟨l, v4, v5, v6, rfl, ex, nl, hl3⟩
      obtain ⟨y, hy, rfl⟩ := adr_get hi
      have hyin := List.mem_of_getElem? hy
      have ho := hro y.2 (mem_rws hyin)
      have hro' : ∀ o ∈ (rws ps).take i, RO M wd o := fun o h => hro o (List.mem_of_mem_take h)
      have htl : ((rws ps).take i).length ≤ 20 := by rw [List.length_take, rws_len]; omega
      obtain ⟨i1, _, _⟩ := rest_inv hm hl hb htl hro'
      have hy2 : SqL K H' y.1 (iL y.2) := (hR.ex ex).seq hyin
      refine q_asg (ev_call (z := .int (firstP y.2 : Nat)) (ea_cons (ev_var rfl) ea_nil) (firstP_spv hy2 (by rw [ho.len]; exact hwd))) fun H2 e2 => ?_
      refine s_call (ea_cons (ev_var rfl) (ea_cons (ev_var rfl) (ea_cons (ev_fdiv (ev_ix (ev_var rfl) (ev_var rfl) (sq_of (e2 _ _ hl3)) (iL_en (by rw [i1]; exact ho.fp))) (ev_ix (ev_var rfl) (ev_var rfl) (ex_l e2 hy2) (iL_en (by rw [ho.len]; exact ho.fp))) (red_div ho _)) (ea_cons (ev_var rfl) ea_nil)))) fun H3 e3 => ⟨l, y.1, _, _, _, M, rfl, (e2.trans e3) _ _ hl3, ex_l (e2.trans e3) hy2, by rw [i1]; exact hwd, hm.nonneg, fun c hc => red_mul hm hl hb htl hro' ho hc, fun l2 H4 e4 hl4 hor => ?_⟩
      refine ⟨l2, _, _, _, rfl, ((ex.trans e2).trans e3).trans e4, ?_, by rw [restOf_take (rws_at hy)]; exact hl4⟩
      rcases hor with h | h
      · rw [h]; exact nl
      · exact fresh_back ((ex.trans e2).trans e3) h
    · rintro σ' H' ⟨l, v4, v5, v6, rfl, ex, nl, hl3⟩
      rw [adr_len, List.take_of_length_le (by rw [rws_len]; exact Nat.le_refl _)] at hl3
      exact s_ret (ev_var rfl) fun H2 e2 => fin l H2 nl (ex.trans e2) (e2 _ _ hl3)
theorem any_isZ (r : Row) : (!(r.any fun i => i != 0)) = isZ r := by
  unfold isZ firstP
  by_cases h : ∃ x ∈ r, x ≠ 0
  · obtain ⟨x, hx, hx0⟩ := h
    have h1 : (r.any fun i => i != 0) = true := List.any_eq_true.mpr ⟨x, hx, by simpa using hx0⟩
    have h2 : r.findIdx (fun x => decide (x ≠ 0)) < r.length := List.findIdx_lt_length.mpr ⟨x, hx, by simpa using hx0⟩
    rw [h1, decide_eq_false (by omega)]; rfl
  · have h0 : ∀ x ∈ r, x = 0 := fun x hx => by
      rcases Decidable.em (x = 0) with z | z
      · exact z
      · exact absurd ⟨x, hx, z⟩ h
    have h1 : (r.any fun i => i != 0) = false := List.any_eq_false.mpr fun x hx => by simp [h0 x hx]
    have h2 : r.findIdx (fun x => decide (x ≠ 0)) = r.length := List.findIdx_eq_length.mpr fun x hx => by simp [h0 x hx]
    rw [h1, h2]; simp
theorem ok_law_inside (L : Lib K mg) {f : Addr} {fd : FuncData} (F : L2.Fun K "_law_inside" "_law_inside" s_law_inside f fd) : FnOk P w K mg base CX0 3 f fd ["H", "row", "M"] (spIn K) := by
  obtain ⟨f_law_reduce, fd_law_reduce, F_law_reduce⟩ := L.law_reduce
  have G_law_reduce : FnOk P w K mg base CX0 2 f_law_reduce fd_law_reduce _ (spRest K) := ok_law_reduce L F_law_reduce.F
  refine F.ok sc_law_inside (fun vs H Q E h => ?_) (fun cdv A outer s H vs Q E hr h => ?_)
  · obtain ⟨p, q, ps, row, wd, M, rfl, _⟩ := h; rfl
  · obtain ⟨p, q, ps, row, wd, M, rfl, hpre, fin⟩ := h
    refine ⟨_, (pss_one (ps_ret (pe_not (pe_callB cr_anyI (by rfl) L.any (by decide +kernel) (pa_cons (pe_call G_law_reduce (hr.mono (by decide)) (by rfl) F_law_reduce.g F_law_reduce.F.kp F_law_reduce.b .nil pass0 (pa_cons (pv 0) (pa_cons (pv 1) (pa_cons (pv 2) pa_nil)))) pa_nil))))), ?_⟩
    refine s_ret (ev_notV (a := (restOf (rws ps) row M).any fun i => i != 0) (ev_cbL (el_call (ea_cons (ev_var rfl) (ea_cons (ev_var rfl) (ea_cons (ev_var rfl) ea_nil))) (rest_spl hpre)) fun l H1 e1 h1 H2 e2 Q2 q2 => ⟨l, _, rfl, ex_l e2 (sq_of h1), q2 H2 (Ex.refl H2)⟩)) fun H1 e1 => ?_
    have := fin H1 e1
    rw [← any_isZ] at this
    exact this
/-! ### _law_c_box -/
def spBox : Sp := fun vs H Q _ => ∃ (wd most : Nat), vs = [.int (wd : Nat), .int (most : Nat)] ∧ wd ≤ 4 ∧ most ≤ 2 ∧ (2 * most + 1) ^ wd ≤ 100 ∧
  ∀ (p : Addr) (qs : List AR) (H2 : Hp), H p = none → Ex H H2 → H2 p = some (.lst (adr qs)) → Rws H2 qs → (∀ x ∈ qs, x.2.length = wd ∧ ∀ j, (en x.2 j).natAbs ≤ 2) → qs.length ≤ 100 → (∀ x ∈ qs, x.1 ≠ p) → (∀ x ∈ qs, H x.1 = none) → Q (.ref p) H2
theorem ok_law_c_box (L : Lib K mg) {f : Addr} {fd : FuncData} (F : L2.Fun K "_law_c_box" "_law_c_box" s_law_c_box f fd) : FnOk P w K mg base CX0 1 f fd ["width", "most"] spBox := by
  refine F.ok sc_law_c_box (fun vs H Q E h => ?_) (fun cdv A outer s H vs Q E hr h => ?_)
  · obtain ⟨wd, most, rfl, _⟩ := h; rfl
  · obtain ⟨wd, most, rfl, hwd, hmost, hpow, fin⟩ := h
    refine ⟨_, (pss_cons (ps_set (i := 2) sc_law_c_box.nd rfl (Or.inl rfl) (pe_lst (pa_cons (pe_lst pa_nil) pa_nil)))
    (pss_cons (ps_for PassesOwn.never rfl (pi_range1 (by rfl) L.range (pa_cons (pv 0) pa_nil)) (pg_name (i := 3) sc_law_c_box.nd rfl (Or.inl rfl))
      (pss_cons (ps_set (i := 4) sc_law_c_box.nd rfl (Or.inl rfl) (pe_lst pa_nil))
    (pss_cons (ps_for PassesOwn.never rfl (pi_list (pv 2)) (pg_name (i := 5) sc_law_c_box.nd rfl (Or.inl rfl))
      (pss_one (ps_for PassesOwn.never rfl (pi_range2 (by rfl) L.range (pa_cons (pe_op op_sub pe_int (pv 1)) (pa_cons (pe_op op_add (pv 1) pe_int) pa_nil))) (pg_name (i := 6) sc_law_c_box.nd rfl (Or.inl rfl))
      (pss_one (ps_expr (pe_bm PySem.F.plainAttrs_list PySem.F.slot_list_append PySem.F.type_list_append mt_append (pv 4) (pa_cons (pe_op op_cat (pv 5) (pe_lst (pa_cons (pv 6) pa_nil))) pa_nil)))))))
    (pss_one (ps_set (i := 2) sc_law_c_box.nd rfl (Or.inl rfl) (pv 4))))))
    (pss_one (ps_ret (pv 2))))), ?_⟩
    refine ⟨by show 0 ≤ sizeLine; exact Nat.zero_le _, fun i1 n1 => ⟨by show 1 ≤ sizeLine; decide, fun o1 m1 => ?_⟩⟩
    have e01 : Ex H (upd H i1 (.lst [])) := Ex.new n1
    have e02 : Ex (upd H i1 (.lst [])) (upd (upd H i1 (.lst [])) o1 (.lst [.ref i1])) := Ex.new m1
    have i1o : i1 ≠ o1 := fun e => by rw [e, upd_same] at m1; cases m1
    refine q_forR1 (n := (wd : Nat)) (ea_cons (ev_var rfl) ea_nil) (by omega) (fun i σ' H' => ∃ (o : Addr) (qs : List AR) (v3 v4 v5 v6 : Option V), σ' = [some (.int (wd : Nat)), some (.int (most : Nat)), some (.ref o), v3, v4, v5, v6] ∧ Ex H H' ∧ H o = none ∧ H' o = some (.lst (adr qs)) ∧ Rws H' qs ∧ (∀ x ∈ qs, x.2.length = i ∧ ∀ j, (en x.2 j).natAbs ≤ 2) ∧ qs.length ≤ (2 * most + 1) ^ i ∧ (∀ x ∈ qs, x.1 ≠ o) ∧ ∀ x ∈ qs, H x.1 = none)
      (fun H1 e1 => ⟨o1, [(i1, [])], none, none, none, none, rfl, (e01.trans e02).trans e1, fresh_back e01 m1, e1 _ _ upd_same, fun x hx => ?_, fun x hx => ?_, by simp, fun x hx => ?_, fun x hx => ?_⟩) ?_ ?_
    · rw [List.mem_singleton.mp hx]
      refine e1 _ _ ?_
      rw [upd_ne i1o, upd_same]; rfl
    · rw [List.mem_singleton.mp hx]; exact ⟨rfl, fun j => by simp [en]⟩
    · rw [List.mem_singleton.mp hx]; exact i1o
    · rw [List.mem_singleton.mp hx]; exact n1
    · rintro i σ' H' hi ⟨o, qs, v3, v4, v5, v6, rfl, ex, no, ho, hR, hq, hn, hne, hnH⟩
      have hi : i < wd := by omega
      refine q_asgL (el_lst ea_nil (by simp)) fun lg H1 nlg e1 hlg => ?_
      have nlgH : H lg = none := fresh_back ex nlg
      have olg : o ≠ lg := ne_of_none ho nlg
      have rlg : ∀ x ∈ qs, x.1 ≠ lg := fun x hx => ne_of_none (hR x hx) nlg
      have pow1 : (2 * most + 1) ^ (i + 1) ≤ 100 := Nat.le_trans (Nat.pow_le_pow_right (by omega) (by omega)) hpow
      have pow0 : (2 * most + 1) ^ (i + 1) = (2 * most + 1) ^ i * (2 * most + 1) := Nat.pow_succ ..
      have qsl : qs.length * (2 * most + 1) ≤ (2 * most + 1) ^ (i + 1) := by rw [pow0]; exact Nat.mul_le_mul_right _ hn
      refine q_forLn (ev_var rfl) (sq_of (e1 _ _ ho)) (fun j σ' H' => ∃ (ls : List AR) (v3 v5 v6 : Option V), σ' = [some (.int (wd : Nat)), some (.int (most : Nat)), some (.ref o), v3, some (.ref lg), v5, v6] ∧ Ex H H' ∧ H' o = some (.lst (adr qs)) ∧ Rws H' qs ∧ H' lg = some (.lst (adr ls)) ∧ Rws H' ls ∧ (∀ x ∈ ls, x.2.length = i + 1 ∧ ∀ j, (en x.2 j).natAbs ≤ 2) ∧ ls.length ≤ j * (2 * most + 1) ∧ (∀ x ∈ ls, x.1 ≠ lg) ∧ ∀ x ∈ ls, H x.1 = none)
        (fun H2 e2 => ⟨[], _, _, _, rfl, (ex.trans e1).trans e2, (e1.trans e2) _ _ ho, hR.ex (e1.trans e2), e2 _ _ hlg, Rws.nil, fun x h => absurd h (by simp), by simp, fun x h => absurd h (by simp), fun x h => absurd h (by simp)⟩) (fun j σ' H' _ ⟨_, _, _, _, _, _, h, _⟩ => sq_of h) ?_ ?_
      · rintro j x σ' H' hj ⟨ls, v3, v5, v6, rfl, ex2, ho2, hR2, hlg2, hRl, hq2, hn2, hne2, hnH2⟩
        obtain ⟨y, hy, rfl⟩ := adr_get hj
        have hyin := List.mem_of_getElem? hy
        have jl := (List.getElem?_eq_some_iff.mp hy).1
        refine s_forR2Z (lo := 0 - (most : Nat)) (n := (most : Nat) + 1) (ea_cons (ev_sub ev_c (ev_var rfl)) (ea_cons (ev_add (ev_var rfl) ev_c) ea_nil)) (by omega) (fun m σ' H' => ∃ (ls : List AR) (v3 v6 : Option V), σ' = [some (.int (wd : Nat)), some (.int (most : Nat)), some (.ref o), v3, some (.ref lg), some (.ref y.1), v6] ∧ Ex H H' ∧ H' o = some (.lst (adr qs)) ∧ Rws H' qs ∧ H' lg = some (.lst (adr ls)) ∧ Rws H' ls ∧ (∀ x ∈ ls, x.2.length = i + 1 ∧ ∀ j, (en x.2 j).natAbs ≤ 2) ∧ ls.length ≤ j * (2 * most + 1) + m ∧ (∀ x ∈ ls, x.1 ≠ lg) ∧ ∀ x ∈ ls, H x.1 = none)
          (fun H2 e2 => ⟨ls, _, _, rfl, ex2.trans e2, e2 _ _ ho2, hR2.ex e2, e2 _ _ hlg2, hRl.ex e2, hq2, hn2, hne2, hnH2⟩) ?_ ?_
        · rintro m σ' H' hm ⟨ls, v3, v6, rfl, ex3, ho3, hR3, hlg3, hRl3, hq3, hn3, hne3, hnH3⟩
          have jj : j * (2 * most + 1) + (2 * most + 1) ≤ qs.length * (2 * most + 1) := by
            have := Nat.mul_le_mul_right (2 * most + 1) jl
            rw [Nat.succ_mul] at this; exact this
          have ly := (hq y hyin).1
          refine s_appL (ys := iL (y.2 ++ [0 - (most : Int) + (m : Int)])) hlg3 (ev_var rfl) ?_ (by rw [adr_len]; omega) fun p H2 np e2 hp2 => ?_
          · have := el_cat (xs := iL y.2) (ys := [.int (0 - (most : Int) + (m : Int))]) (ta := tVar 5) (tb := tLst (tCons (tVar 6) tNil)) (σ := (([some (.int (wd : Nat)), some (.int (most : Nat)), some (.ref o), v3, some (.ref lg), some (.ref y.1), v6] : L2.St).set 6 (some (.int (0 - (most : Int) + (m : Int)))))) (H := H') (ev_var rfl) (hR3 y hyin) (el_lst (ea_cons (ev_var rfl) ea_nil) (by simp)) (by rw [iL_len]; simp; omega)
            unfold iL at this ⊢
            rw [List.map_append]; exact this
          · have npH : H p = none := fresh_back ex3 np
            have plg : p ≠ lg := (ne_of_none hlg3 np).symm
            refine ⟨ls ++ [(p, y.2 ++ [0 - (most : Int) + (m : Int)])], _, _, rfl, Ex.mut (ex3.trans e2) nlgH, by rw [upd_ne olg]; exact e2 _ _ ho3, (hR3.ex e2).upd rlg, by rw [upd_same, adr_app]; rfl, ?_, ?_, by rw [List.length_append, List.length_singleton]; omega, ?_, ?_⟩
            · refine Rws.append ((hRl3.ex e2).upd hne3) fun x hx => ?_
              rw [List.mem_singleton.mp hx, upd_ne plg]; exact hp2
            · intro x hx
              rcases List.mem_append.mp hx with h | h
              · exact hq3 x h
              · rw [List.mem_singleton.mp h]
                refine ⟨by rw [List.length_append, ly]; rfl, fun k => ?_⟩
                by_cases hk : k < i
                · have e : en (y.2 ++ [0 - (most : Int) + (m : Int)]) k = en y.2 k := by simp [en, List.getD, List.getElem?_append_left (show k < y.2.length by omega)]
                  show (en (y.2 ++ [0 - (most : Int) + (m : Int)]) k).natAbs ≤ 2
                  rw [e]; exact (hq y hyin).2 k
                · by_cases hk2 : k = i
                  · have e : en (y.2 ++ [0 - (most : Int) + (m : Int)]) k = 0 - (most : Int) + (m : Int) := by simp [en, List.getD, hk2, ← ly]
                    show (en (y.2 ++ [0 - (most : Int) + (m : Int)]) k).natAbs ≤ 2
                    rw [e]; omega
                  · show (en (y.2 ++ [0 - (most : Int) + (m : Int)]) k).natAbs ≤ 2
                    rw [en_ge (by rw [List.length_append, List.length_singleton]; omega)]; decide
            · intro x hx
              rcases List.mem_append.mp hx with h | h
              · exact hne3 x h
              · rw [List.mem_singleton.mp h]; exact plg
            · intro x hx
              rcases List.mem_append.mp hx with h | h
              · exact hnH3 x h
              · rw [List.mem_singleton.mp h]; exact npH
        · rintro σ' H' ⟨ls, v3, v6, rfl, ex3, ho3, hR3, hlg3, hRl3, hq3, hn3, hne3, hnH3⟩
          have e2 : (((most : Nat) : Int) + 1 - (0 - (most : Int))).toNat = 2 * most + 1 := by omega
          rw [e2] at hn3
          exact ⟨ls, _, _, _, rfl, ex3, ho3, hR3, hlg3, hRl3, hq3, by rw [Nat.succ_mul]; exact hn3, hne3, hnH3⟩
      · rintro σ' H' ⟨ls, v3, v5, v6, rfl, ex2, ho2, hR2, hlg2, hRl, hq2, hn2, hne2, hnH2⟩
        rw [adr_len] at hn2
        exact s_asg (ev_var rfl) fun H2 e2 => ⟨lg, ls, _, _, _, _, rfl, ex2.trans e2, nlgH, e2 _ _ hlg2, hRl.ex e2, hq2, Nat.le_trans hn2 qsl, hne2, hnH2⟩
    · rintro σ' H' ⟨o, qs, v3, v4, v5, v6, rfl, ex, no, ho, hR, hq, hn, hne, hnH⟩
      have e2 : ((wd : Nat) : Int).toNat = wd := by simp
      rw [e2] at hq hn
      exact s_ret (ev_var rfl) fun H2 e2 => fin o qs H2 no (ex.trans e2) (e2 _ _ ho) (hR.ex e2) hq (Nat.le_trans hn hpow) hne hnH
end
end Mine
set_option Elab.async false
set_option linter.all false
set_option maxRecDepth 100000
set_option maxHeartbeats 4000000
namespace Mine
open PySem PySem.Spec PyProof.Rows L2 Evl
/-! ### the source of draws -/
def kG : Key := .inr "great"
def kB : Key := .inr "big"
def kT : Key := .inr "state"
def kE : Key := .inr "step"
theorem nGB : ¬ (("great" : Str) = "big") := by decide +kernel
theorem nGT : ¬ (("great" : Str) = "state") := by decide +kernel
theorem nGE : ¬ (("great" : Str) = "step") := by decide +kernel
theorem nBT : ¬ (("big" : Str) = "state") := by decide +kernel
theorem nBE : ¬ (("big" : Str) = "step") := by decide +kernel
theorem nTE : ¬ (("state" : Str) = "step") := by decide +kernel
def kvS (g : Addr) (b t e : Int) : List (Key × V) := [(kG, .ref g), (kB, .int b), (kT, .int t), (kE, .int e)]
theorem kvL {g : Addr} {b t e : Int} : (kvS g b t e).length < 1000 := by show 4 < 1000; decide
theorem inrN {x y : Str} (h : ¬ x = y) : ¬ (Sum.inr x : Key) = Sum.inr y := fun e => h (Sum.inr.inj e)
theorem kvG (g : Addr) (b t e : Int) : valV (kvS g b t e) kG = some (.ref g) := valV_pos rfl
theorem kvB (g : Addr) (b t e : Int) : valV (kvS g b t e) kB = some (.int b) := (valV_neg (inrN nGB)).trans (valV_pos rfl)
theorem kvT (g : Addr) (b t e : Int) : valV (kvS g b t e) kT = some (.int t) := (valV_neg (inrN nGT)).trans ((valV_neg (inrN nBT)).trans (valV_pos rfl))
theorem kvE (g : Addr) (b t e : Int) : valV (kvS g b t e) kE = some (.int e) := (valV_neg (inrN nGE)).trans ((valV_neg (inrN nBE)).trans ((valV_neg (inrN nTE)).trans (valV_pos rfl)))
theorem putK_in {kvs : List (Key × V)} {k : Key} {v : V} (h : (kvs.any fun kv => decide (kv.1 = k)) = true) : putK kvs k v = kvs.map fun kv => if kv.1 = k then (kv.1, v) else kv := by unfold putK; rw [if_pos h]
theorem xGB : ¬ kG = kB := inrN nGB
theorem xGT : ¬ kG = kT := inrN nGT
theorem xGE : ¬ kG = kE := inrN nGE
theorem xBT : ¬ kB = kT := inrN nBT
theorem xBE : ¬ kB = kE := inrN nBE
theorem xTE : ¬ kT = kE := inrN nTE
theorem xTB : ¬ kT = kB := fun h => xBT h.symm
theorem xEB : ¬ kE = kB := fun h => xBE h.symm
theorem xET : ¬ kE = kT := fun h => xTE h.symm
theorem putB (g : Addr) (b t e x : Int) : putK (kvS g b t e) kB (.int x) = kvS g x t e := by
  rw [putK_in (by rw [valV_any, kvB]; rfl)]
  simp only [kvS, List.map_cons, List.map_nil, xGB, xTB, xEB, if_false, if_true]
theorem putT (g : Addr) (b t e x : Int) : putK (kvS g b t e) kT (.int x) = kvS g b x e := by
  rw [putK_in (by rw [valV_any, kvT]; rfl)]
  simp only [kvS, List.map_cons, List.map_nil, xGT, xBT, xET, if_false, if_true]
theorem putE (g : Addr) (b t e x : Int) : putK (kvS g b t e) kE (.int x) = kvS g b t x := by
  rw [putK_in (by rw [valV_any, kvE]; rfl)]
  simp only [kvS, List.map_cons, List.map_nil, xGE, xBE, xTE, if_false, if_true]
def Src (s g : Addr) (H : Hp) : Prop := ∃ (gs : Row) (b t e : Int), H s = some (.dK (kvS g b t e)) ∧ H g = some (.lst (iL gs))
theorem Src.ne {s g : Addr} {H : Hp} (h : Src s g H) : s ≠ g := by
  obtain ⟨gs, b, t, e, h1, h2⟩ := h
  exact ne_of h1 h2 (fun z => nomatch z)
theorem Src.ex {s g : Addr} {H H' : Hp} (h : Src s g H) (e : Ex H H') : Src s g H' := by
  obtain ⟨gs, b, t, st, h1, h2⟩ := h
  exact ⟨gs, b, t, st, e _ _ h1, e _ _ h2⟩
theorem Src.newG {s g p : Addr} {H : Hp} (h : Src s g H) (hp : H p = none) : p ≠ g := by
  obtain ⟨gs, b, t, st, h1, h2⟩ := h
  exact (ne_of_none h2 hp).symm
theorem Src.newS {s g p : Addr} {H : Hp} (h : Src s g H) (hp : H p = none) : p ≠ s := by
  obtain ⟨gs, b, t, st, h1, h2⟩ := h
  exact (ne_of_none h1 hp).symm
theorem Src.lstS {s g p : Addr} {H : Hp} {xs : List V} (h : Src s g H) (hp : H p = some (.lst xs)) : p ≠ s := by
  obtain ⟨gs, b, t, st, h1, h2⟩ := h
  exact ne_of hp h1 (fun z => nomatch z)
theorem Src.upd {s g p : Addr} {H : Hp} {o : HO} (h : Src s g H) (h1 : p ≠ s) (h2 : p ≠ g) : Src s g (upd H p o) := by
  obtain ⟨gs, b, t, st, h3, h4⟩ := h
  exact ⟨gs, b, t, st, by rw [upd_ne h1.symm]; exact h3, by rw [upd_ne h2.symm]; exact h4⟩
/-- what a draw leaves: all but the source -/
structure Le (s g : Addr) (H H' : Hp) : Prop where
  keep : ∀ a o, H a = some o → a ≠ s → a ≠ g → H' a = some o
  src : Src s g H'
theorem Le.refl {s g : Addr} {H : Hp} (h : Src s g H) : Le s g H H := ⟨fun _ _ h _ _ => h, h⟩
theorem Le.trans {s g : Addr} {H H' H'' : Hp} (h : Le s g H H') (h' : Le s g H' H'') : Le s g H H'' := ⟨fun a o e h1 h2 => h'.keep a o (h.keep a o e h1 h2) h1 h2, h'.src⟩
theorem Le.of {s g : Addr} {H H' : Hp} (h : Src s g H) (e : Ex H H') : Le s g H H' := ⟨fun a o h1 _ _ => e a o h1, h.ex e⟩
/-- an object that H does not know may change -/
theorem Le.mut {s g : Addr} {H H' : Hp} {p : Addr} {o : HO} (e : Le s g H H') (hs : Src s g H) (h : H p = none) : Le s g H (upd H' p o) := ⟨fun a u ha h1 h2 => by
  rw [upd_ne (ne_of_none ha h)]
  exact e.keep a u ha h1 h2, e.src.upd (hs.newS h) (hs.newG h)⟩
theorem Le.back {s g : Addr} {H H' : Hp} {p : Addr} (e : Le s g H H') (h : H' p = none) : H p = none := by
  cases h1 : H p with
  | none => rfl
  | some o =>
    exfalso
    have h2 := e.src.newS h
    have h3 := e.src.newG h
    rw [e.keep p o h1 h2 h3] at h
    cases h
theorem Le.lst {s g p : Addr} {H H' : Hp} {xs : List V} (e : Le s g H H') (hs : Src s g H) (h : H p = some (.lst xs)) (hg : p ≠ g) : H' p = some (.lst xs) := e.keep p _ h (hs.lstS h) hg
def OffG (g : Addr) (ps : List AR) : Prop := ∀ x ∈ ps, x.1 ≠ g
theorem Le.rws {s g : Addr} {H H' : Hp} {ps : List AR} (e : Le s g H H') (hs : Src s g H) (h : Rws H ps) (hg : OffG g ps) : Rws H' ps := fun x hx => e.lst hs (h x hx) (hg x hx)
/-! ### evaluations that draw -/
def EvK (s g : Addr) (te : TE) (σ : L2.St) (H : Hp) (P : V → Prop) : Prop := ∀ H1, Le s g H H1 → ∀ Q : VK, (∀ v H2, Le s g H1 H2 → P v → Q v H2) → te σ H1 Q
def isI (A : Int → Prop) (v : V) : Prop := ∃ i, v = .int i ∧ A i
section
variable {K : PySem.W.Frag} {s g : Addr} {σ : L2.St} {H H' : Hp} {ta tb te tx tl : TE} {t u : TT} {x y z v w1 : V} {D : Ends} {tu tw tz : TS} {A B C : Int → Prop} {P P' : V → Prop}
theorem evk_of (h : ∀ H1, Le s g H H1 → Ev te σ H1 v) : EvK s g te σ H (fun x => x = v) := fun H1 e Q q => h H1 e H1 (Ex.refl H1) Q fun H2 e2 => q v H2 (Le.of e.src e2) rfl
theorem evi_of {i : Int} (h : ∀ H1, Le s g H H1 → Ev te σ H1 (.int i)) : EvK s g te σ H (isI fun j => j = i) := fun H1 e Q q => h H1 e H1 (Ex.refl H1) Q fun H2 e2 => q _ H2 (Le.of e.src e2) ⟨i, rfl, rfl⟩
theorem EvK.imp (h : EvK s g te σ H P) (hi : ∀ v, P v → P' v) : EvK s g te σ H P' := fun H1 e Q q => h H1 e Q fun v H2 e2 p => q v H2 e2 (hi v p)
theorem EvK.mono (h : EvK s g te σ H P) (e : Le s g H H') : EvK s g te σ H' P := fun H1 e1 Q q => h H1 (e.trans e1) Q q
theorem evi_op {g' : Int → Int → Int} (ha : EvK s g ta σ H (isI A)) (hb : EvK s g tb σ H (isI B)) (hc : ∀ i j, A i → B j → C (g' i j)) : EvK s g (tOp (rI0 fun i j => .int (g' i j)) ta tb) σ H (isI C) := fun H1 e Q q =>
  ha H1 e _ fun x H2 e2 ⟨i, hi, ai⟩ => hb H2 (e.trans e2) _ fun y H3 e3 ⟨j, hj, bj⟩ => ⟨i, j, hi, hj, q _ H3 (e2.trans e3) ⟨_, rfl, hc i j ai bj⟩⟩
theorem evi_opC {C' : Int → Int → Prop} {g' : Int → Int → Int} (ha : EvK s g ta σ H (isI A)) (hb : EvK s g tb σ H (isI B)) (hs : ∀ i j, A i → B j → C' i j) (hc : ∀ i j, A i → B j → C (g' i j)) : EvK s g (tOp (rI C' fun i j => .int (g' i j)) ta tb) σ H (isI C) := fun H1 e Q q =>
  ha H1 e _ fun x H2 e2 ⟨i, hi, ai⟩ => hb H2 (e.trans e2) _ fun y H3 e3 ⟨j, hj, bj⟩ => ⟨i, j, hi, hj, hs i j ai bj, q _ H3 (e2.trans e3) ⟨_, rfl, hc i j ai bj⟩⟩
theorem q_asgK {i : Nat} (hs : Src s g H) (h : EvK s g te σ H P) (k : ∀ v H1, Le s g H H1 → P v → tz D (σ.set i (some v)) H1) : tSeq (tAsg te (gName i)) tz D σ H := h H (Le.refl hs) _ fun v H1 e p => k v H1 e p
theorem s_asgK {i : Nat} (hs : Src s g H) (h : EvK s g te σ H P) (k : ∀ v H1, Le s g H H1 → P v → D.nx (σ.set i (some v)) H1) : tAsg te (gName i) D σ H := h H (Le.refl hs) _ fun v H1 e p => k v H1 e p
theorem s_retK (hs : Src s g H) (h : EvK s g te σ H P) (k : ∀ v H1, Le s g H H1 → P v → D.rt v H1) : tRet te D σ H := h H (Le.refl hs) _ fun v H1 e p => k v H1 e p
/-- a test over a drawn int -/
theorem etk_ne0 {j : Int} (ha : EvK s g ta σ H (isI A)) (hb : ∀ H1, Ev tb σ H1 (.int j)) : ∀ H1, Le s g H H1 → ∀ Q : Bool → Hp → Prop, (∀ i H2, Le s g H1 H2 → A i → Q (decide (i ≠ j)) H2) → tTest (tOp rNe ta tb) σ H1 Q := fun H1 e Q q =>
  ha H1 e _ fun x H2 e2 ⟨i, hi, ai⟩ => hb H2 H2 (Ex.refl H2) _ fun H3 e3 => by
    subst hi
    refine ⟨rfl, decide (i ≠ j), ?_, q i H3 (e2.trans (Le.of e2.src e3)) ai⟩
    by_cases z : i = j
    · subst z; simp
    · have : ¬ V.int i = V.int j := fun h => z (V.int.inj h)
      simp [z]
theorem etk_eq0 {j : Int} (ha : EvK s g ta σ H (isI A)) (hb : ∀ H1, Ev tb σ H1 (.int j)) : ∀ H1, Le s g H H1 → ∀ Q : Bool → Hp → Prop, (∀ i H2, Le s g H1 H2 → A i → Q (decide (i = j)) H2) → tTest (tOp rEq ta tb) σ H1 Q := fun H1 e Q q =>
  ha H1 e _ fun x H2 e2 ⟨i, hi, ai⟩ => hb H2 H2 (Ex.refl H2) _ fun H3 e3 => by
    subst hi
    refine ⟨rfl, decide (i = j), ?_, q i H3 (e2.trans (Le.of e2.src e3)) ai⟩
    by_cases z : i = j
    · subst z; simp
    · have : ¬ V.int i = V.int j := fun h => z (V.int.inj h)
      simp [z]
theorem ev_dget {k : Key} {d : Addr} {kvs : List (Key × V)} (ha : Ev ta σ H (.ref d)) (hb : Ev tb σ H (kV k)) (hd : H d = some (.dK kvs)) (hv : valV kvs k = some v) : Ev (tDGet ta tb) σ H v := fun H1 e Q q =>
  ha H1 e _ fun H2 e2 => hb H2 (e.trans e2) _ fun H3 e3 => ⟨d, v, rfl, by rw [← hv]; exact DGet.k (((e.trans e2).trans e3) _ _ hd), q H3 (e2.trans e3)⟩
theorem s_dput {k : Key} {d : Addr} {kvs : List (Key × V)} {tv td ty : TE} (h : Ev tv σ H v) (ha : Ev td σ H (.ref d)) (hb : Ev ty σ H (kV k)) (hd : H d = some (.dK kvs)) (hl : kvs.length < 1000) (q : ∀ H1, Ex H H1 → D.nx σ (upd H1 d (.dK (putK kvs k v)))) : sDPut td ty tv D σ H :=
  h H (Ex.refl H) _ fun H1 e1 => ha H1 e1 _ fun H2 e2 => hb H2 (e1.trans e2) _ fun H3 e3 => ⟨d, _, rfl, DPut.k (((e1.trans e2).trans e3) _ _ hd) (small1000 (Nat.le_of_lt hl)), q H3 ((e1.trans e2).trans e3)⟩
/-- if without else, what follows told once -/
theorem q_whenJ {b : Bool} {J : Hp → Prop} (h : EvT t σ H b) (rest : ∀ H2, J H2 → tz D σ H2) (h1 : b = true → ∀ H1, Ex H H1 → (∀ H2, J H2 → tz D σ H2) → tu { D with nx := tz D } σ H1) (h2 : b = false → ∀ H1, Ex H H1 → J H1) : tSeq (tIfS t tu tNext) tz D σ H :=
  q_when h (fun hb H1 e => h1 hb H1 e rest) fun hb H1 e => rest H1 (h2 hb H1 e)
theorem q_dput {k : Key} {d : Addr} {kvs : List (Key × V)} {tv td ty : TE} (h : Ev tv σ H v) (ha : Ev td σ H (.ref d)) (hb : Ev ty σ H (kV k)) (hd : H d = some (.dK kvs)) (hl : kvs.length < 1000) (q : ∀ H1, Ex H H1 → tz D σ (upd H1 d (.dK (putK kvs k v)))) : tSeq (sDPut td ty tv) tz D σ H :=
  h H (Ex.refl H) _ fun H1 e1 => ha H1 e1 _ fun H2 e2 => hb H2 (e1.trans e2) _ fun H3 e3 => ⟨d, _, rfl, DPut.k (((e1.trans e2).trans e3) _ _ hd) (small1000 (Nat.le_of_lt hl)), q H3 ((e1.trans e2).trans e3)⟩
end
def PickOk (n k : Int) : Prop := (n < 2 → k = 0) ∧ (2 ≤ n → 0 ≤ k ∧ k < n)
theorem PickOk.lt {n k : Int} (h : PickOk n k) (hn : 1 ≤ n) : 0 ≤ k ∧ k < n := by
  by_cases z : n < 2
  · have := h.1 z; omega
  · exact h.2 (by omega)
def spPick : Sp := fun vs H Q _ => ∃ (s g : Addr) (n : Int), vs = [.ref s, .int n] ∧ Src s g H ∧ n ≤ 1000000000 ∧ ∀ (k : Int) (H' : Hp), Le s g H H' → PickOk n k → Q (.int k) H'
section
variable {P : Program} {w : World} {K : PySem.W.Frag} {mg : Str → Option Value} {base : Heap} {H : Hp}
theorem ok_law_pick (L : Lib K mg) {f : Addr} {fd : FuncData} (F : L2.Fun K "_law_pick" "_law_pick" s_law_pick f fd) : FnOk P w K mg base CX0 1 f fd ["s", "many"] spPick := by
  refine F.ok sc_law_pick (fun vs H Q E h => ?_) (fun cdv A outer s H vs Q E hr h => ?_)
  · obtain ⟨s, g, n, rfl, _⟩ := h; rfl
  · obtain ⟨s, g, n, rfl, hs, hn, fin⟩ := h
    have hu := hu_of hr
    refine ⟨_, (pss_cons (ps_if (pt_cmpR op_lt (pv 1) pe_int (nomark _))
      (pss_one (ps_ret pe_int))
      pss_nil)
    (pss_cons (ps_if (PW.pt (pw_and (pt_cmpR op_lt (pe_dget hu (pv 0) pe_str (fun _ _ => rfl)) pe_int (nomark _)) (pw_and1 (pt_truth (pe_dget hu (pv 0) pe_str (fun _ _ => rfl)) (by intro _; rfl)))))
      (pss_one (ps_dput hu (pv 0) pe_str (pe_bm PySem.F.plainAttrs_list PySem.F.slot_list_pop PySem.F.type_list_pop mt_popAt (pe_dget hu (pv 0) pe_str (fun _ _ => rfl)) (pa_cons pe_int pa_nil)) rfl))
      pss_nil)
    (pss_cons (ps_if (pt_cmpR op_gt (pe_dget hu (pv 0) pe_str (fun _ _ => rfl)) pe_int (nomark _))
      (pss_cons (ps_set (i := 2) sc_law_pick.nd rfl (Or.inl rfl) (pe_op op_mod (pe_callTy call_int1 (by rfl) L.int (by decide +kernel) (pa_cons (pe_dget hu (pv 0) pe_str (fun _ _ => rfl)) pa_nil)) (pv 1)))
    (pss_cons (ps_dput hu (pv 0) pe_str (pe_op op_fdivZ (pe_dget hu (pv 0) pe_str (fun _ _ => rfl)) (pv 1)) rfl)
    (pss_one (ps_ret (pv 2)))))
      pss_nil)
    (pss_cons (ps_dput hu (pv 0) pe_str (pe_op op_add (pe_dget hu (pv 0) pe_str (fun _ _ => rfl)) pe_int) rfl)
    (pss_cons (ps_dput hu (pv 0) pe_str (pe_op op_mod (pe_callTy call_int1 (by rfl) L.int (by decide +kernel) (pa_cons (pe_op op_add (pe_op op_add (pe_op op_mul (pe_dget hu (pv 0) pe_str (fun _ _ => rfl)) pe_int) (pe_op op_mul (pe_dget hu (pv 0) pe_str (fun _ _ => rfl)) pe_int)) pe_int) pa_nil)) pe_int) rfl)
    (pss_one (ps_ret (pe_op op_mod (pe_callTy call_int1 (by rfl) L.int (by decide +kernel) (pa_cons (pe_op op_fdivZ (pe_op op_mod (pe_callTy call_int1 (by rfl) L.int (by decide +kernel) (pa_cons (pe_op op_add (pe_op op_mul (pe_dget hu (pv 0) pe_str (fun _ _ => rfl)) pe_int) (pe_op op_fdivZ (pe_dget hu (pv 0) pe_str (fun _ _ => rfl)) pe_int)) pa_nil)) pe_int) pe_int) pa_nil)) (pv 1))))))))), ?_⟩
    have sg := hs.ne
    have hs0 := hs
    refine q_when (et_test (ev_lt (ev_var rfl) ev_c)) (fun hb H1 e1 => s_ret ev_c fun H2 e2 => fin 0 H2 (Le.of hs0 (e1.trans e2)) ⟨fun _ => rfl, fun h => by have := of_decide_eq_true hb; omega⟩) (fun hb H1 e1 => ?_)
    have hn2 := of_decide_eq_false hb
    obtain ⟨gs, b, t, e, h1, h2⟩ := hs
    have h1 := e1 _ _ h1
    have h2 := e1 _ _ h2
    have L1 : Le s g H H1 := Le.of hs0 e1
    refine q_whenJ (J := fun H2 => Le s g H H2) (b := decide (b < 2) && !gs.isEmpty) (et_and (et_test (ev_lt (ev_dget (k := kB) (ev_var rfl) ev_c h1 (kvB ..)) ev_c)) fun _ => fun H2 e2 Q2 q2 => ?_) (fun H2 L2 => ?_) (fun hb2 H2 e2 rest => ?_) (fun hb2 H2 e2 => L1.trans (Le.of L1.src e2))
    · exact (ev_dget (σ := [some (.ref s), some (.int n), none]) (ta := tVar 0) (tb := tC (.str "great")) (k := kG) (ev_var rfl) ev_c h1 (kvG ..)) H2 e2 _ fun H3 e3 => ⟨!gs.isEmpty, .inl ⟨iL gs, sq_of ((e2.trans e3) _ _ h2), by cases gs <;> rfl⟩, q2 H3 e3⟩
    · -- from here on
      obtain ⟨gs, b, t, e, h1, h2⟩ := L2.src
      have upS : ∀ {H3 : Hp} {b t e : Int}, Ex H2 H3 → Le s g H (upd H3 s (.dK (kvS g b t e))) := fun {H3 b t e} e3 => ⟨fun a o ha n1 n2 => by rw [upd_ne n1]; exact e3 _ _ (L2.keep a o ha n1 n2), gs, b, t, e, upd_same, by rw [upd_ne sg.symm]; exact e3 _ _ h2⟩
      refine q_when (et_test (ev_gt (ev_dget (k := kB) (ev_var rfl) ev_c h1 (kvB ..)) ev_c)) (fun hb3 H3 e3 => ?_) (fun hb3 H3 e3 => ?_)
      · have hn0 : (0 : Int) < n := by omega
        refine q_asg (ev_mod (ev_int (ev_dget (k := kB) (ev_var rfl) ev_c (e3 _ _ h1) (kvB ..))) (ev_var rfl) hn0) fun H4 e4 => ?_
        refine q_dput (k := kB) (ev_fdiv (ev_dget (k := kB) (ev_var rfl) ev_c ((e3.trans e4) _ _ h1) (kvB ..)) (ev_var rfl) (cdivz_small _ (by omega) (by omega))) (ev_var rfl) ev_c ((e3.trans e4) _ _ h1) kvL fun H5 e5 => ?_
        rw [putB]
        refine s_ret (ev_var rfl) fun H6 e6 => ?_
        have L5 := upS (H3 := H5) (b := b.fdiv n) (t := t) (e := e) ((e3.trans e4).trans e5)
        exact fin (b % n) H6 (L5.trans (Le.of L5.src e6)) ⟨fun h => by omega, fun _ => ⟨Int.emod_nonneg _ (by omega), Int.emod_lt_of_pos _ hn0⟩⟩
      · refine q_dput (k := kE) (ev_add (ev_dget (k := kE) (ev_var rfl) ev_c (e3 _ _ h1) (kvE ..)) ev_c) (ev_var rfl) ev_c (e3 _ _ h1) kvL fun H4 e4 => ?_
        rw [putE]
        have a1 : (upd H4 s (.dK (kvS g b t (e + 1)))) s = some (.dK (kvS g b t (e + 1))) := upd_same
        refine q_dput (k := kT) (ev_mod (ev_int (ev_add (ev_add (ev_mul (ev_dget (k := kT) (ev_var rfl) ev_c a1 (kvT ..)) ev_c (.inr ⟨by decide, by decide⟩)) (ev_mul (ev_dget (k := kE) (ev_var rfl) ev_c a1 (kvE ..)) ev_c (.inr ⟨by decide, by decide⟩))) ev_c)) ev_c (by decide)) (ev_var rfl) ev_c a1 kvL fun H5 e5 => ?_
        rw [putT]
        generalize hst : (t * 48271 + (e + 1) * 69621 + 11) % 2147483647 = st
        have a2 : (upd H5 s (.dK (kvS g b st (e + 1)))) s = some (.dK (kvS g b st (e + 1))) := upd_same
        have hn0 : (0 : Int) < n := by omega
        refine s_ret (ev_mod (ev_int (ev_fdiv (ev_mod (ev_int (ev_add (ev_mul (ev_dget (k := kT) (ev_var rfl) ev_c a2 (kvT ..)) ev_c (.inr ⟨by decide, by decide⟩)) (ev_fdiv (ev_dget (k := kT) (ev_var rfl) ev_c a2 (kvT ..)) ev_c (cdivz_small _ (by decide) (by decide))))) ev_c (by decide)) ev_c (cdivz_small _ (by decide) (by decide)))) (ev_var rfl) hn0) fun H6 e6 => ?_
        have L4 := upS (H3 := H4) (b := b) (t := t) (e := e + 1) (e3.trans e4)
        have L5 : Le s g H (upd H5 s (.dK (kvS g b st (e + 1)))) := by
          have L4' := L4.trans (Le.of L4.src e5)
          obtain ⟨gs', b', t', e', g1, g2⟩ := L4'.src
          exact ⟨fun a o ha n1 n2 => by rw [upd_ne n1]; exact L4'.keep a o ha n1 n2, gs', b, st, e + 1, upd_same, by rw [upd_ne sg.symm]; exact g2⟩
        exact fin _ H6 (L5.trans (Le.of L5.src e6)) ⟨fun h => by omega, fun _ => ⟨Int.emod_nonneg _ (by omega), Int.emod_lt_of_pos _ hn0⟩⟩
    · -- a great cell is taken
      have hne : gs ≠ [] := by
        intro z; subst z; simp at hb2
      obtain ⟨x, gs', rfl⟩ : ∃ x gs', gs = x :: gs' := by
        cases gs with
        | nil => exact absurd rfl hne
        | cons x gs' => exact ⟨x, gs', rfl⟩
      have h1' := e2 _ _ h1
      have h2' := e2 _ _ h2
      refine (ev_dget (σ := [some (.ref s), some (.int n), none]) (ta := tVar 0) (tb := tC (.str "great")) (k := kG) (ev_var rfl) ev_c h1' (kvG ..)) H2 (Ex.refl H2) _ fun H3 e3 => ⟨.inl ⟨rfl, _, sq_of (e3 _ _ h2')⟩, ?_⟩
      refine ⟨g, iL (x :: gs'), 0, 0, .int x, rfl, rfl, e3 _ _ h2', by decide, by decide, by simp [seqIndex?, iL], rfl, ?_⟩
      have u1 : (upd H3 g (.lst ((iL (x :: gs')).eraseIdx 0))) s = some (.dK (kvS g b t e)) := by rw [upd_ne sg]; exact e3 _ _ h1'
      refine ⟨_, rfl, s, _, rfl, DPut.k (k := kB) u1 (small1000 (Nat.le_of_lt kvL)), ?_⟩
      rw [putB]
      refine rest _ ⟨fun a o ha n1 n2 => by rw [upd_ne n1, upd_ne n2]; exact (e2.trans e3) _ _ (L1.keep a o ha n1 n2), gs', x, t, e, upd_same, ?_⟩
      rw [upd_ne sg.symm, upd_same]; rfl
theorem evk_pick {s g : Addr} {σ : L2.St} {ta : TA} {E : XK} {n : Int} (ha : ∀ H1, Le s g H H1 → EvA ta σ H1 [.ref s, .int n]) (hn : n ≤ 1000000000) : EvK s g (tCall spPick [] E ta) σ H (isI (PickOk n)) := fun H1 e Q q =>
  ha H1 e H1 (Ex.refl H1) _ fun H2 e2 => ⟨s, g, n, rfl, e.src.ex e2, hn, fun k H3 e3 hk => q _ H3 ((Le.of e.src e2).trans e3) ⟨k, rfl, hk⟩⟩
/-! ### within, one, modulus, number -/
def spWithin : Sp := fun vs H Q _ => ∃ (s g : Addr) (lo hi : Int), vs = [.ref s, .int lo, .int hi] ∧ Src s g H ∧ lo ≤ hi ∧ hi - lo < 100000000 ∧ ∀ (k : Int) (H' : Hp), Le s g H H' → lo ≤ k → k ≤ hi → Q (.int k) H'
theorem ok_law_within (L : Lib K mg) {f : Addr} {fd : FuncData} (F : L2.Fun K "_law_within" "_law_within" s_law_within f fd) : FnOk P w K mg base CX0 2 f fd ["s", "low", "high"] spWithin := by
  obtain ⟨f_law_pick, fd_law_pick, F_law_pick⟩ := L.law_pick
  have G_law_pick : FnOk P w K mg base CX0 1 f_law_pick fd_law_pick _ spPick := ok_law_pick L F_law_pick.F
  refine F.ok sc_law_within (fun vs H Q E h => ?_) (fun cdv A outer s H vs Q E hr h => ?_)
  · obtain ⟨s, g, lo, hi, rfl, _⟩ := h; rfl
  · obtain ⟨s, g, lo, hi, rfl, hs, h1, h2, fin⟩ := h
    refine ⟨_, (pss_one (ps_ret (pe_op op_add (pv 1) (pe_call G_law_pick (hr.mono (by decide)) (by rfl) F_law_pick.g F_law_pick.F.kp F_law_pick.b .nil pass0 (pa_cons (pv 0) (pa_cons (pe_op op_add (pe_op op_sub (pv 2) (pv 1)) pe_int) pa_nil)))))), ?_⟩
    refine s_retK hs (evi_op (g' := fun i j => i + j) (C := fun k => lo ≤ k ∧ k ≤ hi) (evi_of (i := lo) fun H1 e => ev_var rfl) (evk_pick (n := hi - lo + 1) (fun H1 e => ea_cons (ev_var rfl) (ea_cons (ev_add (ev_sub (ev_var rfl) (ev_var rfl)) ev_c) ea_nil)) (by omega)) fun i j hi' hj => ?_) fun v H1 e ⟨k, hv, hk⟩ => by rw [hv]; exact fin k H1 e hk.1 hk.2
    have := hj.lt (by omega)
    omega
theorem evk_within {s g : Addr} {σ : L2.St} {ta : TA} {E : XK} {lo hi : Int} (ha : ∀ H1, Le s g H H1 → EvA ta σ H1 [.ref s, .int lo, .int hi]) (h1 : lo ≤ hi) (h2 : hi - lo < 100000000) : EvK s g (tCall spWithin [] E ta) σ H (isI fun k => lo ≤ k ∧ k ≤ hi) := fun H1 e Q q =>
  ha H1 e H1 (Ex.refl H1) _ fun H2 e2 => ⟨s, g, lo, hi, rfl, e.src.ex e2, h1, h2, fun k H3 e3 hk1 hk2 => q _ H3 ((Le.of e.src e2).trans e3) ⟨k, rfl, hk1, hk2⟩⟩
def spOne : Sp := fun vs H Q _ => ∃ (s g p : Addr) (xs : List V), vs = [.ref s, .ref p] ∧ Src s g H ∧ H p = some (.lst xs) ∧ p ≠ g ∧ 0 < xs.length ∧ xs.length ≤ 1000000 ∧ ∀ (x : V) (H' : Hp), Le s g H H' → x ∈ xs → Q x H'
theorem ok_law_one (L : Lib K mg) {f : Addr} {fd : FuncData} (F : L2.Fun K "_law_one" "_law_one" s_law_one f fd) : FnOk P w K mg base CX0 2 f fd ["s", "things"] spOne := by
  obtain ⟨f_law_pick, fd_law_pick, F_law_pick⟩ := L.law_pick
  have G_law_pick : FnOk P w K mg base CX0 1 f_law_pick fd_law_pick _ spPick := ok_law_pick L F_law_pick.F
  refine F.ok sc_law_one (fun vs H Q E h => ?_) (fun cdv A outer s H vs Q E hr h => ?_)
  · obtain ⟨s, g, p, xs, rfl, _⟩ := h; rfl
  · obtain ⟨s, g, p, xs, rfl, hs, hp, hpg, hl, hl2, fin⟩ := h
    refine ⟨_, (pss_one (ps_ret (pe_ix ix_list (pv 1) (pe_call G_law_pick (hr.mono (by decide)) (by rfl) F_law_pick.g F_law_pick.F.kp F_law_pick.b .nil pass0 (pa_cons (pv 0) (pa_cons (pe_callB call_len_seq (by rfl) L.len (by decide +kernel) (pa_cons (pv 1) pa_nil)) pa_nil))) (fun _ _ => rfl)))), ?_⟩
    refine ⟨_, rfl, ?_⟩
    refine (evk_pick (s := s) (g := g) (H := H) (n := (xs.length : Int)) (fun H1 e => ea_cons (ev_var rfl) (ea_cons (ev_len (ev_var rfl) (sq_of (e.lst hs hp hpg))) ea_nil)) (by omega)) H (Le.refl hs) _ fun v H1 e ⟨k, hv, hk⟩ => ?_
    have hk := hk.lt (by omega)
    have hkl : k.toNat < xs.length := by omega
    refine ⟨p, xs, k, xs[k.toNat], rfl, hv, sq_of (e.lst hs hp hpg), ?_, fin _ H1 e (List.getElem_mem hkl)⟩
    exact at_of (j := k.toNat) (by omega) (List.getElem?_eq_getElem hkl)
def spMod : Sp := fun vs H Q _ => ∃ (s g : Addr), vs = [.ref s] ∧ Src s g H ∧ ∀ (M : Int) (H' : Hp), Le s g H H' → Md M → Q (.int M) H'
theorem ok_law_modulus (L : Lib K mg) {f : Addr} {fd : FuncData} (F : L2.Fun K "_law_modulus" "_law_modulus" s_law_modulus f fd) : FnOk P w K mg base CX0 3 f fd ["s"] spMod := by
  obtain ⟨f_law_one, fd_law_one, F_law_one⟩ := L.law_one
  have G_law_one : FnOk P w K mg base CX0 2 f_law_one fd_law_one _ spOne := ok_law_one L F_law_one.F
  refine F.ok sc_law_modulus (fun vs H Q E h => ?_) (fun cdv A outer s H vs Q E hr h => ?_)
  · obtain ⟨s, g, rfl, _⟩ := h; rfl
  · obtain ⟨s, g, rfl, hs, fin⟩ := h
    refine ⟨_, (pss_one (ps_ret (pe_call G_law_one (hr.mono (by decide)) (by rfl) F_law_one.g F_law_one.F.kp F_law_one.b .nil pass0 (pa_cons (pv 0) (pa_cons (pe_lst (pa_cons pe_int (pa_cons pe_int (pa_cons pe_int (pa_cons pe_int (pa_cons pe_int (pa_cons pe_int pa_nil))))))) pa_nil))))), ?_⟩
    refine ⟨_, rfl, by show 6 ≤ sizeLine; decide, fun p np => ?_⟩
    have ex : Ex H (upd H p (.lst [.int 0, .int 0, .int 0, .int 2, .int 3, .int 5])) := Ex.new np
    refine ⟨s, g, p, _, rfl, hs.ex ex, upd_same, hs.newG np, by decide, by decide, fun x H1 e hx => ?_⟩
    have hx : x = .int 0 ∨ x = .int 2 ∨ x = .int 3 ∨ x = .int 5 := by
      simp only [List.mem_cons, List.not_mem_nil, or_false] at hx
      rcases hx with h | h | h | h | h | h <;> simp [h]
    have Lf := (Le.of hs ex).trans e
    rcases hx with h | h | h | h <;> rw [h]
    · exact fin 0 H1 Lf (.inl rfl)
    · exact fin 2 H1 Lf (.inr (.inl rfl))
    · exact fin 3 H1 Lf (.inr (.inr (.inl rfl)))
    · exact fin 5 H1 Lf (.inr (.inr (.inr rfl)))
def NumOk (M k : Int) : Prop := (M ≠ 0 → 0 ≤ k ∧ k < M) ∧ (M = 0 → -1000000 ≤ k ∧ k ≤ 1000000)
def spNum : Sp := fun vs H Q _ => ∃ (s g : Addr) (M : Int), vs = [.ref s, .int M] ∧ Src s g H ∧ Md M ∧ ∀ (k : Int) (H' : Hp), Le s g H H' → NumOk M k → Q (.int k) H'
theorem ok_law_c_number (L : Lib K mg) {f : Addr} {fd : FuncData} (F : L2.Fun K "_law_c_number" "_law_c_number" s_law_c_number f fd) : FnOk P w K mg base CX0 3 f fd ["s", "M"] spNum := by
  obtain ⟨f_law_pick, fd_law_pick, F_law_pick⟩ := L.law_pick
  obtain ⟨f_law_within, fd_law_within, F_law_within⟩ := L.law_within
  have G_law_pick : FnOk P w K mg base CX0 1 f_law_pick fd_law_pick _ spPick := ok_law_pick L F_law_pick.F
  have G_law_within : FnOk P w K mg base CX0 2 f_law_within fd_law_within _ spWithin := ok_law_within L F_law_within.F
  refine F.ok sc_law_c_number (fun vs H Q E h => ?_) (fun cdv A outer s H vs Q E hr h => ?_)
  · obtain ⟨s, g, M, rfl, _⟩ := h; rfl
  · obtain ⟨s, g, M, rfl, hs, hm, fin⟩ := h
    refine ⟨_, (pss_cons (ps_if (pt_cmpR op_ne (pv 1) pe_int (nomark _))
      (pss_one (ps_ret (pe_call G_law_pick (hr.mono (by decide)) (by rfl) F_law_pick.g F_law_pick.F.kp F_law_pick.b .nil pass0 (pa_cons (pv 0) (pa_cons (pv 1) pa_nil)))))
      pss_nil)
    (pss_cons (ps_set (i := 2) sc_law_c_number.nd rfl (Or.inl rfl) (pe_call G_law_pick (hr.mono (by decide)) (by rfl) F_law_pick.g F_law_pick.F.kp F_law_pick.b .nil pass0 (pa_cons (pv 0) (pa_cons pe_int pa_nil))))
    (pss_one (ps_ret (pe_ifExp (pt_cmpR op_eq (pv 2) pe_int (nomark _)) (pe_call G_law_within (hr.mono (by decide)) (by rfl) F_law_within.g F_law_within.F.kp F_law_within.b .nil pass0 (pa_cons (pv 0) (pa_cons (pe_op op_sub pe_int pe_int) (pa_cons pe_int pa_nil)))) (pe_call G_law_within (hr.mono (by decide)) (by rfl) F_law_within.g F_law_within.F.kp F_law_within.b .nil pass0 (pa_cons (pv 0) (pa_cons (pe_op op_sub pe_int pe_int) (pa_cons pe_int pa_nil))))))))), ?_⟩
    refine q_when (et_test (ev_neI (ev_var rfl) ev_c)) (fun hb H1 e1 => ?_) (fun hb H1 e1 => ?_)
    · have hM := of_decide_eq_true hb
      have hM2 := hm.pos hM
      refine s_retK (hs.ex e1) (evk_pick (n := M) (fun H2 e => ea_cons (ev_var rfl) (ea_cons (ev_var rfl) ea_nil)) (by omega)) fun v H2 e2 ⟨k, hv, hk⟩ => ?_
      rw [hv]
      exact fin k H2 ((Le.of hs e1).trans e2) ⟨fun _ => hk.lt (by omega), fun h => absurd h hM⟩
    · have hM : M = 0 := by have := of_decide_eq_false hb; omega
      refine q_asgK (hs.ex e1) (evk_pick (n := 12) (fun H2 e => ea_cons (ev_var rfl) (ea_cons ev_c ea_nil)) (by decide)) fun v H2 e2 ⟨k, hv, hk⟩ => ?_
      subst hv
      have L2 := (Le.of hs e1).trans e2
      refine (et_test (b := decide (k = 0)) (ev_eqI (ev_var rfl) ev_c)) H2 (Ex.refl H2) _ fun H3 e3 => ?_
      have L3 := L2.trans (Le.of L2.src e3)
      by_cases hk0 : k = 0
      · rw [decide_eq_true hk0]
        refine iteT ?_
        refine (evk_within (s := s) (g := g) (H := H3) (lo := 0 - 1000000) (hi := 1000000) (fun H4 e => ea_cons (ev_var rfl) (ea_cons (ev_sub ev_c ev_c) (ea_cons ev_c ea_nil))) (by decide) (by decide)) H3 (Le.refl L3.src) _ fun v H4 e4 ⟨k, hv, hk⟩ => ?_
        rw [hv]
        exact fin k H4 (L3.trans e4) ⟨fun h => absurd hM h, fun _ => by omega⟩
      · rw [decide_eq_false hk0]
        refine iteF ?_
        refine (evk_within (s := s) (g := g) (H := H3) (lo := 0 - 6) (hi := 6) (fun H4 e => ea_cons (ev_var rfl) (ea_cons (ev_sub ev_c ev_c) (ea_cons ev_c ea_nil))) (by decide) (by decide)) H3 (Le.refl L3.src) _ fun v H4 e4 ⟨k, hv, hk⟩ => ?_
        rw [hv]
        exact fin k H4 (L3.trans e4) ⟨fun h => absurd hM h, fun _ => by omega⟩
end
end Mine
set_option Elab.async false
set_option linter.all false
set_option maxRecDepth 100000
set_option maxHeartbeats 4000000
namespace Mine
open PySem PySem.Spec PyProof.Rows L2 Evl
/-! ### permutations -/
theorem erase_perm {α : Type} : ∀ {l : List α} {k : Nat} {x : α}, l[k]? = some x → (x :: l.eraseIdx k).Perm l
  | y :: l, 0, x, h => by
    have e : y = x := Option.some.inj h
    subst e; exact List.Perm.refl _
  | y :: l, k + 1, x, h => by
    have ih := erase_perm (l := l) (k := k) (x := x) h
    show (x :: y :: l.eraseIdx k).Perm (y :: l)
    exact (List.Perm.swap y x _).trans (ih.cons y)
theorem perm_map {α β : Type} {f : α → β} {ys : List β} {l : List α} (h : ys.Perm (l.map f)) : ∃ l' : List α, l'.Perm l ∧ ys = l'.map f := by
  have gen : ∀ {ys zs : List β}, ys.Perm zs → ∀ l : List α, zs = l.map f → ∃ l' : List α, l'.Perm l ∧ ys = l'.map f := by
    intro ys zs h
    induction h with
    | nil => intro l e; exact ⟨l, List.Perm.refl _, e⟩
    | cons x h ih =>
      intro l e
      cases l with
      | nil => cases e
      | cons a l =>
        rw [List.map_cons] at e
        injection e with e1 e2
        obtain ⟨l', h1, h2⟩ := ih l e2
        exact ⟨a :: l', h1.cons a, by rw [List.map_cons, e1, h2]⟩
    | swap x y t =>
      intro l e
      match l, e with
      | [], e => cases e
      | [_], e => cases e
      | a :: b :: l, e =>
        rw [List.map_cons, List.map_cons] at e
        injection e with e1 e2
        injection e2 with e2 e3
        exact ⟨b :: a :: l, List.Perm.swap a b l, by rw [List.map_cons, List.map_cons, e1, e2, e3]⟩
    | trans h1 h2 ih1 ih2 =>
      intro l e
      obtain ⟨l2, p2, e2⟩ := ih2 l e
      obtain ⟨l1, p1, e1⟩ := ih1 l2 e2
      exact ⟨l1, p1.trans p2, e1⟩
  exact gen h l rfl
section
variable {K : PySem.W.Frag} {σ : L2.St} {H H' : Hp} {ta tb te tf tx tl : TE} {t u : TT} {x y z v w1 : V} {D : Ends} {tu tw tz : TS}
/-- a, b = [..], [..] | [..], v -/
theorem q_parLL {i j : Nat} {xs ys : List V} (h : EvL te σ H xs) (h2 : ∀ H1, Ex H H1 → EvL tf σ H1 ys) (k : ∀ p q H1, H p = none → H q = none → p ≠ q → Ex H H1 → H1 p = some (.lst xs) → H1 q = some (.lst ys) → tz D ((σ.set i (some (.ref p))).set j (some (.ref q))) H1) : tSeq (tPar i j (tCons te (tCons tf tNil))) tz D σ H :=
  h H (Ex.refl H) _ fun p H1 np e1 h1 => h2 H1 e1 H1 (Ex.refl H1) _ fun q H2 nq e2 h2 => ⟨_, _, rfl, k p q H2 np (fresh_back e1 nq) (ne_of_none h1 nq) (e1.trans e2) (e2 _ _ h1) h2⟩
theorem q_parLV {i j : Nat} {xs : List V} (h : EvL te σ H xs) (h2 : ∀ H1, Ex H H1 → Ev tf σ H1 v) (k : ∀ p H1, H p = none → Ex H H1 → H1 p = some (.lst xs) → tz D ((σ.set i (some (.ref p))).set j (some v)) H1) : tSeq (tPar i j (tCons te (tCons tf tNil))) tz D σ H :=
  h H (Ex.refl H) _ fun p H1 np e1 h1 => h2 H1 e1 H1 (Ex.refl H1) _ fun H2 e2 => ⟨_, _, rfl, k p H2 np (e1.trans e2) (e2 _ _ h1)⟩
end
section
variable {P : Program} {w : World} {K : PySem.W.Frag} {mg : Str → Option Value} {base : Heap} {H : Hp}
/-! ### shuffled, some -/
def spShuf : Sp := fun vs H Q _ => ∃ (s g p : Addr) (xs : List V), vs = [.ref s, .ref p] ∧ Src s g H ∧ H p = some (.lst xs) ∧ p ≠ g ∧ xs.length ≤ 1000 ∧
  ∀ (q : Addr) (ys : List V) (H' : Hp), Le s g H H' → H q = none → H' q = some (.lst ys) → ys.Perm xs → Q (.ref q) H'
theorem ok_law_shuffled (L : Lib K mg) {f : Addr} {fd : FuncData} (F : L2.Fun K "_law_shuffled" "_law_shuffled" s_law_shuffled f fd) : FnOk P w K mg base CX0 2 f fd ["s", "things"] spShuf := by
  obtain ⟨f_law_pick, fd_law_pick, F_law_pick⟩ := L.law_pick
  have G_law_pick : FnOk P w K mg base CX0 1 f_law_pick fd_law_pick _ spPick := ok_law_pick L F_law_pick.F
  refine F.ok sc_law_shuffled (fun vs H Q E h => ?_) (fun cdv A outer s H vs Q E hr h => ?_)
  · obtain ⟨s, g, p, xs, rfl, _⟩ := h; rfl
  · obtain ⟨s, g, p, xs, rfl, hs, hp, hpg, hl, fin⟩ := h
    refine ⟨_, (pss_cons (ps_par (i := 2) (j := 3) rfl sc_law_shuffled.nd rfl rfl (by decide) rfl rfl (pa_cons (pe_callTy call_list_of (by rfl) L.list (by decide +kernel) (pa_cons (pv 1) pa_nil)) (pa_cons (pe_lst pa_nil) pa_nil)) (by rfl))
    (pss_cons (ps_for PassesOwn.never rfl (pi_range1 (by rfl) L.range (pa_cons (pe_callB call_len_seq (by rfl) L.len (by decide +kernel) (pa_cons (pv 1) pa_nil)) pa_nil)) (pg_name (i := 4) sc_law_shuffled.nd rfl (Or.inl rfl))
      (pss_one (ps_expr (pe_bm PySem.F.plainAttrs_list PySem.F.slot_list_append PySem.F.type_list_append mt_append (pv 3) (pa_cons (pe_bm PySem.F.plainAttrs_list PySem.F.slot_list_pop PySem.F.type_list_pop mt_popAt (pv 2) (pa_cons (pe_call G_law_pick (hr.mono (by decide)) (by rfl) F_law_pick.g F_law_pick.F.kp F_law_pick.b .nil pass0 (pa_cons (pv 0) (pa_cons (pe_callB call_len_seq (by rfl) L.len (by decide +kernel) (pa_cons (pv 2) pa_nil)) pa_nil))) pa_nil)) pa_nil)))))
    (pss_one (ps_ret (pv 3))))), ?_⟩
    refine q_parLL (el_list (ev_var rfl) (sq_of hp)) (fun H1 e1 => el_lst ea_nil (by simp)) fun l t H1 nl ntH lt e1 hl1 ht1 => ?_
    refine q_forR1 (n := (xs.length : Nat)) (ea_cons (ev_len (ev_var rfl) (sq_of (e1 _ _ hp))) ea_nil) (by omega) (fun i σ' H' => ∃ (ls ts : List V) (v4 : Option V), σ' = [some (.ref s), some (.ref p), some (.ref l), some (.ref t), v4] ∧ Le s g H H' ∧ H' l = some (.lst ls) ∧ H' t = some (.lst ts) ∧ (ts ++ ls).Perm xs ∧ ts.length = i)
      (fun H3 e3 => ⟨xs, [], none, rfl, Le.of hs (e1.trans e3), e3 _ _ hl1, e3 _ _ ht1, List.Perm.refl _, rfl⟩) ?_ ?_
    · rintro i σ' H' hi ⟨ls, ts, v4, rfl, Lh, hl3, ht3, hperm, hct⟩
      have hi : i < xs.length := by omega
      have hlen := hperm.length_eq
      rw [List.length_append] at hlen
      have lng : l ≠ g := hs.newG nl
      have tng : t ≠ g := hs.newG ntH
      refine ⟨_, rfl, .inl ⟨rfl, _, sq_of ht3⟩, ?_⟩
      refine ⟨_, rfl, .inl ⟨rfl, _, sq_of hl3⟩, ?_⟩
      refine (evk_pick (s := s) (g := g) (H := H') (n := (ls.length : Int)) (fun H1 e => ea_cons (ev_var rfl) (ea_cons (ev_len (ev_var rfl) (sq_of (e.lst Lh.src hl3 lng))) ea_nil)) (by omega)) H' (Le.refl Lh.src) _ fun v H4 e4 ⟨k, hv, hk⟩ => ?_
      have hk := hk.lt (by omega)
      have hkl : k.toNat < ls.length := by omega
      have hx := List.getElem?_eq_getElem hkl
      have hl4 := e4.lst Lh.src hl3 lng
      have ht4 := e4.lst Lh.src ht3 tng
      have Lh4 := Lh.trans e4
      refine ⟨l, ls, k, k.toNat, ls[k.toNat], rfl, by rw [hv], hl4, by omega, by omega, ?_, hx, ?_⟩
      · have : (decide (0 ≤ k) && decide (k < (ls.length : Int))) = true := by simp; omega
        simp only [seqIndex?, show ¬ k < 0 by omega, if_false, this, if_true]
      · refine ⟨t, ts, _, rfl, rfl, by rw [upd_ne lt.symm]; exact ht4, sz_lt (by omega), ?_⟩
        refine ⟨ls.eraseIdx k.toNat, ts ++ [ls[k.toNat]], _, rfl, (Lh4.mut hs nl).mut hs ntH, by rw [upd_ne lt, upd_same], upd_same, ?_, by rw [List.length_append, hct]; rfl⟩
        rw [List.append_assoc]
        exact (List.Perm.append_left ts (erase_perm hx)).trans hperm
    · rintro σ' H' ⟨ls, ts, v4, rfl, Lh, hl3, ht3, hperm, hct⟩
      have hct : ts.length = xs.length := by simpa using hct
      have hlen := hperm.length_eq
      rw [List.length_append] at hlen
      have : ls = [] := List.length_eq_zero_iff.mp (by omega)
      subst this
      rw [List.append_nil] at hperm
      exact ⟨_, rfl, fin t ts H' Lh ntH ht3 hperm⟩
def spSome : Sp := fun vs H Q _ => ∃ (s g p : Addr) (xs : List V) (n : Nat), vs = [.ref s, .ref p, .int (n : Nat)] ∧ Src s g H ∧ H p = some (.lst xs) ∧ p ≠ g ∧ xs.length ≤ 1000 ∧
  ∀ (q : Addr) (ys : List V) (H' : Hp), Le s g H H' → H q = none → H' q = some (.lst (ys.take n)) → ys.Perm xs → Q (.ref q) H'
theorem cutV_take (ys : List V) (n : Nat) : cutV ys none (some (n : Int)) = ys.take n := by
  unfold cutV
  rw [show HT.sIx ys.length ys.length (some (n : Int)) = min n ys.length from HT.sIx_nat ys.length ys.length n, HT.sIx_none, Nat.sub_zero, List.drop_zero]
  by_cases h : n ≤ ys.length
  · rw [Nat.min_eq_left h]
  · rw [Nat.min_eq_right (by omega), List.take_of_length_le (Nat.le_refl _), List.take_of_length_le (by omega)]
theorem ok_law_some (L : Lib K mg) {f : Addr} {fd : FuncData} (F : L2.Fun K "_law_some" "_law_some" s_law_some f fd) : FnOk P w K mg base CX0 3 f fd ["s", "things", "many"] spSome := by
  obtain ⟨f_law_shuffled, fd_law_shuffled, F_law_shuffled⟩ := L.law_shuffled
  have G_law_shuffled : FnOk P w K mg base CX0 2 f_law_shuffled fd_law_shuffled _ spShuf := ok_law_shuffled L F_law_shuffled.F
  refine F.ok sc_law_some (fun vs H Q E h => ?_) (fun cdv A outer s H vs Q E hr h => ?_)
  · obtain ⟨s, g, p, xs, n, rfl, _⟩ := h; rfl
  · obtain ⟨s, g, p, xs, n, rfl, hs, hp, hpg, hl, fin⟩ := h
    refine ⟨_, (pss_one (ps_ret (pe_slice sl_list (pe_call G_law_shuffled (hr.mono (by decide)) (by rfl) F_law_shuffled.g F_law_shuffled.F.kp F_law_shuffled.b .nil pass0 (pa_cons (pv 0) (pa_cons (pv 1) pa_nil))) po_none (po_some (pv 2))))), ?_⟩
    refine ⟨_, rfl, _, rfl, s, g, p, xs, rfl, hs, hp, hpg, hl, fun q ys H1 e1 nq hq hperm => ?_⟩
    refine ⟨_, rfl, _, rfl, q, ys, rfl, sq_of hq, fun r nr => ?_⟩
    rw [cutV_take]
    exact fin r ys _ (e1.trans (Le.of e1.src (Ex.new nr))) (e1.back nr) upd_same hperm
/-! ### source -/
def spSource (K : PySem.W.Frag) : Sp := fun vs H Q _ => ∃ (a : Addr) (ns : List Int), vs = [.ref a, .int 0] ∧ SqL K H a (ns.map V.int) ∧ ns.length ≤ 63 ∧ ∀ (s g : Addr) (H' : Hp), Ex H H' → Src s g H' → H s = none → H g = none → Q (.ref s) H'
theorem ok_law_source (L : Lib K mg) {f : Addr} {fd : FuncData} (F : L2.Fun K "_law_source" "_law_source" s_law_source f fd) : FnOk P w K mg base CX0 1 f fd ["script", "at"] (spSource K) := by
  refine F.ok sc_law_source (fun vs H Q E h => ?_) (fun cdv A outer s H vs Q E hr h => ?_)
  · obtain ⟨a, ns, rfl, _⟩ := h; rfl
  · obtain ⟨a, ns, rfl, hS, hl, fin⟩ := h
    refine ⟨_, (pss_cons (ps_par (i := 2) (j := 3) rfl sc_law_source.nd rfl rfl (by decide) rfl rfl (pa_cons (pe_lst pa_nil) (pa_cons (pe_op op_add pe_int (pv 1)) pa_nil)) (by rfl))
    (pss_cons (ps_for PassesOwn.never rfl (pi_range1 (by rfl) L.range (pa_cons (pe_callB (call_min2 rfl) (by rfl) L.min (by decide +kernel) (pa_cons (pe_callB call_len_seq (by rfl) L.len (by decide +kernel) (pa_cons (pv 0) pa_nil)) (pa_cons pe_int pa_nil))) pa_nil)) (pg_name (i := 4) sc_law_source.nd rfl (Or.inl rfl))
      (pss_cons (ps_set (i := 5) sc_law_source.nd rfl (Or.inl rfl) (pe_callTy call_int1 (by rfl) L.int (by decide +kernel) (pa_cons (pe_ix ix_list (pv 0) (pe_op op_mod (pe_op op_add (pv 1) (pv 4)) (pe_callB (call_min2 rfl) (by rfl) L.min (by decide +kernel) (pa_cons (pe_callB call_len_seq (by rfl) L.len (by decide +kernel) (pa_cons (pv 0) pa_nil)) (pa_cons pe_int pa_nil)))) (fun _ _ => rfl)) pa_nil)))
    (pss_cons (ps_set (i := 3) sc_law_source.nd rfl (Or.inl rfl) (pe_op op_mod (pe_callTy call_int1 (by rfl) L.int (by decide +kernel) (pa_cons (pe_op op_add (pe_op op_add (pe_op op_mul (pv 3) pe_int) (pe_op op_mod (pv 5) pe_int)) pe_int) pa_nil)) pe_int))
    (pss_one (ps_if (pt_cmpR op_ge (pe_callB call_abs (by rfl) L.abs (by decide +kernel) (pa_cons (pv 5) pa_nil)) (pe_op op_pow pe_int pe_int) (nomark _))
      (pss_one (ps_expr (pe_bm PySem.F.plainAttrs_list PySem.F.slot_list_append PySem.F.type_list_append mt_append (pv 2) (pa_cons (pe_callB call_abs (by rfl) L.abs (by decide +kernel) (pa_cons (pv 5) pa_nil)) pa_nil))))
      pss_nil)))))
    (pss_one (ps_ret (pe_disp (pps_cons pe_str (pv 2) (pps_cons pe_str pe_int (pps_cons pe_str (pv 3) (pps_cons pe_str pe_int pps_nil)))) (by rfl) (by rfl) (fun z => by cases z) (by decide)))))), ?_⟩
    refine q_parLV (el_lst ea_nil (by simp)) (fun H1 e1 => ev_add ev_c (ev_var rfl)) fun g H1 ng e1 hg1 => ?_
    have hS1 : SqL K H1 a (iL ns) := ex_l e1 hS
    have evMin : ∀ {σ : L2.St} {H2 : Hp}, Ex H1 H2 ∨ SqL K H2 a (iL ns) → σ[0]? = some (some (.ref a)) → Ev (tCB (fun xs H Q => ∃ i j, xs = [.int i, .int j] ∧ Q (.int (if j < i then j else i)) H) (tCons (tCB (rLenS K) (tCons (tVar 0) tNil)) (tCons (tC (.int 63)) tNil))) σ H2 (.int (ns.length : Int)) := fun {σ H2} e h0 => by
      have hq : SqL K H2 a (iL ns) := e.elim (fun e => ex_l e hS1) id
      refine ev_is (ev_cb (vs := [.int (ns.length : Int), .int 63]) (z := .int (if (63 : Int) < ns.length then 63 else (ns.length : Int))) (ea_cons (ev_is (ev_len (ev_var h0) hq) (by rw [iL_len])) (ea_cons ev_c ea_nil)) fun H3 e3 Q q => ⟨_, _, rfl, q H3 (Ex.refl H3)⟩) ?_
      rw [if_neg (by omega)]
    refine q_forR1 (n := (ns.length : Nat)) (ea_cons (evMin (.inl (Ex.refl _)) rfl) ea_nil) (by omega) (fun i σ' H' => ∃ (gs : Row) (st : Int) (v4 v5 : Option V), σ' = [some (.ref a), some (.int 0), some (.ref g), some (.int st), v4, v5] ∧ Ex H H' ∧ H' g = some (.lst (iL gs)) ∧ gs.length ≤ i)
      (fun H3 e3 => ⟨[], _, none, none, rfl, e1.trans e3, e3 _ _ hg1, Nat.le_refl _⟩) ?_ ?_
    · rintro i σ' H' hi ⟨gs, st, v4, v5, rfl, ex, hg, hgl⟩
      have hi : i < ns.length := by omega
      have hq : SqL K H' a (iL ns) := ex_l ex hS
      refine q_asg (v := .int (en ns i)) (ev_int (ev_ix (ev_var rfl) (ev_is (ev_mod (ev_add (ev_var rfl) (ev_var rfl)) (evMin (.inr hq) rfl) (by omega)) (by rw [Int.zero_add, Int.emod_eq_of_lt (by omega) (by omega)])) hq (iL_en hi))) fun H2 e2 => ?_
      refine q_asg (ev_mod (ev_int (ev_add (ev_add (ev_mul (ev_var rfl) ev_c (.inr ⟨by decide, by decide⟩)) (ev_mod (ev_var rfl) ev_c (by decide))) ev_c)) ev_c (by decide)) fun H3 e3 => ?_
      have ex3 := (ex.trans e2).trans e3
      have hg3 := (e2.trans e3) _ _ hg
      refine s_when (et_test (ev_ge (ev_abs (ev_var rfl)) (ev_op ev_c ev_c (rv_I (g := fun i j => .int (i ^ j.toNat)) ⟨by decide, by decide, by decide⟩)))) (fun hb H4 e4 => ?_) (fun hb H4 e4 => ⟨gs, _, _, _, rfl, ex3.trans e4, e4 _ _ hg3, by omega⟩)
      refine s_app (e4 _ _ hg3) (ev_var rfl) (ev_abs (ev_var rfl)) (by rw [iL_len]; omega) fun H5 e5 => ?_
      refine ⟨gs ++ [if en ns i < 0 then -(en ns i) else en ns i], _, _, _, rfl, Ex.mut ((ex3.trans e4).trans e5) ng, ?_, by rw [List.length_append, List.length_singleton]; omega⟩
      rw [upd_same]; unfold iL; rw [List.map_append]; rfl
    · rintro σ' H' ⟨gs, st, v4, v5, rfl, ex, hg, hgl⟩
      intro s ns'
      have e2 : Ex H' (upd H' s (.dK [])) := Ex.new ns'
      have sg : s ≠ g := (ne_of_none hg ns').symm
      refine ⟨_, rfl, _, rfl, ?_⟩
      refine ⟨upd_same, kvS g 0 st 0, rfl, by show 4 ≤ 15; decide, ?_⟩
      have hm : mergeK [] (kvS g 0 st 0) = kvS g 0 st 0 := by
        unfold mergeK kvS
        simp only [List.foldl_cons, List.foldl_nil]
        rw [putK_new (k := kG) _ valV_nil, putK_new (k := kB) _ (by simp [valV, xGB]), putK_new (k := kT) _ (by simp [valV, xGT, xBT]), putK_new (k := kE) _ (by simp [valV, xGE, xBE, xTE])]
        rfl
      rw [hm]
      refine fin s g _ ?_ ⟨gs, 0, st, 0, upd_same, by rw [upd_ne sg.symm, upd_ne sg.symm]; exact hg⟩ (fresh_back ex ns') ng
      intro b o hb
      have hb' := ex b o hb
      have bs : b ≠ s := ne_of_none hb' ns'
      rw [upd_ne bs, upd_ne bs]; exact hb'
end
end Mine
set_option Elab.async false
set_option linter.all false
set_option maxRecDepth 100000
set_option maxHeartbeats 4000000
namespace Mine
open PySem PySem.Spec PyProof.Rows L2 Evl
/-! ### drawn reduced rows -/
structure RowOk (M : Int) (wd p : Nat) (r : Row) : Prop where
  len : r.length = wd
  pw : p < wd
  z : ∀ j, j < p → en r j = 0
  pos : 0 < en r p
  six : en r p ≤ 6
  one : M ≠ 0 → en r p = 1
  rng : Rng M r
  bnd : ∀ j, (en r j).natAbs ≤ 1000000
def AllOk (M : Int) (wd : Nat) (pv : List Nat) (ps : List AR) : Prop := ∀ (t p : Nat) (x : AR), pv[t]? = some p → ps[t]? = some x → RowOk M wd p x.2
def RedTo (pv : List Nat) (ps : List AR) (j i : Nat) : Prop := ∀ (i' j' p : Nat) (x y : AR), i' < j' → (j' < j ∨ (j' = j ∧ i' < i)) → pv[j']? = some p → ps[i']? = some x → ps[j']? = some y → 0 ≤ en x.2 p ∧ en x.2 p < en y.2 p
theorem ech_of {M : Int} {wd : Nat} : ∀ {pv : List Nat} {rs : List Row} {lo : Nat}, pv.Pairwise (· < ·) → (∀ p ∈ pv, lo ≤ p) → pv.length = rs.length → (∀ (t p : Nat) (r : Row), pv[t]? = some p → rs[t]? = some r → RowOk M wd p r) → Ech M wd lo (pv.zip rs)
  | [], _, _, _, _, _, _ => by simp [Ech]
  | p :: pv, [], _, _, _, h, _ => by simp at h
  | p :: pv, r :: rs, lo, hp, hl, h, ho => by
    have o := ho 0 p r rfl rfl
    obtain ⟨h1, h2⟩ := List.pairwise_cons.mp hp
    show Ech M wd lo ((p, r) :: pv.zip rs)
    exact ⟨hl p (List.mem_cons_self ..), o.pw, o.z, o.pos, o.one, ech_of h2 (fun q hq => h1 q hq) (by simpa using h) fun t q s hq hs => ho (t + 1) q s (by simpa using hq) (by simpa using hs)⟩
theorem herm_of {M : Int} {wd : Nat} {pv : List Nat} {ps : List AR} (hp : pv.Pairwise (· < ·)) (hl : pv.length = ps.length) (ho : AllOk M wd pv ps) (hr : RedTo pv ps ps.length 0) : Herm M wd (pv.zip (rws ps)) ∧ (pv.zip (rws ps)).map (·.2) = rws ps := by
  have hl2 : pv.length = (rws ps).length := by rw [rws_len]; exact hl
  have at_ : ∀ (t : Nat) (d : Nat × Row), (pv.zip (rws ps))[t]? = some d → ∃ x, pv[t]? = some d.1 ∧ ps[t]? = some x ∧ x.2 = d.2 := fun t d h => by
    have := List.getElem?_zip_eq_some.mp h
    obtain ⟨h1, h2⟩ := this
    unfold rws at h2
    rw [List.getElem?_map] at h2
    obtain ⟨x, hx, e⟩ := Option.map_eq_some_iff.mp h2
    exact ⟨x, h1, hx, e⟩
  refine ⟨⟨ech_of hp (fun _ _ => Nat.zero_le _) hl2 fun t p r hp' hr' => ?_, fun d hd => ?_, ?_, fun d hd => ?_⟩, ?_⟩
  · unfold rws at hr'
    rw [List.getElem?_map] at hr'
    obtain ⟨x, hx, e⟩ := Option.map_eq_some_iff.mp hr'
    rw [← e]; exact ho t p x hp' hx
  · obtain ⟨t, ht⟩ := List.getElem?_of_mem hd
    obtain ⟨x, h1, h2, h3⟩ := at_ t d ht
    rw [← h3]; exact (ho t _ x h1 h2).len
  · rw [List.pairwise_iff_getElem]
    intro i j hi hj hij
    obtain ⟨x, h1, h2, h3⟩ := at_ i _ (List.getElem?_eq_getElem hi)
    obtain ⟨y, k1, k2, k3⟩ := at_ j _ (List.getElem?_eq_getElem hj)
    rw [← h3, ← k3]
    exact hr i j _ x y hij (.inl (List.getElem?_eq_some_iff.mp k2).1) k1 h2 k2
  · obtain ⟨t, ht⟩ := List.getElem?_of_mem hd
    obtain ⟨x, h1, h2, h3⟩ := at_ t d ht
    rw [← h3]; exact (ho t _ x h1 h2).rng
  · exact List.map_snd_zip (by omega)
theorem AllOk.set {M : Int} {wd : Nat} {pv : List Nat} {ps : List AR} (ho : AllOk M wd pv ps) {i q p : Nat} {x : AR} {v : Int} (hq : pv[i]? = some q) (hx : ps[i]? = some x) (hqp : q < p) (hpw : p < wd) (hv : M ≠ 0 → 0 ≤ v ∧ v < M) (hb : v.natAbs ≤ 1000000) : AllOk M wd pv (ps.set i (x.1, x.2.set p v)) := by
  intro t r y ht hy
  rw [List.getElem?_set] at hy
  by_cases hit : i = t
  · subst hit
    rw [if_pos rfl, if_pos (List.getElem?_eq_some_iff.mp hx).1] at hy
    have e := Option.some.inj hy
    subst e
    rw [hq] at ht
    have e2 := Option.some.inj ht
    subst e2
    have o := ho i q x hq hx
    have hpl : p < x.2.length := by rw [o.len]; exact hpw
    have e : ∀ j, en (x.2.set p v) j = if j = p then v else en x.2 j := fun j => en_set hpl
    have eq : en (x.2.set p v) q = en x.2 q := by rw [e, if_neg (by omega)]
    refine ⟨by rw [List.length_set]; exact o.len, o.pw, fun j hj => ?_, ?_, ?_, ?_, fun hM j => ?_, fun j => ?_⟩
    · show en (x.2.set p v) j = 0
      rw [e, if_neg (by omega)]; exact o.z j hj
    · show 0 < en (x.2.set p v) q
      rw [eq]; exact o.pos
    · show en (x.2.set p v) q ≤ 6
      rw [eq]; exact o.six
    · show M ≠ 0 → en (x.2.set p v) q = 1
      rw [eq]; exact o.one
    · show 0 ≤ en (x.2.set p v) j ∧ en (x.2.set p v) j < M
      rw [e]
      split
      · exact hv hM
      · exact o.rng hM j
    · show (en (x.2.set p v) j).natAbs ≤ 1000000
      rw [e]
      split
      · exact hb
      · exact o.bnd j
  · rw [if_neg hit] at hy
    exact ho t r y ht hy
theorem RedTo.set {M : Int} {wd : Nat} {pv : List Nat} {ps : List AR} (hp : pv.Pairwise (· < ·)) (ho : AllOk M wd pv ps) {i j q p : Nat} {x y : AR} {v : Int} (hr : RedTo pv ps j i) (hij : i < j) (hq : pv[i]? = some q) (hpj : pv[j]? = some p) (hx : ps[i]? = some x) (hy : ps[j]? = some y) (hv : 0 ≤ v ∧ v < en y.2 p) :
    RedTo pv (ps.set i (x.1, x.2.set p v)) j (i + 1) := by
  intro i' j' p' x' y' hlt hor hp' hx' hy'
  have mono : ∀ {a b pa pb : Nat}, a < b → pv[a]? = some pa → pv[b]? = some pb → pa < pb := fun {a b pa pb} hab ha hb => by
    obtain ⟨la, ea⟩ := List.getElem?_eq_some_iff.mp ha
    obtain ⟨lb, eb⟩ := List.getElem?_eq_some_iff.mp hb
    rw [← ea, ← eb]; exact List.pairwise_iff_getElem.mp hp a b la lb hab
  have o := ho i q x hq hx
  have oj := ho j p y hpj hy
  have hpl : p < x.2.length := by rw [o.len]; exact oj.pw
  have e : ∀ k, en (x.2.set p v) k = if k = p then v else en x.2 k := fun k => en_set hpl
  have hil := (List.getElem?_eq_some_iff.mp hx).1
  rw [List.getElem?_set] at hx' hy'
  by_cases h1 : i = i'
  · subst h1
    rw [if_pos rfl, if_pos hil] at hx'
    rw [if_neg (by omega)] at hy'
    have ex := Option.some.inj hx'
    subst ex
    show 0 ≤ en (x.2.set p v) p' ∧ en (x.2.set p v) p' < en y'.2 p'
    by_cases h2 : j' = j
    · subst h2
      rw [hpj] at hp'
      have e2 := Option.some.inj hp'
      subst e2
      rw [hy] at hy'
      have e3 := Option.some.inj hy'
      subst e3
      rw [e, if_pos rfl]; exact hv
    · have hjj : j' < j := by omega
      have := mono hjj hp' hpj
      rw [e, if_neg (by omega)]
      exact hr i j' p' x y' hlt (.inl hjj) hp' hx hy'
  · rw [if_neg h1] at hx'
    by_cases h2 : i = j'
    · subst h2
      rw [if_pos rfl, if_pos hil] at hy'
      have ey := Option.some.inj hy'
      subst ey
      rw [hq] at hp'
      have e2 := Option.some.inj hp'
      subst e2
      show 0 ≤ en x'.2 q ∧ en x'.2 q < en (x.2.set p v) q
      have := mono hij hq hpj
      rw [e, if_neg (by omega)]
      exact hr i' i q x' x hlt (.inl hij) hq hx' hx
    · rw [if_neg h2] at hy'
      exact hr i' j' p' x' y' hlt (by omega) hp' hx' hy'
def nats (pv : List Nat) : Row := pv.map fun p => Int.ofNat p
theorem nats_at {pv : List Nat} {i p : Nat} (h : pv[i]? = some p) : (nats pv)[i]? = some (p : Int) := by unfold nats; rw [List.getElem?_map, h]; rfl
theorem Rws.set {H : Hp} {ps : List AR} {i : Nat} {x : AR} {r : Row} (h : Rws H ps) (hn : (ps.map (·.1)).Nodup) (hx : ps[i]? = some x) : Rws (L2.upd H x.1 (.lst (iL r))) (ps.set i (x.1, r)) := by
  intro y hy
  obtain ⟨t, ht⟩ := List.getElem?_of_mem hy
  rw [List.getElem?_set] at ht
  by_cases hit : i = t
  · subst hit
    rw [if_pos rfl, if_pos (List.getElem?_eq_some_iff.mp hx).1] at ht
    rw [← Option.some.inj ht, upd_same]
  · rw [if_neg hit] at ht
    have : y.1 ≠ x.1 := fun e => hit (nd_ix hn (i := i) (j := t) (x := x.1) (by rw [List.getElem?_map, hx]; rfl) (by rw [List.getElem?_map, ht, ← e]; rfl))
    rw [upd_ne this]
    exact h y (List.mem_of_getElem? ht)
theorem adr_set {ps : List AR} {i : Nat} {x : AR} {r : Row} (hx : ps[i]? = some x) : adr (ps.set i (x.1, r)) = adr ps := by
  unfold adr
  rw [List.map_set]
  apply List.ext_getElem?
  intro t
  rw [List.getElem?_set]
  split
  · rename_i e
    subst e
    rw [List.getElem?_map, hx]
    simp [(List.getElem?_eq_some_iff.mp hx).1]
  · rfl
theorem fst_set {ps : List AR} {i : Nat} {x : AR} {r : Row} (hx : ps[i]? = some x) : (ps.set i (x.1, r)).map (·.1) = ps.map (·.1) := by
  rw [List.map_set]
  apply List.ext_getElem?
  intro t
  rw [List.getElem?_set]
  split
  · rename_i e
    subst e
    rw [List.getElem?_map, hx]
    simp [(List.getElem?_eq_some_iff.mp hx).1]
  · rfl
section
variable {K : PySem.W.Frag} {σ : L2.St} {H H' : Hp} {ta tb te tf tx tl : TE} {t u : TT} {x y z v w1 : V} {D : Ends} {tu tw tz : TS}
theorem q_par3L {i j l : Nat} {xs ys : List V} {tg : TE} (h : EvL te σ H xs) (h2 : ∀ H1, Ex H H1 → Ev tg σ H1 v) (h3 : ∀ H1, Ex H H1 → EvL tf σ H1 ys) (k : ∀ p q H1, H p = none → H q = none → p ≠ q → Ex H H1 → H1 p = some (.lst xs) → H1 q = some (.lst ys) → tz D (((σ.set i (some (.ref p))).set j (some v)).set l (some (.ref q))) H1) :
    tSeq (tPar3 i j l (tCons te (tCons tg (tCons tf tNil)))) tz D σ H :=
  h H (Ex.refl H) _ fun p H1 np e1 h1 => h2 H1 e1 H1 (Ex.refl H1) _ fun H2 e2 => h3 H2 (e1.trans e2) H2 (Ex.refl H2) _ fun q H3 nq e3 h4 => ⟨_, _, _, rfl, k p q H3 np (fresh_back (e1.trans e2) nq) (ne_of_none (e2 _ _ h1) nq) ((e1.trans e2).trans e3) ((e2.trans e3) _ _ h1) h4⟩
end
section
variable {P : Program} {w : World} {K : PySem.W.Frag} {mg : Str → Option Value} {base : Heap} {H : Hp}
def spReduced : Sp := fun vs H Q _ => ∃ (s g : Addr) (wd : Nat) (M : Int), vs = [.ref s, .int (wd : Nat), .int M] ∧ Src s g H ∧ Md M ∧ wd ≤ 4 ∧
  ∀ (p : Addr) (ps : List AR) (D : List (Nat × Row)) (H' : Hp), Le s g H H' → H p = none → H' p = some (.lst (adr ps)) → Rws H' ps → (∀ x ∈ ps, H x.1 = none) → (∀ x ∈ ps, x.1 ≠ p) → Herm M wd D → D.map (·.2) = rws ps → (∀ r ∈ rws ps, ∀ j, (en r j).natAbs ≤ 1000000) → ps.length ≤ 4 → Q (.ref p) H'
theorem ok_law_c_reduced (L : Lib K mg) {f : Addr} {fd : FuncData} (F : L2.Fun K "_law_c_reduced" "_law_c_reduced" s_law_c_reduced f fd) : FnOk P w K mg base CX0 4 f fd ["s", "width", "M"] spReduced := by
  obtain ⟨f_law_c_number, fd_law_c_number, F_law_c_number⟩ := L.law_c_number
  obtain ⟨f_law_pick, fd_law_pick, F_law_pick⟩ := L.law_pick
  have G_law_c_number : FnOk P w K mg base CX0 3 f_law_c_number fd_law_c_number _ spNum := ok_law_c_number L F_law_c_number.F
  have G_law_pick : FnOk P w K mg base CX0 1 f_law_pick fd_law_pick _ spPick := ok_law_pick L F_law_pick.F
  refine F.ok sc_law_c_reduced (fun vs H Q E h => ?_) (fun cdv A outer s H vs Q E hr h => ?_)
  · obtain ⟨s, g, wd, M, rfl, _⟩ := h; rfl
  · obtain ⟨s, g, wd, M, rfl, hs, hm, hwd, fin⟩ := h
    refine ⟨_, (pss_cons (ps_par3 (i := 3) (j := 4) (l := 5) rfl sc_law_c_reduced.nd rfl rfl rfl (by decide) (by decide) (by decide) rfl rfl rfl (pa_cons (pe_lst pa_nil) (pa_cons pe_int (pa_cons (pe_lst pa_nil) pa_nil))) (by rfl))
    (pss_cons (ps_for PassesOwn.never rfl (pi_range1 (by rfl) L.range (pa_cons (pv 1) pa_nil)) (pg_name (i := 6) sc_law_c_reduced.nd rfl (Or.inl rfl))
      (pss_one (ps_if (pt_cmpR op_ne (pe_call G_law_pick (hr.mono (by decide)) (by rfl) F_law_pick.g F_law_pick.F.kp F_law_pick.b .nil pass0 (pa_cons (pv 0) (pa_cons pe_int pa_nil))) pe_int (nomark _))
      (pss_one (ps_expr (pe_bm PySem.F.plainAttrs_list PySem.F.slot_list_append PySem.F.type_list_append mt_append (pv 5) (pa_cons (pv 6) pa_nil))))
      pss_nil)))
    (pss_cons (ps_for PassesOwn.never rfl (pi_list (pv 5)) (pg_name (i := 7) sc_law_c_reduced.nd rfl (Or.inl rfl))
      (pss_cons (ps_setLc (i := 8) (own := [("k", 6)]) (g := gName 6) (tt := tYes) rfl sc_law_c_reduced.nd rfl rfl (sw_true rfl rfl rfl (by decide +kernel)) (pi_range1 (by rfl) L.range (pa_cons (pv 1) pa_nil)) (blkOk_by (own := [("k", 6)]) (N := N_law_c_reduced) (sc := defScope s_law_c_reduced) (by decide +kernel)) (fun _ _ _ _ _ => (pg_name (i := 6) sc_law_c_reduced.nd rfl (Or.inl rfl))) (fun _ _ _ _ _ => pts_nil) (fun _ _ _ _ _ => pe_int))
    (pss_cons (ps_for PassesOwn.never rfl (pi_range2 (by rfl) L.range (pa_cons (pe_op op_add (pv 7) pe_int) (pa_cons (pv 1) pa_nil))) (pg_name (i := 6) sc_law_c_reduced.nd rfl (Or.inl rfl))
      (pss_one (ps_asg (pe_call G_law_c_number (hr.mono (by decide)) (by rfl) F_law_c_number.g F_law_c_number.F.kp F_law_c_number.b .nil pass0 (pa_cons (pv 0) (pa_cons (pv 2) pa_nil))) (pg_sub (pv 8) (pv 6) set_list))))
    (pss_cons (ps_asg (pe_ifExp (pt_cmpR op_ne (pv 2) pe_int (nomark _)) pe_int (pe_op op_add pe_int (pe_call G_law_pick (hr.mono (by decide)) (by rfl) F_law_pick.g F_law_pick.F.kp F_law_pick.b .nil pass0 (pa_cons (pv 0) (pa_cons pe_int pa_nil))))) (pg_sub (pv 8) (pv 7) set_list))
    (pss_one (ps_expr (pe_bm PySem.F.plainAttrs_list PySem.F.slot_list_append PySem.F.type_list_append mt_append (pv 3) (pa_cons (pv 8) pa_nil))))))))
    (pss_cons (ps_for PassesOwn.never rfl (pi_range1 (by rfl) L.range (pa_cons (pe_callB call_len_seq (by rfl) L.len (by decide +kernel) (pa_cons (pv 3) pa_nil)) pa_nil)) (pg_name (i := 9) sc_law_c_reduced.nd rfl (Or.inl rfl))
      (pss_one (ps_for PassesOwn.never rfl (pi_range1 (by rfl) L.range (pa_cons (pv 9) pa_nil)) (pg_name (i := 10) sc_law_c_reduced.nd rfl (Or.inl rfl))
      (pss_one (ps_asg (pe_ifExp (pt_cmpR op_ne (pv 2) pe_int (nomark _)) pe_int (pe_call G_law_pick (hr.mono (by decide)) (by rfl) F_law_pick.g F_law_pick.F.kp F_law_pick.b .nil pass0 (pa_cons (pv 0) (pa_cons (pe_ix ix_list (pe_ix ix_list (pv 3) (pv 9) (fun _ _ => rfl)) (pe_ix ix_list (pv 5) (pv 9) (fun _ _ => rfl)) (fun _ _ => rfl)) pa_nil)))) (pg_sub (pe_ix ix_list (pv 3) (pv 10) (fun _ _ => rfl)) (pe_ix ix_list (pv 5) (pv 9) (fun _ _ => rfl)) set_list))))))
    (pss_one (ps_ret (pv 3))))))), ?_⟩
    refine q_par3L (el_lst ea_nil (by simp)) (fun H1 e1 => ev_c) (fun H1 e1 => el_lst ea_nil (by simp)) fun ro pi H1 nro npi rp e1 hro1 hpi1 => ?_
    have rog : ro ≠ g := hs.newG nro
    have pig : pi ≠ g := hs.newG npi
    -- the pivots
    refine q_forR1 (n := (wd : Nat)) (ea_cons (ev_var rfl) ea_nil) (by omega) (fun i σ' H' => ∃ (pv : List Nat) (v6 v7 v8 v9 v10 : Option V), σ' = [some (.ref s), some (.int (wd : Nat)), some (.int M), some (.ref ro), some (.int 0), some (.ref pi), v6, v7, v8, v9, v10] ∧ Le s g H H' ∧ H' ro = some (.lst []) ∧ H' pi = some (.lst (iL (nats pv))) ∧ pv.Pairwise (· < ·) ∧ (∀ p ∈ pv, p < i) ∧ pv.length ≤ i)
      (fun H2 e2 => ⟨[], none, none, none, none, none, rfl, Le.of hs (e1.trans e2), e2 _ _ hro1, e2 _ _ hpi1, List.Pairwise.nil, fun p h => absurd h (by simp), Nat.le_refl _⟩) ?_ ?_
    · rintro i σ' H' hi ⟨pv, v6, v7, v8, v9, v10, rfl, Lh, hro, hpi, hpw, hlt, hct⟩
      refine etk_ne0 (s := s) (g := g) (H := H') (evk_pick (n := 3) (fun H2 e => ea_cons (ev_var rfl) (ea_cons ev_c ea_nil)) (by decide)) (fun _ => ev_c) H' (Le.refl Lh.src) _ fun k H2 e2 hk => ?_
      have hro2 := e2.lst Lh.src hro rog
      have hpi2 := e2.lst Lh.src hpi pig
      refine ite2 (fun hb => ?_) (fun hb => ?_)
      · refine s_app hpi2 (ev_var rfl) (ev_var rfl) (by rw [iL_len]; unfold nats; rw [List.length_map]; omega) fun H3 e3 => ?_
        have L3 := (Lh.trans e2).trans (Le.of e2.src e3)
        refine ⟨pv ++ [i], _, _, _, _, _, rfl, L3.mut hs npi, by rw [upd_ne rp]; exact e3 _ _ hro2, ?_, ?_, fun p hp => ?_, by rw [List.length_append, List.length_singleton]; omega⟩
        · rw [upd_same]; unfold nats iL; rw [List.map_append, List.map_append]; rfl
        · exact List.pairwise_append.mpr ⟨hpw, List.pairwise_singleton _ _, fun a ha b hb => by rw [List.mem_singleton.mp hb]; exact hlt a ha⟩
        · rcases List.mem_append.mp hp with h | h
          · have := hlt p h; omega
          · rw [List.mem_singleton.mp h]; omega
      · exact ⟨pv, _, _, _, _, _, rfl, Lh.trans e2, hro2, hpi2, hpw, fun p hp => by have := hlt p hp; omega, by omega⟩
    rintro σ' H2 ⟨pv, v6, v7, v8, v9, v10, rfl, L2', hro2, hpi2, hpw, hlt, hct⟩
    have hlt : ∀ p ∈ pv, p < wd := fun p hp => by have := hlt p hp; omega
    have hct : pv.length ≤ wd := by omega
    have npl : (nats pv).length = pv.length := by unfold nats; rw [List.length_map]
    -- the rows
    refine q_forLn (ev_var rfl) (sq_of hpi2) (fun m σ' H' => ∃ (ps : List AR) (v6 v7 v8 v9 v10 : Option V), σ' = [some (.ref s), some (.int (wd : Nat)), some (.int M), some (.ref ro), some (.int 0), some (.ref pi), v6, v7, v8, v9, v10] ∧ Le s g H H' ∧ H' ro = some (.lst (adr ps)) ∧ H' pi = some (.lst (iL (nats pv))) ∧ Rws H' ps ∧ ps.length = m ∧ AllOk M wd pv ps ∧ (∀ x ∈ ps, H x.1 = none ∧ x.1 ≠ ro ∧ x.1 ≠ pi) ∧ (ps.map (·.1)).Nodup)
      (fun H3 e3 => ⟨[], _, _, _, _, _, rfl, L2'.trans (Le.of L2'.src e3), e3 _ _ hro2, e3 _ _ hpi2, Rws.nil, rfl, fun t p x _ h => by simp at h, fun x h => absurd h (by simp), List.nodup_nil⟩) (fun i σ' H' _ ⟨_, _, _, _, _, _, _, _, _, h, _⟩ => sq_of h) ?_ ?_
    · rintro m x σ' H3 hm' ⟨ps, v6, v7, v8, v9, v10, rfl, L3, hro3, hpi3, hR3, hct3, hall, hfr, hnd⟩
      obtain ⟨pz, rfl, hpz⟩ := iL_get hm'
      have hml : m < pv.length := by rw [← npl]; exact (List.getElem?_eq_some_iff.mp hpz).1
      obtain ⟨pl, hpl⟩ : ∃ pl, pv[m]? = some pl := ⟨pv[m], List.getElem?_eq_getElem hml⟩
      rw [nats_at hpl] at hpz
      have epz := Option.some.inj hpz
      subst epz
      have plw : pl < wd := hlt pl (List.mem_of_getElem? hpl)
      refine q_asgL (el_lcRI (n := wd) (List.replicate wd 0) (by simp) (ea_cons (ev_var rfl) ea_nil) (by omega) (fun _ => rfl) fun i H1 e1 hi => by rw [en_zero]; exact ev_c) fun rw_ H4 nrw e4 hrw4 => ?_
      have L4 := L3.trans (Le.of L3.src e4)
      have nrwH : H rw_ = none := L3.back nrw
      have rwg : rw_ ≠ g := hs.newG nrwH
      have rwro : rw_ ≠ ro := (ne_of_none hro3 nrw).symm
      have rwpi : rw_ ≠ pi := (ne_of_none hpi3 nrw).symm
      have rwps : ∀ y ∈ ps, y.1 ≠ rw_ := fun y hy => ne_of_none (hR3 y hy) nrw
      have offps : OffG g ps := fun y hy => hs.newG (hfr y hy).1
      -- its numbers
      refine q_forR2 (lo := ((pl : Nat) : Int) + 1) (n := (wd : Nat)) (ea_cons (ev_add (ev_var rfl) ev_c) (ea_cons (ev_var rfl) ea_nil)) (by omega) (fun i σ' H' => ∃ (r : Row) (v6 v9 v10 : Option V), σ' = [some (.ref s), some (.int (wd : Nat)), some (.int M), some (.ref ro), some (.int 0), some (.ref pi), v6, some (.int (pl : Nat)), some (.ref rw_), v9, v10] ∧ Le s g H H' ∧ H' ro = some (.lst (adr ps)) ∧ H' pi = some (.lst (iL (nats pv))) ∧ Rws H' ps ∧ H' rw_ = some (.lst (iL r)) ∧ r.length = wd ∧ (∀ j, j ≤ pl → en r j = 0) ∧ ∀ j, NumOk M (en r j))
        (fun H5 e5 => ⟨List.replicate wd 0, _, _, _, rfl, L4.trans (Le.of L4.src e5), (e4.trans e5) _ _ hro3, (e4.trans e5) _ _ hpi3, hR3.ex (e4.trans e5), e5 _ _ hrw4, by simp, fun j _ => en_zero _ _, fun j => by rw [en_zero]; exact ⟨fun hM => by have := hm.pos hM; omega, fun _ => by omega⟩⟩) ?_ ?_
      · rintro i σ' H5 hi ⟨r, v6, v9, v10, rfl, L5, hro5, hpi5, hR5, hrw5, hlen5, hz5, hn5⟩
        refine ⟨_, rfl, _, rfl, ?_⟩
        refine ⟨s, g, M, rfl, L5.src, hm, fun k H6 e6 hk => ?_⟩
        have hrw6 := e6.lst L5.src hrw5 rwg
        have il : pl + 1 + i < r.length := by omega
        refine ⟨_, rfl, _, rfl, rw_, iL r, _, pl + 1 + i, rfl, rfl, hrw6, ?_, ?_⟩
        · have : ((pl : Nat) : Int) + 1 + (i : Int) = ((pl + 1 + i : Nat) : Int) := by omega
          rw [this]
          exact ixN_nat (by rw [iL_len]; exact il)
        · have L6 := L5.trans e6
          refine ⟨r.set (pl + 1 + i) k, _, _, _, rfl, L6.mut hs nrwH, by rw [upd_ne rwro.symm]; exact e6.lst L5.src hro5 rog, by rw [upd_ne rwpi.symm]; exact e6.lst L5.src hpi5 pig, (e6.rws L5.src hR5 offps).upd rwps, ?_, by rw [List.length_set]; exact hlen5, fun j hj => ?_, fun j => ?_⟩
          · rw [upd_same]; unfold iL; rw [List.map_set]
          · rw [en_set il, if_neg (by omega)]; exact hz5 j hj
          · rw [en_set il]
            split
            · exact hk
            · exact hn5 j
      · rintro σ' H5 ⟨r, v6, v9, v10, rfl, L5, hro5, hpi5, hR5, hrw5, hlen5, hz5, hn5⟩
        -- the pivot's own number
        have goOn : ∀ (k : Int) (H6 : Hp), Le s g H5 H6 → 0 < k → k ≤ 6 → (M ≠ 0 → k = 1) → gSub (tVar 8) (tVar 7) rSetL (.int k) [some (.ref s), some (.int (wd : Nat)), some (.int M), some (.ref ro), some (.int 0), some (.ref pi), v6, some (.int (pl : Nat)), some (.ref rw_), v9, v10] H6 (tDrop (tBM K "list" rAppend (tVar 3) (tCons (tVar 8) tNil)) { nx := fun σ' H' => ∃ (ps : List AR) (v6 v7 v8 v9 v10 : Option V), σ' = [some (.ref s), some (.int (wd : Nat)), some (.int M), some (.ref ro), some (.int 0), some (.ref pi), v6, v7, v8, v9, v10] ∧ Le s g H H' ∧ H' ro = some (.lst (adr ps)) ∧ H' pi = some (.lst (iL (nats pv))) ∧ Rws H' ps ∧ ps.length = m + 1 ∧ AllOk M wd pv ps ∧ (∀ x ∈ ps, H x.1 = none ∧ x.1 ≠ ro ∧ x.1 ≠ pi) ∧ (ps.map (·.1)).Nodup, rt := Q }) := by
          intro k H6 e6 k1 k6 kM
          have hrw6 := e6.lst L5.src hrw5 rwg
          have hro6 := e6.lst L5.src hro5 rog
          have L6 := (L5.trans e6).mut (o := .lst ((iL r).set pl (.int k))) hs nrwH
          have plr : pl < r.length := by omega
          refine ⟨_, rfl, _, rfl, rw_, iL r, _, pl, rfl, rfl, hrw6, ixN_nat (by rw [iL_len]; exact plr), ?_⟩
          have hro7 : (upd H6 rw_ (.lst ((iL r).set pl (.int k)))) ro = some (.lst (adr ps)) := by rw [upd_ne rwro.symm]; exact hro6
          refine s_app hro7 (ev_var rfl) (ev_var rfl) (by rw [adr_len]; omega) fun H7 e7 => ?_
          have L7 := L6.trans (Le.of L6.src e7)
          have er : iL (r.set pl k) = (iL r).set pl (.int k) := by unfold iL; rw [List.map_set]
          refine ⟨ps ++ [(rw_, r.set pl k)], _, _, _, _, _, rfl, L7.mut hs nro, by rw [upd_same, adr_app]; rfl, ?_, ?_, by rw [List.length_append, hct3]; rfl, ?_, fun y hy => ?_, ?_⟩
          · rw [upd_ne rp.symm]
            refine e7 _ _ ?_
            rw [upd_ne rwpi.symm]; exact e6.lst L5.src hpi5 pig
          · refine Rws.append ?_ fun y hy => ?_
            · exact (((e6.rws L5.src hR5 offps).upd rwps).ex e7).upd fun y hy => (hfr y hy).2.1
            · rw [List.mem_singleton.mp hy, upd_ne rwro, er]; exact e7 _ _ upd_same
          · intro t p y ht hy
            rw [List.getElem?_append] at hy
            by_cases htl : t < ps.length
            · rw [if_pos htl] at hy; exact hall t p y ht hy
            · rw [if_neg htl] at hy
              have htm : t = m := by
                have := (List.getElem?_eq_some_iff.mp hy).1
                simp at this; omega
              subst htm
              rw [hct3, Nat.sub_self] at hy
              have ey : (rw_, r.set pl k) = y := Option.some.inj hy
              subst ey
              rw [hpl] at ht
              have ep := Option.some.inj ht
              subst ep
              have e : ∀ j, en (r.set pl k) j = if j = pl then k else en r j := fun j => en_set plr
              refine ⟨by rw [List.length_set]; exact hlen5, plw, fun j hj => ?_, ?_, ?_, fun hM => ?_, fun hM j => ?_, fun j => ?_⟩
              · show en (r.set pl k) j = 0
                rw [e, if_neg (by omega)]; exact hz5 j (by omega)
              · show 0 < en (r.set pl k) pl
                rw [e, if_pos rfl]; exact k1
              · show en (r.set pl k) pl ≤ 6
                rw [e, if_pos rfl]; exact k6
              · show en (r.set pl k) pl = 1
                rw [e, if_pos rfl]; exact kM hM
              · show 0 ≤ en (r.set pl k) j ∧ en (r.set pl k) j < M
                rw [e]
                split
                · have := kM hM
                  have := hm.pos hM
                  omega
                · exact (hn5 j).1 hM
              · show (en (r.set pl k) j).natAbs ≤ 1000000
                rw [e]
                split
                · omega
                · by_cases hM : M = 0
                  · have := (hn5 j).2 hM; omega
                  · have := (hn5 j).1 hM
                    have := hm.pos hM
                    omega
          · rcases List.mem_append.mp hy with h | h
            · exact hfr y h
            · rw [List.mem_singleton.mp h]; exact ⟨nrwH, rwro, rwpi⟩
          · rw [List.map_append]
            exact List.nodup_append.mpr ⟨hnd, by simp, fun a ha b hb => by
              obtain ⟨y, hy, e⟩ := List.mem_map.mp ha
              simp at hb
              rw [← e, hb]; exact rwps y hy⟩
        refine (et_test (b := decide (M ≠ 0)) (ev_neI (ev_var rfl) ev_c)) H5 (Ex.refl H5) _ fun H6 e6 => ?_
        have L6 := L5.trans (Le.of L5.src e6)
        by_cases hM : M = 0
        · rw [decide_eq_false (by simpa using hM)]
          refine iteF ?_
          refine (evi_op (g' := fun i j => i + j) (C := fun k => 0 < k ∧ k ≤ 6) (evi_of (i := 1) fun H1 e => ev_c) (evk_pick (s := s) (g := g) (H := H6) (n := 6) (fun H2 e => ea_cons (ev_var rfl) (ea_cons ev_c ea_nil)) (by decide)) fun i j hi' hj => ?_) H6 (Le.refl L6.src) _ fun v H7 e7 ⟨k, hv, hk⟩ => ?_
          · have := hj.lt (by decide); omega
          · rw [hv]
            exact goOn k H7 ((Le.of L5.src e6).trans e7) hk.1 hk.2 (fun h => absurd hM h)
        · rw [decide_eq_true hM]
          refine iteT ?_
          exact goOn 1 H6 (Le.of L5.src e6) (by decide) (by decide) (fun _ => rfl)
    rintro σ' H3 ⟨ps, v6, v7, v8, v9, v10, rfl, L3, hro3, hpi3, hR3, hct3, hall, hfr, hnd⟩
    rw [iL_len, npl] at hct3
    -- the numbers above the pivots
    refine q_forR1 (n := (ps.length : Nat)) (ea_cons (ev_is (ev_len (ev_var rfl) (sq_of hro3)) (by rw [adr_len])) ea_nil) (by omega) (fun j σ' H' => ∃ (ps' : List AR) (v6 v7 v8 v9 v10 : Option V), σ' = [some (.ref s), some (.int (wd : Nat)), some (.int M), some (.ref ro), some (.int 0), some (.ref pi), v6, v7, v8, v9, v10] ∧ Le s g H H' ∧ H' ro = some (.lst (adr ps')) ∧ H' pi = some (.lst (iL (nats pv))) ∧ Rws H' ps' ∧ ps'.length = pv.length ∧ AllOk M wd pv ps' ∧ RedTo pv ps' j 0 ∧ (∀ x ∈ ps', H x.1 = none ∧ x.1 ≠ ro ∧ x.1 ≠ pi) ∧ (ps'.map (·.1)).Nodup)
      (fun H4 e4 => ⟨ps, _, _, _, _, _, rfl, L3.trans (Le.of L3.src e4), e4 _ _ hro3, e4 _ _ hpi3, hR3.ex e4, hct3, hall, fun i' j' p x y _ h => by omega, hfr, hnd⟩) ?_ ?_
    · rintro j σ' H4 hj ⟨ps', v6, v7, v8, v9, v10, rfl, L4, hro4, hpi4, hR4, hct4, hall4, hred4, hfr4, hnd4⟩
      have hjp : j < pv.length := by omega
      obtain ⟨p, hp⟩ : ∃ p, pv[j]? = some p := ⟨pv[j], List.getElem?_eq_getElem hjp⟩
      have pw' : p < wd := hlt p (List.mem_of_getElem? hp)
      refine s_forR1 (n := (j : Nat)) (ea_cons (ev_var rfl) ea_nil) (by omega) (fun i σ' H' => ∃ (ps' : List AR) (v6 v7 v8 v10 : Option V), σ' = [some (.ref s), some (.int (wd : Nat)), some (.int M), some (.ref ro), some (.int 0), some (.ref pi), v6, v7, v8, some (.int (j : Nat)), v10] ∧ Le s g H H' ∧ H' ro = some (.lst (adr ps')) ∧ H' pi = some (.lst (iL (nats pv))) ∧ Rws H' ps' ∧ ps'.length = pv.length ∧ AllOk M wd pv ps' ∧ RedTo pv ps' j i ∧ (∀ x ∈ ps', H x.1 = none ∧ x.1 ≠ ro ∧ x.1 ≠ pi) ∧ (ps'.map (·.1)).Nodup)
        (fun H5 e5 => ⟨ps', _, _, _, _, rfl, L4.trans (Le.of L4.src e5), e5 _ _ hro4, e5 _ _ hpi4, hR4.ex e5, hct4, hall4, hred4, hfr4, hnd4⟩) ?_ ?_
      · rintro i σ' H5 hi ⟨ps', v6, v7, v8, v10, rfl, L5, hro5, hpi5, hR5, hct5, hall5, hred5, hfr5, hnd5⟩
        have hij : i < j := by omega
        obtain ⟨q, hq⟩ : ∃ q, pv[i]? = some q := ⟨pv[i], List.getElem?_eq_getElem (by omega)⟩
        obtain ⟨x, hx⟩ : ∃ x, ps'[i]? = some x := ⟨ps'[i], List.getElem?_eq_getElem (by omega)⟩
        obtain ⟨y, hy⟩ : ∃ y, ps'[j]? = some y := ⟨ps'[j], List.getElem?_eq_getElem (by omega)⟩
        have oy := hall5 j p y hp hy
        have ox := hall5 i q x hq hx
        have hqp : q < p := by
          obtain ⟨la, ea⟩ := List.getElem?_eq_some_iff.mp hq
          obtain ⟨lb, eb⟩ := List.getElem?_eq_some_iff.mp hp
          rw [← ea, ← eb]; exact List.pairwise_iff_getElem.mp hpw i j la lb hij
        have xin := List.mem_of_getElem? hx
        have yin := List.mem_of_getElem? hy
        have offp : OffG g ps' := fun z hz => hs.newG (hfr5 z hz).1
        have goOn : ∀ (k : Int) (H6 : Hp), Le s g H5 H6 → 0 ≤ k → k < en y.2 p → gSub (tOp (rIxL K) (tVar 3) (tVar 10)) (tOp (rIxL K) (tVar 5) (tVar 9)) rSetL (.int k) (([some (.ref s), some (.int (wd : Nat)), some (.int M), some (.ref ro), some (.int 0), some (.ref pi), v6, v7, v8, some (.int (j : Nat)), v10] : L2.St).set 10 (some (.int (i : Int)))) H6 (fun σ' H' => ∃ (ps' : List AR) (v6 v7 v8 v10 : Option V), σ' = [some (.ref s), some (.int (wd : Nat)), some (.int M), some (.ref ro), some (.int 0), some (.ref pi), v6, v7, v8, some (.int (j : Nat)), v10] ∧ Le s g H H' ∧ H' ro = some (.lst (adr ps')) ∧ H' pi = some (.lst (iL (nats pv))) ∧ Rws H' ps' ∧ ps'.length = pv.length ∧ AllOk M wd pv ps' ∧ RedTo pv ps' j (i + 1) ∧ (∀ x ∈ ps', H x.1 = none ∧ x.1 ≠ ro ∧ x.1 ≠ pi) ∧ (ps'.map (·.1)).Nodup) := by
          intro k H6 e6 k0 k1
          have hro6 := e6.lst L5.src hro5 rog
          have hpi6 := e6.lst L5.src hpi5 pig
          have hR6 := e6.rws L5.src hR5 offp
          have pxl : p < x.2.length := by rw [ox.len]; exact pw'
          refine ⟨_, rfl, _, rfl, ro, _, _, _, rfl, rfl, sq_of hro6, atI_nat (adr_at hx), ?_⟩
          refine ⟨_, rfl, _, rfl, pi, _, _, _, rfl, rfl, sq_of hpi6, atI_nat (iL_at (nats_at hp)), ?_⟩
          refine ⟨x.1, iL x.2, _, p, rfl, rfl, hR6 x xin, ixN_nat (by rw [iL_len]; exact pxl), ?_⟩
          have er : (iL x.2).set p (.int k) = iL (x.2.set p k) := by unfold iL; rw [List.map_set]
          rw [er]
          have L6 := L5.trans e6
          have hx0 := hfr5 x xin
          refine ⟨ps'.set i (x.1, x.2.set p k), _, _, _, _, rfl, L6.mut hs hx0.1, by rw [upd_ne hx0.2.1.symm, adr_set hx]; exact hro6, by rw [upd_ne hx0.2.2.symm]; exact hpi6, hR6.set hnd5 hx, by rw [List.length_set]; exact hct5, ?_, ?_, fun z hz => ?_, by rw [fst_set hx]; exact hnd5⟩
          · exact hall5.set hq hx hqp pw' (fun hM => by have := oy.one hM; have := hm.pos hM; omega) (by have := oy.six; omega)
          · exact RedTo.set hpw hall5 hred5 hij hq hp hx hy ⟨k0, k1⟩
          · have : z.1 ∈ (ps'.set i (x.1, x.2.set p k)).map (·.1) := List.mem_map.mpr ⟨z, hz, rfl⟩
            rw [fst_set hx] at this
            obtain ⟨y', hy', e⟩ := List.mem_map.mp this
            rw [← e]; exact hfr5 y' hy'
        refine (et_test (b := decide (M ≠ 0)) (ev_neI (ev_var rfl) ev_c)) H5 (Ex.refl H5) _ fun H6 e6 => ?_
        by_cases hM : M = 0
        · rw [decide_eq_false (by simpa using hM)]
          refine iteF ?_
          have L6 := L5.trans (Le.of L5.src e6)
          refine (evk_pick (s := s) (g := g) (H := H6) (n := en y.2 p) (fun H7 e7 => ea_cons (ev_var rfl) (ea_cons (ev_ix (K := K) (ev_ix (K := K) (ev_var rfl) (ev_var rfl) (sq_of (e7.lst L6.src (e6 _ _ hro5) rog)) (atI_nat (adr_at hy))) (ev_ix (K := K) (ev_var rfl) (ev_var rfl) (sq_of (e7.lst L6.src (e6 _ _ hpi5) pig)) (atI_nat (iL_at (nats_at hp)))) (sq_of (e7.lst L6.src (e6 _ _ (hR5 y yin)) (offp y yin))) (iL_en (by rw [oy.len]; exact pw'))) ea_nil)) (by have := oy.six; omega)) H6 (Le.refl L6.src) _ fun v H7 e7 ⟨k, hv, hk⟩ => ?_
          have hk := hk.lt (by have := oy.pos; omega)
          rw [hv]
          exact goOn k H7 ((Le.of L5.src e6).trans e7) hk.1 hk.2
        · rw [decide_eq_true hM]
          refine iteT ?_
          exact goOn 0 H6 (Le.of L5.src e6) (Int.le_refl 0) oy.pos
      · rintro σ' H5 ⟨ps', v6, v7, v8, v10, rfl, L5, hro5, hpi5, hR5, hct5, hall5, hred5, hfr5, hnd5⟩
        refine ⟨ps', _, _, _, _, _, rfl, L5, hro5, hpi5, hR5, hct5, hall5, fun i' j' p x y h1 h2 => ?_, hfr5, hnd5⟩
        exact hred5 i' j' p x y h1 (by omega)
    · rintro σ' H4 ⟨ps', v6, v7, v8, v9, v10, rfl, L4, hro4, hpi4, hR4, hct4, hall4, hred4, hfr4, hnd4⟩
      have e : ((ps.length : Nat) : Int).toNat = ps'.length := by omega
      rw [e] at hred4
      obtain ⟨hH, hD⟩ := herm_of hpw hct4.symm hall4 hred4
      refine ⟨_, rfl, fin ro ps' _ H4 L4 nro hro4 hR4 (fun x hx => (hfr4 x hx).1) (fun x hx => (hfr4 x hx).2.1) hH hD (fun r hr j => ?_) (by omega)⟩
      obtain ⟨x, hx, rfl⟩ := List.mem_map.mp hr
      obtain ⟨t, ht⟩ := List.getElem?_of_mem hx
      have htl := (List.getElem?_eq_some_iff.mp ht).1
      obtain ⟨p, hp⟩ : ∃ p, pv[t]? = some p := ⟨pv[t], List.getElem?_eq_getElem (by omega)⟩
      exact (hall4 t p x hp ht).bnd j
end
end Mine
set_option Elab.async false
set_option linter.all false
set_option maxRecDepth 100000
set_option maxHeartbeats 4000000
namespace Mine
open PySem PySem.Spec PyProof.Rows L2 Evl
theorem blkOk_nest {N N' : List Str} {sc sc' scope : Scope} {own : List (Str × Nat)} (h : blkC N sc scope own = true) (hN : N' = N := by rfl) (hs : sc' = sc := by rfl) : BlkOk N' sc' scope own := by
  subst hN; subst hs; exact blkOk_by h
/-! ### lattices of changed rows -/
theorem SameL.pts {M : Int} {R R' : List Row} (hl : R.length = R'.length) (h : ∀ (i : Nat) (r r' : Row), R[i]? = some r → R'[i]? = some r' → ∀ j, M ∣ en r' j - en r j) : SameL M R R' := by
  constructor
  · intro r hr
    obtain ⟨i, hi⟩ := List.getElem?_of_mem hr
    have hil := (List.getElem?_eq_some_iff.mp hi).1
    have hi' : R'[i]? = some R'[i] := List.getElem?_eq_getElem (by omega)
    exact InL.congr (h i r _ hi hi') (InL.mem (List.mem_of_getElem? hi'))
  · intro r' hr
    obtain ⟨i, hi'⟩ := List.getElem?_of_mem hr
    have hil := (List.getElem?_eq_some_iff.mp hi').1
    have hi : R[i]? = some R[i] := List.getElem?_eq_getElem (by omega)
    refine InL.congr (v := en R[i]) (fun j => ?_) (InL.mem (List.mem_of_getElem? hi))
    have := h i _ r' hi hi' j
    rw [← Int.neg_sub]; exact Int.dvd_neg.mpr this
theorem mem_set_or {α : Type} {l : List α} {i : Nat} {x y : α} (h : y ∈ l.set i x) : y = x ∨ y ∈ l := by
  rcases List.mem_or_eq_of_mem_set h with h | h
  · exact .inr h
  · exact .inl h
/-- one row changed by a part of the others -/
theorem SameL.chg {M : Int} {R : List Row} {a : Nat} {r r' : Row} (ha : R[a]? = some r) (h1 : InL M R (en r')) (h2 : InL M (R.set a r') (en r)) : SameL M R (R.set a r') := by
  have hal := (List.getElem?_eq_some_iff.mp ha).1
  constructor
  · intro x hx
    obtain ⟨i, hi⟩ := List.getElem?_of_mem hx
    by_cases e : a = i
    · subst e
      rw [ha] at hi
      rw [← Option.some.inj hi]; exact h2
    · refine InL.mem (List.mem_of_getElem? (i := i) ?_)
      rw [List.getElem?_set, if_neg e]; exact hi
  · intro x hx
    rcases mem_set_or hx with h | h
    · rw [h]; exact h1
    · exact InL.mem h
structure Nice (M : Int) (wd b : Nat) (R0 R : List Row) : Prop where
  len : ∀ r ∈ R, r.length = wd
  rng : ∀ r ∈ R, Rng M r
  bnd : Bnd b R
  same : SameL M R0 R
theorem rng_natAbs {M : Int} (hm : Md M) {r : Row} (h : Rng M r) (hM : M ≠ 0) (j : Nat) : (en r j).natAbs ≤ 5 := by
  have := h hM j
  have := hm.pos hM
  omega
theorem Nice.app0 {M : Int} (hm : Md M) {wd b : Nat} {R0 R : List Row} (h : Nice M wd b R0 R) : Nice M wd b R0 (R ++ [List.replicate wd 0]) := by
  refine ⟨fun r hr => ?_, fun r hr => ?_, fun r hr j => ?_, h.same.trans ⟨fun r hr => InL.mem (List.mem_append_left _ hr), fun r hr => ?_⟩⟩
  · rcases List.mem_append.mp hr with x | x
    · exact h.len r x
    · rw [List.mem_singleton.mp x, List.length_replicate]
  · rcases List.mem_append.mp hr with x | x
    · exact h.rng r x
    · rw [List.mem_singleton.mp x]; intro hM j
      rw [en_zero]; have := hm.pos hM; omega
  · rcases List.mem_append.mp hr with x | x
    · exact h.bnd r x j
    · rw [List.mem_singleton.mp x, en_zero]; simp
  · rcases List.mem_append.mp hr with x | x
    · exact InL.mem x
    · rw [List.mem_singleton.mp x]
      exact InL.zero.eq fun j => (en_zero wd j).symm
theorem Nice.chg {M : Int} (hm : Md M) {wd b b' : Nat} {R0 R : List Row} (h : Nice M wd b R0 R) {a : Nat} {r r' : Row} (ha : R[a]? = some r) (hl : r'.length = wd) (hr' : Rng M r') (hbb : b ≤ b') (h5 : 5 ≤ b') (hb : M = 0 → ∀ j, (en r' j).natAbs ≤ b') (h1 : InL M R (en r')) (h2 : InL M (R.set a r') (en r)) : Nice M wd b' R0 (R.set a r') := by
  refine ⟨fun x hx => ?_, fun x hx => ?_, fun x hx j => ?_, h.same.trans (SameL.chg ha h1 h2)⟩
  · rcases mem_set_or hx with e | e
    · rw [e]; exact hl
    · exact h.len x e
  · rcases mem_set_or hx with e | e
    · rw [e]; exact hr'
    · exact h.rng x e
  · rcases mem_set_or hx with e | e
    · rw [e]
      by_cases hM : M = 0
      · exact hb hM j
      · have := rng_natAbs hm hr' hM j; omega
    · have := h.bnd x e j; omega
theorem Nice.add {M : Int} (hm : Md M) {wd b : Nat} {R0 R : List Row} (h : Nice M wd b R0 R) (hb5 : 5 ≤ b) {a c : Nat} {r o : Row} {k : Int} (ha : R[a]? = some r) (hc : R[c]? = some o) (hac : a ≠ c) (hk : -3 ≤ k ∧ k ≤ 3) : Nice M wd (4 * b) R0 (R.set a (addT r o k M)) := by
  have rl := h.len r (List.mem_of_getElem? ha)
  have ol := h.len o (List.mem_of_getElem? hc)
  have ez : ∀ j, en (List.zipWith (fun a b => a + k * b) r o) j = en r j + k * en o j := fun j => en_zip (by simp) (by omega) j
  have dv : ∀ j, M ∣ en (addT r o k M) j - (en r j + k * en o j) := fun j => by
    have := plainRow_dvd (List.zipWith (fun a b => a + k * b) r o) M j
    rw [ez] at this; exact this
  refine h.chg hm ha (by rw [addT_len (by omega)]; exact rl) (plainRow_rng hm) (by omega) (by omega) (fun hM j => ?_) ?_ ?_
  · subst hM
    have e : en (addT r o k 0) j = en r j + k * en o j := by unfold addT; rw [plainRow_0, ez]
    rw [e]
    have h1 := h.bnd r (List.mem_of_getElem? ha) j
    have h2 := h.bnd o (List.mem_of_getElem? hc) j
    have h3 : (k * en o j).natAbs ≤ 3 * b := by
      rw [Int.natAbs_mul]
      exact Nat.mul_le_mul (by omega) h2
    omega
  · refine InL.congr (v := fun j => en r j + k * en o j) (fun j => ?_) ((InL.mem (List.mem_of_getElem? ha)).add ((InL.mem (List.mem_of_getElem? hc)).smul k))
    rw [← Int.neg_sub]; exact Int.dvd_neg.mpr (dv j)
  · have m1 : addT r o k M ∈ R.set a (addT r o k M) := List.mem_of_getElem? (i := a) (by rw [List.getElem?_set, if_pos rfl, if_pos (List.getElem?_eq_some_iff.mp ha).1])
    have m2 : o ∈ R.set a (addT r o k M) := List.mem_of_getElem? (i := c) (by rw [List.getElem?_set, if_neg hac]; exact hc)
    refine InL.congr (v := fun j => en (addT r o k M) j - k * en o j) (fun j => ?_) ((InL.mem m1).sub ((InL.mem m2).smul k))
    have := dv j
    rw [show en (addT r o k M) j - k * en o j - en r j = en (addT r o k M) j - (en r j + k * en o j) by omega]
    exact this
def negT (r : Row) (M : Int) : Row := plainRow (r.map fun x => 0 - x) M
theorem Nice.neg {M : Int} (hm : Md M) {wd b : Nat} {R0 R : List Row} (h : Nice M wd b R0 R) (hb5 : 5 ≤ b) {a : Nat} {r : Row} (ha : R[a]? = some r) : Nice M wd b R0 (R.set a (negT r M)) := by
  have rl := h.len r (List.mem_of_getElem? ha)
  have ez : ∀ j, en (r.map fun x => 0 - x) j = 0 - en r j := fun j => en_map (f := fun x => 0 - x) rfl j
  have dv : ∀ j, M ∣ en (negT r M) j - (0 - en r j) := fun j => by
    have := plainRow_dvd (r.map fun x => 0 - x) M j
    rw [ez] at this; exact this
  refine h.chg hm ha (by unfold negT; rw [plainRow_len, List.length_map]; exact rl) (plainRow_rng hm) (Nat.le_refl _) hb5 (fun hM j => ?_) ?_ ?_
  · subst hM
    have e : en (negT r 0) j = 0 - en r j := by unfold negT; rw [plainRow_0, ez]
    have h1 := h.bnd r (List.mem_of_getElem? ha) j
    rw [e]; omega
  · refine InL.congr (v := fun j => -1 * en r j) (fun j => ?_) ((InL.mem (List.mem_of_getElem? ha)).smul (-1))
    rw [← Int.neg_sub]
    refine Int.dvd_neg.mpr ?_
    rw [show en (negT r M) j - -1 * en r j = en (negT r M) j - (0 - en r j) by omega]; exact dv j
  · have m1 : negT r M ∈ R.set a (negT r M) := List.mem_of_getElem? (i := a) (by rw [List.getElem?_set, if_pos rfl, if_pos (List.getElem?_eq_some_iff.mp ha).1])
    refine InL.congr (v := fun j => -1 * en (negT r M) j) (fun j => ?_) ((InL.mem m1).smul (-1))
    rw [show -1 * en (negT r M) j - en r j = -(en (negT r M) j - (0 - en r j)) by omega]
    exact Int.dvd_neg.mpr (dv j)
theorem Nice.perm {M : Int} {wd b : Nat} {R0 R R' : List Row} (h : Nice M wd b R0 R) (hp : ∀ r, r ∈ R' ↔ r ∈ R) : Nice M wd b R0 R' :=
  ⟨fun r hr => h.len r ((hp r).mp hr), fun r hr => h.rng r ((hp r).mp hr), fun r hr => h.bnd r ((hp r).mp hr), h.same.trans (SameL.of_mem fun r => (hp r).symm)⟩
/-! ### an own list of own rows -/
structure Own (s g : Addr) (H H' : Hp) (p : Addr) (ps : List AR) : Prop where
  le : Le s g H H'
  np : H p = none
  lst : H' p = some (.lst (adr ps))
  rws : Rws H' ps
  fr : ∀ x ∈ ps, H x.1 = none ∧ x.1 ≠ p
theorem Own.off {s g p : Addr} {H H' : Hp} {ps : List AR} (hs : Src s g H) (o : Own s g H H' p ps) : p ≠ g ∧ OffG g ps := ⟨hs.newG o.np, fun x hx => hs.newG (o.fr x hx).1⟩
theorem Own.to {s g p : Addr} {H H' H'' : Hp} {ps : List AR} (hs : Src s g H) (o : Own s g H H' p ps) (e : Le s g H' H'') : Own s g H H'' p ps :=
  ⟨o.le.trans e, o.np, e.lst o.le.src o.lst (o.off hs).1, e.rws o.le.src o.rws (o.off hs).2, o.fr⟩
theorem Own.ex {s g p : Addr} {H H' H'' : Hp} {ps : List AR} (hs : Src s g H) (o : Own s g H H' p ps) (e : Ex H' H'') : Own s g H H'' p ps := o.to hs (Le.of o.le.src e)
theorem rws_set {ps : List AR} {i : Nat} {x : AR} : rws (ps.set i x) = (rws ps).set i x.2 := by unfold rws; rw [List.map_set]
theorem adr_set' {ps : List AR} {i : Nat} {x : AR} : adr (ps.set i x) = (adr ps).set i (.ref x.1) := by unfold adr; rw [List.map_set]
theorem Own.put {s g p q : Addr} {H H' : Hp} {ps : List AR} {r : Row} {i : Nat} (hs : Src s g H) (o : Own s g H H' p ps) (hq : H' q = some (.lst (iL r))) (nq : H q = none) (qp : q ≠ p) : Own s g H (L2.upd H' p (.lst ((adr ps).set i (.ref q)))) p (ps.set i (q, r)) := by
  refine ⟨o.le.mut hs o.np, o.np, by rw [upd_same, adr_set'], fun x hx => ?_, fun x hx => ?_⟩
  · rcases mem_set_or hx with h | h
    · rw [h, upd_ne qp]; exact hq
    · rw [upd_ne (o.fr x h).2]; exact o.rws x h
  · rcases mem_set_or hx with h | h
    · rw [h]; exact ⟨nq, qp⟩
    · exact o.fr x h
theorem Own.app {s g p q : Addr} {H H' : Hp} {ps : List AR} {r : Row} (hs : Src s g H) (o : Own s g H H' p ps) (hq : H' q = some (.lst (iL r))) (nq : H q = none) (qp : q ≠ p) : Own s g H (L2.upd H' p (.lst (adr ps ++ [.ref q]))) p (ps ++ [(q, r)]) := by
  refine ⟨o.le.mut hs o.np, o.np, by rw [upd_same, adr_app]; rfl, fun x hx => ?_, fun x hx => ?_⟩
  · rcases List.mem_append.mp hx with h | h
    · rw [upd_ne (o.fr x h).2]; exact o.rws x h
    · rw [List.mem_singleton.mp h, upd_ne qp]; exact hq
  · rcases List.mem_append.mp hx with h | h
    · exact o.fr x h
    · rw [List.mem_singleton.mp h]; exact ⟨nq, qp⟩
/-! ### comprehensions that draw -/
def ElK (s g : Addr) (te : TE) (σ : L2.St) (H : Hp) (P : List V → Prop) : Prop := ∀ H1, Le s g H H1 → ∀ Q : VK, (∀ (p : Addr) (xs : List V) (H2 : Hp), H1 p = none → Le s g H1 H2 → H2 p = some (.lst xs) → P xs → Q (.ref p) H2) → te σ H1 Q
section
variable {K : PySem.W.Frag} {s g : Addr} {σ : L2.St} {H H' : Hp} {ta tb te tx tl : TE} {t u : TT} {x y z v w1 : V} {D : Ends} {tu tw tz : TS} {A B C : Int → Prop}
theorem ElK.imp {P P' : List V → Prop} (h : ElK s g te σ H P) (hi : ∀ v, P v → P' v) : ElK s g te σ H P' := fun H1 e Q q => h H1 e Q fun p v H2 n e2 hp pv => q p v H2 n e2 hp (hi v pv)
theorem elk_lc {a : Addr} {xs : List V} {j : Nat} {vs : List Nat} (P : Nat → V → Prop) (h : ∀ H1, Le s g H H1 → Ev tl σ H1 (.ref a)) (hs : Src s g H) (hx : H a = some (.lst xs)) (hg : a ≠ g) (hz : xs.length ≤ 40000) (hw : ∀ x, wipe ((wipe σ vs).set j (some x)) vs = wipe σ vs)
    (he : ∀ (i : Nat) (x : V), xs[i]? = some x → EvK s g te ((wipe σ vs).set j (some x)) H (P i)) : ElK s g (tLc (iList K tl) (gName j) tYes te vs) σ H (fun zs => zs.length = xs.length ∧ ∀ i z, zs[i]? = some z → P i z) := fun H0 e0 Q q => h H0 e0 H0 (Ex.refl H0) _ fun H1 e1 => ⟨a, rfl, ⟨xs, sq_of ((e0.trans (Le.of e0.src e1)).lst hs hx hg)⟩, fun Dl hD => by
  have L1 := e0.trans (Le.of e0.src e1)
  exact lc_list (xs := xs) (fun i H' => ∃ zs : List V, Le s g H1 H' ∧ H' Dl = some (.lst zs) ∧ zs.length = i ∧ ∀ i z, zs[i]? = some z → P i z) ⟨[], Le.of L1.src (Ex.new hD), upd_same, rfl, fun i z h => by simp at h⟩
    (fun i H' _ ⟨_, e, _⟩ => sq_of ((L1.trans e).lst hs hx hg))
    (fun i x H' hi ⟨zs, e, hl, hq, hp⟩ => by
      refine ⟨hw _, yes_turn ?_⟩
      refine he i x hi H' (L1.trans e) _ fun v H2 e2 pv => ?_
      have hl2 := e2.lst e.src hl (L1.src.newG hD)
      have hi2 := (List.getElem?_eq_some_iff.mp hi).1
      refine ⟨_, hl2, sz_lt (by omega), zs ++ [v], (e.trans e2).mut L1.src hD, upd_same, by rw [List.length_append, hq]; rfl, fun k z hk => ?_⟩
      rw [List.getElem?_append] at hk
      split at hk
      · exact hp k z hk
      · have hkl := (List.getElem?_eq_some_iff.mp hk).1
        have : k = i := by simp at hkl; omega
        subst this
        rw [hq, Nat.sub_self] at hk
        rw [← Option.some.inj hk]; exact pv)
    (fun H' ⟨zs, e, hl, hq, hp⟩ => q Dl zs H' (fresh_back e1 hD) ((Le.of e0.src e1).trans e) hl ⟨hq, hp⟩)⟩
theorem all_ints {P : Nat → Int → Prop} : ∀ {zs : List V}, (∀ i z, zs[i]? = some z → ∃ k, z = .int k ∧ P i k) → ∃ r : Row, zs = iL r ∧ ∀ i k, r[i]? = some k → P i k
  | [], _ => ⟨[], rfl, fun i k h => by simp at h⟩
  | z :: zs, h => by
    obtain ⟨k, rfl, hk⟩ := h 0 z rfl
    obtain ⟨r, rfl, hr⟩ := all_ints (P := fun i => P (i + 1)) (zs := zs) fun i z hz => h (i + 1) z hz
    refine ⟨k :: r, rfl, fun i k' hi => ?_⟩
    cases i with
    | zero => rw [← Option.some.inj hi]; exact hk
    | succ i => exact hr i k' hi
/-- rows of drawn numbers -/
theorem elk_lcR {a : Addr} {ps : List AR} {j : Nat} {vs : List Nat} (P : Row → Row → Prop) (h : ∀ H1, Le s g H H1 → Ev tl σ H1 (.ref a)) (hs : Src s g H) (hx : H a = some (.lst (adr ps))) (hg : a ≠ g) (hz : ps.length ≤ 40000) (hw : ∀ x, wipe ((wipe σ vs).set j (some x)) vs = wipe σ vs)
    (he : ∀ (i : Nat) (x : AR), ps[i]? = some x → ElK s g te ((wipe σ vs).set j (some (.ref x.1))) H (fun zs => ∃ r, zs = iL r ∧ P x.2 r)) {Q : VK}
    (q : ∀ (p : Addr) (qs : List AR) (H2 : Hp), Own s g H H2 p qs → qs.length = ps.length → (∀ (i : Nat) (x y : AR), ps[i]? = some x → qs[i]? = some y → P x.2 y.2) → Q (.ref p) H2) : tLc (iList K tl) (gName j) tYes te vs σ H Q := h H (Le.refl hs) H (Ex.refl H) _ fun H1 e1 => ⟨a, rfl, ⟨adr ps, sq_of (e1 _ _ hx)⟩, fun Dl hD => by
  have L1 := Le.of hs e1
  have nD := fresh_back e1 hD
  exact lc_list (xs := adr ps) (fun i H' => ∃ qs : List AR, Own s g H H' Dl qs ∧ qs.length = i ∧ ∀ (i : Nat) (x y : AR), ps[i]? = some x → qs[i]? = some y → P x.2 y.2) ⟨[], ⟨L1.trans (Le.of L1.src (Ex.new hD)), nD, upd_same, Rws.nil, fun x h => absurd h (by simp)⟩, rfl, fun i x y _ h => by simp at h⟩
    (fun i H' _ ⟨_, o, _⟩ => sq_of (o.le.lst hs hx hg))
    (fun i x H' hi ⟨qs, o, hq, hp⟩ => by
      obtain ⟨y, hy, rfl⟩ := adr_get hi
      refine ⟨hw _, yes_turn ?_⟩
      refine he i y hy H' o.le _ fun v zs H2 nv e2 hv ⟨r, hr, pr⟩ => ?_
      subst hr
      have o2 := o.to hs e2
      have hi2 := (List.getElem?_eq_some_iff.mp hy).1
      have vD : v ≠ Dl := (ne_of_none o.lst nv).symm
      refine ⟨_, o2.lst, sz_lt (by rw [adr_len]; omega), qs ++ [(v, r)], o2.app hs hv (o.le.back nv) vD, by rw [List.length_append, hq]; rfl, fun k x z hk hz => ?_⟩
      rw [List.getElem?_append] at hz
      split at hz
      · exact hp k x z hk hz
      · have hkl := (List.getElem?_eq_some_iff.mp hz).1
        have : k = i := by simp at hkl; omega
        subst this
        rw [hq, Nat.sub_self] at hz
        rw [hy] at hk
        rw [← Option.some.inj hk, ← Option.some.inj hz]; exact pr)
    (fun H' ⟨qs, o, hq, hp⟩ => by rw [adr_len] at hq; exact q Dl qs H' o hq hp)⟩
theorem q_forK {j : Nat} (hs : Src s g H) (h : EvK s g te σ H (isI A)) (k : ∀ n H1, Le s g H H1 → A n → tSeq (tFor (iRng1 (fun _ H Q => Q [.int n] H)) (gName j) tu) tz D σ H1) : tSeq (tFor (iRng1 (tCons te tNil)) (gName j) tu) tz D σ H := h H (Le.refl hs) _ fun v H1 e ⟨n, hv, hn⟩ => by
  subst hv; exact k n H1 e hn
theorem s_forK {j : Nat} (hs : Src s g H) (h : EvK s g te σ H (isI A)) (k : ∀ n H1, Le s g H H1 → A n → tFor (iRng1 (fun _ H Q => Q [.int n] H)) (gName j) tu D σ H1) : tFor (iRng1 (tCons te tNil)) (gName j) tu D σ H := h H (Le.refl hs) _ fun v H1 e ⟨n, hv, hn⟩ => by
  subst hv; exact k n H1 e hn
/-- if without else, the state too, what follows told once -/
theorem q_whenJ2 {b : Bool} {J : L2.St → Hp → Prop} (h : EvT t σ H b) (rest : ∀ σ' H', J σ' H' → tz D σ' H') (h1 : b = true → ∀ H1, Ex H H1 → (∀ σ' H', J σ' H' → tz D σ' H') → tu { D with nx := tz D } σ H1) (h2 : b = false → ∀ H1, Ex H H1 → J σ H1) : tSeq (tIfS t tu tNext) tz D σ H :=
  q_when h (fun hb H1 e => h1 hb H1 e rest) fun hb H1 e => rest σ H1 (h2 hb H1 e)
theorem el_lstRg {n : Nat} (h : Ev te σ H (.int (n : Nat))) (hn : n ≤ 1000000) : EvL (tLstRg (tRg1 te)) σ H (rgV 0 (n : Nat)) := fun H0 e0 Q q => h H0 e0 _ fun H1 e1 => ⟨_, rfl, by refine ⟨?_, ?_, ?_, ?_, ?_⟩ <;> omega, fun p np => q p _ (fresh_back e1 np) (e1.trans (Ex.new np)) upd_same⟩
theorem q_callVL {sp : Sp} {dvs vs xs : List V} {E : XK} {ta : TA} {g : TG} (h1 : Ev tb σ H v) (h2 : EvL te σ H xs) (h3 : EvA ta σ H vs) (k : ∀ p H1, H p = none → Ex H H1 → H1 p = some (.lst xs) → sp (v :: .ref p :: (vs ++ dvs)) H1 (fun x H2 => g x σ H2 (tz D)) E) : tSeq (tAsg (tCall sp dvs E (tCons tb (tCons te ta))) g) tz D σ H :=
  h1 H (Ex.refl H) _ fun H1 e1 => h2 H1 e1 _ fun p H2 np e2 hp => h3 H2 (e1.trans e2) _ fun H3 e3 => k p H3 (fresh_back e1 np) ((e1.trans e2).trans e3) (e3 _ _ hp)
theorem s_callLV {sp : Sp} {dvs vs xs : List V} {E : XK} {ta : TA} {g : TG} (h2 : EvL te σ H xs) (h3 : EvA ta σ H vs) (k : ∀ p H1, H p = none → Ex H H1 → H1 p = some (.lst xs) → sp (.ref p :: (vs ++ dvs)) H1 (fun x H2 => g x σ H2 D.nx) E) : tAsg (tCall sp dvs E (tCons te ta)) g D σ H :=
  h2 H (Ex.refl H) _ fun p H2 np e2 hp => h3 H2 e2 _ fun H3 e3 => k p H3 np (e2.trans e3) (e3 _ _ hp)
theorem ea_raw {vs : List V} : EvA (fun _ H Q => Q vs H) σ H vs := fun H1 e Q q => q H1 (Ex.refl H1)
end
theorem rgV0 (n : Nat) : rgV 0 (n : Int) = (List.range n).map fun i => V.int (i : Nat) := by unfold rgV; simp
/-! ### _law_c_mixed -/
section
variable {P : Program} {w : World} {K : PySem.W.Frag} {mg : Str → Option Value} {base : Heap} {H : Hp}
def spMixed : Sp := fun vs H Q _ => ∃ (s g p : Addr) (ps : List AR) (wd : Nat) (M : Int), vs = [.ref s, .ref p, .int (wd : Nat), .int M] ∧ Src s g H ∧ H p = some (.lst (adr ps)) ∧ p ≠ g ∧ Rws H ps ∧ OffG g ps ∧ Md M ∧ wd ≤ 4 ∧ ps.length ≤ 4 ∧ Nice M wd 1000000 (rws ps) (rws ps) ∧
  ∀ (q : Addr) (qs : List AR) (H' : Hp), Own s g H H' q qs → (∀ r ∈ rws qs, r.length = wd) → (M = 0 → Bnd (2 ^ 33) (rws qs)) → SameL M (rws ps) (rws qs) → qs.length ≤ 6 → Q (.ref q) H'
theorem ok_law_c_mixed (L : Lib K mg) {f : Addr} {fd : FuncData} (F : L2.Fun K "_law_c_mixed" "_law_c_mixed" s_law_c_mixed f fd) : FnOk P w K mg base CX0 4 f fd ["s", "rows", "width", "M"] spMixed := by
  obtain ⟨f_law_c_add, fd_law_c_add, F_law_c_add⟩ := L.law_c_add
  obtain ⟨f_law_c_plain, fd_law_c_plain, F_law_c_plain⟩ := L.law_c_plain
  obtain ⟨f_law_pick, fd_law_pick, F_law_pick⟩ := L.law_pick
  obtain ⟨f_law_shuffled, fd_law_shuffled, F_law_shuffled⟩ := L.law_shuffled
  obtain ⟨f_law_some, fd_law_some, F_law_some⟩ := L.law_some
  obtain ⟨f_law_within, fd_law_within, F_law_within⟩ := L.law_within
  have G_law_c_add : FnOk P w K mg base CX0 2 f_law_c_add fd_law_c_add _ (spAdd K) := ok_law_c_add L F_law_c_add.F
  have G_law_c_plain : FnOk P w K mg base CX0 1 f_law_c_plain fd_law_c_plain _ (spPlain K) := ok_law_c_plain L F_law_c_plain.F
  have G_law_pick : FnOk P w K mg base CX0 1 f_law_pick fd_law_pick _ spPick := ok_law_pick L F_law_pick.F
  have G_law_within : FnOk P w K mg base CX0 2 f_law_within fd_law_within _ spWithin := ok_law_within L F_law_within.F
  have G_law_shuffled : FnOk P w K mg base CX0 2 f_law_shuffled fd_law_shuffled _ spShuf := ok_law_shuffled L F_law_shuffled.F
  have G_law_some : FnOk P w K mg base CX0 3 f_law_some fd_law_some _ spSome := ok_law_some L F_law_some.F
  refine F.ok sc_law_c_mixed (fun vs H Q E h => ?_) (fun cdv A outer s H vs Q E hr h => ?_)
  · obtain ⟨s, g, p, ps, wd, M, rfl, _⟩ := h; rfl
  · obtain ⟨s, g, p, ps, wd, M, rfl, hs, hp, hpg, hR, hoff, hm, hwd, hct, hnice, fin⟩ := h
    have hM0 := hm.nonneg
    refine ⟨_, (pss_cons (ps_setLc (i := 4) (own := [("row", 8)]) (g := gName 8) (tt := tYes) rfl sc_law_c_mixed.nd rfl rfl (sw_true rfl rfl rfl (by decide +kernel)) (pi_list (pv 1)) (blkOk_by (own := [("row", 8)]) (N := N_law_c_mixed) (sc := defScope s_law_c_mixed) (by decide +kernel)) (fun _ _ _ _ _ => (pg_name (i := 8) sc_law_c_mixed.nd rfl (Or.inl rfl))) (fun _ _ _ _ _ => pts_nil) (fun _ _ _ _ _ => (pe_callTy (call_list_ofK (K := K)) (by rfl) L.list (by decide +kernel) (pa_cons (pv 8) pa_nil))))
    (pss_cons (ps_for PassesOwn.never rfl (pi_range1 (by rfl) L.range (pa_cons (pe_call G_law_pick (hr.mono (by decide)) (by rfl) F_law_pick.g F_law_pick.F.kp F_law_pick.b .nil pass0 (pa_cons (pv 0) (pa_cons pe_int pa_nil))) pa_nil)) (pg_name (i := 5) sc_law_c_mixed.nd rfl (Or.inl rfl))
      (pss_one (ps_expr (pe_bm PySem.F.plainAttrs_list PySem.F.slot_list_append PySem.F.type_list_append mt_append (pv 4) (pa_cons (pe_lc (own := [("j", 9)]) (g := gName 9) (tt := tYes) rfl sc_law_c_mixed.nd (pi_range1 (by rfl) L.range (pa_cons (pv 2) pa_nil)) (blkOk_by (own := [("j", 9)]) (N := N_law_c_mixed) (sc := defScope s_law_c_mixed) (by decide +kernel)) (fun _ _ _ _ _ => (pg_name (i := 9) sc_law_c_mixed.nd rfl (Or.inl rfl))) (fun _ _ _ _ _ => pts_nil) (fun _ _ _ _ _ => pe_int)) pa_nil)))))
    (pss_cons (ps_if (pt_cmpR op_gt (pe_callB call_len_seq (by rfl) L.len (by decide +kernel) (pa_cons (pv 4) pa_nil)) pe_int (nomark _))
      (pss_one (ps_for PassesOwn.never rfl (pi_range1 (by rfl) L.range (pa_cons (pe_op op_add pe_int (pe_call G_law_pick (hr.mono (by decide)) (by rfl) F_law_pick.g F_law_pick.F.kp F_law_pick.b .nil pass0 (pa_cons (pv 0) (pa_cons pe_int pa_nil)))) pa_nil)) (pg_name (i := 5) sc_law_c_mixed.nd rfl (Or.inl rfl))
      (pss_cons (ps_set (i := 6) sc_law_c_mixed.nd rfl (Or.inl rfl) (pe_call G_law_some (hr.mono (by decide)) (by rfl) F_law_some.g F_law_some.F.kp F_law_some.b .nil pass0 (pa_cons (pv 0) (pa_cons (pe_listRg rfl (by rfl) L.list (prg_1 (by rfl) L.range (pe_callB call_len_seq (by rfl) L.len (by decide +kernel) (pa_cons (pv 4) pa_nil)))) (pa_cons pe_int pa_nil)))))
    (pss_cons (ps_set (i := 7) sc_law_c_mixed.nd rfl (Or.inl rfl) (pe_ifExp (pt_cmpR op_eq (pe_call G_law_pick (hr.mono (by decide)) (by rfl) F_law_pick.g F_law_pick.F.kp F_law_pick.b .nil pass0 (pa_cons (pv 0) (pa_cons pe_int pa_nil))) pe_int (nomark _)) (pv 6) (pe_lst (pa_cons (pe_ix ix_list (pv 6) pe_int (fun _ _ => rfl)) (pa_cons (pe_ix ix_list (pv 6) pe_int (fun _ _ => rfl)) pa_nil)))))
    (pss_one (ps_asg (pe_call G_law_c_add (hr.mono (by decide)) (by rfl) F_law_c_add.g F_law_c_add.F.kp F_law_c_add.b .nil pass0 (pa_cons (pe_ix ix_list (pv 4) (pe_ix ix_list (pv 7) pe_int (fun _ _ => rfl)) (fun _ _ => rfl)) (pa_cons (pe_ix ix_list (pv 4) (pe_ix ix_list (pv 7) pe_int (fun _ _ => rfl)) (fun _ _ => rfl)) (pa_cons (pe_call G_law_within (hr.mono (by decide)) (by rfl) F_law_within.g F_law_within.F.kp F_law_within.b .nil pass0 (pa_cons (pv 0) (pa_cons (pe_op op_sub pe_int pe_int) (pa_cons pe_int pa_nil)))) (pa_cons (pv 3) pa_nil))))) (pg_sub (pv 4) (pe_ix ix_list (pv 7) pe_int (fun _ _ => rfl)) set_list)))))))
      pss_nil)
    (pss_cons (ps_for PassesOwn.never rfl (pi_range1 (by rfl) L.range (pa_cons (pe_callB call_len_seq (by rfl) L.len (by decide +kernel) (pa_cons (pv 4) pa_nil)) pa_nil)) (pg_name (i := 5) sc_law_c_mixed.nd rfl (Or.inl rfl))
      (pss_one (ps_if (pt_cmpR op_eq (pe_call G_law_pick (hr.mono (by decide)) (by rfl) F_law_pick.g F_law_pick.F.kp F_law_pick.b .nil pass0 (pa_cons (pv 0) (pa_cons pe_int pa_nil))) pe_int (nomark _))
      (pss_one (ps_asg (pe_call G_law_c_plain (hr.mono (by decide)) (by rfl) F_law_c_plain.g F_law_c_plain.F.kp F_law_c_plain.b .nil pass0 (pa_cons (pe_lc (own := [("number", 10)]) (g := gName 10) (tt := tYes) rfl sc_law_c_mixed.nd (pi_list (pe_ix ix_list (pv 4) (pv 5) (fun _ _ => rfl))) (blkOk_by (own := [("number", 10)]) (N := N_law_c_mixed) (sc := defScope s_law_c_mixed) (by decide +kernel)) (fun _ _ _ _ _ => (pg_name (i := 10) sc_law_c_mixed.nd rfl (Or.inl rfl))) (fun _ _ _ _ _ => pts_nil) (fun _ _ _ _ _ => (pe_op op_sub pe_int (pv 10)))) (pa_cons (pv 3) pa_nil))) (pg_sub (pv 4) (pv 5) set_list)))
      pss_nil)))
    (pss_cons (ps_set (i := 4) sc_law_c_mixed.nd rfl (Or.inl rfl) (pe_call G_law_shuffled (hr.mono (by decide)) (by rfl) F_law_shuffled.g F_law_shuffled.F.kp F_law_shuffled.b .nil pass0 (pa_cons (pv 0) (pa_cons (pv 4) pa_nil))))
    (pss_cons (ps_if (PW.pt (pw_and (pt_cmpR op_ne (pv 3) pe_int (nomark _)) (pw_and1 (pt_cmpR op_eq (pe_call G_law_pick (hr.mono (by decide)) (by rfl) F_law_pick.g F_law_pick.F.kp F_law_pick.b .nil pass0 (pa_cons (pv 0) (pa_cons pe_int pa_nil))) pe_int (nomark _)))))
      (pss_one (ps_setLc (i := 4) (own := [("row", 8)]) (g := gName 8) (tt := tYes) rfl sc_law_c_mixed.nd rfl rfl (sw_true rfl rfl rfl (by decide +kernel)) (pi_list (pv 4)) (blkOk_by (own := [("row", 8)]) (N := N_law_c_mixed) (sc := defScope s_law_c_mixed) (by decide +kernel)) (fun _ _ _ _ _ => (pg_name (i := 8) sc_law_c_mixed.nd rfl (Or.inl rfl))) (fun _ _ _ _ _ => pts_nil) (fun _ _ _ _ _ => (pe_lc (own := [("number", 10)]) (g := gName 10) (tt := tYes) rfl sc_law_c_mixed.nd (pi_listK (K := K) (pv 8)) (blkOk_nest (own := [("number", 10)]) (N := N_law_c_mixed) (sc := { kind := .function, names := [(".0", .local), ("row", .local), ("M", .cell), ("s", .cell)], isGenerator := false, isCoroutine := false }) (by decide +kernel)) (fun _ _ _ _ _ => (pg_name (i := 10) sc_law_c_mixed.nd rfl (Or.inl rfl))) (fun _ _ _ _ _ => pts_nil) (fun _ _ _ _ _ => (pe_op op_add (pv 10) (pe_op op_mul (pv 3) (pe_call G_law_within (hr.mono (by decide)) (by rfl) F_law_within.g F_law_within.F.kp F_law_within.b .nil pass0 (pa_cons (pv 0) (pa_cons (pe_op op_sub pe_int pe_int) (pa_cons pe_int pa_nil)))))))))))
      pss_nil)
    (pss_one (ps_ret (pv 4))))))))), ?_⟩
    refine q_asgR (el_lcR (fun r => r) (ev_var rfl) (sq_of hp) (by omega) (fun _ => rfl) fun x H1 e1 hx => el_list (ev_var rfl) (ex_l e1 (hR.seq hx))) fun o os H1 no e1 ho1 hR1 eq nq ne => ?_
    rw [List.map_id'] at eq
    have O1 : Own s g H H1 o os := ⟨Le.of hs e1, no, ho1, hR1, fun x hx => ⟨nq x hx, ne x hx⟩⟩
    have hol : os.length ≤ 4 := by rw [← rws_len os, eq, rws_len]; exact hct
    -- rows of noughts
    refine q_forK O1.le.src (evk_pick (n := 3) (fun H2 e => ea_cons (ev_var rfl) (ea_cons ev_c ea_nil)) (by decide)) fun n H2 e2 hn => ?_
    have hn := hn.lt (by decide)
    have O2 := O1.to hs e2
    refine q_forR1 (n := n) ea_raw (by omega) (fun i σ' H' => ∃ (ps' : List AR) (v5 v6 v7 v8 v9 v10 : Option V), σ' = [some (.ref s), some (.ref p), some (.int (wd : Nat)), some (.int M), some (.ref o), v5, v6, v7, v8, v9, v10] ∧ Own s g H H' o ps' ∧ Nice M wd 1000000 (rws ps) (rws ps') ∧ ps'.length ≤ 4 + i)
      (fun H3 e3 => ⟨os, _, _, _, _, _, _, rfl, O2.ex hs e3, by rw [eq]; exact hnice, by omega⟩) ?_ ?_
    · rintro i σ' H' hi ⟨ps', v5, v6, v7, v8, v9, v10, rfl, O3, N3, hl3⟩
      refine s_appL O3.lst (ev_var rfl) (el_lcRI (n := wd) (List.replicate wd 0) (by simp) (ea_cons (ev_var rfl) ea_nil) (by omega) (fun _ => rfl) fun i H1 e1 hi => by rw [en_zero]; exact ev_c) (by rw [adr_len]; omega) fun q H4 nq e4 hq4 => ?_
      have O4 := O3.ex hs e4
      refine ⟨ps' ++ [(q, List.replicate wd 0)], _, _, _, _, _, _, rfl, O4.app hs hq4 (O3.le.back nq) (ne_of_none O3.lst nq).symm, by rw [rws_app]; exact N3.app0 hm, by rw [List.length_append, List.length_singleton]; omega⟩
    rintro σ' H3 ⟨p3, v5, v6, v7, v8, v9, v10, rfl, O3, N3, hl3⟩
    have hl3 : p3.length ≤ 6 := by omega
    -- one row to another
    refine q_whenJ2 (J := fun σ' H' => ∃ (ps' : List AR) (v5 v6 v7 v8 v9 v10 : Option V), σ' = [some (.ref s), some (.ref p), some (.int (wd : Nat)), some (.int M), some (.ref o), v5, v6, v7, v8, v9, v10] ∧ Own s g H H' o ps' ∧ Nice M wd (1000000 * 4 ^ 6) (rws ps) (rws ps') ∧ ps'.length ≤ 6) (et_test (ev_gt (ev_is (ev_len (ev_var rfl) (sq_of O3.lst)) (by rw [adr_len])) ev_c)) (fun σ' H4 h4 => ?_) (fun hb H4 e4 rest => ?_) (fun hb H4 e4 => ⟨p3, _, _, _, _, _, _, rfl, O3.ex hs e4, ⟨N3.len, N3.rng, N3.bnd.mono (by decide), N3.same⟩, hl3⟩)
    rotate_left
    · have hb2 : 1 < p3.length := by have := of_decide_eq_true hb; omega
      have O4 := O3.ex hs e4
      refine s_forK (A := fun n => 2 ≤ n ∧ n ≤ 6) O4.le.src (evi_op (g' := fun i j => i + j) (evi_of (i := 2) fun H1 e => ev_c) (evk_pick (n := 5) (fun H2 e => ea_cons (ev_var rfl) (ea_cons ev_c ea_nil)) (by decide)) fun i j hi hj => ?_) fun n H5 e5 hn => ?_
      · have := hj.lt (by decide); omega
      have O5 := O4.to hs e5
      refine s_forR1 (n := n) ea_raw (by omega) (fun i σ' H' => ∃ (ps' : List AR) (v5 v6 v7 v8 v9 v10 : Option V), σ' = [some (.ref s), some (.ref p), some (.int (wd : Nat)), some (.int M), some (.ref o), v5, v6, v7, v8, v9, v10] ∧ Own s g H H' o ps' ∧ Nice M wd (1000000 * 4 ^ i) (rws ps) (rws ps') ∧ ps'.length = p3.length)
        (fun H6 e6 => ⟨p3, _, _, _, _, _, _, rfl, O5.ex hs e6, by simpa using N3, rfl⟩) ?_ ?_
      · rintro i σ' H6 hi ⟨ps', v5, v6, v7, v8, v9, v10, rfl, O6, N6, hl6⟩
        have hi : i < 6 := by omega
        have b1 : 1000000 * 4 ^ i ≤ 1000000 * 4 ^ 5 := Nat.mul_le_mul_left _ (Nat.pow_le_pow_right (by decide) (by omega))
        have b2 : 1000000 * 1 ≤ 1000000 * 4 ^ i := Nat.mul_le_mul_left _ (Nat.one_le_pow _ _ (by decide))
        have b3 : 1000000 * 4 ^ 5 < 1073741824 := by decide
        -- two
        refine q_callVL (ev_var rfl) (el_lstRg (n := ps'.length) (ev_is (ev_len (ev_var rfl) (sq_of O6.lst)) (by rw [adr_len])) (by omega)) (ea_cons ev_c ea_nil) fun l H7 nl e7 hl7 => ?_
        have O7 := O6.ex hs e7
        have lg : l ≠ g := O6.le.src.newG nl
        refine ⟨s, g, l, rgV 0 (ps'.length : Nat), 2, rfl, O7.le.src, hl7, lg, by rw [rgV0, List.length_map, List.length_range]; omega, fun tw ys H9 e9 ntw htw hperm => ?_⟩
        have O9 := O7.to hs e9
        -- which
        have hlen := hperm.length_eq
        rw [rgV0] at hperm hlen
        rw [List.length_map, List.length_range] at hlen
        obtain ⟨ks, hks, rfl⟩ := perm_map hperm
        obtain ⟨a, b, ka, kb, rest', hab, hal, hbl, rfl⟩ : ∃ (a b : Nat) (_ : Unit) (_ : Unit) (t : List Nat), a ≠ b ∧ a < ps'.length ∧ b < ps'.length ∧ ks = a :: b :: t := by
          have hnd := hks.nodup_iff.mpr List.nodup_range
          rw [List.length_map] at hlen
          match ks, hlen, hnd, hks with
          | [], h, _, _ => simp at h; omega
          | [_], h, _, _ => simp at h; omega
          | a :: b :: t, _, hnd, hks =>
            refine ⟨a, b, (), (), t, fun e => ?_, List.mem_range.mp (hks.mem_iff.mp (by simp)), List.mem_range.mp (hks.mem_iff.mp (by simp)), rfl⟩
            subst e; simp at hnd
        have htw : H9 tw = some (.lst [.int (a : Nat), .int (b : Nat)]) := htw
        have twH : H tw = none := O7.le.back ntw
        have twg : tw ≠ g := hs.newG twH
        -- the row
        have goOn : ∀ (D' : Ends) (hD' : ∀ σ' H', (∃ (ps' : List AR) (v5 v6 v7 v8 v9 v10 : Option V), σ' = [some (.ref s), some (.ref p), some (.int (wd : Nat)), some (.int M), some (.ref o), v5, v6, v7, v8, v9, v10] ∧ Own s g H H' o ps' ∧ Nice M wd (1000000 * 4 ^ (i + 1)) (rws ps) (rws ps') ∧ ps'.length = p3.length) → D'.nx σ' H') (tn : Addr) (a b : Nat) (H10 : Hp) (v10' : Option V), a ≠ b → a < ps'.length → b < ps'.length → Own s g H H10 o ps' → H10 tn = some (.lst [.int (a : Nat), .int (b : Nat)]) → tn ≠ g →
            tAsg (tCall (spAdd K) [] E0 (tCons (tOp (rIxL K) (tVar 4) (tOp (rIxL K) (tVar 7) (tC (.int 0)))) (tCons (tOp (rIxL K) (tVar 4) (tOp (rIxL K) (tVar 7) (tC (.int 1)))) (tCons (tCall spWithin [] E0 (tCons (tVar 0) (tCons (tOp (rI0 fun i j => .int (i - j)) (tC (.int 0)) (tC (.int 3))) (tCons (tC (.int 3)) tNil)))) (tCons (tVar 3) tNil))))) (gSub (tVar 4) (tOp (rIxL K) (tVar 7) (tC (.int 0))) rSetL)
              D'
              [some (.ref s), some (.ref p), some (.int (wd : Nat)), some (.int M), some (.ref o), some (.int (i : Nat)), some (.ref tw), some (.ref tn), v8, v9, v10'] H10 := by
          intro D' hD' tn a b H10 v10' hab hal hbl O10 htn tng
          obtain ⟨x, hx⟩ : ∃ x, ps'[a]? = some x := ⟨ps'[a], List.getElem?_eq_getElem hal⟩
          obtain ⟨y, hy⟩ : ∃ y, ps'[b]? = some y := ⟨ps'[b], List.getElem?_eq_getElem hbl⟩
          have hlx := N6.len x.2 (List.mem_map.mpr ⟨x, List.mem_of_getElem? hx, rfl⟩)
          have hly := N6.len y.2 (List.mem_map.mpr ⟨y, List.mem_of_getElem? hy, rfl⟩)
          refine (ev_ix (K := K) (ev_var rfl) (ev_ix (K := K) (ev_var rfl) ev_c (sq_of htn) rfl) (sq_of O10.lst) (atI_nat (adr_at hx))) H10 (Ex.refl H10) _ fun H11 e11 => ?_
          refine (ev_ix (K := K) (ev_var rfl) (ev_ix (K := K) (ev_var rfl) ev_c (sq_of (e11 _ _ htn)) rfl) (sq_of (e11 _ _ O10.lst)) (atI_nat (adr_at hy))) H11 (Ex.refl H11) _ fun H12 e12 => ?_
          have O12 := O10.ex hs (e11.trans e12)
          have htn12 := (e11.trans e12) _ _ htn
          refine (evk_within (s := s) (g := g) (lo := -3) (hi := 3) (fun H1 e => ea_cons (ev_var rfl) (ea_cons (ev_is (ev_sub ev_c ev_c) rfl) (ea_cons ev_c ea_nil))) (by decide) (by decide)) H12 (Le.refl O12.le.src) _ fun v H13 e13 ⟨k, hv, hk⟩ => ?_
          subst hv
          have O13 := O12.to hs e13
          have htn13 := e13.lst O12.le.src htn12 tng
          refine (ev_var rfl) H13 (Ex.refl H13) _ fun H14 e14 => ?_
          have O14 := O13.ex hs e14
          have htn14 := e14 _ _ htn13
          have bN := N6.bnd y.2 (List.mem_map.mpr ⟨y, List.mem_of_getElem? hy, rfl⟩)
          refine ⟨x.1, y.1, x.2, y.2, k, M, rfl, sq_of (O14.rws x (List.mem_of_getElem? hx)), sq_of (O14.rws y (List.mem_of_getElem? hy)), by omega, by omega, hM0, fun j => CMulW_small (by omega) (by have := bN j; omega), fun q H15 nq e15 hq => ?_⟩
          have O15 := O14.ex hs e15
          have htn15 := e15 _ _ htn14
          refine (ev_var rfl) H15 (Ex.refl H15) _ fun H16 e16 => ?_
          refine (ev_ix (K := K) (ev_var rfl) ev_c (sq_of (e16 _ _ htn15)) rfl) H16 (Ex.refl H16) _ fun H17 e17 => ?_
          have O17 := O15.ex hs (e16.trans e17)
          have e67 := e16.trans e17
          refine ⟨o, adr ps', _, a, rfl, rfl, O17.lst, ixN_nat (by rw [adr_len]; exact hal), ?_⟩
          refine hD' _ _ ⟨ps'.set a (q, addT x.2 y.2 k M), _, _, _, _, _, _, rfl, O17.put hs (e67 _ _ hq) (O14.le.back nq) (ne_of_none O14.lst nq).symm, ?_, by rw [List.length_set]; exact hl6⟩
          rw [rws_set, Nat.pow_succ, Nat.mul_comm (4 ^ i) 4, Nat.mul_left_comm]
          exact N6.add hm (by omega) (rws_at hx) (rws_at hy) hab hk
        refine etk_eq0 (evk_pick (s := s) (g := g) (H := H9) (n := 2) (fun H2 e => ea_cons (ev_var rfl) (ea_cons ev_c ea_nil)) (by decide)) (fun _ => ev_c) H9 (Le.refl O9.le.src) _ fun k H10 e10 hk => ?_
        have O10 := O9.to hs e10
        have htw10 := e10.lst O9.le.src htw twg
        refine ite2 (fun hb => ?_) (fun hb => ?_)
        · refine (ev_var rfl) H10 (Ex.refl H10) _ fun H11 e11 => ?_
          exact goOn _ (fun _ _ h => h) tw a b H11 v10 hab hal hbl (O10.ex hs e11) (e11 _ _ htw10) twg
        · refine (el_lst (ea_cons (ev_ix (K := K) (ev_var rfl) ev_c (sq_of htw10) rfl) (ea_cons (ev_ix (K := K) (ev_var rfl) ev_c (sq_of htw10) rfl) ea_nil)) (by simp)) H10 (Ex.refl H10) _ fun t2 H11 n2 e11 h11 => ?_
          exact goOn _ (fun _ _ h => h) t2 b a H11 v10 hab.symm hbl hal (O10.ex hs e11) h11 (O10.le.src.newG n2)
      · rintro σ' H6 ⟨ps', v5, v6, v7, v8, v9, v10, rfl, O6, N6, hl6⟩
        refine rest _ _ ⟨ps', _, _, _, _, _, _, rfl, O6, ⟨N6.len, N6.rng, N6.bnd.mono (Nat.mul_le_mul_left _ (Nat.pow_le_pow_right (by decide) (by omega))), N6.same⟩, by omega⟩
    obtain ⟨p4, v5, v6, v7, v8, v9, v10, rfl, O4, N4, hl4⟩ := h4
    -- signs
    refine q_forR1 (n := (p4.length : Nat)) (ea_cons (ev_is (ev_len (ev_var rfl) (sq_of O4.lst)) (by rw [adr_len])) ea_nil) (by omega) (fun i σ' H' => ∃ (ps' : List AR) (v5 v6 v7 v8 v9 v10 : Option V), σ' = [some (.ref s), some (.ref p), some (.int (wd : Nat)), some (.int M), some (.ref o), v5, v6, v7, v8, v9, v10] ∧ Own s g H H' o ps' ∧ Nice M wd (1000000 * 4 ^ 6) (rws ps) (rws ps') ∧ ps'.length = p4.length)
      (fun H3 e3 => ⟨p4, _, _, _, _, _, _, rfl, O4.ex hs e3, N4, rfl⟩) ?_ ?_
    · rintro i σ' H5 hi ⟨ps', v5, v6, v7, v8, v9, v10, rfl, O5, N5, hl5⟩
      refine etk_eq0 (evk_pick (s := s) (g := g) (H := H5) (n := 3) (fun H2 e => ea_cons (ev_var rfl) (ea_cons ev_c ea_nil)) (by decide)) (fun _ => ev_c) H5 (Le.refl O5.le.src) _ fun k H6 e6 hk => ?_
      have O6 := O5.to hs e6
      refine ite2 (fun hb => ?_) (fun hb => ?_)
      · obtain ⟨x, hx⟩ : ∃ x, ps'[i]? = some x := ⟨ps'[i], List.getElem?_eq_getElem (by omega)⟩
        have hlx := N5.len x.2 (List.mem_map.mpr ⟨x, List.mem_of_getElem? hx, rfl⟩)
        refine s_callLV (el_lcI (K := K) (fun x => 0 - x) (ev_ix (K := K) (ev_var rfl) (ev_var rfl) (sq_of O6.lst) (atI_nat (adr_at hx))) (sq_of (O6.rws x (List.mem_of_getElem? hx))) (by omega) (fun _ => rfl) fun y H1 e1 hy => ev_sub ev_c (ev_var rfl)) (ea_cons (ev_var rfl) ea_nil) fun l H8 nl e8 hl7 => ?_
        have O8 := O6.ex hs e8
        refine ⟨l, x.2.map fun x => 0 - x, M, rfl, sq_of hl7, by rw [List.length_map]; omega, hM0, fun q H9 nq e9 hq => ?_⟩
        have O9 := O8.ex hs e9
        refine (ev_var rfl) H9 (Ex.refl H9) _ fun H10 e10 => ?_
        refine (ev_var rfl) H10 (Ex.refl H10) _ fun H11 e11 => ?_
        have O11 := O9.ex hs (e10.trans e11)
        refine ⟨o, adr ps', _, i, rfl, rfl, O11.lst, ixN_nat (by rw [adr_len]; omega), ?_⟩
        refine ⟨ps'.set i (q, negT x.2 M), _, _, _, _, _, _, rfl, O11.put hs ((e10.trans e11) _ _ hq) (O8.le.back nq) (ne_of_none O8.lst nq).symm, ?_, by rw [List.length_set]; exact hl5⟩
        rw [rws_set]
        exact N5.neg hm (by decide) (rws_at hx)
      · exact ⟨ps', _, _, _, _, _, _, rfl, O6, N5, hl5⟩
    rintro σ' H5 ⟨p5, v5, v6, v7, v8, v9, v10, rfl, O5, N5, hl5⟩
    -- in any order
    refine q_call (ea_cons (ev_var rfl) (ea_cons (ev_var rfl) ea_nil)) fun H6 e6 => ?_
    have O6 := O5.ex hs e6
    refine ⟨s, g, o, adr p5, rfl, O6.le.src, O6.lst, (O6.off hs).1, by rw [adr_len]; omega, fun q ys H7 e7 nq hq hperm => ?_⟩
    obtain ⟨p7, hp7, rfl⟩ := perm_map hperm
    have O7' := O6.to hs e7
    have O7 : Own s g H H7 q p7 := ⟨O7'.le, O6.le.back nq, hq, O7'.rws.sub fun x hx => hp7.mem_iff.mp hx, fun x hx => ⟨(O6.fr x (hp7.mem_iff.mp hx)).1, ne_of_none (O6.rws x (hp7.mem_iff.mp hx)) nq⟩⟩
    have N7 : Nice M wd (1000000 * 4 ^ 6) (rws ps) (rws p7) := N5.perm fun r => (hp7.map (·.2)).mem_iff
    have hl7 : p7.length ≤ 6 := by have := hp7.length_eq; omega
    have goOn : ∀ (q : Addr) (qs : List AR) (H8 : Hp) (v8 v10 : Option V), Own s g H H8 q qs → (∀ r ∈ rws qs, r.length = wd) → (M = 0 → Bnd (2 ^ 33) (rws qs)) → SameL M (rws ps) (rws qs) → qs.length ≤ 6 → tRet (tVar 4) { nx := fun x H' => Q V.non H', rt := Q } [some (.ref s), some (.ref p), some (.int (wd : Nat)), some (.int M), some (.ref q), v5, v6, v7, v8, v9, v10] H8 := fun q qs H8 v8 v10 O8 h1 h2 h3 h4 => s_ret (ev_var rfl) fun H9 e9 => fin q qs H9 (O8.ex hs e9) h1 h2 h3 h4
    have hB : Bnd (2 ^ 33) (rws p7) := N7.bnd.mono (by decide)
    refine (et_test (b := decide (M ≠ 0)) (ev_neI (ev_var rfl) ev_c)) H7 (Ex.refl H7) _ fun H8 e8 => ?_
    have O8 := O7.ex hs e8
    by_cases hM : M = 0
    · rw [decide_eq_false (by simpa using hM)]
      exact goOn q p7 H8 _ _ O8 N7.len (fun _ => hB) N7.same hl7
    rw [decide_eq_true hM]
    refine etk_eq0 (evk_pick (s := s) (g := g) (H := H8) (n := 2) (fun H2 e => ea_cons (ev_var rfl) (ea_cons ev_c ea_nil)) (by decide)) (fun _ => ev_c) H8 (Le.refl O8.le.src) _ fun k H9 e9 hk => ?_
    have O9 := O8.to hs e9
    refine ite2 (fun hb => ?_) (fun hb => goOn q p7 H9 _ _ O9 N7.len (fun h => absurd h hM) N7.same hl7)
    refine elk_lcR (fun r r' => r'.length = r.length ∧ ∀ j, M ∣ en r' j - en r j) (fun H1 e1 => ev_var rfl) O9.le.src O9.lst (O9.off hs).1 (by omega) (fun _ => rfl) (fun i x hx => ?_) fun q2 q2s H10 O10 hql hpt => ?_
    · have xg := (O9.off hs).2 x (List.mem_of_getElem? hx)
      refine (elk_lc (fun i v => ∃ k, v = .int k ∧ ∃ c, x.2[i]? = some c ∧ M ∣ k - c) (fun H1 e1 => ev_var rfl) O9.le.src (O9.rws x (List.mem_of_getElem? hx)) xg (by rw [iL_len, N7.len x.2 (List.mem_map.mpr ⟨x, List.mem_of_getElem? hx, rfl⟩)]; omega) (fun _ => rfl) fun i v hv => ?_).imp fun zs hz => ?_
      · obtain ⟨c, rfl, hc⟩ := iL_get hv
        refine (evi_op (A := fun k => k = c) (B := fun k => M ∣ k) (C := fun k => M ∣ k - c) (g' := fun i j => i + j) (evi_of fun H1 e => ev_var rfl) (evi_opC (C' := CMul) (g' := fun i j => i * j) (evi_of (i := M) fun H1 e => ev_var rfl) (evk_within (lo := -2) (hi := 2) (fun H1 e => ea_cons (ev_var rfl) (ea_cons (ev_is (ev_sub ev_c ev_c) rfl) (ea_cons ev_c ea_nil))) (by decide) (by decide)) (fun i j hi hj => ?_) fun i j hi hj => ?_) fun i j hi hj => ?_).imp fun v ⟨k, hk, hd⟩ => ⟨k, hk, c, hc, hd⟩
        · have := hm.pos hM
          exact cmul_l (by omega) (by omega)
        · rw [hi]; exact Int.dvd_mul_right _ _
        · rw [hi]; show M ∣ c + j - c
          rw [show c + j - c = j by omega]; exact hj
      · obtain ⟨h1, h2⟩ := hz
        obtain ⟨r, rfl, hr⟩ := all_ints h2
        rw [iL_len, iL_len] at h1
        refine ⟨r, rfl, h1, fun j => ?_⟩
        by_cases hj : j < r.length
        · obtain ⟨c, hc, hd⟩ := hr j _ (en_lt hj)
          rw [en_get hc]; exact hd
        · rw [en_ge (by omega), en_ge (by omega)]; exact ⟨0, by simp⟩
    · have O11 : Own s g H H10 q2 q2s := ⟨O9.le.trans O10.le, O9.le.back O10.np, O10.lst, O10.rws, fun x hx => ⟨O9.le.back (O10.fr x hx).1, (O10.fr x hx).2⟩⟩
      refine goOn q2 q2s H10 _ _ O11 (fun r hr => ?_) (fun h => absurd h hM) (N7.same.trans (SameL.pts (by rw [rws_len, rws_len, hql]) fun i r r' hr hr' => ?_)) (by omega)
      · obtain ⟨y, hy, rfl⟩ := List.mem_map.mp hr
        obtain ⟨i, hi⟩ := List.getElem?_of_mem hy
        have hil := (List.getElem?_eq_some_iff.mp hi).1
        have hx := List.getElem?_eq_getElem (l := p7) (i := i) (by omega)
        rw [(hpt i _ y hx hi).1]
        exact N7.len _ (List.mem_map.mpr ⟨_, List.getElem_mem _, rfl⟩)
      · unfold rws at hr hr'
        rw [List.getElem?_map] at hr hr'
        obtain ⟨x, hx, rfl⟩ := Option.map_eq_some_iff.mp hr
        obtain ⟨y, hy, rfl⟩ := Option.map_eq_some_iff.mp hr'
        exact (hpt i x y hx hy).2
end
end Mine
set_option Elab.async false
set_option linter.all false
set_option maxRecDepth 100000
set_option maxHeartbeats 4000000
namespace Mine
open PySem PySem.Spec PyProof.Rows L2 Evl
/-! ### the law -/
theorem eqv_ints : ∀ r : Row, PyData.eqvAll (r.map PyData.int) (r.map PyData.int) = true
  | [] => by simp [PyData.eqvAll]
  | x :: r => by simp [PyData.eqvAll, PyData.eqv, eqv_ints r]
theorem eqv_I (r : Row) : PyData.eqv (dI r) (dI r) = true := by simp [dI, PyData.eqv, eqv_ints r]
theorem eqv_rows : ∀ rs : List Row, PyData.eqvAll (rs.map dI) (rs.map dI) = true
  | [] => by simp [PyData.eqvAll]
  | x :: r => by simp [PyData.eqvAll, eqv_I, eqv_rows r]
theorem eqv_R (rs : List Row) : PyData.eqv (dR rs) (dR rs) = true := by simp [dR, PyData.eqv, eqv_rows rs]
theorem cnt_ints : ∀ r : Row, cntAll (r.map PyData.int) = r.length
  | [] => rfl
  | x :: r => by
    simp only [List.map_cons, cntAll, cnt, cnt_ints r, List.length_cons]; omega
theorem cnt_rows {wd : Nat} : ∀ rs : List Row, (∀ r ∈ rs, r.length ≤ wd) → cntAll (rs.map dI) ≤ rs.length * (wd + 1)
  | [], _ => Nat.zero_le _
  | r :: rs, h => by
    have h1 := cnt_rows rs fun x hx => h x (List.mem_cons_of_mem _ hx)
    have h2 := h r (List.mem_cons_self ..)
    have h3 : cnt (dI r) = r.length := cnt_ints r
    rw [List.map_cons, List.length_cons, Nat.add_mul, Nat.one_mul]
    show cnt (dI r) + 1 + cntAll (rs.map dI) ≤ _
    omega
theorem dep_R (rs : List Row) : (dR rs).depth ≤ 2 := by
  have := dep_allR rs
  simp only [dR, PyData.depth]; omega
theorem same_R {K : PySem.W.Frag} {H : Hp} {a b : Addr} {ps qs : List AR} {wd : Nat} (ha : H a = some (.lst (adr ps))) (hp : Rws H ps) (hb : H b = some (.lst (adr qs))) (hq : Rws H qs) (e : rws ps = rws qs) (hw : ∀ r ∈ rws ps, r.length ≤ wd) (hwd : wd ≤ 4) (hl : ps.length ≤ 20) : SpV (spSame 2) [.ref a, .ref b] H (.bl true) := by
  refine same_spv (dtR ha hp) (by rw [e]; exact dtR hb hq) (dep_R _) ?_
  have h1 := cnt_rows (wd := wd) (rws ps) hw
  rw [rws_len] at h1
  show cntAll ((rws ps).map dI) ≤ 40000
  have h2 : ps.length * (wd + 1) ≤ 20 * 5 := Nat.mul_le_mul hl (by omega)
  omega
theorem ro_of {M : Int} {wd : Nat} {D : List (Nat × Row)} {R : List Row} (h : Herm M wd D) (e : D.map (·.2) = R) (hb : ∀ r ∈ R, ∀ j, (en r j).natAbs ≤ 1000000) : ∀ o ∈ R, RO M wd o := fun o ho => by
  have ho' := ho
  rw [← e] at ho'
  obtain ⟨d, hd, rfl⟩ := List.mem_map.mp ho'
  obtain ⟨_, h1, h2, h3, _⟩ := h.ech.all d hd
  have hl := h.len d hd
  have fp : firstP d.2 = d.1 := firstP_at (en_lt (by omega)) (by omega) h2
  exact ⟨hl, by rw [fp]; exact h1, by rw [fp]; omega, fun j => Nat.le_trans (hb _ ho j) (by decide)⟩
theorem sum_bnd {M : Int} (hm : Md M) {B wd : Nat} (hB : 5 ≤ B) : ∀ {rs : List Row} {ks : List Int} {t : Row} {C : Nat}, (∀ k ∈ ks, -4 ≤ k ∧ k ≤ 4) → (∀ r ∈ rs, r.length = wd) → t.length = wd → (∀ r ∈ rs, ∀ j, (en r j).natAbs ≤ B) → (∀ j, (en t j).natAbs ≤ C) → ∀ j, (en (sumT rs ks t M) j).natAbs ≤ C + rs.length * (4 * B)
  | [], ks, t, C, _, _, _, _, h, j => by
    have : sumT [] ks t M = t := by cases ks <;> rfl
    rw [this]; have := h j; simp; omega
  | r :: rs, [], t, C, _, _, _, _, h, j => by
    have : sumT (r :: rs) [] t M = t := rfl
    rw [this]; have := h j; omega
  | r :: rs, k :: ks, t, C, hk, hl, ht, hr, h, j => by
    have e : sumT (r :: rs) (k :: ks) t M = sumT rs ks (addT t r k M) M := rfl
    rw [e]
    have rl := hl r (List.mem_cons_self ..)
    have ez : ∀ j, en (List.zipWith (fun a b => a + k * b) t r) j = en t j + k * en r j := fun j => en_zip (by simp) (by omega) j
    have h2 : ∀ j, (en (addT t r k M) j).natAbs ≤ C + 4 * B := fun j => by
      by_cases hM : M = 0
      · subst hM
        unfold addT
        rw [plainRow_0, ez]
        have h1 := h j
        have h3 : (k * en r j).natAbs ≤ 4 * B := by
          rw [Int.natAbs_mul]
          exact Nat.mul_le_mul (by have := hk k (List.mem_cons_self ..); omega) (hr r (List.mem_cons_self ..) j)
        omega
      · have h3 : Rng M (addT t r k M) := plainRow_rng hm
        have := h3 hM j
        have := hm.pos hM
        omega
    have := sum_bnd hm hB (rs := rs) (ks := ks) (t := addT t r k M) (C := C + 4 * B) (fun k h => hk k (List.mem_cons_of_mem _ h)) (fun x hx => hl x (List.mem_cons_of_mem _ hx)) (by rw [addT_len (by omega)]; exact ht) (fun x hx => hr x (List.mem_cons_of_mem _ hx)) h2 j
    rw [List.length_cons, Nat.add_mul, Nat.one_mul]; omega
section
variable {K : PySem.W.Frag} {s g : Addr} {σ : L2.St} {H H' : Hp} {ta tb te tf tx tl : TE} {t u : TT} {x y z v w1 : V} {D : Ends} {tu tw tz : TS} {A B C : Int → Prop} {P P' : V → Prop}
theorem q_parKK {i j : Nat} (hs : Src s g H) (h : EvK s g te σ H P) (h2 : EvK s g tf σ H P') (k : ∀ v w H1, Le s g H H1 → P v → P' w → tz D ((σ.set i (some v)).set j (some w)) H1) : tSeq (tPar i j (tCons te (tCons tf tNil))) tz D σ H :=
  h H (Le.refl hs) _ fun v H1 e1 pv => h2 H1 e1 _ fun w H2 e2 pw => ⟨_, _, rfl, k v w H2 (e1.trans e2) pv pw⟩
theorem evk_mod {ta : TA} {E : XK} (ha : ∀ H1, Le s g H H1 → EvA ta σ H1 [.ref s]) : EvK s g (tCall spMod [] E ta) σ H (isI Md) := fun H1 e Q q => ha H1 e H1 (Ex.refl H1) _ fun H2 e2 => ⟨s, g, rfl, e.src.ex e2, fun M H3 e3 hm => q _ H3 ((Le.of e.src e2).trans e3) ⟨M, rfl, hm⟩⟩
theorem rv_neD {d e : PyData} (hx : ∀ H1, Ex H H1 → Dp K H1 x d) (hy : ∀ H1, Ex H H1 → Dp K H1 y e) (h1 : SeqAt.shaped d = true) (h2 : SeqAt.shaped e = true) : RV (rNeD K) x y H (.bl (!d.eqv e)) := fun H1 e1 Q q => ⟨d, e, hx H1 e1, hy H1 e1, h1, h2, q H1 (Ex.refl H1)⟩
theorem Own.mut {p q : Addr} {H0 : Hp} {ps : List AR} {u : HO} (hs : Src s g H) (o0 : Own s g H H0 p ps) (n : H0 q = none) (o : Own s g H H' p ps) : Own s g H (L2.upd H' q u) p ps :=
  ⟨o.le.mut hs (o0.le.back n), o.np, by rw [upd_ne (ne_of_none o0.lst n)]; exact o.lst, o.rws.upd fun x hx => ne_of_none (o0.rws x hx) n, o.fr⟩
def EvX (te : TE) (σ : L2.St) (H : Hp) (R : V → Hp → Prop) : Prop := ∀ H1, Ex H H1 → ∀ Q : VK, (∀ v H2, Ex H1 H2 → R v H2 → Q v H2) → te σ H1 Q
theorem exx_call {sp : Sp} {dvs vs : List V} {E : XK} {ta : TA} {R : V → Hp → Prop} (ha : EvA ta σ H vs) (hs : ∀ H1, Ex H H1 → ∀ Q : VK, (∀ v H2, Ex H1 H2 → R v H2 → Q v H2) → sp (vs ++ dvs) H1 Q E) : EvX (tCall sp dvs E ta) σ H R := fun H1 e1 Q q => ha H1 e1 _ fun H2 e2 => hs H2 (e1.trans e2) Q fun v H3 e3 r => q v H3 (e2.trans e3) r
theorem ev_callX {sp : Sp} {dvs vs : List V} {E : XK} {ta : TA} {R : V → Hp → Prop} (h : EvX te σ H R) (ha : EvA ta σ H vs) (hs : ∀ v H1 H2, Ex H H1 → R v H1 → Ex H1 H2 → SpV sp (v :: (vs ++ dvs)) H2 z) : Ev (tCall sp dvs E (tCons te ta)) σ H z := fun H1 e1 Q q =>
  h H1 e1 _ fun v H2 e2 r => ha H2 (e1.trans e2) _ fun H3 e3 => hs v H2 H3 (e1.trans e2) r e3 H3 (Ex.refl H3) Q (fun H4 e4 => q H4 ((e2.trans e3).trans e4)) E
theorem q_callVK {sp : Sp} {dvs vs : List V} {E : XK} {ta : TA} {g' : TG} {R : List V → Prop} (hs : Src s g H) (h1 : Ev tb σ H v) (h2 : ElK s g te σ H R) (h3 : ∀ H1, Le s g H H1 → EvA ta σ H1 vs) (k : ∀ p xs H1, H p = none → Le s g H H1 → H1 p = some (.lst xs) → R xs → sp (v :: .ref p :: (vs ++ dvs)) H1 (fun x H2 => g' x σ H2 (tz D)) E) : tSeq (tAsg (tCall sp dvs E (tCons tb (tCons te ta))) g') tz D σ H :=
  h1 H (Ex.refl H) _ fun H1 e1 => h2 H1 (Le.of hs e1) _ fun p xs H2 np e2 hp hr => h3 H2 ((Le.of hs e1).trans e2) H2 (Ex.refl H2) _ fun H3 e3 => k p xs H3 (fresh_back e1 np) (((Le.of hs e1).trans e2).trans (Le.of e2.src e3)) (e3 _ _ hp) hr
theorem evr_copy {E : XK} {ta : TA} {p : Addr} {ps : List AR} (ha : EvA ta σ H [.ref p]) (hp : SqL K H p (adr ps)) (hR : Rws H ps) (hl : ps.length ≤ 1000) : EvR (tCall (spCopy K) [] E ta) σ H (rws ps) := fun H1 e1 Q q => ha H1 e1 _ fun H2 e2 => ⟨p, ps, rfl, ex_l (e1.trans e2) hp, hR.ex (e1.trans e2), hl, fun a qs H3 na e3 h1 h2 h3 h4 h5 => q a qs H3 (fresh_back e2 na) (e2.trans e3) h1 h2 h3 (fun x hx => fresh_back e2 (h4 x hx)) h5⟩
theorem q_parRL {i j : Nat} {rs : List Row} {xs : List V} (h : EvR te σ H rs) (h2 : ∀ H1, Ex H H1 → EvL tf σ H1 xs) (k : ∀ p qs q H1, Ex H H1 → H1 p = some (.lst (adr qs)) → Rws H1 qs → rws qs = rs → H1 q = some (.lst xs) → tz D ((σ.set i (some (.ref p))).set j (some (.ref q))) H1) : tSeq (tPar i j (tCons te (tCons tf tNil))) tz D σ H :=
  h H (Ex.refl H) _ fun p qs H1 np e1 hp hR he _ _ => h2 H1 e1 H1 (Ex.refl H1) _ fun q H2 nq e2 hq => ⟨_, _, rfl, k p qs q H2 (e1.trans e2) (e2 _ _ hp) (hR.ex e2) he hq⟩
theorem et_whenF {b : Bool} (h : EvT t σ H b) (hb : b = false) (k : ∀ H1, Ex H H1 → tz D σ H1) : tSeq (tIfS t tu tNext) tz D σ H := q_when h (fun z => absurd z (by rw [hb]; decide)) fun _ H1 e => k H1 e
theorem et_whenS {b : Bool} (h : EvT t σ H b) (hb : b = false) (k : ∀ H1, Ex H H1 → D.nx σ H1) : tIfS t tu tNext D σ H := s_when h (fun z => absurd z (by rw [hb]; decide)) fun _ H1 e => k H1 e
end
section
variable {P : Program} {w : World} {K : PySem.W.Frag} {mg : Str → Option Value} {base : Heap} {H : Hp}
def spLaw (K : PySem.W.Frag) : Sp := fun vs H Q _ => ∃ (a : Addr) (ns : List Int), vs = [.ref a] ∧ SqL K H a (ns.map V.int) ∧ ns.length ≤ 63 ∧ ∀ H', Q (.bl true) H'
theorem ok_law (L : Lib K mg) {f : Addr} {fd : FuncData} (F : L2.Fun K "law" "law" s_law f fd) : FnOk P w K mg base CX0 6 f fd ["script"] (spLaw K) := by
  obtain ⟨f_law_c_box, fd_law_c_box, F_law_c_box⟩ := L.law_c_box
  obtain ⟨f_law_c_copy, fd_law_c_copy, F_law_c_copy⟩ := L.law_c_copy
  obtain ⟨f_law_c_mixed, fd_law_c_mixed, F_law_c_mixed⟩ := L.law_c_mixed
  obtain ⟨f_law_c_reduced, fd_law_c_reduced, F_law_c_reduced⟩ := L.law_c_reduced
  obtain ⟨f_law_c_sum, fd_law_c_sum, F_law_c_sum⟩ := L.law_c_sum
  obtain ⟨f_law_inside, fd_law_inside, F_law_inside⟩ := L.law_inside
  obtain ⟨f_law_modulus, fd_law_modulus, F_law_modulus⟩ := L.law_modulus
  obtain ⟨f_law_pick, fd_law_pick, F_law_pick⟩ := L.law_pick
  obtain ⟨f_law_same, fd_law_same, F_law_same⟩ := L.law_same
  obtain ⟨f_law_source, fd_law_source, F_law_source⟩ := L.law_source
  obtain ⟨f_law_within, fd_law_within, F_law_within⟩ := L.law_within
  obtain ⟨f_hermite_rows, fd_hermite_rows, F_hermite_rows⟩ := L.hermite_rows
  obtain ⟨f_in_lattice, fd_in_lattice, F_in_lattice⟩ := L.in_lattice
  have G_law_source : FnOk P w K mg base CX0 1 f_law_source fd_law_source _ (spSource K) := ok_law_source L F_law_source.F
  have G_law_modulus : FnOk P w K mg base CX0 3 f_law_modulus fd_law_modulus _ spMod := ok_law_modulus L F_law_modulus.F
  have G_law_pick : FnOk P w K mg base CX0 1 f_law_pick fd_law_pick _ spPick := ok_law_pick L F_law_pick.F
  have G_law_within : FnOk P w K mg base CX0 2 f_law_within fd_law_within _ spWithin := ok_law_within L F_law_within.F
  have G_law_c_reduced : FnOk P w K mg base CX0 4 f_law_c_reduced fd_law_c_reduced _ spReduced := ok_law_c_reduced L F_law_c_reduced.F
  have G_law_c_mixed : FnOk P w K mg base CX0 4 f_law_c_mixed fd_law_c_mixed _ spMixed := ok_law_c_mixed L F_law_c_mixed.F
  have G_law_c_copy : FnOk P w K mg base CX0 1 f_law_c_copy fd_law_c_copy _ (spCopy K) := ok_law_c_copy L F_law_c_copy.F
  have G_hermite_rows : FnOk P w K mg base CX0 5 f_hermite_rows fd_hermite_rows _ (spHermite K) := ok_hermite_rows L F_hermite_rows.F
  have G_law_same : FnOk P w K mg base CX0 4 f_law_same fd_law_same _ (spSame 2) := ok_law_same L F_law_same 2
  have G_law_c_box : FnOk P w K mg base CX0 1 f_law_c_box fd_law_c_box _ spBox := ok_law_c_box L F_law_c_box.F
  have G_law_c_sum : FnOk P w K mg base CX0 3 f_law_c_sum fd_law_c_sum _ (spSum K) := ok_law_c_sum L F_law_c_sum.F
  have G_in_lattice : FnOk P w K mg base CX0 3 f_in_lattice fd_in_lattice _ (spIn K) := ok_in_lattice L F_in_lattice.F
  have G_law_inside : FnOk P w K mg base CX0 3 f_law_inside fd_law_inside _ (spIn K) := ok_law_inside L F_law_inside.F
  refine F.ok sc_law (fun vs H Q E h => ?_) (fun cdv A outer s0 H vs Q E hr h => ?_)
  · obtain ⟨a, ns, rfl, _⟩ := h; rfl
  · obtain ⟨a, ns, rfl, hS, hl, fin⟩ := h
    refine ⟨_, (pss_cons (ps_set (i := 1) sc_law.nd rfl (Or.inr rfl) (pe_call G_law_source (hr.mono (by decide)) (by rfl) F_law_source.g F_law_source.F.kp F_law_source.b .nil pass0 (pa_cons (pv 0) (pa_cons pe_int pa_nil))))
    (pss_cons (ps_for PassesOwn.never rfl (pi_range1 (by rfl) L.range (pa_cons pe_int pa_nil)) (pg_name (i := 2) sc_law.nd rfl (Or.inl rfl))
      (pss_cons (ps_par (i := 3) (j := 4) rfl sc_law.nd rfl rfl (by decide) rfl rfl (pa_cons (pe_call G_law_modulus (hr.mono (by decide)) (by rfl) F_law_modulus.g F_law_modulus.F.kp F_law_modulus.b .nil pass0 (pa_cons (pv 1) pa_nil)) (pa_cons (pe_call G_law_pick (hr.mono (by decide)) (by rfl) F_law_pick.g F_law_pick.F.kp F_law_pick.b .nil pass0 (pa_cons (pv 1) (pa_cons pe_int pa_nil))) pa_nil)) (by rfl))
    (pss_cons (ps_set (i := 5) sc_law.nd rfl (Or.inl rfl) (pe_call G_law_c_reduced (hr.mono (by decide)) (by rfl) F_law_c_reduced.g F_law_c_reduced.F.kp F_law_c_reduced.b .nil pass0 (pa_cons (pv 1) (pa_cons (pv 4) (pa_cons (pv 3) pa_nil)))))
    (pss_cons (ps_for PassesOwn.never rfl (pi_range1 (by rfl) L.range (pa_cons pe_int pa_nil)) (pg_name (i := 6) sc_law.nd rfl (Or.inl rfl))
      (pss_cons (ps_set (i := 7) sc_law.nd rfl (Or.inl rfl) (pe_call G_law_c_mixed (hr.mono (by decide)) (by rfl) F_law_c_mixed.g F_law_c_mixed.F.kp F_law_c_mixed.b .nil pass0 (pa_cons (pv 1) (pa_cons (pv 5) (pa_cons (pv 4) (pa_cons (pv 3) pa_nil))))))
    (pss_cons (ps_set (i := 8) sc_law.nd rfl (Or.inl rfl) (pe_call G_law_c_copy (hr.mono (by decide)) (by rfl) F_law_c_copy.g F_law_c_copy.F.kp F_law_c_copy.b .nil pass0 (pa_cons (pv 7) pa_nil)))
    (pss_cons (ps_set (i := 9) sc_law.nd rfl (Or.inl rfl) (pe_call G_hermite_rows (hr.mono (by decide)) (by rfl) F_hermite_rows.g F_hermite_rows.F.kp F_hermite_rows.b .nil pass0 (pa_cons (pv 7) (pa_cons (pv 4) (pa_cons (pv 3) pa_nil)))))
    (pss_cons (ps_if (PW.pt (pw_or (pt_not (pt_val (pe_call G_law_same (hr.mono (by decide)) (by rfl) F_law_same.g F_law_same.F.kp F_law_same.b .nil pass0 (pa_cons (pv 9) (pa_cons (pv 5) pa_nil))))) (pw_or1 (pt_cmpR (op_neD hr.units) (pv 7) (pv 8) (nomark _)))))
      (pss_one (ps_ret pe_bl))
      pss_nil)
    (pss_cons (ps_expr (pe_bm PySem.F.plainAttrs_list PySem.F.slot_list_append PySem.F.type_list_append mt_append (pv 9) (pa_cons (pe_lc (own := [("k", 10)]) (g := gName 10) (tt := tYes) rfl sc_law.nd (pi_range1 (by rfl) L.range (pa_cons (pv 4) pa_nil)) (blkOk_by (own := [("k", 10)]) (N := N_law) (sc := defScope s_law) (by decide +kernel)) (fun _ _ _ _ _ => (pg_name (i := 10) sc_law.nd rfl (Or.inl rfl))) (fun _ _ _ _ _ => pts_nil) (fun _ _ _ _ _ => pe_int)) pa_nil)))
    (pss_cons (ps_for PassesOwn.never rfl (pi_list (pv 9)) (pg_name (i := 11) sc_law.nd rfl (Or.inl rfl))
      (pss_one (ps_expr (pe_bm PySem.F.plainAttrs_list PySem.F.slot_list_append PySem.F.type_list_append mt_append (pv 11) (pa_cons pe_int pa_nil)))))
    (pss_one (ps_if (pt_not (pt_val (pe_call G_law_same (hr.mono (by decide)) (by rfl) F_law_same.g F_law_same.F.kp F_law_same.b .nil pass0 (pa_cons (pe_call G_hermite_rows (hr.mono (by decide)) (by rfl) F_hermite_rows.g F_hermite_rows.F.kp F_hermite_rows.b .nil pass0 (pa_cons (pv 7) (pa_cons (pv 4) (pa_cons (pv 3) pa_nil)))) (pa_cons (pv 5) pa_nil)))))
      (pss_one (ps_ret pe_bl))
      pss_nil)))))))))
    (pss_cons (ps_set (i := 12) sc_law.nd rfl (Or.inl rfl) (pe_call G_law_c_box (hr.mono (by decide)) (by rfl) F_law_c_box.g F_law_c_box.F.kp F_law_c_box.b .nil pass0 (pa_cons (pv 4) (pa_cons (pe_ifExp (pt_cmpR op_gt (pv 4) pe_int (nomark _)) pe_int pe_int) pa_nil))))
    (pss_cons (ps_for PassesOwn.never rfl (pi_range1 (by rfl) L.range (pa_cons pe_int pa_nil)) (pg_name (i := 10) sc_law.nd rfl (Or.inl rfl))
      (pss_cons (ps_set (i := 13) sc_law.nd rfl (Or.inr rfl) (pe_call G_law_c_sum (hr.mono (by decide)) (by rfl) F_law_c_sum.g F_law_c_sum.F.kp F_law_c_sum.b .nil pass0 (pa_cons (pv 5) (pa_cons (pe_lc (own := [("row", 11)]) (g := gName 11) (tt := tYes) rfl sc_law.nd (pi_list (pv 5)) (blkOk_by (own := [("row", 11)]) (N := N_law) (sc := defScope s_law) (by decide +kernel)) (fun _ _ _ _ _ => (pg_name (i := 11) sc_law.nd rfl (Or.inl rfl))) (fun _ _ _ _ _ => pts_nil) (fun _ _ _ _ _ => (pe_call G_law_within (hr.mono (by decide)) (by rfl) F_law_within.g F_law_within.F.kp F_law_within.b .nil pass0 (pa_cons (pv 1) (pa_cons (pe_op op_sub pe_int pe_int) (pa_cons pe_int pa_nil)))))) (pa_cons (pv 4) (pa_cons (pv 3) pa_nil))))))
    (pss_cons (ps_expr (pe_bm PySem.F.plainAttrs_list PySem.F.slot_list_append PySem.F.type_list_append mt_append (pv 12) (pa_cons (pv 13) pa_nil)))
    (pss_one (ps_if (pt_cmpR op_gt (pv 4) pe_int (nomark _))
      (pss_cons (ps_set (i := 14) sc_law.nd rfl (Or.inr rfl) (pe_call G_law_pick (hr.mono (by decide)) (by rfl) F_law_pick.g F_law_pick.F.kp F_law_pick.b .nil pass0 (pa_cons (pv 1) (pa_cons (pv 4) pa_nil))))
    (pss_one (ps_expr (pe_bm PySem.F.plainAttrs_list PySem.F.slot_list_append PySem.F.type_list_append mt_append (pv 12) (pa_cons (pe_lc (own := [("j", 17)]) (g := gName 17) (tt := tYes) rfl sc_law.nd (pi_range1 (by rfl) L.range (pa_cons (pv 4) pa_nil)) (blkOk_by (own := [("j", 17)]) (N := N_law) (sc := defScope s_law) (by decide +kernel)) (fun _ _ _ _ _ => (pg_name (i := 17) sc_law.nd rfl (Or.inl rfl))) (fun _ _ _ _ _ => pts_nil) (fun _ _ _ _ _ => (pe_op op_add (pe_ix (ix_listK (K := K)) (pv 13) (pv 17) (fun _ _ => rfl)) (pe_ifExp (pt_cmpR op_eq (pv 17) (pv 14) (nomark _)) pe_int pe_int)))) pa_nil)))))
      pss_nil)))))
    (pss_one (ps_for PassesOwn.never rfl (pi_list (pv 12)) (pg_name (i := 11) sc_law.nd rfl (Or.inl rfl))
      (pss_cons (ps_par (i := 15) (j := 16) rfl sc_law.nd rfl rfl (by decide) rfl rfl (pa_cons (pe_call G_law_c_copy (hr.mono (by decide)) (by rfl) F_law_c_copy.g F_law_c_copy.F.kp F_law_c_copy.b .nil pass0 (pa_cons (pv 5) pa_nil)) (pa_cons (pe_callTy call_list_of (by rfl) L.list (by decide +kernel) (pa_cons (pv 11) pa_nil)) pa_nil)) (by rfl))
    (pss_cons (ps_if (pt_not (pt_val (pe_call G_law_same (hr.mono (by decide)) (by rfl) F_law_same.g F_law_same.F.kp F_law_same.b .nil pass0 (pa_cons (pe_call G_in_lattice (hr.mono (by decide)) (by rfl) F_in_lattice.g F_in_lattice.F.kp F_in_lattice.b .nil pass0 (pa_cons (pv 15) (pa_cons (pv 16) (pa_cons (pv 3) pa_nil)))) (pa_cons (pe_call G_law_inside (hr.mono (by decide)) (by rfl) F_law_inside.g F_law_inside.F.kp F_law_inside.b .nil pass0 (pa_cons (pv 5) (pa_cons (pv 11) (pa_cons (pv 3) pa_nil)))) pa_nil)))))
      (pss_one (ps_ret pe_bl))
      pss_nil)
    (pss_one (ps_if (PW.pt (pw_or (pt_cmpR (op_neD hr.units) (pv 15) (pv 5) (nomark _)) (pw_or1 (pt_cmpR (op_neD hr.units) (pv 16) (pv 11) (nomark _)))))
      (pss_one (ps_ret pe_bl))
      pss_nil))))))))))))
    (pss_one (ps_ret pe_bl)))), ?_⟩
    refine q_call (ea_cons (ev_var rfl) (ea_cons ev_c ea_nil)) fun H1 e1 => ?_
    refine ⟨a, ns, rfl, ex_l e1 hS, hl, fun s g H2 e2 hs2 hs hg => ?_⟩
    refine q_forR1 (n := 3) (ea_cons ev_c ea_nil) (by omega) (fun i σ' H' => ∃ (v2 v3 v4 v5 v6 v7 v8 v9 v10 v11 v12 v13 v14 v15 v16 v17 : Option V), σ' = [some (.ref a), some (.ref s), v2, v3, v4, v5, v6, v7, v8, v9, v10, v11, v12, v13, v14, v15, v16, v17] ∧ Src s g H')
      (fun H3 e3 => ⟨_, _, _, _, _, _, _, _, _, _, _, _, _, _, _, _, rfl, hs2.ex e3⟩) ?_ (fun σ' H' _ => s_ret ev_c fun H2 _ => fin H2)
    rintro turn σ' H3 ht ⟨v2, v3, v4, v5, v6, v7, v8, v9, v10, v11, v12, v13, v14, v15, v16, v17, rfl, hs3⟩
    refine q_parKK hs3 (evk_mod fun H1 e => ea_cons (ev_var rfl) ea_nil) (evk_pick (n := 5) (fun H1 e => ea_cons (ev_var rfl) (ea_cons ev_c ea_nil)) (by decide)) fun v v' H4 e4 ⟨M, hv, hm⟩ ⟨wi, hv', hwi⟩ => ?_
    subst hv hv'
    have hwi := hwi.lt (by decide)
    obtain ⟨wd, rfl⟩ : ∃ wd : Nat, wi = (wd : Nat) := ⟨wi.toNat, by omega⟩
    have hwd : wd ≤ 4 := by omega
    have hM0 := hm.nonneg
    refine q_call (ea_cons (ev_var rfl) (ea_cons (ev_var rfl) (ea_cons (ev_var rfl) ea_nil))) fun H5 e5 => ?_
    refine ⟨s, g, wd, M, rfl, e4.src.ex e5, hm, hwd, fun du ps D HB e6 ndu hdu hRd hfd hne hH hD hBd hcd => ?_⟩
    have hsB : Src s g HB := e6.src
    have dug : du ≠ g := (e4.src.ex e5).newG ndu
    have dof : OffG g ps := fun x hx => (e4.src.ex e5).newG (hfd x hx)
    have hlen : ∀ r ∈ rws ps, r.length = wd := fun r hr => by
      rw [← hD] at hr
      obtain ⟨d, hd, rfl⟩ := List.mem_map.mp hr
      exact hH.len d hd
    have hrng : ∀ r ∈ rws ps, Rng M r := fun r hr => by
      rw [← hD] at hr
      obtain ⟨d, hd, rfl⟩ := List.mem_map.mp hr
      exact hH.rng d hd
    have hRO := ro_of hH hD hBd
    have sameD : ∀ {H6 : Hp} {t : Addr} {ts : List AR}, Le s g HB H6 → H6 t = some (.lst (adr ts)) → Rws H6 ts → rws ts = D.map (·.2) → SpV (spSame 2) [.ref t, .ref du] H6 (.bl true) := fun {H6 t ts} L6 h1 h2 h3 => by
      have e : rws ts = rws ps := h3.trans hD
      exact same_R (K := K) (wd := wd) h1 h2 (L6.lst hsB hdu dug) (L6.rws hsB hRd dof) e (fun r hr => by rw [e] at hr; exact Nat.le_of_eq (hlen r hr)) hwd (by have := congrArg List.length e; rw [rws_len, rws_len] at this; omega)
    -- twice
    refine q_forR1 (n := 2) (ea_cons ev_c ea_nil) (by omega) (fun i σ' H' => ∃ (v6 v7 v8 v9 v10 v11 : Option V), σ' = [some (.ref a), some (.ref s), some (.int (turn : Nat)), some (.int M), some (.int (wd : Nat)), some (.ref du), v6, v7, v8, v9, v10, v11, v12, v13, v14, v15, v16, v17] ∧ Le s g HB H')
      (fun H6 e6 => ⟨_, _, _, _, _, _, rfl, Le.of hsB e6⟩) ?_ ?_
    · rintro again σ' H6 hi ⟨v6, v7, v8, v9, v10, v11, rfl, L6⟩
      refine q_call (ea_cons (ev_var rfl) (ea_cons (ev_var rfl) (ea_cons (ev_var rfl) (ea_cons (ev_var rfl) ea_nil)))) fun H7 e7 => ?_
      have L7 := L6.trans (Le.of L6.src e7)
      refine ⟨s, g, du, ps, wd, M, rfl, L7.src, L7.lst hsB hdu dug, dug, L7.rws hsB hRd dof, dof, hm, hwd, hcd, ⟨hlen, hrng, hBd, SameL.refl⟩, fun ro qs H8 O8 hql hqb hqs hqc => ?_⟩
      have L8 := L7.trans O8.le
      -- kept
      refine q_call (ea_cons (ev_var rfl) ea_nil) fun H9 e9 => ?_
      refine ⟨ro, qs, rfl, sq_of (e9 _ _ O8.lst), O8.rws.ex e9, by omega, fun ke ks H10 nke e10 hke hRk eqk nk nek => ?_⟩
      have O10 := (O8.ex L7.src e9).ex L7.src e10
      have L10 := L7.trans O10.le
      -- told
      refine q_call (ea_cons (ev_var rfl) (ea_cons (ev_var rfl) (ea_cons (ev_var rfl) ea_nil))) fun H11 e11 => ?_
      have O11 := O10.ex L7.src e11
      refine ⟨ro, qs, wd, M, D, rfl, sq_of O11.lst, O11.rws, hm, hwd, by omega, hql, hqb, hH, by rw [hD]; exact hqs, fun te ts H12 e12 hte nte hRt eqt nt net => ?_⟩
      have O12 := O11.ex L7.src e12
      have L12 := L7.trans O12.le
      have hke12 := (e11.trans e12) _ _ hke
      have hRk12 := (hRk.ex e11).ex e12
      refine et_whenF (et_or (et_not (et_test (ev_call (ea_cons (ev_var rfl) (ea_cons (ev_var rfl) ea_nil)) (sameD L12 hte hRt eqt)))) fun _ => et_test (ev_op (ev_var rfl) (ev_var rfl) (rv_neD (d := dR (rws qs)) (e := dR (rws ks)) (fun H1 e => dpR (sq_of (e _ _ O12.lst)) (O12.rws.ex e)) (fun H1 e => dpR (sq_of (e _ _ hke12)) (hRk12.ex e)) (shR _) (shR _)))) (by rw [eqk, eqv_R]; rfl) fun H13 e13 => ?_
      have O13 := O12.ex L7.src e13
      have L13 := L7.trans O13.le
      -- what was told is changed
      refine q_appL (e13 _ _ hte) (ev_var rfl) (el_lcRI (n := wd) (List.replicate wd 7) (by simp) (ea_cons (ev_var rfl) ea_nil) (by omega) (fun _ => rfl) fun i H1 e1 hi => by
        rw [en_get (r := List.replicate wd 7) (x := 7) (by simp [hi])]; exact ev_c) (by rw [adr_len]; have := congrArg List.length (eqt.trans hD); rw [rws_len, rws_len] at this; omega) fun l7 H14 n7 e14 h7 => ?_
      have O14 := O13.ex L7.src e14
      have htl : ts.length ≤ 4 := by have := congrArg List.length (eqt.trans hD); rw [rws_len, rws_len] at this; omega
      have n7' : H11 l7 = none := fresh_back (e12.trans e13) n7
      have O15 := Own.mut (u := .lst (adr ts ++ [.ref l7])) L7.src O11 nte O14
      have hadr : adr ts ++ [V.ref l7] = adr (ts ++ [(l7, List.replicate wd 7)]) := by rw [adr_app]; rfl
      have l7te : l7 ≠ te := (ne_of_none (e13 _ _ hte) n7).symm
      have fr15 : ∀ x ∈ ts ++ [(l7, List.replicate wd 7)], H11 x.1 = none ∧ x.1 ≠ te ∧ ∃ xs : List V, (L2.upd H14 te (.lst (adr ts ++ [.ref l7]))) x.1 = some (.lst xs) ∧ xs.length ≤ 100 + 0 := fun x hx => by
        rcases List.mem_append.mp hx with h | h
        · refine ⟨nt x h, net x h, iL x.2, ?_, ?_⟩
          · rw [upd_ne (net x h)]; exact (e13.trans e14) _ _ (hRt x h)
          · have := hlen x.2 (by rw [← hD, ← eqt]; exact List.mem_map.mpr ⟨x, h, rfl⟩)
            rw [iL_len]; omega
        · have e := List.mem_singleton.mp h
          subst e
          refine ⟨n7', l7te, iL (List.replicate wd 7), ?_, ?_⟩
          · rw [upd_ne l7te]; exact h7
          · rw [iL_len, List.length_replicate]; omega
      have hte15 : (L2.upd H14 te (.lst (adr ts ++ [.ref l7]))) te = some (.lst (adr (ts ++ [(l7, List.replicate wd 7)]))) := by rw [upd_same, hadr]
      have htl2 : (ts ++ [(l7, List.replicate wd (7 : Int))]).length ≤ 1000 := by rw [List.length_append, List.length_singleton]; omega
      generalize L2.upd H14 te (.lst (adr ts ++ [.ref l7])) = H15 at O15 fr15 hte15
      generalize ts ++ [(l7, List.replicate wd 7)] = ts' at fr15 hte15 htl2
      refine q_forLn (ev_var rfl) (sq_of hte15) (fun m σ' H' => ∃ (v10 v11 : Option V), σ' = [some (.ref a), some (.ref s), some (.int (turn : Nat)), some (.int M), some (.int (wd : Nat)), some (.ref du), some (.int (again : Nat)), some (.ref ro), some (.ref ke), some (.ref te), v10, v11, v12, v13, v14, v15, v16, v17] ∧ Own s g H7 H' ro qs ∧ H' te = some (.lst (adr ts')) ∧ ∀ x ∈ ts', ∃ xs : List V, H' x.1 = some (.lst xs) ∧ xs.length ≤ 100 + m)
        (fun H16 e16 => ⟨_, _, rfl, O15.ex L7.src e16, e16 _ _ hte15, fun x hx => by obtain ⟨_, _, xs, h1, h2⟩ := fr15 x hx; exact ⟨xs, e16 _ _ h1, h2⟩⟩) (fun i σ' H' _ ⟨_, _, _, _, h, _⟩ => sq_of h) ?_ ?_
      · rintro m x σ' H16 hm' ⟨v10, v11, rfl, O16, hte16, hx16⟩
        obtain ⟨y, hy, rfl⟩ := adr_get hm'
        have yin := List.mem_of_getElem? hy
        obtain ⟨ny, yte, _⟩ := fr15 y yin
        obtain ⟨xs, hxs, hxl⟩ := hx16 y yin
        have hml := (List.getElem?_eq_some_iff.mp hy).1
        have htl' : ts'.length ≤ 1000 := htl2
        refine s_app hxs (ev_var rfl) ev_c (by omega) fun H17 e17 => ?_
        refine ⟨_, _, rfl, Own.mut L7.src O11 ny (O16.ex L7.src e17), by rw [upd_ne yte.symm]; exact e17 _ _ hte16, fun z hz => ?_⟩
        by_cases hzy : z.1 = y.1
        · rw [hzy, upd_same]; exact ⟨_, rfl, by rw [List.length_append, List.length_singleton]; omega⟩
        · obtain ⟨zs, hzs, hzl⟩ := hx16 z hz
          rw [upd_ne hzy]; exact ⟨zs, e17 _ _ hzs, by omega⟩
      rintro σ' H16 ⟨v10, v11, rfl, O16, hte16, hx16⟩
      have L16 := L7.trans O16.le
      refine et_whenS (et_not (et_test (b := true) (ev_callX (R := fun v H21 => ∃ (tf : Addr) (us : List AR), v = .ref tf ∧ H21 tf = some (.lst (adr us)) ∧ Rws H21 us ∧ rws us = D.map (·.2)) (exx_call (ea_cons (ev_var rfl) (ea_cons (ev_var rfl) (ea_cons (ev_var rfl) ea_nil))) fun H20 e20 Q' q' => ?_) (ea_cons (ev_var rfl) ea_nil) fun v H21 H22 e21 ⟨tf, us, hv, htf, hRu, equ⟩ e22 => ?_))) rfl fun H18 e18 => ⟨_, _, _, _, _, _, rfl, L16.trans (Le.of L16.src e18)⟩
      · have O20 := O16.ex L7.src e20
        exact ⟨ro, qs, wd, M, D, rfl, sq_of O20.lst, O20.rws, hm, hwd, by omega, hql, hqb, hH, by rw [hD]; exact hqs, fun tf us H21 e21 htf ntf hRu equ nu neu => q' _ H21 e21 ⟨tf, us, rfl, htf, hRu, equ⟩⟩
      · subst hv
        exact sameD (L16.trans (Le.of L16.src (e21.trans e22))) (e22 _ _ htf) (hRu.ex e22) equ
    rintro σ' H6 ⟨v6, v7, v8, v9, v10, v11, rfl, L6⟩
    -- the rows that are asked
    refine q_call (vs := [.int (wd : Nat), .int ((if wd > 2 then 1 else 2 : Nat) : Int)]) (ea_cons (ev_var rfl) (ea_cons (ev_is (ev_ifB (et_test (ev_gt (ev_var rfl) ev_c)) (fun _ => ev_c) (fun _ => ev_c)) (by by_cases z : wd > 2 <;> simp [z] <;> omega)) ea_nil)) fun H7 e7 => ?_
    have L7 := L6.trans (Le.of L6.src e7)
    refine ⟨wd, _, rfl, hwd, by split <;> omega, ?_, fun as qs H8 nas e8 has hRa hqs hql hqn hqf => ?_⟩
    · have : wd = 0 ∨ wd = 1 ∨ wd = 2 ∨ wd = 3 ∨ wd = 4 := by omega
      rcases this with h | h | h | h | h <;> subst h <;> decide
    have O8 : Own s g HB H8 as qs := ⟨L7.trans (Le.of L7.src e8), L7.back nas, has, hRa, fun x hx => ⟨L7.back (hqf x hx), hqn x hx⟩⟩
    have hq8 : ∀ x ∈ qs, x.2.length = wd ∧ ∀ j, (en x.2 j).natAbs ≤ 2 ^ 40 := fun x hx => ⟨(hqs x hx).1, fun j => Nat.le_trans ((hqs x hx).2 j) (by decide)⟩
    clear hqs hRa has e8 nas L7 e7
    refine q_forR1 (n := 2) (ea_cons ev_c ea_nil) (by omega) (fun i σ' H' => ∃ (qs : List AR) (v10 v11 v13 v14 v17 : Option V), σ' = [some (.ref a), some (.ref s), some (.int (turn : Nat)), some (.int M), some (.int (wd : Nat)), some (.ref du), v6, v7, v8, v9, v10, v11, some (.ref as), v13, v14, v15, v16, v17] ∧ Own s g HB H' as qs ∧ (∀ x ∈ qs, x.2.length = wd ∧ ∀ j, (en x.2 j).natAbs ≤ 2 ^ 40) ∧ qs.length ≤ 100 + 2 * i)
      (fun H9 e9 => ⟨qs, _, _, _, _, _, rfl, O8.ex hsB e9, hq8, by omega⟩) ?_ ?_
    · rintro i σ' H9 hi ⟨qs, v10, v11, v13, v14, v17, rfl, O9, hq9, hl9⟩
      have hdu9 := O9.le.lst hsB hdu dug
      refine q_callVK O9.le.src (ev_var rfl) (elk_lc (K := K) (fun i v => ∃ k, v = .int k ∧ -4 ≤ k ∧ k ≤ 4) (fun H1 e1 => ev_var rfl) O9.le.src hdu9 dug (by rw [adr_len]; omega) (fun _ => rfl) fun i v hv => (evk_within (lo := -4) (hi := 4) (fun H1 e => ea_cons (ev_var rfl) (ea_cons (ev_is (ev_sub ev_c ev_c) rfl) (ea_cons ev_c ea_nil))) (by decide) (by decide)).imp fun v hv => hv) (fun H1 e1 => ea_cons (ev_var rfl) (ea_cons (ev_var rfl) ea_nil)) fun kp zs H10 nkp e10 hkp hz => ?_
      obtain ⟨hzl, hz⟩ := hz
      obtain ⟨ks, rfl, hks⟩ := all_ints hz
      rw [iL_len, adr_len] at hzl
      have O10 := O9.to hsB e10
      have hks' : ∀ k ∈ ks, -4 ≤ k ∧ k ≤ 4 := fun k hk => by
        obtain ⟨i, hi⟩ := List.getElem?_of_mem hk
        exact hks i k hi
      refine ⟨du, kp, ps, ks, wd, M, rfl, sq_of (O10.le.lst hsB hdu dug), O10.le.rws hsB hRd dof, sq_of hkp, hzl, by omega, by omega, hM0, hlen, fun k hk r hr j => CMulW_small (by have := hks' k hk; omega) (by have := hBd r hr j; omega), fun ip H11 nip e11 hip => ?_⟩
      have O11 := O10.ex hsB e11
      have sl : (sumT (rws ps) ks (List.replicate wd 0) M).length = wd := sumT_len hlen (by simp)
      have sb := sum_bnd hm (B := 1000000) (wd := wd) (by decide) (rs := rws ps) (ks := ks) (t := List.replicate wd 0) (C := 0) hks' hlen (by simp) hBd (fun j => by rw [en_zero]; simp)
      have sb : ∀ j, (en (sumT (rws ps) ks (List.replicate wd 0) M) j).natAbs ≤ 16000000 := fun j => by
        have h1 := sb j
        rw [rws_len] at h1
        have : ps.length * (4 * 1000000) ≤ 4 * (4 * 1000000) := Nat.mul_le_mul_right _ hcd
        omega
      generalize sumT (rws ps) ks (List.replicate wd 0) M = su at sl sb hip
      have ipas : ip ≠ as := (ne_of_none O10.lst nip).symm
      have nipB : HB ip = none := O10.le.back nip
      refine q_app O11.lst (ev_var rfl) (ev_var rfl) (by rw [adr_len]; omega) fun H12 e12 => ?_
      have O12 := Own.app (r := su) hsB (O11.ex hsB e12) (e12 _ _ hip) nipB ipas
      have hip12 : (L2.upd H12 as (.lst (adr qs ++ [.ref ip]))) ip = some (.lst (iL su)) := by rw [upd_ne ipas]; exact e12 _ _ hip
      have hq12 : ∀ x ∈ qs ++ [(ip, su)], x.2.length = wd ∧ ∀ j, (en x.2 j).natAbs ≤ 2 ^ 40 := fun x hx => by
        rcases List.mem_append.mp hx with h | h
        · exact hq9 x h
        · rw [List.mem_singleton.mp h]; exact ⟨sl, fun j => Nat.le_trans (sb j) (by decide)⟩
      have hl12 : (qs ++ [(ip, su)]).length ≤ 101 + 2 * i := by rw [List.length_append, List.length_singleton]; omega
      generalize L2.upd H12 as (.lst (adr qs ++ [.ref ip])) = H13 at O12 hip12
      generalize qs ++ [(ip, su)] = qs' at O12 hq12 hl12
      refine s_when (et_test (ev_gt (ev_var rfl) ev_c)) (fun hb H14 e14 => ?_) (fun hb H14 e14 => ⟨qs', _, _, _, _, _, rfl, O12.ex hsB e14, hq12, by omega⟩)
      have hb := of_decide_eq_true hb
      have O14 := O12.ex hsB e14
      refine q_asgK O14.le.src (evk_pick (n := (wd : Nat)) (fun H1 e => ea_cons (ev_var rfl) (ea_cons (ev_var rfl) ea_nil)) (by omega)) fun v H15 e15 ⟨at_, hv, hat⟩ => ?_
      subst hv
      have O15 := O14.to hsB e15
      have ipg : ip ≠ g := hsB.newG nipB
      have hip15 := e15.lst O14.le.src (e14 _ _ hip12) ipg
      refine s_appL O15.lst (ev_var rfl) (el_lcRI (n := wd) ((List.range wd).map fun j => en su j + if (j : Int) = at_ then 1 else 0) (by simp) (ea_cons (ev_var rfl) ea_nil) (by omega) (fun _ => rfl) fun j H1 e1 hj => ?_) (by rw [adr_len]; omega) fun tp H16 ntp e16 htp => ?_
      · refine ev_is (ev_add (ev_ix (K := K) (ev_var rfl) (ev_var rfl) (sq_of (e1 _ _ hip15)) (iL_en (by omega))) (ev_is (ev_ifB (et_test (ev_eqI (ev_var rfl) (ev_var rfl))) (fun _ => ev_c) (fun _ => ev_c)) (w := .int (if (j : Int) = at_ then 1 else 0)) (by by_cases z : (j : Int) = at_ <;> simp [z]))) ?_
        rw [en_get (r := (List.range wd).map fun j => en su j + if (j : Int) = at_ then 1 else 0) (x := en su j + if (j : Int) = at_ then 1 else 0) (by simp [hj])]
      · have O16 := O15.ex hsB e16
        refine ⟨qs' ++ [(tp, (List.range wd).map fun j => en su j + if (j : Int) = at_ then 1 else 0)], _, _, _, _, _, rfl, O16.app hsB htp (O15.le.back ntp) (ne_of_none O15.lst ntp).symm, fun x hx => ?_, by rw [List.length_append, List.length_singleton]; omega⟩
        rcases List.mem_append.mp hx with h | h
        · exact hq12 x h
        · rw [List.mem_singleton.mp h]
          refine ⟨by simp, fun j => ?_⟩
          by_cases hj : j < wd
          · rw [en_get (r := (List.range wd).map fun j => en su j + if (j : Int) = at_ then 1 else 0) (x := en su j + if (j : Int) = at_ then 1 else 0) (by simp [hj])]
            have := sb j
            split <;> omega
          · rw [en_ge (by simp; omega)]; simp
    -- the answers
    rintro σ' H9 ⟨qs, v10, v11, v13, v14, v17, rfl, O9, hq9, hl9⟩
    refine s_forLn (ev_var rfl) (sq_of O9.lst) (fun i σ' H' => ∃ (v10 v11 v13 v14 v15 v16 v17 : Option V), σ' = [some (.ref a), some (.ref s), some (.int (turn : Nat)), some (.int M), some (.int (wd : Nat)), some (.ref du), v6, v7, v8, v9, v10, v11, some (.ref as), v13, v14, v15, v16, v17] ∧ Own s g HB H' as qs)
      (fun H10 e10 => ⟨_, _, _, _, _, _, _, rfl, O9.ex hsB e10⟩) (fun i σ' H' _ ⟨_, _, _, _, _, _, _, _, o⟩ => sq_of o.lst) ?_ (fun σ' H' ⟨v10, v11, v13, v14, v15, v16, v17, hσ, o⟩ => ⟨_, _, _, _, _, _, _, _, _, _, _, _, _, _, _, _, hσ, o.le.src⟩)
    rintro i x σ' H10 hx ⟨v10, v11, v13, v14, v15, v16, v17, rfl, O10⟩
    obtain ⟨y, hy, rfl⟩ := adr_get hx
    have yin := List.mem_of_getElem? hy
    obtain ⟨yl, yb⟩ := hq9 y yin
    have hdu10 := O10.le.lst hsB hdu dug
    have hRd10 := O10.le.rws hsB hRd dof
    refine q_parRL (evr_copy (K := K) (ea_cons (ev_var rfl) ea_nil) (sq_of hdu10) hRd10 (by omega)) (fun H1 e1 => el_list (ev_var rfl) (ex_l e1 (O10.rws.seq yin))) fun hp hs' op H11 e11 hhp hRh eqh hop => ?_
    have O11 := O10.ex hsB e11
    have hdu11 := e11 _ _ hdu10
    have hRd11 := hRd10.ex e11
    have hhl : hs'.length ≤ 4 := by have := congrArg List.length eqh; rw [rws_len, rws_len] at this; omega
    refine et_whenF (et_not (et_test (b := true) (ev_call (vs := [.bl (isZ (restOf (rws ps) y.2 M)), .bl (isZ (restOf (rws ps) y.2 M))]) (ea_cons (ev_call (ea_cons (ev_var rfl) (ea_cons (ev_var rfl) (ea_cons (ev_var rfl) ea_nil))) fun H1 e1 Q' q' _ => ?_) (ea_cons (ev_call (ea_cons (ev_var rfl) (ea_cons (ev_var rfl) (ea_cons (ev_var rfl) ea_nil))) fun H1 e1 Q' q' _ => ?_) ea_nil)) ?_))) rfl fun H12 e12 => ?_
    · refine ⟨hp, op, hs', y.2, wd, M, rfl, ⟨sq_of (e1 _ _ hhp), hRh.ex e1, sq_of (e1 _ _ hop), hm, yl, by omega, by omega, yb, by rw [eqh]; exact hRO⟩, ?_⟩
      rw [eqh]; exact q'
    · exact ⟨du, y.1, ps, y.2, wd, M, rfl, ⟨sq_of (e1 _ _ hdu11), hRd11.ex e1, sq_of (e1 _ _ (O11.rws y yin)), hm, yl, by omega, by omega, yb, hRO⟩, q'⟩
    · exact same_spv (.bl _) (.bl _) (by simp [PyData.depth]) (by simp [cnt])
    refine et_whenS (et_or (et_test (b := false) (ev_is (ev_op (ev_var rfl) (ev_var rfl) (rv_neD (d := dR (rws hs')) (e := dR (rws ps)) (fun H1 e => dpR (sq_of (e _ _ (e12 _ _ hhp))) ((hRh.ex e12).ex e)) (fun H1 e => dpR (sq_of (e _ _ (e12 _ _ hdu11))) ((hRd11.ex e12).ex e)) (shR _) (shR _))) (by rw [eqh, eqv_R]; rfl))) fun _ => et_test (b := false) (ev_is (ev_op (ev_var rfl) (ev_var rfl) (rv_neD (d := dI y.2) (e := dI y.2) (fun H1 e => dpI (sq_of (e _ _ (e12 _ _ hop)))) (fun H1 e => dpI (sq_of (e _ _ (e12 _ _ (O11.rws y yin))))) (shI _) (shI _))) (by rw [eqv_I]; rfl))) rfl fun H13 e13 => ?_
    exact ⟨_, _, _, _, _, _, _, rfl, (O11.ex hsB e12).ex hsB e13⟩
end
end Mine
set_option Elab.async false
set_option linter.all false
set_option maxRecDepth 100000
set_option maxHeartbeats 4000000
namespace Mine
open PySem PySem.Spec PyProof.Rows L2 Evl
theorem all_mk {l : PySem.W.OpenLaw} {w : World} {K : PySem.W.Frag} {h : Heap} {mg : Str → Option Value} {fa : Addr} (X : K.In h) (G : h.Ns mainGlobals mg) (hfa : mg "law" = some (.ref fa))
    {f0 : Addr} {od0 an0 : Option Addr} {sl0 : Array (Option Value)} {oc0 kV0 dc0 pm0 cd0 ct0 : Value}
    (a0 : PySem.W.nsIn K mainGlobals "inverse_of" = some (some (.ref f0))) (l0 : K.lookup f0 = some ⟨oc0, od0, .func (PySem.W.fnOf "inverse_of" "inverse_of" (defArgs s_inverse_of) (defBody s_inverse_of) (defScope s_inverse_of) .none kV0 dc0 pm0 an0 cd0 ct0), sl0⟩) (c0 : PySem.W.codeIn K cd0 "inverse_of" = true) (k0 : PySem.W.keepIn K (.ref f0) = true)
    {f1 : Addr} {od1 an1 : Option Addr} {sl1 : Array (Option Value)} {oc1 kV1 dc1 pm1 cd1 ct1 : Value}
    (a1 : PySem.W.nsIn K mainGlobals "plain_row" = some (some (.ref f1))) (l1 : K.lookup f1 = some ⟨oc1, od1, .func (PySem.W.fnOf "plain_row" "plain_row" (defArgs s_plain_row) (defBody s_plain_row) (defScope s_plain_row) .none kV1 dc1 pm1 an1 cd1 ct1), sl1⟩) (c1 : PySem.W.codeIn K cd1 "plain_row" = true) (k1 : PySem.W.keepIn K (.ref f1) = true)
    {f2 : Addr} {od2 an2 : Option Addr} {sl2 : Array (Option Value)} {oc2 kV2 dc2 pm2 cd2 ct2 : Value}
    (a2 : PySem.W.nsIn K mainGlobals "less_times" = some (some (.ref f2))) (l2 : K.lookup f2 = some ⟨oc2, od2, .func (PySem.W.fnOf "less_times" "less_times" (defArgs s_less_times) (defBody s_less_times) (defScope s_less_times) .none kV2 dc2 pm2 an2 cd2 ct2), sl2⟩) (c2 : PySem.W.codeIn K cd2 "less_times" = true) (k2 : PySem.W.keepIn K (.ref f2) = true)
    {f3 : Addr} {od3 an3 : Option Addr} {sl3 : Array (Option Value)} {oc3 kV3 dc3 pm3 cd3 ct3 : Value}
    (a3 : PySem.W.nsIn K mainGlobals "first_place" = some (some (.ref f3))) (l3 : K.lookup f3 = some ⟨oc3, od3, .func (PySem.W.fnOf "first_place" "first_place" (defArgs s_first_place) (defBody s_first_place) (defScope s_first_place) .none kV3 dc3 pm3 an3 cd3 ct3), sl3⟩) (c3 : PySem.W.codeIn K cd3 "first_place" = true) (k3 : PySem.W.keepIn K (.ref f3) = true)
    {f4 : Addr} {od4 an4 : Option Addr} {sl4 : Array (Option Value)} {oc4 kV4 dc4 pm4 cd4 ct4 : Value}
    (a4 : PySem.W.nsIn K mainGlobals "is_zero" = some (some (.ref f4))) (l4 : K.lookup f4 = some ⟨oc4, od4, .func (PySem.W.fnOf "is_zero" "is_zero" (defArgs s_is_zero) (defBody s_is_zero) (defScope s_is_zero) .none kV4 dc4 pm4 an4 cd4 ct4), sl4⟩) (c4 : PySem.W.codeIn K cd4 "is_zero" = true) (k4 : PySem.W.keepIn K (.ref f4) = true)
    {f5 : Addr} {od5 an5 : Option Addr} {sl5 : Array (Option Value)} {oc5 kV5 dc5 pm5 cd5 ct5 : Value}
    (a5 : PySem.W.nsIn K mainGlobals "least_row" = some (some (.ref f5))) (l5 : K.lookup f5 = some ⟨oc5, od5, .func (PySem.W.fnOf "least_row" "least_row" (defArgs s_least_row) (defBody s_least_row) (defScope s_least_row) .none kV5 dc5 pm5 an5 cd5 ct5), sl5⟩) (c5 : PySem.W.codeIn K cd5 "least_row" = true) (k5 : PySem.W.keepIn K (.ref f5) = true)
    {f6 : Addr} {od6 an6 : Option Addr} {sl6 : Array (Option Value)} {oc6 kV6 dc6 pm6 cd6 ct6 : Value}
    (a6 : PySem.W.nsIn K mainGlobals "quotient" = some (some (.ref f6))) (l6 : K.lookup f6 = some ⟨oc6, od6, .func (PySem.W.fnOf "quotient" "quotient" (defArgs s_quotient) (defBody s_quotient) (defScope s_quotient) .none kV6 dc6 pm6 an6 cd6 ct6), sl6⟩) (c6 : PySem.W.codeIn K cd6 "quotient" = true) (k6 : PySem.W.keepIn K (.ref f6) = true)
    {f7 : Addr} {od7 an7 : Option Addr} {sl7 : Array (Option Value)} {oc7 kV7 dc7 pm7 cd7 ct7 : Value}
    (a7 : PySem.W.nsIn K mainGlobals "one_pivot" = some (some (.ref f7))) (l7 : K.lookup f7 = some ⟨oc7, od7, .func (PySem.W.fnOf "one_pivot" "one_pivot" (defArgs s_one_pivot) (defBody s_one_pivot) (defScope s_one_pivot) .none kV7 dc7 pm7 an7 cd7 ct7), sl7⟩) (c7 : PySem.W.codeIn K cd7 "one_pivot" = true) (k7 : PySem.W.keepIn K (.ref f7) = true)
    {f8 : Addr} {od8 an8 : Option Addr} {sl8 : Array (Option Value)} {oc8 kV8 dc8 pm8 cd8 ct8 : Value}
    (a8 : PySem.W.nsIn K mainGlobals "split_rows" = some (some (.ref f8))) (l8 : K.lookup f8 = some ⟨oc8, od8, .func (PySem.W.fnOf "split_rows" "split_rows" (defArgs s_split_rows) (defBody s_split_rows) (defScope s_split_rows) .none kV8 dc8 pm8 an8 cd8 ct8), sl8⟩) (c8 : PySem.W.codeIn K cd8 "split_rows" = true) (k8 : PySem.W.keepIn K (.ref f8) = true)
    {f9 : Addr} {od9 an9 : Option Addr} {sl9 : Array (Option Value)} {oc9 kV9 dc9 pm9 cd9 ct9 : Value}
    (a9 : PySem.W.nsIn K mainGlobals "hermite_rows" = some (some (.ref f9))) (l9 : K.lookup f9 = some ⟨oc9, od9, .func (PySem.W.fnOf "hermite_rows" "hermite_rows" (defArgs s_hermite_rows) (defBody s_hermite_rows) (defScope s_hermite_rows) .none kV9 dc9 pm9 an9 cd9 ct9), sl9⟩) (c9 : PySem.W.codeIn K cd9 "hermite_rows" = true) (k9 : PySem.W.keepIn K (.ref f9) = true)
    {f10 : Addr} {od10 an10 : Option Addr} {sl10 : Array (Option Value)} {oc10 kV10 dc10 pm10 cd10 ct10 : Value}
    (a10 : PySem.W.nsIn K mainGlobals "rest_of_row" = some (some (.ref f10))) (l10 : K.lookup f10 = some ⟨oc10, od10, .func (PySem.W.fnOf "rest_of_row" "rest_of_row" (defArgs s_rest_of_row) (defBody s_rest_of_row) (defScope s_rest_of_row) .none kV10 dc10 pm10 an10 cd10 ct10), sl10⟩) (c10 : PySem.W.codeIn K cd10 "rest_of_row" = true) (k10 : PySem.W.keepIn K (.ref f10) = true)
    {f11 : Addr} {od11 an11 : Option Addr} {sl11 : Array (Option Value)} {oc11 kV11 dc11 pm11 cd11 ct11 : Value}
    (a11 : PySem.W.nsIn K mainGlobals "in_lattice" = some (some (.ref f11))) (l11 : K.lookup f11 = some ⟨oc11, od11, .func (PySem.W.fnOf "in_lattice" "in_lattice" (defArgs s_in_lattice) (defBody s_in_lattice) (defScope s_in_lattice) .none kV11 dc11 pm11 an11 cd11 ct11), sl11⟩) (c11 : PySem.W.codeIn K cd11 "in_lattice" = true) (k11 : PySem.W.keepIn K (.ref f11) = true)
    {f12 : Addr} {od12 an12 : Option Addr} {sl12 : Array (Option Value)} {oc12 kV12 dc12 pm12 cd12 ct12 : Value}
    (a12 : PySem.W.nsIn K mainGlobals "_law_source" = some (some (.ref f12))) (l12 : K.lookup f12 = some ⟨oc12, od12, .func (PySem.W.fnOf "_law_source" "_law_source" (defArgs s_law_source) (defBody s_law_source) (defScope s_law_source) .none kV12 dc12 pm12 an12 cd12 ct12), sl12⟩) (c12 : PySem.W.codeIn K cd12 "_law_source" = true) (k12 : PySem.W.keepIn K (.ref f12) = true)
    {f13 : Addr} {od13 an13 : Option Addr} {sl13 : Array (Option Value)} {oc13 kV13 dc13 pm13 cd13 ct13 : Value}
    (a13 : PySem.W.nsIn K mainGlobals "_law_pick" = some (some (.ref f13))) (l13 : K.lookup f13 = some ⟨oc13, od13, .func (PySem.W.fnOf "_law_pick" "_law_pick" (defArgs s_law_pick) (defBody s_law_pick) (defScope s_law_pick) .none kV13 dc13 pm13 an13 cd13 ct13), sl13⟩) (c13 : PySem.W.codeIn K cd13 "_law_pick" = true) (k13 : PySem.W.keepIn K (.ref f13) = true)
    {f14 : Addr} {od14 an14 : Option Addr} {sl14 : Array (Option Value)} {oc14 kV14 dc14 pm14 cd14 ct14 : Value}
    (a14 : PySem.W.nsIn K mainGlobals "_law_within" = some (some (.ref f14))) (l14 : K.lookup f14 = some ⟨oc14, od14, .func (PySem.W.fnOf "_law_within" "_law_within" (defArgs s_law_within) (defBody s_law_within) (defScope s_law_within) .none kV14 dc14 pm14 an14 cd14 ct14), sl14⟩) (c14 : PySem.W.codeIn K cd14 "_law_within" = true) (k14 : PySem.W.keepIn K (.ref f14) = true)
    {f15 : Addr} {od15 an15 : Option Addr} {sl15 : Array (Option Value)} {oc15 kV15 dc15 pm15 cd15 ct15 : Value}
    (a15 : PySem.W.nsIn K mainGlobals "_law_one" = some (some (.ref f15))) (l15 : K.lookup f15 = some ⟨oc15, od15, .func (PySem.W.fnOf "_law_one" "_law_one" (defArgs s_law_one) (defBody s_law_one) (defScope s_law_one) .none kV15 dc15 pm15 an15 cd15 ct15), sl15⟩) (c15 : PySem.W.codeIn K cd15 "_law_one" = true) (k15 : PySem.W.keepIn K (.ref f15) = true)
    {f16 : Addr} {od16 an16 : Option Addr} {sl16 : Array (Option Value)} {oc16 kV16 dc16 pm16 cd16 ct16 : Value}
    (a16 : PySem.W.nsIn K mainGlobals "_law_shuffled" = some (some (.ref f16))) (l16 : K.lookup f16 = some ⟨oc16, od16, .func (PySem.W.fnOf "_law_shuffled" "_law_shuffled" (defArgs s_law_shuffled) (defBody s_law_shuffled) (defScope s_law_shuffled) .none kV16 dc16 pm16 an16 cd16 ct16), sl16⟩) (c16 : PySem.W.codeIn K cd16 "_law_shuffled" = true) (k16 : PySem.W.keepIn K (.ref f16) = true)
    {f17 : Addr} {od17 an17 : Option Addr} {sl17 : Array (Option Value)} {oc17 kV17 dc17 pm17 cd17 ct17 : Value}
    (a17 : PySem.W.nsIn K mainGlobals "_law_some" = some (some (.ref f17))) (l17 : K.lookup f17 = some ⟨oc17, od17, .func (PySem.W.fnOf "_law_some" "_law_some" (defArgs s_law_some) (defBody s_law_some) (defScope s_law_some) .none kV17 dc17 pm17 an17 cd17 ct17), sl17⟩) (c17 : PySem.W.codeIn K cd17 "_law_some" = true) (k17 : PySem.W.keepIn K (.ref f17) = true)
    {f18 : Addr} {od18 an18 : Option Addr} {sl18 : Array (Option Value)} {oc18 kV18 dc18 pm18 cd18 ct18 : Value}
    (a18 : PySem.W.nsIn K mainGlobals "_law_modulus" = some (some (.ref f18))) (l18 : K.lookup f18 = some ⟨oc18, od18, .func (PySem.W.fnOf "_law_modulus" "_law_modulus" (defArgs s_law_modulus) (defBody s_law_modulus) (defScope s_law_modulus) .none kV18 dc18 pm18 an18 cd18 ct18), sl18⟩) (c18 : PySem.W.codeIn K cd18 "_law_modulus" = true) (k18 : PySem.W.keepIn K (.ref f18) = true)
    {f19 : Addr} {od19 an19 : Option Addr} {sl19 : Array (Option Value)} {oc19 kV19 dc19 pm19 cd19 ct19 : Value}
    (a19 : PySem.W.nsIn K mainGlobals "_law_less" = some (some (.ref f19))) (l19 : K.lookup f19 = some ⟨oc19, od19, .func (PySem.W.fnOf "_law_less" "_law_less" (defArgs s_law_less) (defBody s_law_less) (defScope s_law_less) .none kV19 dc19 pm19 an19 cd19 ct19), sl19⟩) (c19 : PySem.W.codeIn K cd19 "_law_less" = true) (k19 : PySem.W.keepIn K (.ref f19) = true)
    {f20 : Addr} {od20 an20 : Option Addr} {sl20 : Array (Option Value)} {oc20 kV20 dc20 pm20 cd20 ct20 : Value}
    (a20 : PySem.W.nsIn K mainGlobals "_law_first" = some (some (.ref f20))) (l20 : K.lookup f20 = some ⟨oc20, od20, .func (PySem.W.fnOf "_law_first" "_law_first" (defArgs s_law_first) (defBody s_law_first) (defScope s_law_first) .none kV20 dc20 pm20 an20 cd20 ct20), sl20⟩) (c20 : PySem.W.codeIn K cd20 "_law_first" = true) (k20 : PySem.W.keepIn K (.ref f20) = true)
    {f21 : Addr} {od21 an21 : Option Addr} {sl21 : Array (Option Value)} {oc21 kV21 dc21 pm21 cd21 ct21 : Value}
    (a21 : PySem.W.nsIn K mainGlobals "_law_reduce" = some (some (.ref f21))) (l21 : K.lookup f21 = some ⟨oc21, od21, .func (PySem.W.fnOf "_law_reduce" "_law_reduce" (defArgs s_law_reduce) (defBody s_law_reduce) (defScope s_law_reduce) .none kV21 dc21 pm21 an21 cd21 ct21), sl21⟩) (c21 : PySem.W.codeIn K cd21 "_law_reduce" = true) (k21 : PySem.W.keepIn K (.ref f21) = true)
    {f22 : Addr} {od22 an22 : Option Addr} {sl22 : Array (Option Value)} {oc22 kV22 dc22 pm22 cd22 ct22 : Value}
    (a22 : PySem.W.nsIn K mainGlobals "_law_inside" = some (some (.ref f22))) (l22 : K.lookup f22 = some ⟨oc22, od22, .func (PySem.W.fnOf "_law_inside" "_law_inside" (defArgs s_law_inside) (defBody s_law_inside) (defScope s_law_inside) .none kV22 dc22 pm22 an22 cd22 ct22), sl22⟩) (c22 : PySem.W.codeIn K cd22 "_law_inside" = true) (k22 : PySem.W.keepIn K (.ref f22) = true)
    {f23 : Addr} {od23 an23 : Option Addr} {sl23 : Array (Option Value)} {oc23 kV23 dc23 pm23 cd23 ct23 : Value}
    (a23 : PySem.W.nsIn K mainGlobals "_law_same" = some (some (.ref f23))) (l23 : K.lookup f23 = some ⟨oc23, od23, .func (PySem.W.fnOf "_law_same" "_law_same" (defArgs s_law_same) (defBody s_law_same) (defScope s_law_same) .none kV23 dc23 pm23 an23 cd23 ct23), sl23⟩) (c23 : PySem.W.codeIn K cd23 "_law_same" = true) (k23 : PySem.W.keepIn K (.ref f23) = true)
    {f24 : Addr} {od24 an24 : Option Addr} {sl24 : Array (Option Value)} {oc24 kV24 dc24 pm24 cd24 ct24 : Value}
    (a24 : PySem.W.nsIn K mainGlobals "_law_c_box" = some (some (.ref f24))) (l24 : K.lookup f24 = some ⟨oc24, od24, .func (PySem.W.fnOf "_law_c_box" "_law_c_box" (defArgs s_law_c_box) (defBody s_law_c_box) (defScope s_law_c_box) .none kV24 dc24 pm24 an24 cd24 ct24), sl24⟩) (c24 : PySem.W.codeIn K cd24 "_law_c_box" = true) (k24 : PySem.W.keepIn K (.ref f24) = true)
    {f25 : Addr} {od25 an25 : Option Addr} {sl25 : Array (Option Value)} {oc25 kV25 dc25 pm25 cd25 ct25 : Value}
    (a25 : PySem.W.nsIn K mainGlobals "_law_c_number" = some (some (.ref f25))) (l25 : K.lookup f25 = some ⟨oc25, od25, .func (PySem.W.fnOf "_law_c_number" "_law_c_number" (defArgs s_law_c_number) (defBody s_law_c_number) (defScope s_law_c_number) .none kV25 dc25 pm25 an25 cd25 ct25), sl25⟩) (c25 : PySem.W.codeIn K cd25 "_law_c_number" = true) (k25 : PySem.W.keepIn K (.ref f25) = true)
    {f26 : Addr} {od26 an26 : Option Addr} {sl26 : Array (Option Value)} {oc26 kV26 dc26 pm26 cd26 ct26 : Value}
    (a26 : PySem.W.nsIn K mainGlobals "_law_c_reduced" = some (some (.ref f26))) (l26 : K.lookup f26 = some ⟨oc26, od26, .func (PySem.W.fnOf "_law_c_reduced" "_law_c_reduced" (defArgs s_law_c_reduced) (defBody s_law_c_reduced) (defScope s_law_c_reduced) .none kV26 dc26 pm26 an26 cd26 ct26), sl26⟩) (c26 : PySem.W.codeIn K cd26 "_law_c_reduced" = true) (k26 : PySem.W.keepIn K (.ref f26) = true)
    {f27 : Addr} {od27 an27 : Option Addr} {sl27 : Array (Option Value)} {oc27 kV27 dc27 pm27 cd27 ct27 : Value}
    (a27 : PySem.W.nsIn K mainGlobals "_law_c_plain" = some (some (.ref f27))) (l27 : K.lookup f27 = some ⟨oc27, od27, .func (PySem.W.fnOf "_law_c_plain" "_law_c_plain" (defArgs s_law_c_plain) (defBody s_law_c_plain) (defScope s_law_c_plain) .none kV27 dc27 pm27 an27 cd27 ct27), sl27⟩) (c27 : PySem.W.codeIn K cd27 "_law_c_plain" = true) (k27 : PySem.W.keepIn K (.ref f27) = true)
    {f28 : Addr} {od28 an28 : Option Addr} {sl28 : Array (Option Value)} {oc28 kV28 dc28 pm28 cd28 ct28 : Value}
    (a28 : PySem.W.nsIn K mainGlobals "_law_c_add" = some (some (.ref f28))) (l28 : K.lookup f28 = some ⟨oc28, od28, .func (PySem.W.fnOf "_law_c_add" "_law_c_add" (defArgs s_law_c_add) (defBody s_law_c_add) (defScope s_law_c_add) .none kV28 dc28 pm28 an28 cd28 ct28), sl28⟩) (c28 : PySem.W.codeIn K cd28 "_law_c_add" = true) (k28 : PySem.W.keepIn K (.ref f28) = true)
    {f29 : Addr} {od29 an29 : Option Addr} {sl29 : Array (Option Value)} {oc29 kV29 dc29 pm29 cd29 ct29 : Value}
    (a29 : PySem.W.nsIn K mainGlobals "_law_c_sum" = some (some (.ref f29))) (l29 : K.lookup f29 = some ⟨oc29, od29, .func (PySem.W.fnOf "_law_c_sum" "_law_c_sum" (defArgs s_law_c_sum) (defBody s_law_c_sum) (defScope s_law_c_sum) .none kV29 dc29 pm29 an29 cd29 ct29), sl29⟩) (c29 : PySem.W.codeIn K cd29 "_law_c_sum" = true) (k29 : PySem.W.keepIn K (.ref f29) = true)
    {f30 : Addr} {od30 an30 : Option Addr} {sl30 : Array (Option Value)} {oc30 kV30 dc30 pm30 cd30 ct30 : Value}
    (a30 : PySem.W.nsIn K mainGlobals "_law_c_mixed" = some (some (.ref f30))) (l30 : K.lookup f30 = some ⟨oc30, od30, .func (PySem.W.fnOf "_law_c_mixed" "_law_c_mixed" (defArgs s_law_c_mixed) (defBody s_law_c_mixed) (defScope s_law_c_mixed) .none kV30 dc30 pm30 an30 cd30 ct30), sl30⟩) (c30 : PySem.W.codeIn K cd30 "_law_c_mixed" = true) (k30 : PySem.W.keepIn K (.ref f30) = true)
    {f31 : Addr} {od31 an31 : Option Addr} {sl31 : Array (Option Value)} {oc31 kV31 dc31 pm31 cd31 ct31 : Value}
    (a31 : PySem.W.nsIn K mainGlobals "_law_c_copy" = some (some (.ref f31))) (l31 : K.lookup f31 = some ⟨oc31, od31, .func (PySem.W.fnOf "_law_c_copy" "_law_c_copy" (defArgs s_law_c_copy) (defBody s_law_c_copy) (defScope s_law_c_copy) .none kV31 dc31 pm31 an31 cd31 ct31), sl31⟩) (c31 : PySem.W.codeIn K cd31 "_law_c_copy" = true) (k31 : PySem.W.keepIn K (.ref f31) = true)
    {f32 : Addr} {od32 an32 : Option Addr} {sl32 : Array (Option Value)} {oc32 kV32 dc32 pm32 cd32 ct32 : Value}
    (a32 : PySem.W.nsIn K mainGlobals "law" = some (some (.ref f32))) (l32 : K.lookup f32 = some ⟨oc32, od32, .func (PySem.W.fnOf "law" "law" (defArgs s_law) (defBody s_law) (defScope s_law) .none kV32 dc32 pm32 an32 cd32 ct32), sl32⟩) (c32 : PySem.W.codeIn K cd32 "law" = true) (k32 : PySem.W.keepIn K (.ref f32) = true)
    (z0 : PySem.W.nsIn K mainGlobals "abs" = some none)
    (z1 : PySem.W.nsIn K mainGlobals "all" = some none)
    (z2 : PySem.W.nsIn K mainGlobals "any" = some none)
    (z3 : PySem.W.nsIn K mainGlobals "bool" = some none)
    (z4 : PySem.W.nsIn K mainGlobals "dict" = some none)
    (z5 : PySem.W.nsIn K mainGlobals "enumerate" = some none)
    (z6 : PySem.W.nsIn K mainGlobals "int" = some none)
    (z7 : PySem.W.nsIn K mainGlobals "isinstance" = some none)
    (z8 : PySem.W.nsIn K mainGlobals "len" = some none)
    (z9 : PySem.W.nsIn K mainGlobals "list" = some none)
    (z10 : PySem.W.nsIn K mainGlobals "min" = some none)
    (z11 : PySem.W.nsIn K mainGlobals "range" = some none)
    (z12 : PySem.W.nsIn K mainGlobals "str" = some none)
    (z13 : PySem.W.nsIn K mainGlobals "tuple" = some none)
    (z14 : PySem.W.nsIn K mainGlobals "zip" = some none)
    : ∃ fd : FuncData, (∀ (s : Shared) (v : Value), BindsTo s fd ⟨[v], []⟩ [("script", v)]) ∧ ∀ base : Heap, K.In base → base.Ns mainGlobals mg → FnOk l.prog w K mg base CX0 6 fa fd ["script"] (spLaw K) := by
  have e := hfa.symm.trans (PySem.W.mg_of X G a32)
  cases e
  have F0 := fun_mk (st := s_inverse_of) l0 c0 k0
  have b0 := F0.binds (ps := ["number", "prime"]) fun _ _ _ _ _ _ us hl => match us, hl with | [_, _], _ => rfl
  have F1 := fun_mk (st := s_plain_row) l1 c1 k1
  have b1 := F1.binds (ps := ["row", "modulus"]) fun _ _ _ _ _ _ us hl => match us, hl with | [_, _], _ => rfl
  have F2 := fun_mk (st := s_less_times) l2 c2 k2
  have b2 := F2.binds (ps := ["row", "other", "times", "modulus"]) fun _ _ _ _ _ _ us hl => match us, hl with | [_, _, _, _], _ => rfl
  have F3 := fun_mk (st := s_first_place) l3 c3 k3
  have b3 := F3.binds (ps := ["row"]) fun _ _ _ _ _ _ us hl => match us, hl with | [_], _ => rfl
  have F4 := fun_mk (st := s_is_zero) l4 c4 k4
  have b4 := F4.binds (ps := ["row"]) fun _ _ _ _ _ _ us hl => match us, hl with | [_], _ => rfl
  have F5 := fun_mk (st := s_least_row) l5 c5 k5
  have b5 := F5.binds (ps := ["rows", "at"]) fun _ _ _ _ _ _ us hl => match us, hl with | [_, _], _ => rfl
  have F6 := fun_mk (st := s_quotient) l6 c6 k6
  have b6 := F6.binds (ps := ["number", "pivot", "modulus"]) fun _ _ _ _ _ _ us hl => match us, hl with | [_, _, _], _ => rfl
  have F7 := fun_mk (st := s_one_pivot) l7 c7 k7
  have b7 := F7.binds (ps := ["rows", "at", "modulus"]) fun _ _ _ _ _ _ us hl => match us, hl with | [_, _, _], _ => rfl
  have F8 := fun_mk (st := s_split_rows) l8 c8 k8
  have b8 := F8.binds (ps := ["rows", "width", "modulus"]) fun _ _ _ _ _ _ us hl => match us, hl with | [_, _, _], _ => rfl
  have F9 := fun_mk (st := s_hermite_rows) l9 c9 k9
  have b9 := F9.binds (ps := ["rows", "width", "modulus"]) fun _ _ _ _ _ _ us hl => match us, hl with | [_, _, _], _ => rfl
  have F10 := fun_mk (st := s_rest_of_row) l10 c10 k10
  have b10 := F10.binds (ps := ["told", "row", "modulus"]) fun _ _ _ _ _ _ us hl => match us, hl with | [_, _, _], _ => rfl
  have F11 := fun_mk (st := s_in_lattice) l11 c11 k11
  have b11 := F11.binds (ps := ["hermite", "row", "modulus"]) fun _ _ _ _ _ _ us hl => match us, hl with | [_, _, _], _ => rfl
  have F12 := fun_mk (st := s_law_source) l12 c12 k12
  have b12 := F12.binds (ps := ["script", "at"]) fun _ _ _ _ _ _ us hl => match us, hl with | [_, _], _ => rfl
  have F13 := fun_mk (st := s_law_pick) l13 c13 k13
  have b13 := F13.binds (ps := ["s", "many"]) fun _ _ _ _ _ _ us hl => match us, hl with | [_, _], _ => rfl
  have F14 := fun_mk (st := s_law_within) l14 c14 k14
  have b14 := F14.binds (ps := ["s", "low", "high"]) fun _ _ _ _ _ _ us hl => match us, hl with | [_, _, _], _ => rfl
  have F15 := fun_mk (st := s_law_one) l15 c15 k15
  have b15 := F15.binds (ps := ["s", "things"]) fun _ _ _ _ _ _ us hl => match us, hl with | [_, _], _ => rfl
  have F16 := fun_mk (st := s_law_shuffled) l16 c16 k16
  have b16 := F16.binds (ps := ["s", "things"]) fun _ _ _ _ _ _ us hl => match us, hl with | [_, _], _ => rfl
  have F17 := fun_mk (st := s_law_some) l17 c17 k17
  have b17 := F17.binds (ps := ["s", "things", "many"]) fun _ _ _ _ _ _ us hl => match us, hl with | [_, _, _], _ => rfl
  have F18 := fun_mk (st := s_law_modulus) l18 c18 k18
  have b18 := F18.binds (ps := ["s"]) fun _ _ _ _ _ _ us hl => match us, hl with | [_], _ => rfl
  have F19 := fun_mk (st := s_law_less) l19 c19 k19
  have b19 := F19.binds (ps := ["row", "other", "k", "M"]) fun _ _ _ _ _ _ us hl => match us, hl with | [_, _, _, _], _ => rfl
  have F20 := fun_mk (st := s_law_first) l20 c20 k20
  have b20 := F20.binds (ps := ["row"]) fun _ _ _ _ _ _ us hl => match us, hl with | [_], _ => rfl
  have F21 := fun_mk (st := s_law_reduce) l21 c21 k21
  have b21 := F21.binds (ps := ["H", "row", "M"]) fun _ _ _ _ _ _ us hl => match us, hl with | [_, _, _], _ => rfl
  have F22 := fun_mk (st := s_law_inside) l22 c22 k22
  have b22 := F22.binds (ps := ["H", "row", "M"]) fun _ _ _ _ _ _ us hl => match us, hl with | [_, _, _], _ => rfl
  have F23 := fun_mk (st := s_law_same) l23 c23 k23
  have b23 := F23.binds (ps := ["a", "b"]) fun _ _ _ _ _ _ us hl => match us, hl with | [_, _], _ => rfl
  have F24 := fun_mk (st := s_law_c_box) l24 c24 k24
  have b24 := F24.binds (ps := ["width", "most"]) fun _ _ _ _ _ _ us hl => match us, hl with | [_, _], _ => rfl
  have F25 := fun_mk (st := s_law_c_number) l25 c25 k25
  have b25 := F25.binds (ps := ["s", "M"]) fun _ _ _ _ _ _ us hl => match us, hl with | [_, _], _ => rfl
  have F26 := fun_mk (st := s_law_c_reduced) l26 c26 k26
  have b26 := F26.binds (ps := ["s", "width", "M"]) fun _ _ _ _ _ _ us hl => match us, hl with | [_, _, _], _ => rfl
  have F27 := fun_mk (st := s_law_c_plain) l27 c27 k27
  have b27 := F27.binds (ps := ["row", "M"]) fun _ _ _ _ _ _ us hl => match us, hl with | [_, _], _ => rfl
  have F28 := fun_mk (st := s_law_c_add) l28 c28 k28
  have b28 := F28.binds (ps := ["one", "other", "k", "M"]) fun _ _ _ _ _ _ us hl => match us, hl with | [_, _, _, _], _ => rfl
  have F29 := fun_mk (st := s_law_c_sum) l29 c29 k29
  have b29 := F29.binds (ps := ["rows", "numbers", "width", "M"]) fun _ _ _ _ _ _ us hl => match us, hl with | [_, _, _, _], _ => rfl
  have F30 := fun_mk (st := s_law_c_mixed) l30 c30 k30
  have b30 := F30.binds (ps := ["s", "rows", "width", "M"]) fun _ _ _ _ _ _ us hl => match us, hl with | [_, _, _, _], _ => rfl
  have F31 := fun_mk (st := s_law_c_copy) l31 c31 k31
  have b31 := F31.binds (ps := ["rows"]) fun _ _ _ _ _ _ us hl => match us, hl with | [_], _ => rfl
  have F32 := fun_mk (st := s_law) l32 c32 k32
  have b32 := F32.binds (ps := ["script"]) fun _ _ _ _ _ _ us hl => match us, hl with | [_], _ => rfl
  have L : Lib K mg := ⟨PySem.W.mg_none_of X G z0, PySem.W.mg_none_of X G z1, PySem.W.mg_none_of X G z2, PySem.W.mg_none_of X G z3, PySem.W.mg_none_of X G z4, PySem.W.mg_none_of X G z5, PySem.W.mg_none_of X G z6, PySem.W.mg_none_of X G z7, PySem.W.mg_none_of X G z8, PySem.W.mg_none_of X G z9, PySem.W.mg_none_of X G z10, PySem.W.mg_none_of X G z11, PySem.W.mg_none_of X G z12, PySem.W.mg_none_of X G z13, PySem.W.mg_none_of X G z14, ⟨_, _, F0, PySem.W.mg_of X G a0, b0⟩, ⟨_, _, F1, PySem.W.mg_of X G a1, b1⟩, ⟨_, _, F2, PySem.W.mg_of X G a2, b2⟩, ⟨_, _, F3, PySem.W.mg_of X G a3, b3⟩, ⟨_, _, F4, PySem.W.mg_of X G a4, b4⟩, ⟨_, _, F5, PySem.W.mg_of X G a5, b5⟩, ⟨_, _, F6, PySem.W.mg_of X G a6, b6⟩, ⟨_, _, F7, PySem.W.mg_of X G a7, b7⟩, ⟨_, _, F8, PySem.W.mg_of X G a8, b8⟩, ⟨_, _, F9, PySem.W.mg_of X G a9, b9⟩, ⟨_, _, F10, PySem.W.mg_of X G a10, b10⟩, ⟨_, _, F11, PySem.W.mg_of X G a11, b11⟩, ⟨_, _, F12, PySem.W.mg_of X G a12, b12⟩, ⟨_, _, F13, PySem.W.mg_of X G a13, b13⟩, ⟨_, _, F14, PySem.W.mg_of X G a14, b14⟩, ⟨_, _, F15, PySem.W.mg_of X G a15, b15⟩, ⟨_, _, F16, PySem.W.mg_of X G a16, b16⟩, ⟨_, _, F17, PySem.W.mg_of X G a17, b17⟩, ⟨_, _, F18, PySem.W.mg_of X G a18, b18⟩, ⟨_, _, F19, PySem.W.mg_of X G a19, b19⟩, ⟨_, _, F20, PySem.W.mg_of X G a20, b20⟩, ⟨_, _, F21, PySem.W.mg_of X G a21, b21⟩, ⟨_, _, F22, PySem.W.mg_of X G a22, b22⟩, ⟨_, _, F23, PySem.W.mg_of X G a23, b23⟩, ⟨_, _, F24, PySem.W.mg_of X G a24, b24⟩, ⟨_, _, F25, PySem.W.mg_of X G a25, b25⟩, ⟨_, _, F26, PySem.W.mg_of X G a26, b26⟩, ⟨_, _, F27, PySem.W.mg_of X G a27, b27⟩, ⟨_, _, F28, PySem.W.mg_of X G a28, b28⟩, ⟨_, _, F29, PySem.W.mg_of X G a29, b29⟩, ⟨_, _, F30, PySem.W.mg_of X G a30, b30⟩, ⟨_, _, F31, PySem.W.mg_of X G a31, b31⟩, ⟨_, _, F32, PySem.W.mg_of X G a32, b32⟩⟩
  exact ⟨PySem.W.fnOf "law" "law" (defArgs s_law) (defBody s_law) (defScope s_law) .none kV32 dc32 pm32 an32 cd32 ct32, fun s v => .of_eq rfl, fun base _ _ => ok_law L F32⟩
theorem walk {l : PySem.W.OpenLaw} {q : Program} {loose : List Str} {XP : (Str → Option Value) → Heap → Prop} {YP : World → Heap → Prop} {d : DefRec} {K : Params → PySem.W.Frag} (hn : l.most = some 63) (hdf : d.params.defaults = [])
    (hY : ∀ (w : World) (h : Heap), YP w h → (K w.params).In h)
    (F : ∀ (w : World) (mg : Str → Option Value) (fa : Addr) (h : Heap), (K w.params).In h → h.Ns mainGlobals mg → mg d.name = some (.ref fa) →
      ∃ fd : FuncData, (∀ (s : Shared) (u : Value), BindsTo s fd ⟨[u], []⟩ [("script", u)]) ∧ ∀ base : Heap, (K w.params).In base → base.Ns mainGlobals mg → FnOk l.prog w (K w.params) mg base CX0 6 fa fd ["script"] (spLaw (K w.params))) :
    PySem.W.WalkO q loose XP YP l.row.toRowW d [] (fun f vs => PySem.call f vs) :=
  L2.walk_of (n := 63) (k := 6) (x := "script") (CX := fun _ => CX0) (sp := fun w => spLaw (K w.params)) hn (by decide) hdf ⟨rfl, by decide, by decide⟩ hY F (fun _ _ a ns hl _ hS => ⟨a, ns, rfl, hS, hl, fun _ => rfl⟩) fun _ _ _ _ _ z => z
end Mine
open PySem PySem.W PyProof.Rows
set_option maxRecDepth 100000 in
set_option maxHeartbeats 0 in
theorem PySem.Challenge.cw_onebrick_k12_one_form_for_each_lattice_holds : PySem.Challenge.rw_onebrick_k12_one_form_for_each_lattice.Holds := by
  w_on; o_law; k_head; (case hw => w_witness2)
  k_fill
  refine Mine.walk (l := PySem.Challenge.rw_onebrick_k12_one_form_for_each_lattice) rfl rfl (fun w h Y => PySem.W.kIn_of Y) ?F
  case F =>
    intro w mg fa h KX G hmg
    refine' Mine.all_mk KX G hmg ?a0 ?l0 ?c0 ?k0 ?a1 ?l1 ?c1 ?k1 ?a2 ?l2 ?c2 ?k2 ?a3 ?l3 ?c3 ?k3 ?a4 ?l4 ?c4 ?k4 ?a5 ?l5 ?c5 ?k5 ?a6 ?l6 ?c6 ?k6 ?a7 ?l7 ?c7 ?k7 ?a8 ?l8 ?c8 ?k8 ?a9 ?l9 ?c9 ?k9 ?a10 ?l10 ?c10 ?k10 ?a11 ?l11 ?c11 ?k11 ?a12 ?l12 ?c12 ?k12 ?a13 ?l13 ?c13 ?k13 ?a14 ?l14 ?c14 ?k14 ?a15 ?l15 ?c15 ?k15 ?a16 ?l16 ?c16 ?k16 ?a17 ?l17 ?c17 ?k17 ?a18 ?l18 ?c18 ?k18 ?a19 ?l19 ?c19 ?k19 ?a20 ?l20 ?c20 ?k20 ?a21 ?l21 ?c21 ?k21 ?a22 ?l22 ?c22 ?k22 ?a23 ?l23 ?c23 ?k23 ?a24 ?l24 ?c24 ?k24 ?a25 ?l25 ?c25 ?k25 ?a26 ?l26 ?c26 ?k26 ?a27 ?l27 ?c27 ?k27 ?a28 ?l28 ?c28 ?k28 ?a29 ?l29 ?c29 ?k29 ?a30 ?l30 ?c30 ?k30 ?a31 ?l31 ?c31 ?k31 ?a32 ?l32 ?c32 ?k32 ?z0 ?z1 ?z2 ?z3 ?z4 ?z5 ?z6 ?z7 ?z8 ?z9 ?z10 ?z11 ?z12 ?z13 ?z14
    (case a0 => k_is)
    (case l0 => k_is)
    (case c0 => k_is)
    (case k0 => k_is)
    (case a1 => k_is)
    (case l1 => k_is)
    (case c1 => k_is)
    (case k1 => k_is)
    (case a2 => k_is)
    (case l2 => k_is)
    (case c2 => k_is)
    (case k2 => k_is)
    (case a3 => k_is)
    (case l3 => k_is)
    (case c3 => k_is)
    (case k3 => k_is)
    (case a4 => k_is)
    (case l4 => k_is)
    (case c4 => k_is)
    (case k4 => k_is)
    (case a5 => k_is)
    (case l5 => k_is)
    (case c5 => k_is)
    (case k5 => k_is)
    (case a6 => k_is)
    (case l6 => k_is)
    (case c6 => k_is)
    (case k6 => k_is)
    (case a7 => k_is)
    (case l7 => k_is)
    (case c7 => k_is)
    (case k7 => k_is)
    (case a8 => k_is)
    (case l8 => k_is)
    (case c8 => k_is)
    (case k8 => k_is)
    (case a9 => k_is)
    (case l9 => k_is)
    (case c9 => k_is)
    (case k9 => k_is)
    (case a10 => k_is)
    (case l10 => k_is)
    (case c10 => k_is)
    (case k10 => k_is)
    (case a11 => k_is)
    (case l11 => k_is)
    (case c11 => k_is)
    (case k11 => k_is)
    (case a12 => k_is)
    (case l12 => k_is)
    (case c12 => k_is)
    (case k12 => k_is)
    (case a13 => k_is)
    (case l13 => k_is)
    (case c13 => k_is)
    (case k13 => k_is)
    (case a14 => k_is)
    (case l14 => k_is)
    (case c14 => k_is)
    (case k14 => k_is)
    (case a15 => k_is)
    (case l15 => k_is)
    (case c15 => k_is)
    (case k15 => k_is)
    (case a16 => k_is)
    (case l16 => k_is)
    (case c16 => k_is)
    (case k16 => k_is)
    (case a17 => k_is)
    (case l17 => k_is)
    (case c17 => k_is)
    (case k17 => k_is)
    (case a18 => k_is)
    (case l18 => k_is)
    (case c18 => k_is)
    (case k18 => k_is)
    (case a19 => k_is)
    (case l19 => k_is)
    (case c19 => k_is)
    (case k19 => k_is)
    (case a20 => k_is)
    (case l20 => k_is)
    (case c20 => k_is)
    (case k20 => k_is)
    (case a21 => k_is)
    (case l21 => k_is)
    (case c21 => k_is)
    (case k21 => k_is)
    (case a22 => k_is)
    (case l22 => k_is)
    (case c22 => k_is)
    (case k22 => k_is)
    (case a23 => k_is)
    (case l23 => k_is)
    (case c23 => k_is)
    (case k23 => k_is)
    (case a24 => k_is)
    (case l24 => k_is)
    (case c24 => k_is)
    (case k24 => k_is)
    (case a25 => k_is)
    (case l25 => k_is)
    (case c25 => k_is)
    (case k25 => k_is)
    (case a26 => k_is)
    (case l26 => k_is)
    (case c26 => k_is)
    (case k26 => k_is)
    (case a27 => k_is)
    (case l27 => k_is)
    (case c27 => k_is)
    (case k27 => k_is)
    (case a28 => k_is)
    (case l28 => k_is)
    (case c28 => k_is)
    (case k28 => k_is)
    (case a29 => k_is)
    (case l29 => k_is)
    (case c29 => k_is)
    (case k29 => k_is)
    (case a30 => k_is)
    (case l30 => k_is)
    (case c30 => k_is)
    (case k30 => k_is)
    (case a31 => k_is)
    (case l31 => k_is)
    (case c31 => k_is)
    (case k31 => k_is)
    (case a32 => k_is)
    (case l32 => k_is)
    (case c32 => k_is)
    (case k32 => k_is)
    (case z0 => k_is)
    (case z1 => k_is)
    (case z2 => k_is)
    (case z3 => k_is)
    (case z4 => k_is)
    (case z5 => k_is)
    (case z6 => k_is)
    (case z7 => k_is)
    (case z8 => k_is)
    (case z9 => k_is)
    (case z10 => k_is)
    (case z11 => k_is)
    (case z12 => k_is)
    (case z13 => k_is)
    (case z14 => k_is)
